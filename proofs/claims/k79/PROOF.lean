import PyProof.Rows.All
import Wide.All
import OpenK.AllK
import Wide.FinOn
import HandS.ForMost
import HandS.Walk
import HandS.Star
import HandS.TupMul
import HandS.TupAny
import HandS.IsInst
import HandS.Deep
import HandS.RaiseMore
import PyProof.ReprRoads
import KE.GoesMore
import PySem.Challenge.RW_spreadchecks_k79_bursts_of_closed_rows
set_option Elab.async false
set_option linter.all false
set_option maxRecDepth 100000
set_option maxHeartbeats 4000000
/-! The data layer: what a def does, told over plain data. -/
namespace DL
open PySem PySem.Spec PyProof.Rows L2
abbrev St := L2.St
/-- plain data -/
inductive D where
  | non | bl (b : Bool) | int (i : Int) | str (s : Str) | tup (ds : List D) | lst (ds : List D)
  | ty (n : String) | ref (a : Addr) | ins (C : Addr) (fs : List (Str × D)) | pen (cs : List Int)
/-- the draws' pen: where it stands, its cells -/
abbrev Pn := Addr × List Int
def pad (p : Option Pn) : Option Addr := p.map (·.1)
def pcs (p : Option Pn) : List Int := match p with
  | some q => q.2
  | none => []
mutual
inductive Rep (K : PySem.W.Frag) (pa : Option Pn) (F : Hp) : V → D → Prop
  | non : Rep K pa F .non .non
  | bl (b : Bool) : Rep K pa F (.bl b) (.bl b)
  | int (i : Int) : Rep K pa F (.int i) (.int i)
  | str (x : Str) : Rep K pa F (.str x) (.str x)
  | ty (n : String) : Rep K pa F (.ty n) (.ty n)
  | ref (a : Addr) : Rep K pa F (.ref a) (.ref a)
  | tup {a : Addr} {vs : List V} {ds : List D} : SqT K F a vs → Reps K pa F vs ds → Rep K pa F (.ref a) (.tup ds)
  | lst {a : Addr} {vs : List V} {ds : List D} : F a = some (.lst vs) → Reps K pa F vs ds → Rep K pa F (.ref a) (.lst ds)
  | ins {a C dx : Addr} {fs : List (Str × V)} {gs : List (Str × D)} : F a = some (.ins C dx fs) → F dx = some (.own a) → Repf K pa F fs gs → Rep K pa F (.ref a) (.ins C gs)
  | pen {a : Addr} {cs : List Int} : pa = some (a, cs) → Rep K pa F (.ref a) (.pen cs)
inductive Reps (K : PySem.W.Frag) (pa : Option Pn) (F : Hp) : List V → List D → Prop
  | nil : Reps K pa F [] []
  | cons {v : V} {vs : List V} {d : D} {ds : List D} : Rep K pa F v d → Reps K pa F vs ds → Reps K pa F (v :: vs) (d :: ds)
inductive Repf (K : PySem.W.Frag) (pa : Option Pn) (F : Hp) : List (Str × V) → List (Str × D) → Prop
  | nil : Repf K pa F [] []
  | cons {x : Str} {v : V} {vs : List (Str × V)} {d : D} {ds : List (Str × D)} : Rep K pa F v d → Repf K pa F vs ds → Repf K pa F ((x, v) :: vs) ((x, d) :: ds)
end
theorem same_sqT {K : PySem.W.Frag} {H H' : Hp} {a : Addr} {xs : List V} (e : Same H H') (h : SqT K H a xs) : SqT K H' a xs := by
  rcases h with (h | ⟨o, h⟩) | h
  · exact .inl (.inl (e _ _ h))
  · exact .inl (.inr ⟨o, e _ _ h⟩)
  · exact .inr h
section
variable {K : PySem.W.Frag} {pa : Option Pn} {F F' : Hp}
mutual
theorem Rep.mono (e : Same F F') : ∀ {v : V} {d : D}, Rep K pa F v d → Rep K pa F' v d
  | _, _, .non => .non
  | _, _, .bl b => .bl b
  | _, _, .int i => .int i
  | _, _, .str x => .str x
  | _, _, .ty n => .ty n
  | _, _, .ref a => .ref a
  | _, _, .tup h r => .tup (same_sqT e h) (Reps.mono e r)
  | _, _, .lst h r => .lst (e _ _ h) (Reps.mono e r)
  | _, _, .ins h1 h2 r => .ins (e _ _ h1) (e _ _ h2) (Repf.mono e r)
  | _, _, .pen h => .pen h
theorem Reps.mono (e : Same F F') : ∀ {vs : List V} {ds : List D}, Reps K pa F vs ds → Reps K pa F' vs ds
  | _, _, .nil => .nil
  | _, _, .cons h r => .cons (Rep.mono e h) (Reps.mono e r)
theorem Repf.mono (e : Same F F') : ∀ {vs : List (Str × V)} {ds : List (Str × D)}, Repf K pa F vs ds → Repf K pa F' vs ds
  | _, _, .nil => .nil
  | _, _, .cons h r => .cons (Rep.mono e h) (Repf.mono e r)
end
theorem Reps.length : ∀ {vs : List V} {ds : List D}, Reps K pa F vs ds → vs.length = ds.length
  | _, _, .nil => rfl
  | _, _, .cons _ r => by rw [List.length_cons, List.length_cons, Reps.length r]
theorem Reps.append : ∀ {vs ws : List V} {ds es : List D}, Reps K pa F vs ds → Reps K pa F ws es → Reps K pa F (vs ++ ws) (ds ++ es)
  | _, _, _, _, .nil, s => s
  | _, _, _, _, .cons h r, s => .cons h (Reps.append r s)
theorem Reps.get : ∀ {vs : List V} {ds : List D} {i : Nat} {v : V}, Reps K pa F vs ds → vs[i]? = some v → ∃ d, ds[i]? = some d ∧ Rep K pa F v d
  | _, _, _, _, .nil, e => by simp at e
  | _, _, 0, _, .cons h _, e => by simp at e; subst e; exact ⟨_, rfl, h⟩
  | _, _, i + 1, v, .cons _ r, e => by
    obtain ⟨d, h1, h2⟩ := Reps.get (i := i) (v := v) r (by simpa using e)
    exact ⟨d, by simpa using h1, h2⟩
theorem Reps.getD : ∀ {vs : List V} {ds : List D} {i : Nat} {d : D}, Reps K pa F vs ds → ds[i]? = some d → ∃ v, vs[i]? = some v ∧ Rep K pa F v d
  | _, _, _, _, .nil, e => by simp at e
  | _, _, 0, _, .cons h _, e => by simp at e; subst e; exact ⟨_, rfl, h⟩
  | _, _, i + 1, v, .cons _ r, e => by
    obtain ⟨d, h1, h2⟩ := Reps.getD (i := i) (d := v) r (by simpa using e)
    exact ⟨d, by simpa using h1, h2⟩
theorem Reps.take : ∀ {vs : List V} {ds : List D} (n : Nat), Reps K pa F vs ds → Reps K pa F (vs.take n) (ds.take n)
  | _, _, 0, _ => .nil
  | _, _, _ + 1, .nil => .nil
  | _, _, n + 1, .cons h r => .cons h (Reps.take n r)
theorem Reps.drop : ∀ {vs : List V} {ds : List D} (n : Nat), Reps K pa F vs ds → Reps K pa F (vs.drop n) (ds.drop n)
  | _, _, 0, r => r
  | _, _, _ + 1, .nil => .nil
  | _, _, n + 1, .cons _ r => Reps.drop n r
theorem Reps.set {v : V} {d : D} (h : Rep K pa F v d) : ∀ {vs : List V} {ds : List D} (i : Nat), Reps K pa F vs ds → Reps K pa F (vs.set i v) (ds.set i d)
  | _, _, _, .nil => .nil
  | _, _, 0, .cons _ r => .cons h r
  | _, _, i + 1, .cons q r => .cons q (Reps.set h i r)
theorem Reps.rep : ∀ {vs : List V} {ds : List D} (n : Nat), Reps K pa F vs ds → Reps K pa F (List.replicate n vs).flatten (List.replicate n ds).flatten
  | _, _, 0, _ => .nil
  | _, _, n + 1, r => by
    rw [List.replicate_succ, List.replicate_succ, List.flatten_cons, List.flatten_cons]
    exact Reps.append r (Reps.rep n r)
theorem Reps.ints (l : List Int) : Reps K pa F (l.map V.int) (l.map D.int) := by
  induction l with
  | nil => exact .nil
  | cons i r ih => exact .cons (.int i) ih
end
/-- where a def runs: the written part, the draws' pen, what stood frozen and what stood at its begin -/
structure Wd where
  K : PySem.W.Frag
  pa : Option Pn
  F0 : Hp
  H0 : Hp
/-- the pen as it stands: cells, how many were begun (at most n), what is left -/
def PenOk (W : Wd) (F H : Hp) (n : Nat) : Prop :=
  ∀ p, pad W.pa = some p → F p = none ∧ ∃ (ca : Addr) (turn rst : Int), H p = some (.lst [.ref ca, .int turn, .int rst]) ∧ F ca = some (.lst ((pcs W.pa).map V.int)) ∧ 0 ≤ turn ∧ turn ≤ (n : Int) ∧ 0 ≤ rst
structure Wok (W : Wd) (F H : Hp) (n : Nat) : Prop where
  sub : Same F H
  pen : PenOk W F H n
  old : ∀ a o, W.H0 a = some o → pad W.pa ≠ some a → H a = some o
  oldp : ∀ p, pad W.pa = some p → H p ≠ none
  f0 : Same W.F0 F
  nf : ∀ a o, F a = some o → W.F0 a = some o ∨ W.H0 a = none
theorem Wok.fresh {W : Wd} {F H : Hp} {n : Nat} (w : Wok W F H n) {p : Addr} (h : H p = none) : F p = none ∧ W.H0 p = none ∧ pad W.pa ≠ some p := by
  have hp : pad W.pa ≠ some p := fun e => w.oldp p e h
  refine ⟨?_, ?_, hp⟩
  · cases q : F p with
    | none => rfl
    | some o => rw [w.sub _ _ q] at h; cases h
  · cases q : W.H0 p with
    | none => rfl
    | some o => rw [w.old _ _ q hp] at h; cases h
/-- a slot of a def -/
inductive Sl where
  | no | val (d : D) | own (ds : List D)
/-- the own lists' addresses -/
def OwnA (S : List Sl) (σ : St) (a : Addr) : Prop := ∃ (i : Nat) (ds : List D), S[i]? = some (Sl.own ds) ∧ σ[i]? = some (some (V.ref a))
/-- between two places in one def: the frozen part grows (by new objects and by own lists that are given up), all that is tracked but the pen is kept -/
structure Grow (W : Wd) (S : List Sl) (σ : St) (F H F' H' : Hp) (S' : List Sl) : Prop where
  f : Same F F'
  h : ∀ a o, H a = some o → pad W.pa ≠ some a → H' a = some o
  hn : ∀ a, H' a = none → H a = none
  nf : ∀ a o, F' a = some o → F a = some o ∨ H a = none ∨ OwnA S σ a
  os : ∀ a, OwnA S' σ a → OwnA S σ a
theorem Grow.refl {W : Wd} {S : List Sl} {σ : St} {F H : Hp} : Grow W S σ F H F H S := ⟨Same.refl _, fun _ _ h _ => h, fun _ h => h, fun _ _ h => .inl h, fun _ h => h⟩
theorem Grow.trans {W : Wd} {S S1 S2 : List Sl} {σ : St} {F H F1 H1 F2 H2 : Hp} (a : Grow W S σ F H F1 H1 S1) (b : Grow W S1 σ F1 H1 F2 H2 S2) : Grow W S σ F H F2 H2 S2 :=
  ⟨a.f.trans b.f, fun c o h p => b.h c o (a.h c o h p) p, fun c h => a.hn c (b.hn c h), fun c o h => by
    rcases b.nf c o h with z | z | z
    · exact a.nf c o z
    · exact .inr (.inl (a.hn c z))
    · exact .inr (.inr (a.os c z)), fun c h => a.os c (b.os c h)⟩
/-- new objects alone: frozen ones among them -/
structure New (W : Wd) (F H F' H' : Hp) : Prop where
  f : Same F F'
  h : Same H H'
  sub : Same F' H'
  nw : ∀ a o, F' a = some o → F a = some o ∨ H a = none
theorem New.refl {W : Wd} {F H : Hp} (h : Same F H) : New W F H F H := ⟨Same.refl _, Same.refl _, h, fun _ _ h => .inl h⟩
theorem New.grow {W : Wd} {S : List Sl} {σ : St} {F H F' H' : Hp} (a : New W F H F' H') : Grow W S σ F H F' H' S := by
  refine ⟨a.f, fun c o h _ => a.h c o h, fun c h => ?_, fun c o h => ?_, fun _ h => h⟩
  · cases q : H c with
    | none => rfl
    | some u => rw [a.h _ _ q] at h; cases h
  · rcases a.nw c o h with z | z
    · exact .inl z
    · exact .inr (.inl z)
theorem New.wok {W : Wd} {F H F' H' : Hp} {n : Nat} (a : New W F H F' H') (w : Wok W F H n) : Wok W F' H' n where
  sub := a.sub
  pen := fun p e => by
    obtain ⟨h1, ca, turn, rst, h2, h3, h4⟩ := w.pen p e
    refine ⟨?_, ca, turn, rst, a.h _ _ h2, a.f _ _ h3, h4⟩
    cases q : F' p with
    | none => rfl
    | some o =>
      rcases a.nw _ _ q with z | z
      · rw [h1] at z; cases z
      · rw [h2] at z; cases z
  old := fun c o h p => a.h _ _ (w.old c o h p)
  oldp := fun p e q => by
    cases z : H p with
    | none => exact w.oldp p e z
    | some o => rw [a.h _ _ z] at q; cases q
  f0 := w.f0.trans a.f
  nf := fun c o h => by
    rcases a.nw _ _ h with z | z
    · exact w.nf _ _ z
    · exact .inr (w.fresh z).2.1
theorem New.trans {W : Wd} {F H F1 H1 F2 H2 : Hp} (a : New W F H F1 H1) (b : New W F1 H1 F2 H2) : New W F H F2 H2 :=
  ⟨a.f.trans b.f, a.h.trans b.h, b.sub, fun c o h => by
    rcases b.nw _ _ h with z | z
    · exact a.nw _ _ z
    · refine .inr ?_
      cases q : H c with
      | none => rfl
      | some u => rw [a.h _ _ q] at z; cases z⟩
theorem same_new {H : Hp} {p : Addr} {o : HO} (h : H p = none) : Same H (upd H p o) := fun b x e => by
  rw [upd_ne (ne_of_none e h)]; exact e
/-- a new object, frozen at once -/
theorem New.one {W : Wd} {F H : Hp} {n : Nat} (w : Wok W F H n) {p : Addr} (h : H p = none) (o : HO) : New W F H (upd F p o) (upd H p o) := by
  have hF := (w.fresh h).1
  refine ⟨same_new hF, same_new h, fun a u e => ?_, fun a u e => ?_⟩
  · by_cases q : a = p
    · subst q; rw [upd_same] at e ⊢; exact e
    · rw [upd_ne q] at e ⊢; exact w.sub _ _ e
  · by_cases q : a = p
    · subst q; exact .inr h
    · rw [upd_ne q] at e; exact .inl e
/-- a new object, not frozen -/
theorem New.free {W : Wd} {F H : Hp} {n : Nat} (w : Wok W F H n) {p : Addr} (h : H p = none) (o : HO) : New W F H F (upd H p o) :=
  ⟨Same.refl _, same_new h, w.sub.trans (same_new h), fun _ _ e => .inl e⟩
def SlOk (W : Wd) (F H : Hp) : Sl → Option V → Prop
  | .no, _ => True
  | .val d, some v => Rep W.K W.pa F v d
  | .val _, none => False
  | .own ds, some (.ref p) => F p = none ∧ W.H0 p = none ∧ pad W.pa ≠ some p ∧ ∃ vs, H p = some (.lst vs) ∧ Reps W.K W.pa F vs ds
  | .own _, _ => False
structure Abs (W : Wd) (F : Hp) (n : Nat) (S : List Sl) (σ : St) (H : Hp) : Prop where
  w : Wok W F H n
  len : S.length = σ.length
  sl : ∀ (i : Nat) (s : Sl) (v : Option V), S[i]? = some s → σ[i]? = some v → SlOk W F H s v
  di : ∀ (i j : Nat) (p : Addr) (ds es : List D), S[i]? = some (.own ds) → S[j]? = some (.own es) → σ[i]? = some (some (.ref p)) → σ[j]? = some (some (.ref p)) → i = j
section
variable {W : Wd} {F F' H H' : Hp} {n n' : Nat} {S : List Sl} {σ : St}
theorem SlOk.grow {S1 S2 : List Sl} {σ1 : St} {s : Sl} {v : Option V} (h : SlOk W F H s v) (g : Grow W S1 σ1 F H F' H' S2) (nw : ∀ p vs, H p = some (.lst vs) → F p = none → W.H0 p = none → F' p = none) : SlOk W F' H' s v := by
  cases s with
  | no => trivial
  | val d =>
    cases v with
    | none => exact h.elim
    | some v => exact Rep.mono g.f h
  | own ds =>
    cases v with
    | none => exact h.elim
    | some v =>
      cases v with
      | ref p =>
        obtain ⟨h1, h2, h3, vs, h4, h5⟩ := h
        exact ⟨nw p vs h4 h1 h2, h2, h3, vs, g.h _ _ h4 h3, Reps.mono g.f h5⟩
      | _ => exact h.elim
theorem Abs.new (A : Abs W F n S σ H) (g : New W F H F' H') : Abs W F' n S σ H' :=
  ⟨g.wok A.w, A.len, fun i s v e1 e2 => (A.sl i s v e1 e2).grow (S1 := S) (σ1 := σ) (S2 := S) g.grow (fun p vs h1 h2 h3 => by
    cases q : F' p with
    | none => rfl
    | some o =>
      rcases g.nw _ _ q with z | z
      · rw [h2] at z; cases z
      · rw [h1] at z; cases z), A.di⟩
end
/-- a value that is read at once: frozen, or an own list as it stands -/
def RB (W : Wd) (F H : Hp) (v : V) (d : D) : Prop :=
  Rep W.K W.pa F v d ∨ ∃ p vs ds, v = .ref p ∧ d = .lst ds ∧ pad W.pa ≠ some p ∧ H p = some (.lst vs) ∧ Reps W.K W.pa F vs ds
theorem RB.grow {W : Wd} {S1 S2 : List Sl} {σ1 : St} {F H F' H' : Hp} {v : V} {d : D} (h : RB W F H v d) (g : Grow W S1 σ1 F H F' H' S2) : RB W F' H' v d := by
  rcases h with h | ⟨p, vs, ds, e1, e2, e3, e4, e5⟩
  · exact .inl (Rep.mono g.f h)
  · exact .inr ⟨p, vs, ds, e1, e2, e3, g.h _ _ e4 e3, Reps.mono g.f e5⟩
theorem RB.new {W : Wd} {F H F' H' : Hp} {v : V} {d : D} (h : RB W F H v d) (g : New W F H F' H') : RB W F' H' v d := h.grow (S1 := []) (S2 := []) (σ1 := []) g.grow
section
variable {W : Wd} {F H : Hp} {n : Nat} {v : V} {ds : List D}
theorem RB.lst (w : Same F H) (h : RB W F H v (.lst ds)) : ∃ p vs, v = .ref p ∧ H p = some (.lst vs) ∧ Reps W.K W.pa F vs ds := by
  rcases h with h | ⟨p, vs, es, e1, e2, e3, e4, e5⟩
  · cases h with
    | lst q r => exact ⟨_, _, rfl, w _ _ q, r⟩
  · cases e2
    exact ⟨p, vs, e1, e4, e5⟩
theorem RB.tup (w : Same F H) (h : RB W F H v (.tup ds)) : ∃ p vs, v = .ref p ∧ SqT W.K H p vs ∧ SqT W.K F p vs ∧ Reps W.K W.pa F vs ds := by
  rcases h with h | ⟨p, vs, es, e1, e2, e3, e4, e5⟩
  · cases h with
    | tup q r => exact ⟨_, _, rfl, same_sqT w q, q, r⟩
  · cases e2
theorem RB.int {i : Int} (h : RB W F H v (.int i)) : v = .int i := by
  rcases h with h | ⟨p, vs, es, e1, e2, e3, e4, e5⟩
  · cases h; rfl
  · cases e2
theorem RB.bl {i : Bool} (h : RB W F H v (.bl i)) : v = .bl i := by
  rcases h with h | ⟨p, vs, es, e1, e2, e3, e4, e5⟩
  · cases h; rfl
  · cases e2
theorem RB.str {i : Str} (h : RB W F H v (.str i)) : v = .str i := by
  rcases h with h | ⟨p, vs, es, e1, e2, e3, e4, e5⟩
  · cases h; rfl
  · cases e2
theorem RB.non (h : RB W F H v .non) : v = .non := by
  rcases h with h | ⟨p, vs, es, e1, e2, e3, e4, e5⟩
  · cases h; rfl
  · cases e2
end
/-! ### the judgements over data -/
abbrev KE := List Sl → Nat → (D → List Sl → Nat → Prop) → Prop
abbrev KA := List Sl → Nat → (List D → List Sl → Nat → Prop) → Prop
abbrev KT := List Sl → Nat → (Bool → List Sl → Nat → Prop) → Prop
/-- what a reading t answers when data answer k -/
abbrev SpE (K : PySem.W.Frag) (t : TE) (k : KE) : Prop :=
  ∀ (W : Wd) (F : Hp) (n : Nat) (S : List Sl) (σ : St) (H : Hp) (Q : D → List Sl → Nat → Prop) (R : VK), W.K = K → Abs W F n S σ H → k S n Q →
    (∀ v H' F' n' S' d, Grow W S σ F H F' H' S' → Abs W F' n' S' σ H' → Rep W.K W.pa F' v d → Q d S' n' → R v H') → t σ H R
abbrev SpB (K : PySem.W.Frag) (t : TE) (k : KE) : Prop :=
  ∀ (W : Wd) (F : Hp) (n : Nat) (S : List Sl) (σ : St) (H : Hp) (Q : D → List Sl → Nat → Prop) (R : VK), W.K = K → Abs W F n S σ H → k S n Q →
    (∀ v H' F' n' S' d, Grow W S σ F H F' H' S' → Abs W F' n' S' σ H' → RB W F' H' v d → Q d S' n' → R v H') → t σ H R
abbrev SpA (K : PySem.W.Frag) (t : TA) (k : KA) : Prop :=
  ∀ (W : Wd) (F : Hp) (n : Nat) (S : List Sl) (σ : St) (H : Hp) (Q : List D → List Sl → Nat → Prop) (R : List V → Hp → Prop), W.K = K → Abs W F n S σ H → k S n Q →
    (∀ vs H' F' n' S' ds, Grow W S σ F H F' H' S' → Abs W F' n' S' σ H' → Reps W.K W.pa F' vs ds → Q ds S' n' → R vs H') → t σ H R
abbrev SpT (K : PySem.W.Frag) (t : TT) (k : KT) : Prop :=
  ∀ (W : Wd) (F : Hp) (n : Nat) (S : List Sl) (σ : St) (H : Hp) (Q : Bool → List Sl → Nat → Prop) (R : Bool → Hp → Prop), W.K = K → Abs W F n S σ H → k S n Q →
    (∀ b H' F' n' S', Grow W S σ F H F' H' S' → Abs W F' n' S' σ H' → Q b S' n' → R b H') → t σ H R
structure DE (X : Cx) (e : Expr) (t : TE) (k : KE) : Prop where
  pe : PE X e t
  ok : SpE X.K t k
structure DB (X : Cx) (e : Expr) (t : TE) (k : KE) : Prop where
  pe : PE X e t
  ok : SpB X.K t k
structure DA (X : Cx) (es : List Expr) (t : TA) (k : KA) : Prop where
  pe : PA X es t
  ok : SpA X.K t k
structure DT (X : Cx) (e : Expr) (t : TT) (k : KT) : Prop where
  pe : PT X e t
  ok : SpT X.K t k
structure DW (X : Cx) (e : Expr) (t : TT) (k : KT) : Prop where
  pe : PW X e t
  ok : SpT X.K t k
end DL
namespace DL
open PySem PySem.Spec PyProof.Rows L2
/-! ### names, constants -/
/-- either kind of slot, read at once -/
def kB (i : Nat) : KE := fun S n Q => match S[i]? with
  | some (.val d) => Q d S n
  | some (.own ds) => Q (.lst ds) S n
  | _ => False
/-- either kind of slot; an own list is frozen -/
def kV (i : Nat) : KE := fun S n Q => match S[i]? with
  | some (.val d) => Q d S n
  | some (.own ds) => Q (.lst ds) (S.set i (.val (.lst ds))) n
  | _ => False
def kC (d : D) : KE := fun S n Q => Q d S n
theorem slot_of {W : Wd} {F H : Hp} {n : Nat} {S : List Sl} {σ : St} (A : Abs W F n S σ H) {i : Nat} {s : Sl} (h : S[i]? = some s) : ∃ v, σ[i]? = some v ∧ SlOk W F H s v := by
  have hi : i < S.length := (List.getElem?_eq_some_iff.mp h).1
  have hj : i < σ.length := by rw [← A.len]; exact hi
  exact ⟨σ[i], List.getElem?_eq_getElem hj, A.sl i s _ h (List.getElem?_eq_getElem hj)⟩
/-- freezing an own list -/
theorem Abs.freeze {W : Wd} {F H : Hp} {n : Nat} {S : List Sl} {σ : St} (A : Abs W F n S σ H) {i : Nat} {p : Addr} {vs : List V} {ds : List D} (e : S[i]? = some (.own ds)) (e2 : σ[i]? = some (some (.ref p)))
    (h1 : F p = none) (h2 : W.H0 p = none) (h3 : pad W.pa ≠ some p) (h4 : H p = some (.lst vs)) (h5 : Reps W.K W.pa F vs ds) :
    Abs W (upd F p (.lst vs)) n (S.set i (.val (.lst ds))) σ H ∧ Rep W.K W.pa (upd F p (.lst vs)) (.ref p) (.lst ds) := by
  have sm : Same F (upd F p (.lst vs)) := same_new h1
  have rp : Rep W.K W.pa (upd F p (.lst vs)) (.ref p) (.lst ds) := .lst upd_same (Reps.mono sm h5)
  refine ⟨⟨⟨fun a u z => ?_, fun q z => ?_, A.w.old, A.w.oldp, A.w.f0.trans sm, fun a u z => ?_⟩, by rw [List.length_set]; exact A.len, fun j s v z1 z2 => ?_, fun j k q es fs z1 z2 z3 z4 => ?_⟩, rp⟩
  · by_cases y : a = p
    · subst y; rw [upd_same] at z; rw [h4]; exact z
    · rw [upd_ne y] at z; exact A.w.sub _ _ z
  · obtain ⟨y1, ca, turn, rst, y2, y3, y4⟩ := A.w.pen q z
    refine ⟨?_, ca, turn, rst, y2, sm _ _ y3, y4⟩
    have nq : q ≠ p := by
      intro y
      rw [y] at z
      exact h3 z
    rw [upd_ne nq]
    exact y1
  · by_cases y : a = p
    · subst y; exact .inr h2
    · rw [upd_ne y] at z; exact A.w.nf _ _ z
  · by_cases y : j = i
    · subst y
      have hj : j < S.length := (List.getElem?_eq_some_iff.mp e).1
      rw [List.getElem?_set_self hj] at z1
      cases z1
      rw [e2] at z2
      cases z2
      exact rp
    · rw [List.getElem?_set_ne (Ne.symm y)] at z1
      have ok := A.sl j s v z1 z2
      cases s with
      | no => trivial
      | val d =>
        cases v with
        | none => exact ok.elim
        | some v => exact Rep.mono sm ok
      | own es =>
        cases v with
        | none => exact ok.elim
        | some v =>
          cases v with
          | ref q =>
            obtain ⟨k1, k2, k3, ws, k4, k5⟩ := ok
            have nq : q ≠ p := fun x => y (A.di j i p es ds z1 e (x ▸ z2) e2)
            exact ⟨by rw [upd_ne nq]; exact k1, k2, k3, ws, k4, Reps.mono sm k5⟩
          | _ => exact ok.elim
  · have hi : i < S.length := (List.getElem?_eq_some_iff.mp e).1
    have nj : j ≠ i := fun y => by subst y; rw [List.getElem?_set_self hi] at z1; cases z1
    have nk : k ≠ i := fun y => by subst y; rw [List.getElem?_set_self hi] at z2; cases z2
    rw [List.getElem?_set_ne (Ne.symm nj)] at z1
    rw [List.getElem?_set_ne (Ne.symm nk)] at z2
    exact A.di j k q es fs z1 z2 z3 z4
theorem Abs.freezeG {W : Wd} {F H : Hp} {n : Nat} {S : List Sl} {σ : St} (A : Abs W F n S σ H) {i : Nat} {p : Addr} {vs : List V} {ds : List D} (e : S[i]? = some (.own ds)) (e2 : σ[i]? = some (some (.ref p)))
    (h4 : H p = some (.lst vs)) : Grow W S σ F H (upd F p (.lst vs)) H (S.set i (.val (.lst ds))) := by
  refine ⟨?_, fun _ _ h _ => h, fun _ h => h, fun a o z => ?_, fun a ⟨j, es, z1, z2⟩ => ?_⟩
  · obtain ⟨v, h1, h2⟩ := slot_of A e
    rw [e2] at h1
    cases h1
    exact same_new h2.1
  · by_cases y : a = p
    · subst y; exact .inr (.inr ⟨i, ds, e, e2⟩)
    · rw [upd_ne y] at z; exact .inl z
  · have hi : i < S.length := (List.getElem?_eq_some_iff.mp e).1
    by_cases y : j = i
    · subst y; rw [List.getElem?_set_self hi] at z1; cases z1
    · rw [List.getElem?_set_ne (Ne.symm y)] at z1
      exact ⟨j, es, z1, z2⟩
section
variable {X : Cx}
theorem SpE.b {K : PySem.W.Frag} {t : TE} {k : KE} (h : SpE K t k) : SpB K t k := fun W F n S σ H Q R hK A q r => h W F n S σ H Q R hK A q fun v H' F' n' S' d g a b c => r v H' F' n' S' d g a (.inl b) c
theorem DE.b {e : Expr} {t : TE} {k : KE} (h : DE X e t k) : DB X e t k := ⟨h.pe, h.ok.b⟩
theorem dbv (i : Nat) {x : Str} {pos : Pos} (h : PE X (.Name x pos) (tVar i) := by exact pv i) : DB X (.Name x pos) (tVar i) (kB i) := by
  refine ⟨h, fun W F n S σ H Q R hK A q r => ?_⟩
  unfold kB at q
  cases e : S[i]? with
  | none => rw [e] at q; exact q.elim
  | some s =>
    rw [e] at q
    cases s with
    | no => exact q.elim
    | val d =>
      obtain ⟨v, e2, ok⟩ := slot_of A e
      cases v with
      | none => exact ok.elim
      | some v => exact ⟨v, e2, r v H F n S d .refl A (.inl ok) q⟩
    | own ds =>
      obtain ⟨v, e2, ok⟩ := slot_of A e
      cases v with
      | none => exact ok.elim
      | some v =>
        cases v with
        | ref p =>
          obtain ⟨h1, h2, h3, vs, h4, h5⟩ := ok
          exact ⟨_, e2, r _ H F n S _ .refl A (.inr ⟨p, vs, ds, rfl, rfl, h3, h4, h5⟩) q⟩
        | _ => exact ok.elim
theorem dev (i : Nat) {x : Str} {pos : Pos} (h : PE X (.Name x pos) (tVar i) := by exact pv i) : DE X (.Name x pos) (tVar i) (kV i) := by
  refine ⟨h, fun W F n S σ H Q R hK A q r => ?_⟩
  unfold kV at q
  cases e : S[i]? with
  | none => rw [e] at q; exact q.elim
  | some s =>
    rw [e] at q
    cases s with
    | no => exact q.elim
    | val d =>
      obtain ⟨v, e2, ok⟩ := slot_of A e
      cases v with
      | none => exact ok.elim
      | some v => exact ⟨v, e2, r v H F n S d .refl A ok q⟩
    | own ds =>
      obtain ⟨v, e2, ok⟩ := slot_of A e
      cases v with
      | none => exact ok.elim
      | some v =>
        cases v with
        | ref p =>
          obtain ⟨h1, h2, h3, vs, h4, h5⟩ := ok
          obtain ⟨k2, k3⟩ := A.freeze e e2 h1 h2 h3 h4 h5
          exact ⟨_, e2, r _ H _ n _ _ (A.freezeG e e2 h4) k2 k3 q⟩
        | _ => exact ok.elim
theorem de_c {e : Expr} {v : V} {d : D} (h : PE X e (tC v)) (hr : ∀ pa F, Rep X.K pa F v d) : DE X e (tC v) (kC d) :=
  ⟨h, fun W F n S σ H Q R hK A q r => r v H F n S d .refl A (hK ▸ hr W.pa F) q⟩
theorem de_int {i : Int} {j : Nat} {pos : Pos} : DE X (.Constant (.int i) j pos) (tC (.int i)) (kC (.int i)) := de_c pe_int fun _ _ => .int i
theorem de_bl {i : Bool} {j : Nat} {pos : Pos} : DE X (.Constant (.bool i) j pos) (tC (.bl i)) (kC (.bl i)) := de_c pe_bl fun _ _ => .bl i
theorem de_non {j : Nat} {pos : Pos} : DE X (.Constant .none j pos) (tC .non) (kC .non) := de_c pe_non fun _ _ => .non
theorem de_str {i : Str} {j : Nat} {pos : Pos} : DE X (.Constant (.str i) j pos) (tC (.str i)) (kC (.str i)) := de_c pe_str fun _ _ => .str i
/-- a built-in class as a value -/
theorem de_cls {x : Str} {T : String} {pos : Pos} (hm : X.mg x = none) (hg : Gl X x := by exact rfl) (hv : bootBuiltins x = some (.type T) := by decide +kernel) (hn : x ≠ "__name__" := by decide) (hd : (x == ("__debug__" : Str)) = false := by decide) :
    DE X (.Name x pos) (tC (.ty T)) (kC (.ty T)) := de_c (pe_bltn hg hm hv rfl hn hd) fun _ _ => .ty T
/-- a module's constant -/
theorem de_glob {x : Str} {v : V} {u : Value} {d : D} {pos : Pos} (hm : X.mg x = some u) (r : RelV v u) (hr : ∀ pa F, Rep X.K pa F v d) (hg : Gl X x := by exact rfl) (hd : (x == ("__debug__" : Str)) = false := by decide) : DE X (.Name x pos) (tC v) (kC d) :=
  de_c (pe_glob hg hm r hd) hr
/-! ### operators by values -/
abbrev D2 := D → D → (D → Prop) → Prop
abbrev D1 := D → (D → Prop) → Prop
def DOp (X : Cx) (r : R2) (op : D2) : Prop :=
  ∀ (W : Wd) (F H : Hp) (n : Nat) (x y : V) (a b : D) (Q : D → Prop) (R : VK), W.K = X.K → Wok W F H n → RB W F H x a → RB W F H y b → op a b Q →
    (∀ v F' H' d, New W F H F' H' → Rep W.K W.pa F' v d → Q d → R v H') → r x y H R
def kBin (op : D2) (ka kb : KE) : KE := fun S n Q => ka S n fun x S1 n1 => kb S1 n1 fun y S2 n2 => op x y fun d => Q d S2 n2
theorem bin_ok {r : R2} {op : D2} {ta tb : TE} {ka kb : KE} (hd : DOp X r op) (ha : SpB X.K ta ka) (hb : SpB X.K tb kb) : SpE X.K (tOp r ta tb) (kBin op ka kb) := by
  intro W F n S σ H Q R hK A q fin
  refine ha W F n S σ H _ _ hK A q fun x H1 F1 n1 S1 d1 g1 A1 r1 q1 => ?_
  refine hb W F1 n1 S1 σ H1 _ _ hK A1 q1 fun y H2 F2 n2 S2 d2 g2 A2 r2 q2 => ?_
  refine hd W F2 H2 n2 x y d1 d2 _ _ hK A2.w (r1.grow g2) r2 q2 fun v F3 H3 d g3 r3 q3 => ?_
  exact fin v H3 F3 n2 S2 d ((g1.trans g2).trans g3.grow) (A2.new g3) r3 q3
section
variable {a b c : Expr} {ta tb tc : TE} {ka kb kc : KE} {r r' : R2} {dop dop' : D2} {pos : Pos}
theorem de_bin {op : Operator} (ho : OpR X (binaryOp op) r) (hd : DOp X r dop) (ha : DB X a ta ka) (hb : DB X b tb kb) : DE X (.BinOp a op b pos) (tOp r ta tb) (kBin dop ka kb) := ⟨pe_op ho ha.pe hb.pe, bin_ok hd ha.ok hb.ok⟩
theorem de_cmp {op : CmpOp} (ho : OpR X (compareOp op) r) (hd : DOp X r dop) (ha : DB X a ta ka) (hb : DB X b tb kb) (hm : behindInMarks op b = false) : DE X (.Compare a [op] [b] pos) (tOp r ta tb) (kBin dop ka kb) := ⟨pe_cmpR ho ha.pe hb.pe hm, bin_ok hd ha.ok hb.ok⟩
/-- a value that is a bool, as a test -/
def kTest (k : KE) : KT := fun S n Q => k S n fun d S' n' => match d with
  | .bl c => Q c S' n'
  | _ => False
theorem test_ok {t : TE} {k : KE} (h : SpE X.K t k) : SpT X.K (fun σ H Q => t σ H fun x H1 => ∃ c, x = .bl c ∧ Q c H1) (kTest k) := by
  intro W F n S σ H Q R hK A q fin
  refine h W F n S σ H _ _ hK A q fun v H' F' n' S' d g A r q => ?_
  cases d with
  | bl c => cases r; exact ⟨c, rfl, fin c H' F' n' S' g A q⟩
  | _ => exact q.elim
theorem dt_cmp {op : CmpOp} (ho : OpR X (compareOp op) r) (hd : DOp X r dop) (ha : DB X a ta ka) (hb : DB X b tb kb) (hm : behindInMarks op b = false) : DT X (.Compare a [op] [b] pos) (tTest (tOp r ta tb)) (kTest (kBin dop ka kb)) :=
  ⟨pt_cmpR ho ha.pe hb.pe hm, test_ok (bin_ok hd ha.ok hb.ok)⟩
theorem dt_val {e : Expr} {t : TE} {k : KE} (h : DE X e t k) (he : ∀ whole, isTrue e X.env whole = (do let v ← whole; standAt e.pos; holding [v] (truthy v)) := by intro _; rfl) : DT X e (tB t) (kTest k) :=
  ⟨pt_val h.pe he, test_ok h.ok⟩
/-- a < b < c -/
def kChain (op op' : D2) (ka kb kc : KE) : KE := fun S n Q => ka S n fun x S1 n1 => kb S1 n1 fun y S2 n2 => op x y fun d => match d with
  | .bl true => kc S2 n2 fun z S3 n3 => op' y z fun d' => Q d' S3 n3
  | .bl false => Q (.bl false) S2 n2
  | _ => False
theorem chain_ok {op op' : D2} (hd : DOp X r op) (hd' : DOp X r' op') (ha : SpB X.K ta ka) (hb : SpB X.K tb kb) (hc : SpB X.K tc kc) : SpE X.K (tChain r r' ta tb tc) (kChain op op' ka kb kc) := by
  intro W F n S σ H Q R hK A q fin
  refine ha W F n S σ H _ _ hK A q fun x H1 F1 n1 S1 d1 g1 A1 r1 q1 => ?_
  refine hb W F1 n1 S1 σ H1 _ _ hK A1 q1 fun y H2 F2 n2 S2 d2 g2 A2 r2 q2 => ?_
  refine hd W F2 H2 n2 x y d1 d2 _ _ hK A2.w (r1.grow g2) r2 q2 fun v F3 H3 d g3 r3 q3 => ?_
  cases d with
  | bl k =>
    cases r3
    refine ⟨k, rfl, ?_⟩
    cases k with
    | true =>
      refine iteT ?_
      refine hc W F3 n2 S2 σ H3 _ _ hK (A2.new g3) q3 fun z H4 F4 n4 S4 d4 g4 A4 r4 q4 => ?_
      refine hd' W F4 H4 n4 y z d2 d4 _ _ hK A4.w ((r2.new g3).grow g4) r4 q4 fun v F5 H5 d g5 r5 q5 => ?_
      exact fin v H5 F5 n4 S4 d ((((g1.trans g2).trans g3.grow).trans g4).trans g5.grow) (A4.new g5) r5 q5
    | false =>
      refine iteF ?_
      exact fin _ H3 F3 n2 S2 _ ((g1.trans g2).trans g3.grow) (A2.new g3) (.bl false) q3
  | _ => exact q3.elim
theorem de_chain {op op' : CmpOp} (ho : OpR X (compareOp op) r) (hd : DOp X r dop) (ho' : OpR X (compareOp op') r') (hd' : DOp X r' dop') (ha : DB X a ta ka) (hb : DB X b tb kb) (hc : DB X c tc kc)
    (hp : PE X a ta → PE X b tb → PE X c tc → PE X (.Compare a [op, op'] [b, c] pos) (tChain r r' ta tb tc)) : DE X (.Compare a [op, op'] [b, c] pos) (tChain r r' ta tb tc) (kChain dop dop' ka kb kc) :=
  ⟨hp ha.pe hb.pe hc.pe, chain_ok hd hd' ha.ok hb.ok hc.ok⟩
theorem dt_chain {op op' : CmpOp} (ho : OpR X (compareOp op) r) (hd : DOp X r dop) (ho' : OpR X (compareOp op') r') (hd' : DOp X r' dop') (ha : DB X a ta ka) (hb : DB X b tb kb) (hc : DB X c tc kc)
    (hp : PE X a ta → PE X b tb → PE X c tc → PT X (.Compare a [op, op'] [b, c] pos) (tTest (tChain r r' ta tb tc))) : DT X (.Compare a [op, op'] [b, c] pos) (tTest (tChain r r' ta tb tc)) (kTest (kChain dop dop' ka kb kc)) :=
  ⟨hp ha.pe hb.pe hc.pe, test_ok (chain_ok hd hd' ha.ok hb.ok hc.ok)⟩
/-! ### unary -/
def DUn (X : Cx) (r : V → Hp → VK → Prop) (op : D1) : Prop :=
  ∀ (W : Wd) (F H : Hp) (n : Nat) (x : V) (a : D) (Q : D → Prop) (R : VK), W.K = X.K → Wok W F H n → RB W F H x a → op a Q →
    (∀ v F' H' d, New W F H F' H' → Rep W.K W.pa F' v d → Q d → R v H') → r x H R
def kUn (op : D1) (ka : KE) : KE := fun S n Q => ka S n fun x S1 n1 => op x fun d => Q d S1 n1
theorem de_un {op : UnaryOp} {r : V → Hp → VK → Prop} {dop : D1} (ho : UnR X (unaryOp op) r) (hd : DUn X r dop) (ha : DB X a ta ka) : DE X (.UnaryOp op a pos) (tUn r ta) (kUn dop ka) := by
  refine ⟨pe_un ho ha.pe, fun W F n S σ H Q R hK A q fin => ?_⟩
  refine ha.ok W F n S σ H _ _ hK A q fun x H1 F1 n1 S1 d1 g1 A1 r1 q1 => ?_
  refine hd W F1 H1 n1 x d1 _ _ hK A1.w r1 q1 fun v F3 H3 d g3 r3 q3 => ?_
  exact fin v H3 F3 n1 S1 d (g1.trans g3.grow) (A1.new g3) r3 q3
def dNeg : D1 := fun a Q => match a with
  | .int i => Q (.int (-i))
  | _ => False
theorem un_negD : DUn X (rU fun i => .int (-i)) dNeg := by
  intro W F H n x a Q R hK w ra q fin
  cases a with
  | int i => exact ⟨i, ra.int, fin _ F H _ (New.refl w.sub) (.int _) q⟩
  | _ => exact q.elim
end
/-! ### and, or, not, if -/
def kAndT (ka kb : KT) : KT := fun S n Q => ka S n fun c S1 n1 => if c = true then kb S1 n1 Q else Q false S1 n1
def kOrT (ka kb : KT) : KT := fun S n Q => ka S n fun c S1 n1 => if c = true then Q true S1 n1 else kb S1 n1 Q
def kNotT (ka : KT) : KT := fun S n Q => ka S n fun c S1 n1 => Q (!c) S1 n1
theorem DW.t {e : Expr} {t : TT} {k : KT} (h : DW X e t k) : DT X e t k := ⟨h.pe.pt, h.ok⟩
section
variable {a b : Expr} {rest : List Expr} {pos : Pos} {ta tb : TT} {ka kb kc : KT}
theorem dw_and1 (h : DT X a ta ka) : DW X (.BoolOp .And [a] pos) ta ka := ⟨pw_and1 h.pe, h.ok⟩
theorem dw_or1 (h : DT X a ta ka) : DW X (.BoolOp .Or [a] pos) ta ka := ⟨pw_or1 h.pe, h.ok⟩
theorem dw_and (h : DT X a ta ka) (h2 : DW X (.BoolOp .And (b :: rest) pos) tb kb) : DW X (.BoolOp .And (a :: b :: rest) pos) (tAnd ta tb) (kAndT ka kb) := by
  refine ⟨pw_and h.pe h2.pe, fun W F n S σ H Q R hK A q fin => ?_⟩
  refine h.ok W F n S σ H _ _ hK A q fun c H1 F1 n1 S1 g1 A1 q1 => ?_
  cases c with
  | true => exact iteT (h2.ok W F1 n1 S1 σ H1 _ _ hK A1 (by simpa using q1) fun c' H2 F2 n2 S2 g2 A2 q2 => fin c' H2 F2 n2 S2 (g1.trans g2) A2 q2)
  | false => exact iteF (fin false H1 F1 n1 S1 g1 A1 (by simpa using q1))
theorem dw_or (h : DT X a ta ka) (h2 : DW X (.BoolOp .Or (b :: rest) pos) tb kb) : DW X (.BoolOp .Or (a :: b :: rest) pos) (tOr ta tb) (kOrT ka kb) := by
  refine ⟨pw_or h.pe h2.pe, fun W F n S σ H Q R hK A q fin => ?_⟩
  refine h.ok W F n S σ H _ _ hK A q fun c H1 F1 n1 S1 g1 A1 q1 => ?_
  cases c with
  | false => exact iteF (h2.ok W F1 n1 S1 σ H1 _ _ hK A1 (by simpa using q1) fun c' H2 F2 n2 S2 g2 A2 q2 => fin c' H2 F2 n2 S2 (g1.trans g2) A2 q2)
  | true => exact iteT (fin true H1 F1 n1 S1 g1 A1 (by simpa using q1))
theorem dt_not (h : DT X a ta ka) : DT X (.UnaryOp .Not a pos) (tNot ta) (kNotT ka) := by
  refine ⟨pt_not h.pe, fun W F n S σ H Q R hK A q fin => ?_⟩
  exact h.ok W F n S σ H _ _ hK A q fun c H1 F1 n1 S1 g1 A1 q1 => fin _ H1 F1 n1 S1 g1 A1 q1
end
def kIf (kt : KT) (k1 k2 : KE) : KE := fun S n Q => kt S n fun c S1 n1 => if c = true then k1 S1 n1 Q else k2 S1 n1 Q
section
variable {a b c e : Expr} {rest es : List Expr} {pos : Pos} {tt : TT} {t1 t2 t : TE} {kt : KT} {k1 k2 k : KE} {ts : TA} {ks : KA}
theorem de_if (h : DT X c tt kt) (h1 : DE X a t1 k1) (h2 : DE X b t2 k2) : DE X (.IfExp c a b pos) (tIf tt t1 t2) (kIf kt k1 k2) := by
  refine ⟨pe_ifExp h.pe h1.pe h2.pe, fun W F n S σ H Q R hK A q fin => ?_⟩
  refine h.ok W F n S σ H _ _ hK A q fun c H1 F1 n1 S1 g1 A1 q1 => ?_
  cases c with
  | true => exact iteT (h1.ok W F1 n1 S1 σ H1 _ _ hK A1 (by simpa using q1) fun v H2 F2 n2 S2 d g2 A2 r q2 => fin v H2 F2 n2 S2 d (g1.trans g2) A2 r q2)
  | false => exact iteF (h2.ok W F1 n1 S1 σ H1 _ _ hK A1 (by simpa using q1) fun v H2 F2 n2 S2 d g2 A2 r q2 => fin v H2 F2 n2 S2 d (g1.trans g2) A2 r q2)
/-- as values, all bools -/
def kAndV (k1 k2 : KE) : KE := fun S n Q => k1 S n fun d S1 n1 => match d with
  | .bl true => k2 S1 n1 Q
  | .bl false => Q (.bl false) S1 n1
  | _ => False
def kOrV (k1 k2 : KE) : KE := fun S n Q => k1 S n fun d S1 n1 => match d with
  | .bl true => Q (.bl true) S1 n1
  | .bl false => k2 S1 n1 Q
  | _ => False
def kNotV (k1 : KE) : KE := fun S n Q => k1 S n fun d S1 n1 => match d with
  | .bl c => Q (.bl (!c)) S1 n1
  | _ => False
theorem de_one {op : BoolOp} (h : DE X a t1 k1) : DE X (.BoolOp op [a] pos) t1 k1 := ⟨pe_one h.pe, h.ok⟩
theorem de_and (h : DE X a t1 k1) (h2 : DE X (.BoolOp .And (b :: rest) pos) t2 k2) : DE X (.BoolOp .And (a :: b :: rest) pos) (tAndV t1 t2) (kAndV k1 k2) := by
  refine ⟨pe_and h.pe h2.pe, fun W F n S σ H Q R hK A q fin => ?_⟩
  refine h.ok W F n S σ H _ _ hK A q fun v H1 F1 n1 S1 d g1 A1 r q1 => ?_
  cases d with
  | bl c =>
    cases r
    refine ⟨c, rfl, ?_⟩
    cases c with
    | true => exact iteT (h2.ok W F1 n1 S1 σ H1 _ _ hK A1 q1 fun v H2 F2 n2 S2 d g2 A2 r q2 => fin v H2 F2 n2 S2 d (g1.trans g2) A2 r q2)
    | false => exact iteF (fin _ H1 F1 n1 S1 _ g1 A1 (.bl false) q1)
  | _ => exact q1.elim
theorem de_or (h : DE X a t1 k1) (h2 : DE X (.BoolOp .Or (b :: rest) pos) t2 k2) : DE X (.BoolOp .Or (a :: b :: rest) pos) (tOrV t1 t2) (kOrV k1 k2) := by
  refine ⟨pe_or h.pe h2.pe, fun W F n S σ H Q R hK A q fin => ?_⟩
  refine h.ok W F n S σ H _ _ hK A q fun v H1 F1 n1 S1 d g1 A1 r q1 => ?_
  cases d with
  | bl c =>
    cases r
    refine ⟨c, rfl, ?_⟩
    cases c with
    | false => exact iteF (h2.ok W F1 n1 S1 σ H1 _ _ hK A1 q1 fun v H2 F2 n2 S2 d g2 A2 r q2 => fin v H2 F2 n2 S2 d (g1.trans g2) A2 r q2)
    | true => exact iteT (fin _ H1 F1 n1 S1 _ g1 A1 (.bl true) q1)
  | _ => exact q1.elim
theorem de_not (h : DE X a t1 k1) : DE X (.UnaryOp .Not a pos) (tNotV t1) (kNotV k1) := by
  refine ⟨pe_not h.pe, fun W F n S σ H Q R hK A q fin => ?_⟩
  refine h.ok W F n S σ H _ _ hK A q fun v H1 F1 n1 S1 d g1 A1 r q1 => ?_
  cases d with
  | bl c => cases r; exact ⟨c, rfl, fin _ H1 F1 n1 S1 _ g1 A1 (.bl _) q1⟩
  | _ => exact q1.elim
/-! ### displays, arguments -/
def kNil : KA := fun S n Q => Q [] S n
def kCons (k : KE) (ks : KA) : KA := fun S n Q => k S n fun d S1 n1 => ks S1 n1 fun ds S2 n2 => Q (d :: ds) S2 n2
/-- *e in a display -/
def kStar (k : KE) (ks : KA) : KA := fun S n Q => k S n fun d S1 n1 => match d with
  | .lst xs => ks S1 n1 fun ds S2 n2 => Q (xs ++ ds) S2 n2
  | .tup xs => ks S1 n1 fun ds S2 n2 => Q (xs ++ ds) S2 n2
  | _ => False
theorem da_nil : DA X [] tNil kNil := ⟨pa_nil, fun W F n S σ H Q R hK A q fin => fin [] H F n S [] .refl A .nil q⟩
theorem da_cons (h : DE X e t k) (hs : DA X es ts ks) (hst : starEach (e :: es) X.env = (false, eval e X.env) :: starEach es X.env := by rfl) : DA X (e :: es) (tCons t ts) (kCons k ks) := by
  refine ⟨pa_cons h.pe hs.pe hst, fun W F n S σ H Q R hK A q fin => ?_⟩
  refine h.ok W F n S σ H _ _ hK A q fun v H1 F1 n1 S1 d g1 A1 r q1 => ?_
  refine hs.ok W F1 n1 S1 σ H1 _ _ hK A1 q1 fun vs H2 F2 n2 S2 ds g2 A2 r2 q2 => ?_
  exact fin _ H2 F2 n2 S2 _ (g1.trans g2) A2 (.cons (Rep.mono g2.f r) r2) q2
theorem da_star {p : Pos} (h : DB X e t k) (hs : DA X es ts ks) (hst : starEach (.Starred e p :: es) X.env = (true, eval e X.env) :: starEach es X.env := by rfl) : DA X (.Starred e p :: es) (StX.tStar X.K t ts) (kStar k ks) := by
  refine ⟨StX.pa_star h.pe hs.pe hst, fun W F n S σ H Q R hK A q fin => ?_⟩
  refine h.ok W F n S σ H _ _ hK A q fun v H1 F1 n1 S1 d g1 A1 r q1 => ?_
  cases d with
  | lst xs =>
    obtain ⟨p, vs, rfl, h1, h2⟩ := r.lst A1.w.sub
    refine ⟨p, vs, rfl, .inr (SqL.of h1), ?_⟩
    refine hs.ok W F1 n1 S1 σ H1 _ _ hK A1 q1 fun vs H2 F2 n2 S2 ds g2 A2 r2 q2 => ?_
    exact fin _ H2 F2 n2 S2 _ (g1.trans g2) A2 (Reps.append (Reps.mono g2.f h2) r2) q2
  | tup xs =>
    obtain ⟨p, vs, rfl, h1, _, h2⟩ := r.tup A1.w.sub
    refine ⟨p, vs, rfl, .inl (hK ▸ h1), ?_⟩
    refine hs.ok W F1 n1 S1 σ H1 _ _ hK A1 q1 fun vs H2 F2 n2 S2 ds g2 A2 r2 q2 => ?_
    exact fin _ H2 F2 n2 S2 _ (g1.trans g2) A2 (Reps.append (Reps.mono g2.f h2) r2) q2
  | _ => exact q1.elim
theorem big_ok {n : Nat} (h : n ≤ 1000000) : n ≤ sizeLine := Nat.le_trans h (by decide)
theorem big_lt {n : Nat} (h : n ≤ 1000000) : n < sizeLine := Nat.lt_of_le_of_lt h (by decide)
def kTup (ks : KA) : KE := fun S n Q => ks S n fun ds S1 n1 => ds.length ≤ 1000000 ∧ Q (.tup ds) S1 n1
def kLst (ks : KA) : KE := fun S n Q => ks S n fun ds S1 n1 => ds.length ≤ 1000000 ∧ Q (.lst ds) S1 n1
theorem new_tup {W : Wd} {F H : Hp} {n : Nat} (w : Wok W F H n) {p : Addr} (hp : H p = none) {vs : List V} {ds : List D} (r : Reps W.K W.pa F vs ds) :
    New W F H (upd F p (.tup vs)) (upd H p (.tup vs)) ∧ Rep W.K W.pa (upd F p (.tup vs)) (.ref p) (.tup ds) :=
  ⟨New.one w hp _, .tup (SqT.of upd_same) (Reps.mono (same_new (w.fresh hp).1) r)⟩
theorem new_lst {W : Wd} {F H : Hp} {n : Nat} (w : Wok W F H n) {p : Addr} (hp : H p = none) {vs : List V} {ds : List D} (r : Reps W.K W.pa F vs ds) :
    New W F H (upd F p (.lst vs)) (upd H p (.lst vs)) ∧ Rep W.K W.pa (upd F p (.lst vs)) (.ref p) (.lst ds) :=
  ⟨New.one w hp _, .lst upd_same (Reps.mono (same_new (w.fresh hp).1) r)⟩
theorem de_tup {x1 : Nat} (h : DA X es ts ks) : DE X (.Tuple es x1 pos) (tTup ts) (kTup ks) := by
  refine ⟨pe_tup h.pe, fun W F n S σ H Q R hK A q fin => ?_⟩
  refine h.ok W F n S σ H _ _ hK A q fun vs H1 F1 n1 S1 ds g1 A1 r q1 => ?_
  refine ⟨by rw [r.length]; exact big_ok q1.1, fun p hp => ?_⟩
  obtain ⟨g, r'⟩ := new_tup A1.w hp r
  exact fin _ _ _ n1 S1 _ (g1.trans g.grow) (A1.new g) r' q1.2
theorem de_lst (h : DA X es ts ks) : DE X (.List es pos) (tLst ts) (kLst ks) := by
  refine ⟨pe_lst h.pe, fun W F n S σ H Q R hK A q fin => ?_⟩
  refine h.ok W F n S σ H _ _ hK A q fun vs H1 F1 n1 S1 ds g1 A1 r q1 => ?_
  refine ⟨by rw [r.length]; exact big_ok q1.1, fun p hp => ?_⟩
  obtain ⟨g, r'⟩ := new_lst A1.w hp r
  exact fin _ _ _ n1 S1 _ (g1.trans g.grow) (A1.new g) r' q1.2
end
end
end DL
namespace DL
open PySem PySem.Spec PyProof.Rows L2
theorem tup_once (p0 : Addr) (its : Array Value) (dd : Option Addr) (nn : Nat) (ss : Array (Option Value)) (tk0 : Tok) :
    Meets (Builtin.«tuple.__mul__» ⟨[.ref p0, .int 1 tk0], []⟩) (fun _ R s => s.heap.get? p0 = some { cls := .type "tuple", dict := dd, data := .seq its nn, slots := ss } ∧ R (.ok (.ret (Value.ref p0))) s) :=
  .of_wp fun prog w A R s h => by
    obtain ⟨h1, g1, d1, t1, o1⟩ := s
    obtain ⟨hl, h⟩ := h
    have f1 := AutoSeq1.idx_int
    wp_walk using wpAny_loadPart' hl
    exact ⟨_, rfl, h⟩
/-- tuple * 1 is the tuple itself -/
def rOnce (K : PySem.W.Frag) : R2 := fun x y H Q => ∃ l xs, x = .ref l ∧ y = .int 1 ∧ SqT K H l xs ∧ Q (.ref l) H
theorem op_once {X : Cx} : OpR X (binaryOp .Mult) (rOnce X.K) := by
  intro pins s σ H x y v u Q I rx ry h
  obtain ⟨l, xs, rfl, rfl, hT, q⟩ := h
  cases rx
  obtain ⟨t, rfl⟩ := ry
  obtain ⟨its, r, ⟨⟨cls, dd, data, sl⟩, ho, hc, n, hd⟩, _⟩ := I.tuple hT
  simp only at hc hd
  subst hc hd
  refine wpAny_binaryOp_repeat_ref (T := "tuple") (U := "int") (by decide) ⟨_, ho, rfl⟩ (fun s' => typeIs_int s' 1 t) noFill_tuple_mul F.fills_int_mul F.slot_int_rmul repeat_tuple F.slot_int_index.lookup
    (call_meets F.slot_int_rmul (typeIs_int s 1 t) F.entry_int_rmul (F.args_int_rmul_2 _ _) (int_rmul_tuple 1 t l its.toArray n dd sl)
      ⟨ho, rfl, ⟨_, ho, rfl⟩, call_meets F.slot_tuple_mul ⟨_, ho, rfl⟩ F.entry_tuple_mul (F.args_tuple_mul_2 _ _) (tup_once l its.toArray dd n sl t) ⟨ho, ?_⟩⟩)
  exact ⟨.ref l, H, I, rfl, q⟩
end DL
namespace DL
open PySem PySem.Spec PyProof.Rows L2
section
variable {X : Cx}
/-! ### the operators -/
def dAdd : D2 := fun a b Q => match a, b with
  | .int i, .int j => Q (.int (i + j))
  | .str x, .str y => x.length + y.length ≤ 1000000 ∧ Q (.str (x ++ y))
  | .lst x, .lst y => x.length + y.length ≤ 1000000 ∧ Q (.lst (x ++ y))
  | .tup x, .tup y => x.length + y.length ≤ 1000000 ∧ Q (.tup (x ++ y))
  | _, _ => False
def rAddA (K : PySem.W.Frag) : R2 := fun x y H Q => (rI0 fun i j => .int (i + j)) x y H Q ∨ (∃ i j, x = .str i ∧ y = .str j ∧ i.length + j.length ≤ sizeLine ∧ Q (.str (i ++ j)) H) ∨ rCat x y H Q ∨ rCatA K x y H Q
theorem o_add : OpR X (binaryOp .Add) (rAddA X.K) := op_add.or (op_add_str.or (op_cat.or op_catA))
theorem d_add : DOp X (rAddA X.K) dAdd := by
  intro W F H n x y a b Q R hK w ra rb q fin
  cases a <;> cases b <;> try exact False.elim q
  case int.int i j => exact .inl ⟨i, j, ra.int, rb.int, fin _ F H _ (New.refl w.sub) (.int _) q⟩
  case str.str i j => exact .inr (.inl ⟨i, j, ra.str, rb.str, big_ok q.1, fin _ F H _ (New.refl w.sub) (.str _) q.2⟩)
  case lst.lst xs ys =>
    obtain ⟨p, vs, rfl, h1, h2⟩ := ra.lst w.sub
    obtain ⟨p', vs', rfl, h1', h2'⟩ := rb.lst w.sub
    refine .inr (.inr (.inl ⟨p, p', vs, vs', rfl, rfl, h1, h1', by rw [h2.length, h2'.length]; exact big_ok q.1, fun c hc => ?_⟩))
    obtain ⟨g, r⟩ := new_lst w hc (Reps.append h2 h2')
    exact fin _ _ _ _ g r q.2
  case tup.tup xs ys =>
    obtain ⟨p, vs, rfl, h1, h0, h2⟩ := ra.tup w.sub
    obtain ⟨p', vs', rfl, h1', h0', h2'⟩ := rb.tup w.sub
    refine .inr (.inr (.inr ⟨p, p', vs, vs', rfl, rfl, hK ▸ h1, hK ▸ h1', by rw [h2.length, h2'.length]; exact big_ok q.1, fun e => ?_, fun _ e => ?_, fun _ _ c hc => ?_⟩))
    · subst e
      cases h2
      exact fin _ F H _ (New.refl w.sub) (.tup h0' h2') q.2
    · subst e
      cases h2'
      have q2 := q.2
      rw [List.append_nil] at q2
      exact fin _ F H _ (New.refl w.sub) (.tup h0 h2) q2
    · obtain ⟨g, r⟩ := new_tup w hc (Reps.append h2 h2')
      exact fin _ _ _ _ g r q.2
def dInt (f : Int → Int → Int) (C : Int → Int → Prop) : D2 := fun a b Q => match a, b with
  | .int i, .int j => C i j ∧ Q (.int (f i j))
  | _, _ => False
theorem d_int {C : Int → Int → Prop} {f : Int → Int → Int} : DOp X (rI C fun i j => .int (f i j)) (dInt f C) := by
  intro W F H n x y a b Q R hK w ra rb q fin
  cases a <;> cases b <;> try exact False.elim q
  case int.int i j => exact ⟨i, j, ra.int, rb.int, q.1, fin _ F H _ (New.refl w.sub) (.int _) q.2⟩
theorem d_int0 {f : Int → Int → Int} : DOp X (rI0 fun i j => .int (f i j)) (dInt f fun _ _ => True) := by
  intro W F H n x y a b Q R hK w ra rb q fin
  cases a <;> cases b <;> try exact False.elim q
  case int.int i j => exact ⟨i, j, ra.int, rb.int, fin _ F H _ (New.refl w.sub) (.int _) q.2⟩
def dSub : D2 := dInt (fun i j => i - j) fun _ _ => True
theorem d_sub : DOp X (rI0 fun i j => .int (i - j)) dSub := d_int0
def dMod : D2 := dInt (fun i j => i % j) fun _ j => 0 < j
theorem d_mod : DOp X (rI (fun _ j => 0 < j) fun i j => .int (i % j)) dMod := d_int
def dDiv : D2 := dInt (fun i j => i / j) CDiv
theorem d_div : DOp X (rI CDiv fun i j => .int (i / j)) dDiv := d_int
def dPow : D2 := dInt (fun i j => i ^ j.toNat) CPow
theorem d_pow : DOp X (rI CPow fun i j => .int (i ^ j.toNat)) dPow := d_int
/-- tuple * 1, 0 and less -/
def dMul : D2 := fun a b Q => match a, b with
  | .int i, .int j => CMul i j ∧ Q (.int (i * j))
  | .lst x, .int j => j ≤ 1000000 ∧ -1000000 ≤ j ∧ x.length * j.toNat ≤ 1000000 ∧ Q (.lst (List.replicate j.toNat x).flatten)
  | .tup x, .int j => (j = 1 ∨ (2 ≤ j ∧ j ≤ 1000 ∧ x.length ≤ 1000 ∧ x ≠ [])) ∧ Q (.tup (List.replicate j.toNat x).flatten)
  | _, _ => False
def rMulA (K : PySem.W.Frag) : R2 := fun x y H Q => rI CMul (fun i j => .int (i * j)) x y H Q ∨ rRep x y H Q ∨ rRepT K x y H Q ∨ rOnce K x y H Q
theorem o_mul : OpR X (binaryOp .Mult) (rMulA X.K) := op_mul.or (op_rep.or (op_repT.or op_once))
theorem d_mul : DOp X (rMulA X.K) dMul := by
  intro W F H n x y a b Q R hK w ra rb q fin
  cases a <;> cases b <;> try exact False.elim q
  case int.int i j => exact .inl ⟨i, j, ra.int, rb.int, q.1, fin _ F H _ (New.refl w.sub) (.int _) q.2⟩
  case lst.int xs j =>
    obtain ⟨p, vs, rfl, h1, h2⟩ := ra.lst w.sub
    obtain ⟨q1, q2, q3, q4⟩ := q
    refine .inr (.inl ⟨p, j, vs, rfl, rb.int, h1, by omega, by omega, by rw [h2.length]; exact big_ok q3, fun c hc => ?_⟩)
    obtain ⟨g, r⟩ := new_lst w hc (Reps.rep j.toNat h2)
    exact fin _ _ _ _ g r q4
  case tup.int xs j =>
    obtain ⟨p, vs, rfl, h1, h0, h2⟩ := ra.tup w.sub
    obtain ⟨q1 | ⟨q1, q2, q3, q4⟩, q5⟩ := q
    · subst q1
      refine .inr (.inr (.inr ⟨p, vs, rfl, rb.int, hK ▸ h1, fin _ F H _ (New.refl w.sub) (.tup h0 h2) ?_⟩))
      have e : (List.replicate (1 : Int).toNat xs).flatten = xs := by simp
      rw [e] at q5; exact q5
    · refine .inr (.inr (.inl ⟨p, j, vs, rfl, rb.int, hK ▸ h1, fun e => ?_, q1, q2, by rw [h2.length]; exact q3, fun c hc => ?_⟩))
      · subst e; cases h2; exact q4 rfl
      · obtain ⟨g, r⟩ := new_tup w hc (Reps.rep j.toNat h2)
        exact fin _ _ _ _ g r q5
def dCmp (f : Int → Int → Bool) : D2 := fun a b Q => match a, b with
  | .int i, .int j => Q (.bl (f i j))
  | _, _ => False
theorem d_cmp {f : Int → Int → Bool} : DOp X (rI0 fun i j => .bl (f i j)) (dCmp f) := by
  intro W F H n x y a b Q R hK w ra rb q fin
  cases a <;> cases b <;> try exact False.elim q
  case int.int i j => exact ⟨i, j, ra.int, rb.int, fin _ F H _ (New.refl w.sub) (.bl _) q⟩
abbrev dLt : D2 := dCmp fun i j => decide (i < j)
abbrev dLe : D2 := dCmp fun i j => decide (i ≤ j)
abbrev dGt : D2 := dCmp fun i j => decide (j < i)
abbrev dGe : D2 := dCmp fun i j => decide (j ≤ i)
/-- is None -/
def D.isN : D → Bool
  | .non => true
  | _ => false
def dIsN : D2 := fun a b Q => match b with
  | .non => Q (.bl a.isN)
  | _ => False
def dNotN : D2 := fun a b Q => match b with
  | .non => Q (.bl (!a.isN))
  | _ => False
theorem RB.nonb {W : Wd} {F H : Hp} {x : V} {a : D} (r : RB W F H x a) : decide (x = V.non) = a.isN := by
  rcases r with h | ⟨p, vs, es, e1, e2, e3, e4, e5⟩
  · cases h <;> rfl
  · subst e1 e2; rfl
theorem d_isN : DOp X (fun x y H Q => y = .non ∧ Q (.bl (decide (x = .non))) H) dIsN := by
  intro W F H n x y a b Q R hK w ra rb q fin
  cases b <;> try exact False.elim q
  refine ⟨rb.non, fin _ F H _ (New.refl w.sub) (.bl _) ?_⟩
  rw [ra.nonb]; exact q
theorem d_notN : DOp X (fun x y H Q => y = .non ∧ Q (.bl (!decide (x = .non))) H) dNotN := by
  intro W F H n x y a b Q R hK w ra rb q fin
  cases b <;> try exact False.elim q
  refine ⟨rb.non, fin _ F H _ (New.refl w.sub) (.bl _) ?_⟩
  rw [ra.nonb]; exact q
/-! ### == of plain data -/
mutual
def D.py : D → PyData
  | .non => .none
  | .bl b => .bool b
  | .int i => .int i
  | .str x => .str x
  | .tup ds => .tuple (D.pys ds)
  | .lst ds => .list (D.pys ds)
  | _ => .none
def D.pys : List D → List PyData
  | [] => []
  | d :: ds => D.py d :: D.pys ds
end
/-- plain to the depth k -/
def D.pl : Nat → D → Prop
  | _, .non => True
  | _, .bl _ => True
  | _, .int _ => True
  | _, .str x => PyData.strOk x = true
  | k + 1, .tup ds => ∀ d ∈ ds, D.pl k d
  | k + 1, .lst ds => ∀ d ∈ ds, D.pl k d
  | _, _ => False
theorem pl_dep : ∀ (k : Nat) (d : D), D.pl k d → d.py.canLay0 = true ∧ d.py.depth ≤ k := by
  intro k
  induction k with
  | zero =>
    intro d h
    cases d <;> first | exact False.elim h | (simp [D.py, PyData.canLay0, PyData.depth]; done) | (simp [D.py, PyData.canLay0, PyData.depth]; exact h)
  | succ k ih =>
    have all : ∀ ds : List D, (∀ d ∈ ds, D.pl k d) → PyData.canLayAll0 (D.pys ds) = true ∧ PyData.depthAll (D.pys ds) ≤ k := by
      intro ds
      induction ds with
      | nil => intro _; simp [D.pys, PyData.canLayAll0, PyData.depthAll]
      | cons d ds ih2 =>
        intro h
        have h1 := ih d (h d (List.mem_cons_self ..))
        have h2 := ih2 fun e he => h e (List.mem_cons_of_mem _ he)
        simp only [D.pys, PyData.canLayAll0, PyData.depthAll, h1.1, h2.1, Bool.and_self, true_and]
        omega
    intro d h
    cases d with
    | tup ds => obtain ⟨h1, h2⟩ := all ds h; simp only [D.py, PyData.canLay0, PyData.depth]; exact ⟨h1, by omega⟩
    | lst ds => obtain ⟨h1, h2⟩ := all ds h; simp only [D.py, PyData.canLay0, PyData.depth]; exact ⟨h1, by omega⟩
    | str x => simp [D.py, PyData.canLay0, PyData.depth]; exact h
    | non => simp [D.py, PyData.canLay0, PyData.depth]
    | bl _ => simp [D.py, PyData.canLay0, PyData.depth]
    | int _ => simp [D.py, PyData.canLay0, PyData.depth]
    | _ => exact False.elim h
theorem pl_shaped {k : Nat} {d : D} (hk : k ≤ 64) (h : D.pl k d) : SeqAt.shaped d.py = true := by
  obtain ⟨h1, h2⟩ := pl_dep k d h
  unfold SeqAt.shaped
  rw [h1, Bool.true_and]
  exact decide_eq_true (by omega)
section
variable {K : PySem.W.Frag} {pa : Option Pn} {F H : Hp}
theorem rep_dp (w : Same F H) : ∀ (k : Nat) (v : V) (d : D), D.pl k d → Rep K pa F v d → Dp K H v d.py := by
  intro k
  induction k with
  | zero =>
    intro v d h r
    cases d <;> first | exact False.elim h | (cases r; simp only [D.py]; constructor)
  | succ k ih =>
    have all : ∀ (ds : List D) (vs : List V), (∀ d ∈ ds, D.pl k d) → Reps K pa F vs ds → DpAll K H vs (D.pys ds) := by
      intro ds
      induction ds with
      | nil => intro vs _ r; cases r; exact .nil
      | cons d ds ih2 =>
        intro vs h r
        cases r with
        | cons r1 r2 => exact .cons (ih _ d (h d (List.mem_cons_self ..)) r1) (ih2 _ (fun e he => h e (List.mem_cons_of_mem _ he)) r2)
    intro v d h r
    cases d with
    | tup ds => cases r with | tup q r => simp only [D.py]; exact .tup (same_sqT w q) (all ds _ h r)
    | lst ds => cases r with | lst q r => simp only [D.py]; exact .lst (SqL.of (w _ _ q)) (all ds _ h r)
    | str x => cases r; simp only [D.py]; constructor
    | non => cases r; simp only [D.py]; constructor
    | bl _ => cases r; simp only [D.py]; constructor
    | int _ => cases r; simp only [D.py]; constructor
    | _ => exact False.elim h
theorem reps_dp (w : Same F H) {k : Nat} : ∀ (ds : List D) (vs : List V), (∀ d ∈ ds, D.pl k d) → Reps K pa F vs ds → DpAll K H vs (D.pys ds) := by
  intro ds
  induction ds with
  | nil => intro vs _ r; cases r; exact .nil
  | cons d ds ih2 =>
    intro vs h r
    cases r with
    | cons r1 r2 => exact .cons (rep_dp w k _ d (h d (List.mem_cons_self ..)) r1) (ih2 _ (fun e he => h e (List.mem_cons_of_mem _ he)) r2)
theorem rb_dp {W : Wd} (w : Same F H) {k : Nat} {v : V} {d : D} (h : D.pl k d) (r : RB W F H v d) : Dp W.K H v d.py := by
  rcases r with r | ⟨p, vs, ds, rfl, rfl, _, h4, h5⟩
  · exact rep_dp w k v d h r
  · cases k with
    | zero => exact False.elim h
    | succ k => simp only [D.py]; exact .lst (SqL.of h4) (reps_dp w ds vs h h5)
end
def D.eqb (a b : D) : Bool := PyData.eqv a.py b.py
def dEq : D2 := fun a b Q => D.pl 8 a ∧ D.pl 8 b ∧ Q (.bl (D.eqb a b))
def dNe : D2 := fun a b Q => D.pl 8 a ∧ D.pl 8 b ∧ Q (.bl (!D.eqb a b))
theorem d_eq : DOp X (rEqD X.K) dEq := by
  intro W F H n x y a b Q R hK w ra rb q fin
  exact ⟨_, _, hK ▸ rb_dp w.sub q.1 ra, hK ▸ rb_dp w.sub q.2.1 rb, pl_shaped (by decide) q.1, pl_shaped (by decide) q.2.1, fin _ F H _ (New.refl w.sub) (.bl _) q.2.2⟩
theorem d_ne : DOp X (rNeD X.K) dNe := by
  intro W F H n x y a b Q R hK w ra rb q fin
  exact ⟨_, _, hK ▸ rb_dp w.sub q.1 ra, hK ▸ rb_dp w.sub q.2.1 rb, pl_shaped (by decide) q.1, pl_shaped (by decide) q.2.1, fin _ F H _ (New.refl w.sub) (.bl _) q.2.2⟩
/-- x in a list, in a tuple -/
def rInT (K : PySem.W.Frag) : R2 := fun x y H Q => ∃ d ds, Dp K H x d ∧ Dp K H y (.tuple ds) ∧ SeqAt.shaped d = true ∧ SeqAt.shaped (.tuple ds) = true ∧ Q (.bl (ds.any fun z => PyData.eqv z d)) H
def rNotInT (K : PySem.W.Frag) : R2 := fun x y H Q => ∃ d ds, Dp K H x d ∧ Dp K H y (.tuple ds) ∧ SeqAt.shaped d = true ∧ SeqAt.shaped (.tuple ds) = true ∧ Q (.bl (!ds.any fun z => PyData.eqv z d)) H
theorem o_inT (hu : X.A.units + 65 < cLine) : OpR X (compareOp .In) (rInT X.K) := by
  rintro pins s σ H x y v u Q I rx ry ⟨d, ds, hd, he, sd, se, q⟩
  obtain ⟨as, r1⟩ := Dp.reads I d x v hd rx
  obtain ⟨bs, r2⟩ := Dp.reads I (.tuple ds) y u he ry
  exact SeqAt.in_tuple_reads r2 r1 (SeqAt.canLay_of_shaped se) (SeqAt.canLay_of_shaped sd) (room_in_shaped sd hu) ⟨.bl _, H, I, rfl, q⟩
theorem o_notInT (hu : X.A.units + 65 < cLine) : OpR X (compareOp .NotIn) (rNotInT X.K) := by
  rintro pins s σ H x y v u Q I rx ry ⟨d, ds, hd, he, sd, se, q⟩
  obtain ⟨as, r1⟩ := Dp.reads I d x v hd rx
  obtain ⟨bs, r2⟩ := Dp.reads I (.tuple ds) y u he ry
  exact SeqAt.notIn_tuple_reads r2 r1 (SeqAt.canLay_of_shaped se) (SeqAt.canLay_of_shaped sd) (room_in_shaped sd hu) ⟨.bl _, H, I, rfl, q⟩
def rInA (K : PySem.W.Frag) : R2 := fun x y H Q => rInD K x y H Q ∨ rIn K false x y H Q ∨ rInT K x y H Q
def rNotInA (K : PySem.W.Frag) : R2 := fun x y H Q => rNotInD K x y H Q ∨ rIn K true x y H Q ∨ rNotInT K x y H Q
theorem o_in (hu : X.A.units + 65 < cLine) : OpR X (compareOp .In) (rInA X.K) := (op_inD hu).or (op_in_seq.or (o_inT hu))
theorem o_notIn (hu : X.A.units + 65 < cLine) : OpR X (compareOp .NotIn) (rNotInA X.K) := (op_notInD hu).or (op_notIn_seq.or (o_notInT hu))
/-- data that are compared at once -/
def D.flat : D → Bool
  | .non => true
  | .bl _ => true
  | .int _ => true
  | .str _ => true
  | _ => false
def D.v : D → V
  | .non => .non
  | .bl b => .bl b
  | .int i => .int i
  | .str x => .str x
  | _ => .non
theorem flat_v {W : Wd} {F H : Hp} {x : V} {a : D} (r : RB W F H x a) (h : a.flat = true) : x = a.v ∧ flatV x = true := by
  rcases r with h' | ⟨p, vs, es, e1, e2, e3, e4, e5⟩
  · cases h' <;> first | exact ⟨rfl, rfl⟩ | cases h
  · subst e2; cases h
theorem flats_v {K : PySem.W.Frag} {pa : Option Pn} {F : Hp} : ∀ {vs : List V} {ds : List D}, Reps K pa F vs ds → ds.all D.flat = true → vs = ds.map D.v ∧ vs.all flatV = true
  | _, _, .nil, _ => ⟨rfl, rfl⟩
  | _, _, .cons h r, e => by
    rw [List.all_cons, Bool.and_eq_true] at e
    obtain ⟨e1, e2⟩ := flats_v r e.2
    obtain ⟨e3, e4⟩ := flat_v (W := ⟨K, pa, F, F⟩) (H := F) (.inl h) e.1
    exact ⟨by rw [e1, e3, List.map_cons], by rw [List.all_cons, e4, e2]; rfl⟩
def D.isIn (a : D) (ds : List D) : Bool := ds.any fun z => D.eqb z a
def dIn : D2 := fun a b Q => match b with
  | .lst ds => D.pl 8 a ∧ D.pl 8 (.lst ds) ∧ Q (.bl (D.isIn a ds))
  | .tup ds => if (a.flat && ds.all D.flat) = true then Q (.bl (inV a.v (ds.map D.v))) else D.pl 8 a ∧ D.pl 8 (.tup ds) ∧ Q (.bl (D.isIn a ds))
  | _ => False
def dNotIn : D2 := fun a b Q => match b with
  | .lst ds => D.pl 8 a ∧ D.pl 8 (.lst ds) ∧ Q (.bl (!D.isIn a ds))
  | .tup ds => if (a.flat && ds.all D.flat) = true then Q (.bl (!inV a.v (ds.map D.v))) else D.pl 8 a ∧ D.pl 8 (.tup ds) ∧ Q (.bl (!D.isIn a ds))
  | _ => False
theorem any_pys (a : D) : ∀ ds : List D, ((D.pys ds).any fun z => PyData.eqv z a.py) = D.isIn a ds
  | [] => rfl
  | d :: ds => by
    have h := any_pys a ds
    unfold D.isIn at h ⊢
    simp only [D.pys, List.any_cons, h]
    rfl
theorem d_in : DOp X (rInA X.K) dIn := by
  intro W F H n x y a b Q R hK w ra rb q fin
  cases b <;> try exact False.elim q
  case lst ds =>
    have hb : Dp X.K H y (D.lst ds).py := hK ▸ rb_dp w.sub q.2.1 rb
    have sb : SeqAt.shaped (D.lst ds).py = true := pl_shaped (by decide) q.2.1
    simp only [D.py] at hb sb
    refine .inl ⟨_, _, hK ▸ rb_dp w.sub q.1 ra, hb, pl_shaped (by decide) q.1, sb, fin _ F H _ (New.refl w.sub) (.bl _) ?_⟩
    rw [any_pys]; exact q.2.2
  case tup ds =>
    have q : if (a.flat && ds.all D.flat) = true then Q (.bl (inV a.v (ds.map D.v))) else D.pl 8 a ∧ D.pl 8 (.tup ds) ∧ Q (.bl (D.isIn a ds)) := q
    by_cases z : (a.flat && ds.all D.flat) = true
    · rw [if_pos z] at q
      rw [Bool.and_eq_true] at z
      obtain ⟨p, vs, rfl, h1, _, h2⟩ := rb.tup w.sub
      obtain ⟨e1, e2⟩ := flat_v ra z.1
      obtain ⟨e3, e4⟩ := flats_v h2 z.2
      refine .inr (.inl ⟨p, vs, rfl, .inr (hK ▸ h1), e2, e4, fin _ F H _ (New.refl w.sub) (.bl _) ?_⟩)
      rw [e1, e3]; exact q
    · rw [if_neg z] at q
      have hb : Dp X.K H y (D.tup ds).py := hK ▸ rb_dp w.sub q.2.1 rb
      have sb : SeqAt.shaped (D.tup ds).py = true := pl_shaped (by decide) q.2.1
      simp only [D.py] at hb sb
      refine .inr (.inr ⟨_, _, hK ▸ rb_dp w.sub q.1 ra, hb, pl_shaped (by decide) q.1, sb, fin _ F H _ (New.refl w.sub) (.bl _) ?_⟩)
      rw [any_pys]; exact q.2.2
theorem d_notIn : DOp X (rNotInA X.K) dNotIn := by
  intro W F H n x y a b Q R hK w ra rb q fin
  cases b <;> try exact False.elim q
  case lst ds =>
    have hb : Dp X.K H y (D.lst ds).py := hK ▸ rb_dp w.sub q.2.1 rb
    have sb : SeqAt.shaped (D.lst ds).py = true := pl_shaped (by decide) q.2.1
    simp only [D.py] at hb sb
    refine .inl ⟨_, _, hK ▸ rb_dp w.sub q.1 ra, hb, pl_shaped (by decide) q.1, sb, fin _ F H _ (New.refl w.sub) (.bl _) ?_⟩
    rw [any_pys]; exact q.2.2
  case tup ds =>
    have q : if (a.flat && ds.all D.flat) = true then Q (.bl (!inV a.v (ds.map D.v))) else D.pl 8 a ∧ D.pl 8 (.tup ds) ∧ Q (.bl (!D.isIn a ds)) := q
    by_cases z : (a.flat && ds.all D.flat) = true
    · rw [if_pos z] at q
      rw [Bool.and_eq_true] at z
      obtain ⟨p, vs, rfl, h1, _, h2⟩ := rb.tup w.sub
      obtain ⟨e1, e2⟩ := flat_v ra z.1
      obtain ⟨e3, e4⟩ := flats_v h2 z.2
      refine .inr (.inl ⟨p, vs, rfl, .inr (hK ▸ h1), e2, e4, fin _ F H _ (New.refl w.sub) (.bl _) ?_⟩)
      rw [e1, e3]; exact q
    · rw [if_neg z] at q
      have hb : Dp X.K H y (D.tup ds).py := hK ▸ rb_dp w.sub q.2.1 rb
      have sb : SeqAt.shaped (D.tup ds).py = true := pl_shaped (by decide) q.2.1
      simp only [D.py] at hb sb
      refine .inr (.inr ⟨_, _, hK ▸ rb_dp w.sub q.1 ra, hb, pl_shaped (by decide) q.1, sb, fin _ F H _ (New.refl w.sub) (.bl _) ?_⟩)
      rw [any_pys]; exact q.2.2
/-! ### subscripts, slices -/
def dIx : D2 := fun a b Q => match a, b with
  | .lst ds, .int i => match atI ds i with
    | some d => Q d
    | none => False
  | .tup ds, .int i => match atI ds i with
    | some d => Q d
    | none => False
  | .str z, .int i => z.length ≤ 1000000 ∧ match atI z.cps.toList i with
    | some c => Q (.str ⟨#[c]⟩)
    | none => False
  | _, _ => False
theorem reps_atI {K : PySem.W.Frag} {pa : Option Pn} {F : Hp} {vs : List V} {ds : List D} {i : Int} {d : D} (r : Reps K pa F vs ds) (h : atI ds i = some d) : ∃ v, atI vs i = some v ∧ Rep K pa F v d := by
  unfold atI at h ⊢
  rw [r.length]
  cases e : ixN ds.length i with
  | none => rw [e] at h; cases h
  | some j => rw [e] at h; exact r.getD h
theorem d_ix : DOp X (rIx X.K) dIx := by
  intro W F H n x y a b Q R hK w ra rb q fin
  cases a <;> cases b <;> try exact False.elim q
  case lst.int ds i =>
    obtain ⟨p, vs, rfl, h1, h2⟩ := ra.lst w.sub
    have q : (match atI ds i with | some d => Q d | none => False) := q
    cases e : atI ds i with
    | none => rw [e] at q; exact q.elim
    | some d =>
      rw [e] at q
      obtain ⟨v, hv, r⟩ := reps_atI h2 e
      exact .inl ⟨p, vs, i, v, rfl, rb.int, SqL.of h1, hv, fin _ F H _ (New.refl w.sub) r q⟩
  case tup.int ds i =>
    obtain ⟨p, vs, rfl, h1, _, h2⟩ := ra.tup w.sub
    have q : (match atI ds i with | some d => Q d | none => False) := q
    cases e : atI ds i with
    | none => rw [e] at q; exact q.elim
    | some d =>
      rw [e] at q
      obtain ⟨v, hv, r⟩ := reps_atI h2 e
      exact .inr (.inl ⟨p, vs, i, v, rfl, rb.int, hK ▸ h1, hv, fin _ F H _ (New.refl w.sub) r q⟩)
  case str.int z i =>
    obtain ⟨q1, q⟩ := q
    cases e : atI z.cps.toList i with
    | none => rw [e] at q; exact q.elim
    | some c =>
      rw [e] at q
      exact .inr (.inr ⟨z, i, c, ra.str, rb.int, big_ok q1, e, fin _ F H _ (New.refl w.sub) (.str _) q⟩)
theorem de_ix {a b : Expr} {ta tb : TE} {ka kb : KE} {pos : Pos} (ha : DB X a ta ka) (hb : DB X b tb kb) (hs : PlainIx b := by intro _ _; rfl) : DE X (.Subscript a b pos) (tOp (rIx X.K) ta tb) (kBin dIx ka kb) :=
  ⟨pe_ix ix_seq ha.pe hb.pe hs, bin_ok d_ix ha.ok hb.ok⟩
/-- a slice of a list of data -/
def cutD {α : Type} (xs : List α) (lo hi : Option Int) : List α := (xs.drop (HT.sIx xs.length 0 lo)).take (HT.sIx xs.length xs.length hi - HT.sIx xs.length 0 lo)
abbrev KO := List Sl → Nat → (Option Int → List Sl → Nat → Prop) → Prop
structure DO (X : Cx) (e : Option Expr) (t : TO) (k : KO) : Prop where
  pe : PO X e t
  ok : ∀ (W : Wd) (F : Hp) (n : Nat) (S : List Sl) (σ : St) (H : Hp) (Q : Option Int → List Sl → Nat → Prop) (R : Option Int → Hp → Prop), W.K = X.K → Abs W F n S σ H → k S n Q →
    (∀ o H' F' n' S', Grow W S σ F H F' H' S' → Abs W F' n' S' σ H' → Q o S' n' → R o H') → t σ H R
def kNoPart : KO := fun S n Q => Q none S n
def kPart (k : KE) : KO := fun S n Q => k S n fun d S1 n1 => match d with
  | .int i => Q (some i) S1 n1
  | _ => False
theorem do_none : DO X none tNoPart kNoPart := ⟨po_none, fun W F n S σ H Q R hK A q fin => fin none H F n S .refl A q⟩
theorem do_some {e : Expr} {t : TE} {k : KE} (h : DE X e t k) : DO X (some e) (tPart t) (kPart k) := by
  refine ⟨po_some h.pe, fun W F n S σ H Q R hK A q fin => ?_⟩
  refine h.ok W F n S σ H _ _ hK A q fun v H1 F1 n1 S1 d g A1 r q1 => ?_
  cases d <;> try exact False.elim q1
  case int i => cases r; exact ⟨i, rfl, fin _ H1 F1 n1 S1 g A1 q1⟩
def kSl (k : KE) (kl kh : KO) : KE := fun S n Q => k S n fun d S1 n1 => kl S1 n1 fun l S2 n2 => kh S2 n2 fun h S3 n3 => match d with
  | .lst ds => Q (.lst (cutD ds l h)) S3 n3
  | .tup ds => Q (.tup (cutD ds l h)) S3 n3
  | _ => False
def rSlBoth (K : PySem.W.Frag) : V → Option Int → Option Int → Hp → VK → Prop := fun x lo hi H Q => rSlL K x lo hi H Q ∨ rSlA K x lo hi H Q
theorem reps_cut {K : PySem.W.Frag} {pa : Option Pn} {F : Hp} {vs : List V} {ds : List D} (r : Reps K pa F vs ds) (lo hi : Option Int) : Reps K pa F (cutV vs lo hi) (cutD ds lo hi) := by
  unfold cutV cutD
  rw [r.length]
  exact Reps.take _ (Reps.drop _ r)
theorem de_slice {e : Expr} {lo hi : Option Expr} {t : TE} {tl th : TO} {k : KE} {kl kh : KO} {pos p2 : Pos} (he : DB X e t k) (hl : DO X lo tl kl) (hh : DO X hi th kh) : DE X (.Subscript e (.Slice lo hi none p2) pos) (tSl (rSlBoth X.K) t tl th) (kSl k kl kh) := by
  refine ⟨pe_slice (sl_list.or sl_tupA) he.pe hl.pe hh.pe, fun W F n S σ H Q R hK A q fin => ?_⟩
  refine he.ok W F n S σ H _ _ hK A q fun v H1 F1 n1 S1 d g1 A1 r1 q1 => ?_
  refine hl.ok W F1 n1 S1 σ H1 _ _ hK A1 q1 fun l H2 F2 n2 S2 g2 A2 q2 => ?_
  refine hh.ok W F2 n2 S2 σ H2 _ _ hK A2 q2 fun h H3 F3 n3 S3 g3 A3 q3 => ?_
  have r3 := (r1.grow g2).grow g3
  cases d <;> try exact False.elim q3
  case lst ds =>
    obtain ⟨p, vs, rfl, h1, h2⟩ := r3.lst A3.w.sub
    refine .inl ⟨p, vs, rfl, SqL.of h1, fun c hc => ?_⟩
    obtain ⟨g, r⟩ := new_lst A3.w hc (reps_cut h2 l h)
    exact fin _ _ _ n3 S3 _ (((g1.trans g2).trans g3).trans g.grow) (A3.new g) r q3
  case tup ds =>
    obtain ⟨p, vs, rfl, h1, h0, h2⟩ := r3.tup A3.w.sub
    refine .inr ⟨p, vs, rfl, hK ▸ h1, fun hw => ?_, fun _ c hc => ?_⟩
    · have e : cutD ds l h = ds := by
        unfold cutD
        rw [← h2.length, hw.1, hw.2, Nat.sub_zero, List.drop_zero, h2.length, List.take_length]
      have q3 : Q (.tup (cutD ds l h)) S3 n3 := q3
      rw [e] at q3
      exact fin _ H3 F3 n3 S3 _ ((g1.trans g2).trans g3) A3 (.tup h0 h2) q3
    · obtain ⟨g, r⟩ := new_tup A3.w hc (reps_cut h2 l h)
      exact fin _ _ _ n3 S3 _ (((g1.trans g2).trans g3).trans g.grow) (A3.new g) r q3
end
end DL
namespace DL
open PySem PySem.Spec PyProof.Rows L2
section
variable {X : Cx}
/-! ### built-ins by their names -/
inductive RBs (W : Wd) (F H : Hp) : List V → List D → Prop
  | nil : RBs W F H [] []
  | cons {v : V} {vs : List V} {d : D} {ds : List D} : RB W F H v d → RBs W F H vs ds → RBs W F H (v :: vs) (d :: ds)
structure DAb (X : Cx) (es : List Expr) (t : TA) (k : KA) : Prop where
  pe : PA X es t
  ok : ∀ (W : Wd) (F : Hp) (n : Nat) (S : List Sl) (σ : St) (H : Hp) (Q : List D → List Sl → Nat → Prop) (R : List V → Hp → Prop), W.K = X.K → Abs W F n S σ H → k S n Q →
    (∀ vs H' F' n' S' ds, Grow W S σ F H F' H' S' → Abs W F' n' S' σ H' → RBs W F' H' vs ds → Q ds S' n' → R vs H') → t σ H R
theorem dab_nil : DAb X [] tNil kNil := ⟨pa_nil, fun W F n S σ H Q R hK A q fin => fin [] H F n S [] .refl A .nil q⟩
theorem dab_cons {e : Expr} {es : List Expr} {t : TE} {ts : TA} {k : KE} {ks : KA} (h : DB X e t k) (hs : DAb X es ts ks) (hst : starEach (e :: es) X.env = (false, eval e X.env) :: starEach es X.env := by rfl) : DAb X (e :: es) (tCons t ts) (kCons k ks) := by
  refine ⟨pa_cons h.pe hs.pe hst, fun W F n S σ H Q R hK A q fin => ?_⟩
  refine h.ok W F n S σ H _ _ hK A q fun v H1 F1 n1 S1 d g1 A1 r q1 => ?_
  refine hs.ok W F1 n1 S1 σ H1 _ _ hK A1 q1 fun vs H2 F2 n2 S2 ds g2 A2 r2 q2 => ?_
  exact fin _ H2 F2 n2 S2 _ (g1.trans g2) A2 (.cons (r.grow g2) r2) q2
/-- a built-in by values -/
def DCall (X : Cx) (r : List V → Hp → VK → Prop) (op : List D → (D → Prop) → Prop) : Prop :=
  ∀ (W : Wd) (F H : Hp) (n : Nat) (vs : List V) (ds : List D) (Q : D → Prop) (R : VK), W.K = X.K → Wok W F H n → RBs W F H vs ds → op ds Q →
    (∀ v F' H' d, New W F H F' H' → Rep W.K W.pa F' v d → Q d → R v H') → r vs H R
def kCall (op : List D → (D → Prop) → Prop) (ks : KA) : KE := fun S n Q => ks S n fun ds S1 n1 => op ds fun d => Q d S1 n1
theorem de_of {r : List V → Hp → VK → Prop} {op : List D → (D → Prop) → Prop} {e : Expr} {es : List Expr} {t : TA} {ks : KA} (hd : DCall X r op) (h : DAb X es t ks) (hp : PA X es t → PE X e (tCB r t)) : DE X e (tCB r t) (kCall op ks) := by
  refine ⟨hp h.pe, fun W F n S σ H Q R hK A q fin => ?_⟩
  refine h.ok W F n S σ H _ _ hK A q fun vs H1 F1 n1 S1 ds g1 A1 r1 q1 => ?_
  refine hd W F1 H1 n1 vs ds _ _ hK A1.w r1 q1 fun v F3 H3 d g3 r3 q3 => ?_
  exact fin v H3 F3 n1 S1 d (g1.trans g3.grow) (A1.new g3) r3 q3
/-- by the built-in's name -/
theorem de_blt {r : List V → Hp → VK → Prop} {op : List D → (D → Prop) → Prop} {x : Str} {id : String} {e : Expr} {es : List Expr} {t : TA} {ks : KA} {p pos : Pos} (hc : CallR X (.builtin id) r) (hd : DCall X r op) (hm : X.mg x = none) (h : DAb X (e :: es) t ks)
    (hp : CallR X (.builtin id) r → X.mg x = none → PA X (e :: es) t → PE X (.Call (.Name x p) (e :: es) [] pos) (tCB r t) := by intro a b c; exact pe_callB a (by exact rfl) b (by decide +kernel) c) : DE X (.Call (.Name x p) (e :: es) [] pos) (tCB r t) (kCall op ks) := de_of hd h (hp hc hm)
theorem de_bty {r : List V → Hp → VK → Prop} {op : List D → (D → Prop) → Prop} {x : Str} {T : String} {e : Expr} {es : List Expr} {t : TA} {ks : KA} {p pos : Pos} (hc : CallR X (.type T) r) (hd : DCall X r op) (hm : X.mg x = none) (h : DAb X (e :: es) t ks)
    (hp : CallR X (.type T) r → X.mg x = none → PA X (e :: es) t → PE X (.Call (.Name x p) (e :: es) [] pos) (tCB r t) := by intro a b c; exact pe_callTy a (by exact rfl) b (by decide +kernel) c) : DE X (.Call (.Name x p) (e :: es) [] pos) (tCB r t) (kCall op ks) := de_of hd h (hp hc hm)
theorem callR_or {f : Value} {r r' : List V → Hp → VK → Prop} (h : CallR X f r) (h' : CallR X f r') : CallR X f (fun xs H Q => r xs H Q ∨ r' xs H Q) := by
  intro pins s σ H xs us Q I rv q
  rcases q with q | q
  · exact h pins s σ H xs us Q I rv q
  · exact h' pins s σ H xs us Q I rv q
def bLen : List D → (D → Prop) → Prop := fun ds Q => match ds with
  | [.lst xs] => Q (.int xs.length)
  | [.tup xs] => Q (.int xs.length)
  | [.str x] => x.length ≤ 1000000 ∧ Q (.int x.length)
  | _ => False
def rLenA (K : PySem.W.Frag) : List V → Hp → VK → Prop := fun xs H Q => (∃ p ys, xs = [V.ref p] ∧ (SqL K H p ys ∨ SqT K H p ys) ∧ Q (.int ys.length) H) ∨ (∃ x n, xs = [x] ∧ LenV K x H n ∧ Q (.int n) H)
theorem c_len : CallR X (.builtin "len") (rLenA X.K) := callR_or call_len_seq call_len
theorem d_len : DCall X (rLenA X.K) bLen := by
  intro W F H n vs ds Q R hK w r q fin
  cases r with
  | nil => exact False.elim q
  | cons r1 r2 =>
    rename_i v vs d ds
    cases r2 with
    | cons _ _ => cases d <;> exact False.elim q
    | nil =>
      cases d <;> try exact False.elim q
      case lst xs =>
        obtain ⟨p, ws, rfl, h1, h2⟩ := r1.lst w.sub
        exact .inl ⟨p, ws, rfl, .inl (SqL.of h1), fin _ F H _ (New.refl w.sub) (.int _) (by rw [h2.length]; exact q)⟩
      case tup xs =>
        obtain ⟨p, ws, rfl, h1, _, h2⟩ := r1.tup w.sub
        exact .inl ⟨p, ws, rfl, .inr (hK ▸ h1), fin _ F H _ (New.refl w.sub) (.int _) (by rw [h2.length]; exact q)⟩
      case str x =>
        refine .inr ⟨v, x.length, rfl, ?_, fin _ F H _ (New.refl w.sub) (.int _) q.2⟩
        rw [r1.str]
        exact ⟨big_ok q.1, rfl⟩
def bInt : List D → (D → Prop) → Prop := fun ds Q => match ds with
  | [.int i] => Q (.int i)
  | [.bl b] => Q (.int (if b then 1 else 0))
  | _ => False
theorem rb1 {W : Wd} {F H : Hp} {vs : List V} {d : D} (r : RBs W F H vs [d]) : ∃ v, vs = [v] ∧ RB W F H v d := by
  cases r with
  | cons r1 r2 => cases r2; exact ⟨_, rfl, r1⟩
theorem rb2 {W : Wd} {F H : Hp} {vs : List V} {d e : D} (r : RBs W F H vs [d, e]) : ∃ v u, vs = [v, u] ∧ RB W F H v d ∧ RB W F H u e := by
  cases r with
  | cons r1 r2 =>
    obtain ⟨u, rfl, h⟩ := rb1 r2
    exact ⟨_, _, rfl, r1, h⟩
theorem d_toInt : DCall X (fun xs H Q => (∃ i, xs = [.int i] ∧ Q (.int i) H) ∨ ∃ k, xs = [.bl k] ∧ Q (.int (if k then 1 else 0)) H) bInt := by
  intro W F H n vs ds Q R hK w r q fin
  match ds, r, q with
  | [.int i], r, q =>
    obtain ⟨v, rfl, rx⟩ := rb1 r
    exact .inl ⟨i, by rw [rx.int], fin _ F H _ (New.refl w.sub) (.int _) q⟩
  | [.bl b], r, q =>
    obtain ⟨v, rfl, rx⟩ := rb1 r
    exact .inr ⟨b, by rw [rx.bl], fin _ F H _ (New.refl w.sub) (.int _) q⟩
def bAbs : List D → (D → Prop) → Prop := fun ds Q => match ds with
  | [.int i] => Q (.int (if i < 0 then -i else i))
  | _ => False
theorem d_abs : DCall X (fun xs H Q => ∃ i, xs = [.int i] ∧ Q (.int (if i < 0 then -i else i)) H) bAbs := by
  intro W F H n vs ds Q R hK w r q fin
  match ds, r, q with
  | [.int i], r, q =>
    obtain ⟨v, rfl, rx⟩ := rb1 r
    exact ⟨i, by rw [rx.int], fin _ F H _ (New.refl w.sub) (.int _) q⟩
def bTuple : List D → (D → Prop) → Prop := fun ds Q => match ds with
  | [.lst xs] => Q (.tup xs)
  | [.tup xs] => Q (.tup xs)
  | _ => False
theorem d_tuple : DCall X (fun xs H Q => ∃ p ys, xs = [.ref p] ∧ ((SqL X.K H p ys ∧ ∀ l, H l = none → Q (.ref l) (upd H l (.tup ys))) ∨ (SqT X.K H p ys ∧ Q (.ref p) H))) bTuple := by
  intro W F H n vs ds Q R hK w r q fin
  match ds, r, q with
  | [.lst xs], r, q =>
    obtain ⟨v, rfl, rx⟩ := rb1 r
    obtain ⟨p, ws, rfl, h1, h2⟩ := rx.lst w.sub
    refine ⟨p, ws, rfl, .inl ⟨SqL.of h1, fun c hc => ?_⟩⟩
    obtain ⟨g, r⟩ := new_tup w hc h2
    exact fin _ _ _ _ g r q
  | [.tup xs], r, q =>
    obtain ⟨v, rfl, rx⟩ := rb1 r
    obtain ⟨p, ws, rfl, h1, h0, h2⟩ := rx.tup w.sub
    exact ⟨p, ws, rfl, .inr ⟨hK ▸ h1, fin _ F H _ (New.refl w.sub) (.tup h0 h2) q⟩⟩
def bList : List D → (D → Prop) → Prop := fun ds Q => match ds with
  | [.lst xs] => Q (.lst xs)
  | [.tup xs] => Q (.lst xs)
  | _ => False
theorem d_list : DCall X (fun xs H Q => ∃ p ys, xs = [.ref p] ∧ (SqL X.K H p ys ∨ SqT X.K H p ys) ∧ ∀ l, H l = none → Q (.ref l) (upd H l (.lst ys))) bList := by
  intro W F H n vs ds Q R hK w r q fin
  match ds, r, q with
  | [.lst xs], r, q =>
    obtain ⟨v, rfl, rx⟩ := rb1 r
    obtain ⟨p, ws, rfl, h1, h2⟩ := rx.lst w.sub
    refine ⟨p, ws, rfl, .inl (SqL.of h1), fun c hc => ?_⟩
    obtain ⟨g, r⟩ := new_lst w hc h2
    exact fin _ _ _ _ g r q
  | [.tup xs], r, q =>
    obtain ⟨v, rfl, rx⟩ := rb1 r
    obtain ⟨p, ws, rfl, h1, h0, h2⟩ := rx.tup w.sub
    refine ⟨p, ws, rfl, .inr (hK ▸ h1), fun c hc => ?_⟩
    obtain ⟨g, r⟩ := new_lst w hc h2
    exact fin _ _ _ _ g r q
/-- bools, ints of a list of data -/
def D.bls : List D → Option (List Bool)
  | [] => some []
  | .bl b :: ds => match D.bls ds with
    | some bs => some (b :: bs)
    | none => none
  | _ => none
def D.ints : List D → Option (List Int)
  | [] => some []
  | .int b :: ds => match D.ints ds with
    | some bs => some (b :: bs)
    | none => none
  | _ => none
theorem bls_v {K : PySem.W.Frag} {pa : Option Pn} {F : Hp} : ∀ {vs : List V} {ds : List D} {bs : List Bool}, Reps K pa F vs ds → D.bls ds = some bs → vs = bs.map V.bl
  | _, [], bs, .nil, e => by cases e; rfl
  | _, d :: ds, bs, .cons h r, e => by
    cases d <;> try (simp [D.bls] at e; done)
    case bl b =>
      unfold D.bls at e
      cases q : D.bls ds with
      | none => rw [q] at e; cases e
      | some cs =>
        rw [q] at e
        cases e
        cases h
        rw [bls_v r q, List.map_cons]
theorem ints_v {K : PySem.W.Frag} {pa : Option Pn} {F : Hp} : ∀ {vs : List V} {ds : List D} {bs : List Int}, Reps K pa F vs ds → D.ints ds = some bs → vs = bs.map V.int
  | _, [], bs, .nil, e => by cases e; rfl
  | _, d :: ds, bs, .cons h r, e => by
    cases d <;> try (simp [D.ints] at e; done)
    case int b =>
      unfold D.ints at e
      cases q : D.ints ds with
      | none => rw [q] at e; cases e
      | some cs =>
        rw [q] at e
        cases e
        cases h
        rw [ints_v r q, List.map_cons]
theorem bls_map : ∀ bs : List Bool, D.bls (bs.map D.bl) = some bs
  | [] => rfl
  | b :: bs => by rw [List.map_cons]; unfold D.bls; rw [bls_map bs]
theorem ints_map : ∀ bs : List Int, D.ints (bs.map D.int) = some bs
  | [] => rfl
  | b :: bs => by rw [List.map_cons]; unfold D.ints; rw [ints_map bs]
def bAny : List D → (D → Prop) → Prop := fun ds Q => match ds with
  | [.lst xs] => match D.bls xs with
    | some bs => Q (.bl (bs.any id))
    | none => False
  | _ => False
def bAll : List D → (D → Prop) → Prop := fun ds Q => match ds with
  | [.lst xs] => match D.bls xs with
    | some bs => Q (.bl (bs.all id))
    | none => False
  | _ => False
def bSum : List D → (D → Prop) → Prop := fun ds Q => match ds with
  | [.lst xs] => match D.ints xs with
    | some bs => Q (.int bs.sum)
    | none => False
  | _ => False
theorem d_any : DCall X (rAny X.K) bAny := by
  intro W F H n vs ds Q R hK w r q fin
  match ds, r, q with
  | [.lst xs], r, q =>
    obtain ⟨v, rfl, rx⟩ := rb1 r
    obtain ⟨p, ws, rfl, h1, h2⟩ := rx.lst w.sub
    have q : (match D.bls xs with | some bs => Q (.bl (bs.any id)) | none => False) := q
    cases e : D.bls xs with
    | none => rw [e] at q; exact q.elim
    | some bs =>
      rw [e] at q
      exact ⟨p, bs, rfl, by rw [← bls_v h2 e]; exact SqL.of h1, fin _ F H _ (New.refl w.sub) (.bl _) q⟩
theorem d_all : DCall X (rAll X.K) bAll := by
  intro W F H n vs ds Q R hK w r q fin
  match ds, r, q with
  | [.lst xs], r, q =>
    obtain ⟨v, rfl, rx⟩ := rb1 r
    obtain ⟨p, ws, rfl, h1, h2⟩ := rx.lst w.sub
    have q : (match D.bls xs with | some bs => Q (.bl (bs.all id)) | none => False) := q
    cases e : D.bls xs with
    | none => rw [e] at q; exact q.elim
    | some bs =>
      rw [e] at q
      exact ⟨p, bs, rfl, by rw [← bls_v h2 e]; exact SqL.of h1, fin _ F H _ (New.refl w.sub) (.bl _) q⟩
theorem d_sum : DCall X (rSum X.K) bSum := by
  intro W F H n vs ds Q R hK w r q fin
  match ds, r, q with
  | [.lst xs], r, q =>
    obtain ⟨v, rfl, rx⟩ := rb1 r
    obtain ⟨p, ws, rfl, h1, h2⟩ := rx.lst w.sub
    have q : (match D.ints xs with | some bs => Q (.int bs.sum) | none => False) := q
    cases e : D.ints xs with
    | none => rw [e] at q; exact q.elim
    | some bs =>
      rw [e] at q
      exact ⟨p, bs, rfl, by rw [← ints_v h2 e]; exact SqL.of h1, fin _ F H _ (New.refl w.sub) (.int _) q⟩
/-! ### isinstance -/
def D.tyn : D → String
  | .non => "NoneType"
  | .bl _ => "bool"
  | .int _ => "int"
  | .str _ => "str"
  | .tup _ => "tuple"
  | .lst _ => "list"
  | _ => ""
theorem rb_ty {W : Wd} {F H : Hp} {x : V} {a : D} (w : Same F H) (r : RB W F H x a) (h : a.tyn ≠ "") : TyX W.K H x (.type a.tyn) := by
  rcases r with r | ⟨p, vs, ds, rfl, rfl, _, h4, _⟩
  · cases r with
    | non => exact .base .non
    | bl b => exact .base (.bl b)
    | int b => exact .base (.int b)
    | str b => exact .base (.str b)
    | tup q r =>
      rcases same_sqT w q with (q | ⟨o, q⟩) | ⟨o, its, k, q1, q2, q3⟩
      · exact .base (.tup q)
      · exact .fTuple q
      · exact .kTuple q1 q2
    | lst q r => exact .base (.lst (w _ _ q))
    | ty n => exact (h rfl).elim
    | ref a => exact (h rfl).elim
    | ins _ _ _ => exact (h rfl).elim
    | pen _ => exact (h rfl).elim
  · exact .base (.lst h4)
/-- isinstance(x, T), T a built-in class -/
def bIsi : List D → (D → Prop) → Prop := fun ds Q => match ds with
  | [a, .ty T] => a.tyn ≠ "" ∧ match kitB a.tyn T with
    | some b => Q (.bl b)
    | none => False
  | _ => False
theorem d_isi : DCall X (rIsi X.K) bIsi := by
  intro W F H n vs ds Q R hK w r q fin
  match ds, r, q with
  | [a, .ty T], r, q =>
    obtain ⟨v, u, rfl, r1, r2⟩ := rb2 r
    obtain ⟨q1, q⟩ := q
    have hu : u = .ty T := by
      rcases r2 with r2 | ⟨p, vs, es, e1, e2, e3, e4, e5⟩
      · cases r2; rfl
      · cases e2
    cases e : kitB a.tyn T with
    | none => rw [e] at q; exact q.elim
    | some b =>
      rw [e] at q
      exact ⟨v, u, _, _, b, rfl, hu ▸ .ty T, hK ▸ rb_ty w.sub r1 q1, kit_ty e, fin _ F H _ (New.refl w.sub) (.bl _) q⟩
/-- the same by a display of two classes -/
def kIsi2 (k : KE) (T U : String) : KE := fun S n Q => k S n fun a S1 n1 => a.tyn ≠ "" ∧ match kitB a.tyn T, kitB a.tyn U with
  | some b, some c => Q (.bl (b || c)) S1 n1
  | _, _ => False
theorem de_isi2 {e e1 e2 : Expr} {T U : String} {t : TE} {k : KE} {kk : Nat} {p tpos pos : Pos} (hm : X.mg "isinstance" = none) (h : DB X e t k) (h1 : PE X e1 (tC (.ty T))) (h2 : PE X e2 (tC (.ty U)))
    (hs : starEach [e, .Tuple [e1, e2] kk tpos] X.env = (false, eval e X.env) :: starEach [.Tuple [e1, e2] kk tpos] X.env := by rfl)
    (hs1 : starEach [e1, e2] X.env = (false, eval e1 X.env) :: starEach [e2] X.env := by rfl) (hs2 : starEach [e2] X.env = (false, eval e2 X.env) :: starEach [] X.env := by rfl)
    (hp : ∀ {t}, X.mg "isinstance" = none → PA X [e, .Tuple [e1, e2] kk tpos] t → PE X (.Call (.Name "isinstance" p) [e, .Tuple [e1, e2] kk tpos] [] pos) (tCB (rIsiT X.K) t) := by intro _ b c; exact pe_callB call_isiT (by exact rfl) b (by decide +kernel) c) :
    DE X (.Call (.Name "isinstance" p) [e, .Tuple [e1, e2] kk tpos] [] pos) (tCB (rIsiT X.K) (tCons t (tCons (tTup (tCons (tC (.ty T)) (tCons (tC (.ty U)) tNil))) tNil))) (kIsi2 k T U) := by
  refine ⟨hp hm (pa_cons h.pe (pa_cons (pe_tup (pa_cons h1 (pa_cons h2 pa_nil hs2) hs1)) pa_nil) hs), fun W F n S σ H Q R hK A q fin => ?_⟩
  refine h.ok W F n S σ H _ _ hK A q fun v H1 F1 n1 S1 a g1 A1 r1 q1 => ?_
  refine ⟨by show 2 ≤ sizeLine; decide, fun c hc => ?_⟩
  have g := New.free A1.w hc (.tup [.ty T, .ty U])
  obtain ⟨q1, q2⟩ := q1
  cases e1 : kitB a.tyn T with
  | none => rw [e1] at q2; exact q2.elim
  | some b =>
    cases e2 : kitB a.tyn U with
    | none => rw [e1, e2] at q2; exact q2.elim
    | some d =>
      rw [e1, e2] at q2
      refine ⟨v, c, _, _, [.type T, .type U], b || d, rfl, upd_same, .cons (.ty T) (.cons (.ty U) .nil), hK ▸ rb_ty g.sub (r1.new g) q1, ?_, fin _ _ F1 n1 S1 _ (g1.trans g.grow) (A1.new g) (.bl _) q2⟩
      refine kitAny_cons (kit_ty e1) (fun hb => ?_) (fun hb => by rw [hb]; rfl)
      refine kitAny_cons (kit_ty e2) (fun hd => ?_) (fun hd => by rw [hd, Bool.or_true])
      rw [hb, hd]
      exact kitAny_nil
/-! ### repr -/
def bRepr : List D → (D → Prop) → Prop := fun ds Q => match ds with
  | [a] => D.pl 8 a ∧ a.py.showable = true ∧ a.py.shown.length ≤ 1000000 ∧ Q (.str a.py.shown)
  | _ => False
def rReprD (K : PySem.W.Frag) : List V → Hp → VK → Prop := fun xs H Q => ∃ x d, xs = [x] ∧ Dp K H x d ∧ d.showable = true ∧ SeqAt.shaped d = true ∧ d.depth ≤ 8 ∧ d.shown.length ≤ 1000000 ∧ Q (.str d.shown) H
end
end DL
namespace DL
open PySem PySem.Spec PyProof.Rows L2
/-! ### enumerate of a tuple -/
def enObj (it : Addr) : Obj := { cls := .type "enumerate", data := .fields #[.none, .bool false, .ref it, rawInt 0, .none, .none] }
def tiObj (l : Addr) : Obj := { cls := .type "tuple_iterator", data := .fields #[.ref l, .int 0 0] }
open AutoSeq1 (wpAny_loadPart') in
theorem enum_new_tup (l : Addr) (items : Array Value) :
    Meets (Builtin.«enumerate.__new__» ⟨[.type "enumerate", .ref l], []⟩) (fun _ R s => s.heap.IsTuple l items ∧
      R (.ok (.ret (.ref (s.heap.push (tiObj l)).objs.size))) { s with heap := (s.heap.push (tiObj l)).push (enObj s.heap.objs.size) }) :=
  .of_wp fun prog w A R s h => by
    obtain ⟨hp, g, d, tk, os⟩ := s
    obtain ⟨h1, h⟩ := h
    have hsub := sub_enumerate
    have q1 : ∀ {A' : Around} {E : Value → Shared → Prop} {Q : Value → Shared → Prop}, Q (.ref hp.objs.size) ⟨hp.push (tiObj l), g, d, tk, os⟩ → wpAny (model prog w) A' (pyIter (.ref l)) Q E ⟨hp, g, d, tk, os⟩ :=
      fun q => wpAny_pyIter_tuple h1 q
    wp_walk using q1
    refine wpAny_stack_any fun st => wpAny_pure ?_
    split
    · rename_i c _ _ _ _ _
      cases (c == Value.type "enumerate") <;> (wp_walk using q1; exact ⟨_, rfl, h⟩)
    · wp_walk using q1
      exact ⟨_, rfl, h⟩
theorem call_enum_tup {prog : Program} {w : World} {A : Around} {E : Value → Shared → Prop} {s : Shared} {l : Addr} {items : Array Value} {Q : Value → Shared → Prop} (hL : s.heap.IsTuple l items)
    (h : ∀ h', IsEnum h' (s.heap.objs.size + 1) s.heap.objs.size 0 .none → h'.IsTupleIter s.heap.objs.size l 0 → (∀ b o, s.heap.get? b = some o → h'.get? b = some o) → Q (.ref (s.heap.objs.size + 1)) { s with heap := h' }) :
    wpAny (model prog w) A (call (.type "enumerate") [.ref l]) Q E s := by
  refine callType_new F.called_enumerate (by decide) (F.typeCall_enumerate_1 _) (F.newCall_enumerate_1 _) (fun obj => F.args_object_init_2 obj _) F.entry_enumerate_new (enum_new_tup l items) ⟨hL, ?_⟩
  have hz : (s.heap.push (tiObj l)).objs.size = s.heap.objs.size + 1 := Heap.size_push ..
  show _ ∧ _
  rw [hz]
  have he : IsEnum ((s.heap.push (tiObj l)).push (enObj s.heap.objs.size)) (s.heap.objs.size + 1) s.heap.objs.size 0 .none := by
    have k := Heap.get?_push_size (s.heap.push (tiObj l)) (o := enObj s.heap.objs.size) rfl
    rw [hz] at k
    exact k
  exact ⟨⟨_, he, rfl⟩, h _ he ⟨_, Heap.get?_push_of_some _ (Heap.get?_push_size _ rfl), rfl, rfl⟩ fun b o x => Heap.get?_push_of_some _ (Heap.get?_push_of_some _ x)⟩
/-- the tuple at a, each item in a new pair -/
def Itet (K : PySem.W.Frag) (a : Addr) : It where
  go := fun i H => ∃ (xs : List V) (x : V), SqT K H a xs ∧ xs[i]? = some x
  yld := fun i H v H' => ∃ T x, v = .ref T ∧ H T = none ∧ H' = upd H T (.tup [.int (i : Nat), x]) ∧ ∀ xs, SqT K H a xs → xs[i]? = some x
  stop := fun i H => ∃ xs : List V, SqT K H a xs ∧ xs.length = i
theorem turn_enumT {P : Program} {w : World} {K : PySem.W.Frag} {elts : List Expr} {kk : Nat} {tpos : Pos} (a e it : Addr) (hne : e ≠ it) (hae : e ≠ a) (hai : a ≠ it) :
    Turn P w K (.Tuple elts kk tpos) (Itet K a) [e, it] e (fun i h => (∃ old, IsEnum h e it ((i : Nat) : Int) old) ∧ h.IsTupleIter it a i) where
  mem := List.mem_cons_self ..
  obj := fun i h ⟨⟨old, he⟩, o, ho, hc, hd⟩ b hb => by
    rcases List.mem_cons.mp hb with z | hb
    · subst z; exact ⟨_, he, fun v q => nomatch q⟩
    · have z : b = it := List.mem_singleton.mp hb
      subst z; exact ⟨o, ho, fun v q => by rw [hd] at q; cases q⟩
  keep := fun i h h' ⟨⟨old, he⟩, hi⟩ k => ⟨⟨old, k e (List.mem_cons_self ..) _ he⟩, hi.at fun o q => k it (List.mem_cons_of_mem _ (List.mem_cons_self ..)) o q⟩
  item := by
    intro X hP hw hK hc i pins s σ H E I hf st hg
    subst hP hw hK
    obtain ⟨⟨old, he⟩, hit⟩ := st
    obtain ⟨xs, x, hq, hx⟩ := hg
    obtain ⟨its, rv, p, hz⟩ := I.tuple hq
    obtain ⟨u, hu, ru⟩ := rv.get hx
    have hel : e < s.heap.objs.size := Heap.lt_size he
    have hil : it < s.heap.objs.size := by obtain ⟨_, q, _⟩ := hit; exact Heap.lt_size q
    have dr := Draws.tuple (prog := X.prog) (w := X.w) (A := X.A.in1) (I.ok.hd hc) it a hai its.toArray
    have hlt : i < its.toArray.size := by
      have := (List.getElem?_eq_some_iff.mp hu).1
      simpa using this
    have hef : e ∉ [it, a] := by simp [hne, hae]
    refine wpAny_pyNext_enum_itemD dr he ⟨hit, p⟩ hlt hne hef fun y h' tk hy ho hst hT hsz hk => ?_
    have ey : u = y := by
      have h1 : its.toArray[i]? = some y := hy
      have h2 : its.toArray[i]? = some u := by simpa using hu
      exact Option.some.inj (h2.symm.trans h1)
    subst ey
    refine ⟨_, rfl, wpAny_letOwnedTupleGo_enum (s := { s with heap := h', toks := tk + 1 }) ho fun h'' he' sb => ?_⟩
    have hT2 : h''.get? s.heap.objs.size = some { cls := .type "tuple", data := .seq #[.int i tk, u] } := (sb.2 _ (Nat.ne_of_gt hel)).trans hT
    have new : ObjOk X.prog X.w (upd H s.heap.objs.size (.tup [.int (i : Nat), x])) h'' s.heap.objs.size (.tup [.int (i : Nat), x]) := by
      refine ⟨?_, [.int i tk, u], .cons ⟨tk, rfl⟩ (.cons ru .nil), _, hT2, rfl, _, rfl⟩
      show 2 ≤ sizeLine
      decide
    have I1 : Inv X pins σ (upd H s.heap.objs.size (.tup [.int (i : Nat), x])) { s with heap := h'', toks := tk + 1 } := by
      refine I.turnedNew (ch := [e, it]) (fun b ob hb q => ?_) hf (Nat.le_refl _) new
      have n1 : b ≠ e := fun z => hb (z ▸ List.mem_cons_self ..)
      have n2 : b ≠ it := fun z => hb (z ▸ List.mem_cons_of_mem _ (List.mem_cons_self ..))
      exact (sb.2 b n1).trans (hk b ob n1 n2 q)
    have fr : H s.heap.objs.size = none := I.hok.fresh (Nat.le_refl _)
    refine ⟨.ref s.heap.objs.size, _, I1, rfl, ⟨_, x, rfl, fr, rfl, fun ys hy => ?_⟩, ⟨⟨u, ?_⟩, hst.1.at fun o q => (sb.2 it (Ne.symm hne)).trans q⟩, fun b hb => ?_⟩
    · rw [I.tuple_inj hy hq]; exact hx
    · have e1 : ((i + 1 : Nat) : Int) = (i : Int) + 1 := by omega
      rw [e1]
      exact he'
    · have hb' : b < s.heap.objs.size := by
        rcases List.mem_cons.mp hb with z | hb
        · rw [z]; exact hel
        · rw [List.mem_singleton.mp hb]; exact hil
      rw [upd_ne (Nat.ne_of_lt hb')]
      exact (hf b hb).1
  done := by
    intro X hP hw hK hc i pins s σ H E I hf st hg
    subst hP hw hK
    obtain ⟨⟨old, he⟩, hit⟩ := st
    obtain ⟨xs, hq, hx⟩ := hg
    obtain ⟨its, rv, p, hz⟩ := I.tuple hq
    obtain ⟨f0, f1, f2, f3, f4, f5⟩ := hf it (List.mem_cons_of_mem _ (List.mem_cons_self ..))
    have dr := Draws.tuple (prog := X.prog) (w := X.w) (A := X.A.in1) (I.ok.hd hc) it a hai its.toArray
    have hl : i = its.toArray.size := by
      have e := rv.length
      rw [List.size_toArray]
      omega
    subst hl
    exact wpAny_pyNext_enum_endD dr he ⟨hit, p⟩ fun h' eb => ⟨rfl, I.turned (t' := s.toks) (fun b o hb q => eb b o hb q) f0 f1 f3 f4 f5⟩
  self := fun A i s Q E ⟨⟨_, he⟩, _⟩ h => wpAny_pyIter_enum he h
def iEnumT (K : PySem.W.Frag) (ta : TA) : TI := fun σ H R => ta σ H fun vs H1 => ∃ a xs, vs = [.ref a] ∧ ((SqL K H1 a xs ∧ R (Ite K a) H1) ∨ (SqT K H1 a xs ∧ R (Itet K a) H1))
theorem pi_enumA {X : Cx} {e : Expr} {ta : TA} {p pos tpos : Pos} {elts : List Expr} {kk : Nat} (hg : Gl X "enumerate") (hm : X.mg "enumerate" = none) (ha : PA X [e] ta) (hs : starEach [e] X.env = [(false, eval e X.env)] := by rfl) :
    PI X (.Tuple elts kk tpos) (.Call (.Name "enumerate" p) [e] [] pos) (iEnumT X.K ta) := by
  refine ⟨fun pins s σ H R I h => ?_⟩
  refine Call_ (ld_blt I hg hm boot_enumerate (PyProof.Rows.callWith_type1 (thn (ha.run pos pins s σ H _ I h) fun us s1 ⟨vs, H1, I1, r1, q1⟩ => ?_) hs rfl))
  obtain ⟨a, xs, ex, hq⟩ := q1
  subst ex
  have two : ∀ b ∈ [s1.heap.objs.size + 1, s1.heap.objs.size], FpOk X pins H1 b := fun b hb => by
    have hle : s1.heap.objs.size ≤ b := by
      rcases List.mem_cons.mp hb with z | hb
      · omega
      · rw [List.mem_singleton.mp hb]; exact Nat.le_refl _
    exact I1.fpOk hle (I1.hok.fresh hle)
  cases r1 with
  | cons r rr =>
    cases rr
    cases r
    rcases hq with ⟨hq, q⟩ | ⟨hq, q⟩
    · obtain ⟨its, rv, pl, hz⟩ := I1.list hq
      refine call_enumerate_list pl.isList fun h' he hit hsz hk => wpAny_pyIter_enum he ?_
      have I2 : Inv X pins σ H1 { s1 with heap := h' } := I1.kept (t' := s1.toks) hk
      exact ⟨s1.heap.objs.size + 1, _, _, _, H1, rfl, I2, turn_enum a (s1.heap.objs.size + 1) s1.heap.objs.size, ⟨⟨.none, he⟩, hit, Nat.succ_ne_self _⟩, two, q⟩
    · obtain ⟨its, rv, pl, hz⟩ := I1.tuple hq
      have hal : a < s1.heap.objs.size := pl.lt
      refine call_enum_tup pl fun h' he hit hk => wpAny_pyIter_enum he ?_
      have I2 : Inv X pins σ H1 { s1 with heap := h' } := I1.kept (t' := s1.toks) hk
      exact ⟨s1.heap.objs.size + 1, _, _, _, H1, rfl, I2, turn_enumT a (s1.heap.objs.size + 1) s1.heap.objs.size (Nat.succ_ne_self _) (Nat.ne_of_gt (Nat.lt_succ_of_lt hal)) (Nat.ne_of_lt hal), ⟨⟨.none, he⟩, hit⟩, two, q⟩
/-! ### repr of data -/
theorem call_reprD {X : Cx} (hg : X.A.guards = some []) (hu : X.A.units + 64 < cLine) : CallR X (.builtin "repr") (rReprD X.K) := by
  intro pins s σ H xs us Q I r h
  obtain ⟨x, d, rfl, hd, sh, sp, dep, len, q⟩ := h
  obtain ⟨u, rfl, ru⟩ := vals1 r
  obtain ⟨as, hr⟩ := Dp.reads I d x u hd ru
  have nd : d.hasDict = false := PyData.hasDict_of_canLay d (SeqAt.canLay_of_shaped sp)
  have obj : ∀ a, u = .ref a → wpAny (model X.prog X.w) X.A (call (.builtin "repr") [u]) (EP X pins σ Q) X.xe s := fun a e => by
    subst e
    exact repr_of_reads' hr sh (PyData.noDict_hsm nd) hg (by omega) (fun _ _ h => h) (fun h' t tk hk => ⟨.str _, H, I.kept hk, ⟨_, rfl⟩, q⟩) (big_ok len)
  cases hd with
  | non =>
    cases ru
    refine PySem.P.repr_of_none ⟨.str _, H, I.tok _, ⟨_, rfl⟩, ?_⟩
    simp only [PyData.shown] at q
    exact q
  | bl b =>
    cases ru
    refine PySem.P.repr_of_bool ⟨.str _, H, I.tok _, ⟨_, rfl⟩, ?_⟩
    simp only [PyData.shown] at q
    exact q
  | int i =>
    obtain ⟨t, rfl⟩ := ru
    simp only [PyData.showable, decide_eq_true_eq] at sh
    refine PySem.P.repr_of_int sh ⟨.str _, H, I.tok _, ⟨_, rfl⟩, ?_⟩
    simp only [PyData.shown] at q
    exact q
  | str x =>
    obtain ⟨t, rfl⟩ := ru
    simp only [PyData.shown] at q len
    exact PySem.P.repr_of_str ⟨.str _, H, I.tok _, ⟨_, rfl⟩, q⟩ (big_ok len)
  | lst _ _ => exact obj _ ru
  | tup _ _ => exact obj _ ru
theorem d_repr {X : Cx} : DCall X (rReprD X.K) bRepr := by
  intro W F H n vs ds Q R hK w r q fin
  match ds, r, q with
  | [a], r, q =>
    obtain ⟨v, rfl, rx⟩ := rb1 r
    obtain ⟨q1, q2, q3, q4⟩ := q
    exact ⟨v, _, rfl, hK ▸ rb_dp w.sub q1 rx, q2, pl_shaped (by decide) q1, (pl_dep 8 a q1).2, q3, fin _ F H _ (New.refl w.sub) (.str _) q4⟩
end DL
namespace DL
open PySem PySem.Spec PyProof.Rows L2
/-! ### what is walked -/
structure WalkD (W : Wd) (F : Hp) (J : It) (ds : List D) : Prop where
  goes : ∀ F' H n i, Same F F' → Wok W F' H n → i < ds.length → J.go i H
  stops : ∀ F' H n, Same F F' → Wok W F' H n → J.stop ds.length H
  yields : ∀ F' H n i x H', Same F F' → Wok W F' H n → i < ds.length → J.yld i H x H' → ∃ F'' d, ds[i]? = some d ∧ New W F' H F'' H' ∧ Rep W.K W.pa F'' x d
/-- from the layer's own walks -/
theorem WalkD.of {W : Wd} {F : Hp} {J : It} {ds : List D} {m : Nat} {G : Hp → Prop} {Y : Nat → Hp → V → Hp → Prop} (w : Walk J m G Y) (hm : ds.length = m) (hG : ∀ F' H n, Same F F' → Wok W F' H n → G H)
    (hY : ∀ F' H n i x H', Same F F' → Wok W F' H n → i < m → Y i H x H' → ∃ F'' d, ds[i]? = some d ∧ New W F' H F'' H' ∧ Rep W.K W.pa F'' x d) : WalkD W F J ds := by
  subst hm
  exact ⟨fun F' H n i e k hi => w.goes i H hi (hG F' H n e k), fun F' H n e k => w.stops H (hG F' H n e k), fun F' H n i x H' e k hi y => hY F' H n i x H' e k hi (w.yields i H x H' hi (hG F' H n e k) y)⟩
section
variable {W : Wd} {F : Hp} {a b : Addr} {vs ws : List V} {ds es : List D}
theorem at_yes {W : Wd} {F' H : Hp} {n : Nat} {vs : List V} {ds : List D} {x : V} {H' : Hp} {i : Nat} (r : Reps W.K W.pa F' vs ds) (k : Wok W F' H n) (y : YAt vs i H x H') : ∃ F'' d, ds[i]? = some d ∧ New W F' H F'' H' ∧ Rep W.K W.pa F'' x d := by
  obtain ⟨e, hx⟩ := y
  subst e
  obtain ⟨d, h1, h2⟩ := r.get hx
  exact ⟨F', d, h1, New.refl k.sub, h2⟩
theorem wd_list (h : F a = some (.lst vs)) (r : Reps W.K W.pa F vs ds) : WalkD W F (Itl W.K a) ds :=
  WalkD.of walk_list r.length.symm (fun F' H n e k => SqL.of (k.sub _ _ (e _ _ h))) fun F' H n i x H' e k _ y => at_yes (Reps.mono e r) k y
theorem wd_tup (h : SqT W.K F a vs) (r : Reps W.K W.pa F vs ds) : WalkD W F (Itt W.K a) ds :=
  WalkD.of walk_tup r.length.symm (fun F' H n e k => same_sqT (e.trans k.sub) h) fun F' H n i x H' e k _ y => at_yes (Reps.mono e r) k y
/-- lo, lo + 1, .. -/
def rngD : Int → Nat → List D
  | _, 0 => []
  | lo, n + 1 => .int lo :: rngD (lo + 1) n
theorem rngD_len : ∀ (n : Nat) (lo : Int), (rngD lo n).length = n
  | 0, _ => rfl
  | n + 1, lo => by unfold rngD; rw [List.length_cons, rngD_len n]
theorem rngD_get : ∀ (n : Nat) (lo : Int) (i : Nat), i < n → (rngD lo n)[i]? = some (.int (lo + i))
  | 0, _, _, h => absurd h (Nat.not_lt_zero _)
  | n + 1, lo, 0, _ => by unfold rngD; simp
  | n + 1, lo, i + 1, h => by
    unfold rngD
    rw [List.getElem?_cons_succ, rngD_get n (lo + 1) i (Nat.lt_of_succ_lt_succ h)]
    have e : lo + 1 + (i : Int) = lo + ((i + 1 : Nat) : Int) := by omega
    rw [e]
theorem wd_range {lo : Int} {n : Nat} : WalkD W F (Itr lo n) (rngD lo n) :=
  WalkD.of walk_range (rngD_len n lo) (fun _ _ _ _ _ => trivial) fun F' H k i x H' e w hi y => by
    obtain ⟨e1, e2⟩ := y
    subst e1 e2
    exact ⟨F', _, rngD_get n lo i hi, New.refl w.sub, .int _⟩
/-- the pairs of enumerate, of zip -/
def enumD : Nat → List D → List D
  | _, [] => []
  | k, d :: ds => .tup [.int (k : Nat), d] :: enumD (k + 1) ds
def zipD : List D → List D → List D
  | d :: ds, e :: es => .tup [d, e] :: zipD ds es
  | _, _ => []
theorem enumD_len : ∀ (ds : List D) (k : Nat), (enumD k ds).length = ds.length
  | [], _ => rfl
  | d :: ds, k => by unfold enumD; rw [List.length_cons, enumD_len ds, List.length_cons]
theorem enumD_get : ∀ (ds : List D) (k i : Nat) (d : D), ds[i]? = some d → (enumD k ds)[i]? = some (.tup [.int ((k + i : Nat) : Int), d])
  | [], _, _, _, h => by simp at h
  | d :: ds, k, 0, e, h => by
    unfold enumD
    have h : some d = some e := by simpa using h
    cases h
    rfl
  | d :: ds, k, i + 1, e, h => by
    unfold enumD
    rw [List.getElem?_cons_succ, enumD_get ds (k + 1) i e (by simpa using h)]
    have e2 : k + 1 + i = k + (i + 1) := by omega
    rw [e2]
theorem zipD_len : ∀ (ds es : List D), (zipD ds es).length = min ds.length es.length
  | [], _ => by unfold zipD; simp
  | d :: ds, [] => by unfold zipD; simp
  | d :: ds, e :: es => by unfold zipD; rw [List.length_cons, zipD_len ds es, List.length_cons, List.length_cons]; omega
theorem zipD_get : ∀ (ds es : List D) (i : Nat) (d e : D), ds[i]? = some d → es[i]? = some e → (zipD ds es)[i]? = some (.tup [d, e])
  | [], _, _, _, _, h, _ => by simp at h
  | _ :: _, [], _, _, _, _, h => by simp at h
  | a :: ds, b :: es, 0, d, e, h1, h2 => by
    unfold zipD
    have h1 : some a = some d := by simpa using h1
    have h2 : some b = some e := by simpa using h2
    cases h1
    cases h2
    rfl
  | a :: ds, b :: es, i + 1, d, e, h1, h2 => by
    unfold zipD
    rw [List.getElem?_cons_succ]
    exact zipD_get ds es i d e (by simpa using h1) (by simpa using h2)
theorem pair_yes {F' H : Hp} {n : Nat} {T : Addr} {x y : V} {d e : D} (k : Wok W F' H n) (hT : H T = none) (h1 : Rep W.K W.pa F' x d) (h2 : Rep W.K W.pa F' y e) :
    ∃ F'' f, some (D.tup [d, e]) = some f ∧ New W F' H F'' (upd H T (.tup [x, y])) ∧ Rep W.K W.pa F'' (.ref T) f := by
  obtain ⟨g, r⟩ := new_tup k hT (.cons h1 (.cons h2 .nil))
  exact ⟨_, _, rfl, g, r⟩
theorem wd_enum (h : F a = some (.lst vs)) (r : Reps W.K W.pa F vs ds) : WalkD W F (Ite W.K a) (enumD 0 ds) :=
  WalkD.of walk_enum (by rw [enumD_len]; exact r.length.symm) (fun F' H n e k => SqL.of (k.sub _ _ (e _ _ h))) fun F' H n i v H' e k hi y => by
    obtain ⟨T, x, y, rfl, hT, rfl, hx, hy⟩ := y
    cases hx
    obtain ⟨d, h1, h2⟩ := (Reps.mono e r).get hy
    rw [enumD_get ds 0 i d h1, Nat.zero_add]
    exact pair_yes k hT (.int _) h2
theorem wd_enumT (h : SqT W.K F a vs) (r : Reps W.K W.pa F vs ds) : WalkD W F (Itet W.K a) (enumD 0 ds) := by
  refine ⟨fun F' H n i e k hi => ?_, fun F' H n e k => ⟨vs, same_sqT (e.trans k.sub) h, by rw [enumD_len]; exact r.length⟩, fun F' H n i v H' e k hi y => ?_⟩
  · rw [enumD_len, ← r.length] at hi
    exact ⟨vs, vs[i], same_sqT (e.trans k.sub) h, List.getElem?_eq_getElem hi⟩
  · obtain ⟨T, x, rfl, hT, rfl, hx⟩ := y
    obtain ⟨d, h1, h2⟩ := (Reps.mono e r).get (hx vs (same_sqT (e.trans k.sub) h))
    rw [enumD_get ds 0 i d h1, Nat.zero_add]
    exact pair_yes k hT (.int _) h2
theorem wd_zip (h : F a = some (.lst vs)) (r : Reps W.K W.pa F vs ds) (h' : F b = some (.lst ws)) (r' : Reps W.K W.pa F ws es) : WalkD W F (Itz W.K a b) (zipD ds es) :=
  WalkD.of (walk_zip rfl) (by rw [zipD_len, r.length, r'.length]) (fun F' H n e k => ⟨SqL.of (k.sub _ _ (e _ _ h)), SqL.of (k.sub _ _ (e _ _ h'))⟩) fun F' H n i v H' e k hi y => by
    obtain ⟨T, x, y, rfl, hT, rfl, hx, hy⟩ := y
    obtain ⟨d, h1, h2⟩ := (Reps.mono e r).get hx
    obtain ⟨d', h1', h2'⟩ := (Reps.mono e r').get hy
    rw [zipD_get ds es i d d' h1 h1']
    exact pair_yes k hT h2 h2'
end
structure DI (X : Cx) (tg iter : Expr) (wi : TI) (k : KA) : Prop where
  pe : PI X tg iter wi
  ok : ∀ (W : Wd) (F : Hp) (n : Nat) (S : List Sl) (σ : St) (H : Hp) (Q : List D → List Sl → Nat → Prop) (R : It → Hp → Prop), W.K = X.K → Abs W F n S σ H → k S n Q →
    (∀ J H' F' n' S' ds, Grow W S σ F H F' H' S' → Abs W F' n' S' σ H' → WalkD W F' J ds → Q ds S' n' → R J H') → wi σ H R
section
variable {X : Cx} {tg e e2 : Expr} {t : TE} {ts : TA} {k : KE} {ks : KA} {p pos tpos : Pos} {elts : List Expr} {kk : Nat}
/-- a list or a tuple -/
def iSeq (K : PySem.W.Frag) (tl : TE) : TI := fun σ H R => tl σ H fun x H1 => ∃ a, x = .ref a ∧ ((∃ xs, SqL K H1 a xs) ∧ R (Itl K a) H1 ∨ (∃ xs, SqT K H1 a xs) ∧ R (Itt K a) H1)
theorem pi_seq {tl : TE} (hl : PE X e tl) : PI X tg e (iSeq X.K tl) := by
  refine ⟨fun pins s σ H R I h => ?_⟩
  refine thn (hl.run pins s σ H _ I h) fun v s1 ⟨x, H1, I1, r1, q1⟩ => ?_
  obtain ⟨a, e, q⟩ := q1
  subst e
  cases r1
  have fr : ∀ b ∈ [s1.heap.objs.size], FpOk X pins H1 b := fun b hb => by
    have e : b = s1.heap.objs.size := List.mem_singleton.mp hb
    subst e
    exact I1.fpOk (Nat.le_refl _) (I1.hok.fresh (Nat.le_refl _))
  rcases q with ⟨⟨xs, hq⟩, q⟩ | ⟨⟨xs, hq⟩, q⟩
  · obtain ⟨its, rv, pl, hz⟩ := I1.list hq
    exact wpAny_pyIter_list pl.isList ⟨s1.heap.objs.size, _, _, _, H1, rfl, I1.kept (t' := s1.toks) fun b o e => Heap.get?_push_of_some _ e, turn_list a _, ⟨_, Heap.get?_push_size _ rfl, rfl, rfl⟩, fr, q⟩
  · obtain ⟨its, rv, pl, hz⟩ := I1.tuple hq
    exact wpAny_pyIter_tuple pl ⟨s1.heap.objs.size, _, _, _, H1, rfl, I1.kept (t' := s1.toks) fun b o e => Heap.get?_push_of_some _ e, turn_tuple a _, ⟨_, Heap.get?_push_size _ rfl, rfl, rfl⟩, fr, q⟩
def kIter (k : KE) : KA := fun S n Q => k S n fun d S1 n1 => match d with
  | .lst ds => Q ds S1 n1
  | .tup ds => Q ds S1 n1
  | _ => False
theorem di_seq (h : DE X e t k) : DI X tg e (iSeq X.K t) (kIter k) := by
  refine ⟨pi_seq h.pe, fun W F n S σ H Q R hK A q fin => ?_⟩
  refine h.ok W F n S σ H _ _ hK A q fun v H1 F1 n1 S1 d g1 A1 r q1 => ?_
  cases d <;> try exact False.elim q1
  case lst ds =>
    cases r with
    | lst h r => exact ⟨_, rfl, .inl ⟨⟨_, SqL.of (A1.w.sub _ _ h)⟩, hK ▸ fin _ H1 F1 n1 S1 ds g1 A1 (wd_list h r) q1⟩⟩
  case tup ds =>
    cases r with
    | tup h r => exact ⟨_, rfl, .inr ⟨⟨_, hK ▸ same_sqT A1.w.sub h⟩, hK ▸ fin _ H1 F1 n1 S1 ds g1 A1 (wd_tup h r) q1⟩⟩
def kRng1 (ks : KA) : KA := fun S n Q => ks S n fun ds S1 n1 => match ds with
  | [.int j] => (-1000000 ≤ j ∧ j ≤ 1000000) ∧ Q (rngD 0 j.toNat) S1 n1
  | _ => False
def kRng2 (ks : KA) : KA := fun S n Q => ks S n fun ds S1 n1 => match ds with
  | [.int i, .int j] => (-1000000 ≤ i ∧ i ≤ 1000000 ∧ -1000000 ≤ j ∧ j ≤ 1000000) ∧ Q (rngD i (j - i).toNat) S1 n1
  | _ => False
theorem di_rng1 (hm : X.mg "range" = none) (h : DA X [e] ts ks) (hg : Gl X "range" := by exact rfl) (hs : starEach [e] X.env = [(false, eval e X.env)] := by rfl) : DI X tg (.Call (.Name "range" p) [e] [] pos) (iRng1 ts) (kRng1 ks) := by
  refine ⟨pi_range1 hg hm h.pe hs, fun W F n S σ H Q R hK A q fin => ?_⟩
  refine h.ok W F n S σ H _ _ hK A q fun vs H1 F1 n1 S1 ds g1 A1 r q1 => ?_
  match ds, r, q1 with
  | [.int j], .cons (.int _) .nil, q1 => exact ⟨j, rfl, by omega, by omega, fin _ H1 F1 n1 S1 _ g1 A1 wd_range q1.2⟩
theorem di_rng2 (hm : X.mg "range" = none) (h : DA X [e, e2] ts ks) (hg : Gl X "range" := by exact rfl) (hs : starEach [e, e2] X.env = [(false, eval e X.env), (false, eval e2 X.env)] := by rfl) (hs2 : starEach [e2] X.env = [(false, eval e2 X.env)] := by rfl) :
    DI X tg (.Call (.Name "range" p) [e, e2] [] pos) (iRng2 ts) (kRng2 ks) := by
  refine ⟨pi_range2 hg hm h.pe hs hs2, fun W F n S σ H Q R hK A q fin => ?_⟩
  refine h.ok W F n S σ H _ _ hK A q fun vs H1 F1 n1 S1 ds g1 A1 r q1 => ?_
  match ds, r, q1 with
  | [.int i, .int j], .cons (.int _) (.cons (.int _) .nil), q1 => exact ⟨i, j, rfl, ⟨by omega, by omega, by omega, by omega⟩, fin _ H1 F1 n1 S1 _ g1 A1 wd_range q1.2⟩
def kEnum (ks : KA) : KA := fun S n Q => ks S n fun ds S1 n1 => match ds with
  | [.lst xs] => Q (enumD 0 xs) S1 n1
  | [.tup xs] => Q (enumD 0 xs) S1 n1
  | _ => False
theorem di_enum (hm : X.mg "enumerate" = none) (h : DA X [e] ts ks) (hg : Gl X "enumerate" := by exact rfl) (hs : starEach [e] X.env = [(false, eval e X.env)] := by rfl) : DI X (.Tuple elts kk tpos) (.Call (.Name "enumerate" p) [e] [] pos) (iEnumT X.K ts) (kEnum ks) := by
  refine ⟨pi_enumA hg hm h.pe hs, fun W F n S σ H Q R hK A q fin => ?_⟩
  refine h.ok W F n S σ H _ _ hK A q fun vs H1 F1 n1 S1 ds g1 A1 r q1 => ?_
  match ds, r, q1 with
  | [.lst xs], .cons (.lst h r) .nil, q1 => exact ⟨_, _, rfl, .inl ⟨SqL.of (A1.w.sub _ _ h), hK ▸ fin _ H1 F1 n1 S1 _ g1 A1 (wd_enum h r) q1⟩⟩
  | [.tup xs], .cons (.tup h r) .nil, q1 => exact ⟨_, _, rfl, .inr ⟨hK ▸ same_sqT A1.w.sub h, hK ▸ fin _ H1 F1 n1 S1 _ g1 A1 (wd_enumT h r) q1⟩⟩
def kZip (ks : KA) : KA := fun S n Q => ks S n fun ds S1 n1 => match ds with
  | [.lst xs, .lst ys] => Q (zipD xs ys) S1 n1
  | _ => False
theorem di_zip (hm : X.mg "zip" = none) (h : DA X [e, e2] ts ks) (hg : Gl X "zip" := by exact rfl) (hs : starEach [e, e2] X.env = (false, eval e X.env) :: starEach [e2] X.env := by rfl) (hpl : (backTo pos (starEach [e2] X.env)).any (·.1) = false := by rfl) :
    DI X (.Tuple elts kk tpos) (.Call (.Name "zip" p) [e, e2] [] pos) (iZip X.K ts) (kZip ks) := by
  refine ⟨pi_zip hg hm h.pe hs hpl, fun W F n S σ H Q R hK A q fin => ?_⟩
  refine h.ok W F n S σ H _ _ hK A q fun vs H1 F1 n1 S1 ds g1 A1 r q1 => ?_
  match ds, r, q1 with
  | [.lst xs, .lst ys], .cons (.lst h r) (.cons (.lst h' r') .nil), q1 =>
    exact ⟨_, _, _, _, rfl, SqL.of (A1.w.sub _ _ h), SqL.of (A1.w.sub _ _ h'), hK ▸ fin _ H1 F1 n1 S1 _ g1 A1 (wd_zip h r h' r') q1⟩
end
/-! ### targets -/
abbrev KG := D → List Sl → (List Sl → Prop) → Prop
abbrev KGs := List D → List Sl → (List Sl → Prop) → Prop
/-- the slots at sl alone may change -/
structure DG (X : Cx) (tg : Expr) (g : TG) (sl : List Nat) (kg : KG) : Prop where
  pe : PG X tg g
  ok : ∀ (W : Wd) (F : Hp) (n : Nat) (S : List Sl) (σ : St) (H : Hp) (v : V) (d : D) (Q : List Sl → Prop) (R : St → Hp → Prop), W.K = X.K → Abs W F n S σ H → Rep W.K W.pa F v d → kg d S Q →
    (∀ σ' S', Abs W F n S' σ' H → (∀ i, i ∉ sl → σ'[i]? = σ[i]? ∧ S'[i]? = S[i]?) → (∀ i ds, S'[i]? = some (.own ds) → S[i]? = some (.own ds) ∧ i ∉ sl) → Q S' → R σ' H) → g v σ H R
structure DGs (X : Cx) (tgs : List Expr) (g : TGs) (sl : List Nat) (kg : KGs) : Prop where
  pe : PGs X tgs g
  ok : ∀ (W : Wd) (F : Hp) (n : Nat) (S : List Sl) (σ : St) (H : Hp) (vs : List V) (ds : List D) (Q : List Sl → Prop) (R : St → Hp → Prop), W.K = X.K → Abs W F n S σ H → Reps W.K W.pa F vs ds → kg ds S Q →
    (∀ σ' S', Abs W F n S' σ' H → (∀ i, i ∉ sl → σ'[i]? = σ[i]? ∧ S'[i]? = S[i]?) → (∀ i ds, S'[i]? = some (.own ds) → S[i]? = some (.own ds) ∧ i ∉ sl) → Q S' → R σ' H) → g vs σ H R
section
variable {W : Wd} {F H : Hp} {n : Nat} {S : List Sl} {σ : St}
theorem Abs.set (A : Abs W F n S σ H) {v : V} {d : D} (r : Rep W.K W.pa F v d) (i : Nat) : Abs W F n (S.set i (.val d)) (σ.set i (some v)) H := by
  refine ⟨A.w, by rw [List.length_set, List.length_set]; exact A.len, fun j s u h1 h2 => ?_, fun j k p ds es h1 h2 h3 h4 => ?_⟩
  · by_cases e : j = i
    · subst e
      have hj : j < S.length := by
        have := (List.getElem?_eq_some_iff.mp h1).1
        rwa [List.length_set] at this
      rw [List.getElem?_set_self hj] at h1
      rw [List.getElem?_set_self (by rw [← A.len]; exact hj)] at h2
      cases h1
      cases h2
      exact r
    · rw [List.getElem?_set_ne (Ne.symm e)] at h1 h2
      exact A.sl j s u h1 h2
  · have nj : j ≠ i := fun e => by
      subst e
      have hj : j < S.length := by
        have := (List.getElem?_eq_some_iff.mp h1).1
        rwa [List.length_set] at this
      rw [List.getElem?_set_self hj] at h1
      cases h1
    have nk : k ≠ i := fun e => by
      subst e
      have hj : k < S.length := by
        have := (List.getElem?_eq_some_iff.mp h2).1
        rwa [List.length_set] at this
      rw [List.getElem?_set_self hj] at h2
      cases h2
    rw [List.getElem?_set_ne (Ne.symm nj)] at h1 h3
    rw [List.getElem?_set_ne (Ne.symm nk)] at h2 h4
    exact A.di j k p ds es h1 h2 h3 h4
end
theorem not_single {i j : Nat} (h : j ∉ [i]) : i ≠ j := fun e => h (e ▸ List.mem_singleton_self _)
section
variable {X : Cx} {t : Expr} {ts : List Expr} {g : TG} {gs : TGs} {sl sl2 : List Nat} {kg : KG} {kgs : KGs}
def gN (i : Nat) : KG := fun d S Q => Q (S.set i (.val d))
theorem dg_name {i : Nat} {x : Str} {pos : Pos} (h : PG X (.Name x pos) (gName i)) : DG X (.Name x pos) (gName i) [i] (gN i) := by
  refine ⟨h, fun W F n S σ H v d Q R hK A r q fin => ?_⟩
  refine fin _ _ (A.set r i) (fun j hj => ⟨List.getElem?_set_ne (not_single hj), List.getElem?_set_ne (not_single hj)⟩) (fun j ds hd => ?_) q
  by_cases e : j = i
  · subst e
    have hj : j < S.length := by
      have := (List.getElem?_eq_some_iff.mp hd).1
      rwa [List.length_set] at this
    rw [List.getElem?_set_self hj] at hd
    cases hd
  · rw [List.getElem?_set_ne (Ne.symm e)] at hd
    exact ⟨hd, fun z => e (List.mem_singleton.mp z)⟩
def gsNil : KGs := fun ds S Q => match ds with
  | [] => Q S
  | _ => False
def gsCons (kg : KG) (kgs : KGs) : KGs := fun ds S Q => match ds with
  | d :: r => kg d S fun S' => kgs r S' Q
  | _ => False
theorem dgs_nil : DGs X [] gNil [] gsNil := by
  refine ⟨pgs_nil, fun W F n S σ H vs ds Q R hK A r q fin => ?_⟩
  cases ds with
  | cons _ _ => exact False.elim q
  | nil => cases r; exact ⟨rfl, fin σ S A (fun _ _ => ⟨rfl, rfl⟩) (fun _ _ h => ⟨h, List.not_mem_nil⟩) q⟩
theorem dgs_cons (h : DG X t g sl kg) (h2 : DGs X ts gs sl2 kgs) (hp : PG X t g → PGs X ts gs → PGs X (t :: ts) (gCons g gs) := by intro a b; exact pgs_cons a b) : DGs X (t :: ts) (gCons g gs) (sl ++ sl2) (gsCons kg kgs) := by
  refine ⟨hp h.pe h2.pe, fun W F n S σ H vs ds Q R hK A r q fin => ?_⟩
  cases ds with
  | nil => exact False.elim q
  | cons d ds =>
    cases r with
    | cons r1 r2 =>
      refine ⟨_, _, rfl, h.ok W F n S σ H _ d _ _ hK A r1 q fun σ1 S1 A1 c1 o1 q1 => ?_⟩
      refine h2.ok W F n S1 σ1 H _ ds _ _ hK A1 r2 q1 fun σ2 S2 A2 c2 o2 q2 => ?_
      refine fin σ2 S2 A2 (fun i hi => ?_) (fun i es he => ?_) q2
      · have z1 : i ∉ sl := fun z => hi (List.mem_append_left _ z)
        have z2 : i ∉ sl2 := fun z => hi (List.mem_append_right _ z)
        exact ⟨(c2 i z2).1.trans (c1 i z1).1, (c2 i z2).2.trans (c1 i z1).2⟩
      · obtain ⟨y1, y2⟩ := o2 i es he
        obtain ⟨y3, y4⟩ := o1 i es y1
        exact ⟨y3, fun z => (List.mem_append.mp z).elim y4 y2⟩
def gTupD (m : Nat) (kgs : KGs) : KG := fun d S Q => match d with
  | .tup ds => ds.length = m ∧ kgs ds S Q
  | _ => False
theorem dg_tup {kk m : Nat} {pos : Pos} (h : DGs X ts gs sl kgs) (hp : PGs X ts gs → PG X (.Tuple ts kk pos) (gTup X.K m gs) := by intro a; exact pg_tup rfl a) : DG X (.Tuple ts kk pos) (gTup X.K m gs) sl (gTupD m kgs) := by
  refine ⟨hp h.pe, fun W F n S σ H v d Q R hK A r q fin => ?_⟩
  cases d <;> try exact False.elim q
  case tup ds =>
    cases r with
    | tup hq r => exact ⟨_, _, rfl, hK ▸ same_sqT A.w.sub hq, r.length.trans q.1, h.ok W F n S σ H _ ds Q R hK A r q.2 fin⟩
end
end DL
namespace DL
open PySem PySem.Spec PyProof.Rows L2
/-! ### list comprehensions -/
/-- the block's own slots forgotten -/
def wipeD (S : List Sl) : List Nat → List Sl
  | [] => S
  | v :: vs => (wipeD S vs).set v .no
def okW (S : List Sl) (vs : List Nat) : Bool := vs.all fun i => match S[i]? with
  | some (.own _) => false
  | _ => true
def kComps (kg : KG) (kt : KT) (ke : KE) (vs : List Nat) (Sc : List Sl) : List D → List D → Nat → (List D → Nat → Prop) → Prop
  | [], acc, n, Q => Q acc n
  | d :: ds, acc, n, Q => kg d Sc fun S2 => wipeD S2 vs = Sc ∧ kt S2 n fun b S3 n3 => S3 = S2 ∧
    if b = true then ke S2 n3 fun y S4 n4 => S4 = S2 ∧ kComps kg kt ke vs Sc ds (acc ++ [y]) n4 Q else kComps kg kt ke vs Sc ds acc n3 Q
def kComp (ki : KA) (kg : KG) (kt : KT) (ke : KE) (vs : List Nat) : KE := fun S n Q => ki S n fun ds S1 n1 => ds.length ≤ 1000000 ∧ okW S1 vs = true ∧
  kComps kg kt ke vs (wipeD S1 vs) ds [] n1 fun acc n2 => Q (.lst acc) S1 n2
def kYes : KT := fun S n Q => Q true S n
structure DTs (X : Cx) (ifs : List Expr) (t : TT) (k : KT) : Prop where
  pe : PTs X ifs t
  ok : SpT X.K t k
theorem dts_nil {X : Cx} : DTs X [] tYes kYes := ⟨pts_nil, fun W F n S σ H Q R hK A q fin => fin true H F n S .refl A q⟩
theorem dts_one {X : Cx} {c : Expr} {t : TT} {k : KT} (h : DT X c t k) : DTs X [c] t k := ⟨pts_one h.pe, h.ok⟩
section
theorem wipeD_len : ∀ (vs : List Nat) (S : List Sl), (wipeD S vs).length = S.length
  | [], _ => rfl
  | v :: vs, S => by unfold wipeD; rw [List.length_set, wipeD_len vs S]
theorem wipeD_in : ∀ {vs : List Nat} {S : List Sl} {i : Nat} {s : Sl}, i ∈ vs → (wipeD S vs)[i]? = some s → s = .no
  | [], _, _, _, h, _ => absurd h List.not_mem_nil
  | v :: vs, S, i, s, h, e => by
    unfold wipeD at e
    by_cases z : i = v
    · subst z
      have hi : i < (wipeD S vs).length := by
        have := (List.getElem?_eq_some_iff.mp e).1
        rwa [List.length_set] at this
      rw [List.getElem?_set_self hi] at e
      cases e
      rfl
    · rw [List.getElem?_set_ne (Ne.symm z)] at e
      rcases List.mem_cons.mp h with q | q
      · exact absurd q z
      · exact wipeD_in q e
theorem wipeD_out : ∀ {vs : List Nat} {S : List Sl} {i : Nat}, i ∉ vs → (wipeD S vs)[i]? = S[i]?
  | [], _, _, _ => rfl
  | v :: vs, S, i, h => by
    unfold wipeD
    have z : i ≠ v := fun e => h (e ▸ List.mem_cons_self ..)
    rw [List.getElem?_set_ne (Ne.symm z)]
    exact wipeD_out fun q => h (List.mem_cons_of_mem _ q)
theorem wipe_in : ∀ {vs : List Nat} {σ : St} {i : Nat} {v : Option V}, i ∈ vs → (wipe σ vs)[i]? = some v → v = none
  | [], _, _, _, h, _ => absurd h List.not_mem_nil
  | w :: vs, σ, i, s, h, e => by
    unfold wipe at e
    by_cases z : i = w
    · subst z
      have hi : i < (wipe σ vs).length := by
        have := (List.getElem?_eq_some_iff.mp e).1
        rwa [List.length_set] at this
      rw [List.getElem?_set_self hi] at e
      cases e
      rfl
    · rw [List.getElem?_set_ne (Ne.symm z)] at e
      rcases List.mem_cons.mp h with q | q
      · exact absurd q z
      · exact wipe_in q e
theorem wipe_none {vs : List Nat} {σ : St} {i : Nat} (h : i ∈ vs) (hi : i < σ.length) : (wipe σ vs)[i]? = some none := by
  have hj : i < (wipe σ vs).length := by rw [wipe_length]; exact hi
  have e := List.getElem?_eq_getElem hj
  have e2 := wipe_in h e
  rw [e, e2]
/-- states that agree outside vs are wiped to the same one -/
theorem wipe_eq {vs : List Nat} {σ σ2 : St} (hl : σ2.length = σ.length) (h : ∀ i, i ∉ vs → σ2[i]? = σ[i]?) : wipe σ2 vs = wipe σ vs := by
  apply List.ext_getElem?
  intro i
  by_cases z : i ∈ vs
  · by_cases hi : i < σ.length
    · rw [wipe_none z hi, wipe_none z (by rw [hl]; exact hi)]
    · rw [List.getElem?_eq_none (by rw [wipe_length, hl]; omega), List.getElem?_eq_none (by rw [wipe_length]; omega)]
  · rw [wipe_out z, wipe_out z]
    exact h i z
variable {W : Wd} {F H : Hp} {n : Nat} {S : List Sl} {σ : St}
theorem Abs.wipe (A : Abs W F n S σ H) (vs : List Nat) : Abs W F n (wipeD S vs) (L2.wipe σ vs) H := by
  refine ⟨A.w, by rw [wipeD_len, wipe_length]; exact A.len, fun i s v h1 h2 => ?_, fun i j p ds es h1 h2 h3 h4 => ?_⟩
  · by_cases z : i ∈ vs
    · rw [wipeD_in z h1]; trivial
    · rw [wipeD_out z] at h1
      rw [wipe_out z] at h2
      exact A.sl i s v h1 h2
  · have zi : i ∉ vs := fun z => by have := wipeD_in z h1; cases this
    have zj : j ∉ vs := fun z => by have := wipeD_in z h2; cases this
    rw [wipeD_out zi] at h1
    rw [wipe_out zi] at h3
    rw [wipeD_out zj] at h2
    rw [wipe_out zj] at h4
    exact A.di i j p ds es h1 h2 h3 h4
theorem own_wipe {vs : List Nat} {a : Addr} (h : OwnA (wipeD S vs) (L2.wipe σ vs) a) : OwnA S σ a := by
  obtain ⟨i, ds, h1, h2⟩ := h
  have zi : i ∉ vs := fun z => by have := wipeD_in z h1; cases this
  rw [wipeD_out zi] at h1
  rw [wipe_out zi] at h2
  exact ⟨i, ds, h1, h2⟩
/-- behind the block: what stood in the slots stands -/
theorem Abs.back {F' H' : Hp} {n' : Nat} {vs : List Nat} (A : Abs W F n S σ H) (ok : okW S vs = true) (f : Same F F') (A' : Abs W F' n' (wipeD S vs) (L2.wipe σ vs) H') : Abs W F' n' S σ H' := by
  refine ⟨A'.w, A.len, fun i s v h1 h2 => ?_, A.di⟩
  by_cases z : i ∈ vs
  · have q := A.sl i s v h1 h2
    cases s with
    | no => trivial
    | val d =>
      cases v with
      | none => exact q.elim
      | some v => exact Rep.mono f q
    | own ds =>
      unfold okW at ok
      have := List.all_eq_true.mp ok i z
      rw [h1] at this
      cases this
  · exact A'.sl i s v (by rw [wipeD_out z]; exact h1) (by rw [wipe_out z]; exact h2)
/-- a list that stands apart from all slots is frozen -/
theorem Abs.shut {D0 : Addr} {ws : List V} (A : Abs W F n S σ H) (hF : F D0 = none) (hD : H D0 = some (.lst ws)) (hp : pad W.pa ≠ some D0) (h0 : W.H0 D0 = none) (no : ¬ OwnA S σ D0) : Abs W (upd F D0 (.lst ws)) n S σ H := by
  have sm : Same F (upd F D0 (.lst ws)) := same_new hF
  refine ⟨⟨fun a u z => ?_, fun q z => ?_, A.w.old, A.w.oldp, A.w.f0.trans sm, fun a u z => ?_⟩, A.len, fun j s v z1 z2 => ?_, A.di⟩
  · by_cases y : a = D0
    · subst y; rw [upd_same] at z; rw [hD]; exact z
    · rw [upd_ne y] at z; exact A.w.sub _ _ z
  · obtain ⟨y1, ca, turn, rst, y2, y3, y4⟩ := A.w.pen q z
    refine ⟨?_, ca, turn, rst, y2, sm _ _ y3, y4⟩
    have nq : q ≠ D0 := fun y => hp (y ▸ z)
    rw [upd_ne nq]
    exact y1
  · by_cases y : a = D0
    · subst y; exact .inr h0
    · rw [upd_ne y] at z; exact A.w.nf _ _ z
  · have ok := A.sl j s v z1 z2
    cases s with
    | no => trivial
    | val d =>
      cases v with
      | none => exact ok.elim
      | some v => exact Rep.mono sm ok
    | own es =>
      cases v with
      | none => exact ok.elim
      | some v =>
        cases v with
        | ref q =>
          obtain ⟨k1, k2, k3, ws', k4, k5⟩ := ok
          have nq : q ≠ D0 := fun x => no ⟨j, es, z1, x ▸ z2⟩
          exact ⟨by rw [upd_ne nq]; exact k1, k2, k3, ws', k4, Reps.mono sm k5⟩
        | _ => exact ok.elim
/-- a list that is written and stands apart from all -/
theorem Abs.put {D0 : Addr} {ws us : List V} (A : Abs W F n S σ H) (hF : F D0 = none) (hD : H D0 = some (.lst ws)) (hp : pad W.pa ≠ some D0) (h0 : W.H0 D0 = none) (no : ¬ OwnA S σ D0) : Abs W F n S σ (upd H D0 (.lst us)) := by
  have far : ∀ a o, F a = some o → a ≠ D0 := fun a o h e => by rw [e, hF] at h; cases h
  refine ⟨⟨fun a u z => ?_, fun q z => ?_, fun a u z p => ?_, fun p z => ?_, A.w.f0, A.w.nf⟩, A.len, fun j s v z1 z2 => ?_, A.di⟩
  · rw [upd_ne (far _ _ z)]; exact A.w.sub _ _ z
  · obtain ⟨y1, ca, turn, rst, y2, y3⟩ := A.w.pen q z
    have nq : q ≠ D0 := fun y => hp (y ▸ z)
    exact ⟨y1, ca, turn, rst, by rw [upd_ne nq]; exact y2, y3⟩
  · have na : a ≠ D0 := fun y => by rw [y, h0] at z; cases z
    rw [upd_ne na]; exact A.w.old _ _ z p
  · have nq : p ≠ D0 := fun y => hp (y ▸ z)
    rw [upd_ne nq]; exact A.w.oldp p z
  · have ok := A.sl j s v z1 z2
    cases s with
    | no => trivial
    | val d =>
      cases v with
      | none => exact ok.elim
      | some v => exact ok
    | own es =>
      cases v with
      | none => exact ok.elim
      | some v =>
        cases v with
        | ref q =>
          obtain ⟨k1, k2, k3, ws', k4, k5⟩ := ok
          have nq : q ≠ D0 := fun x => no ⟨j, es, z1, x ▸ z2⟩
          exact ⟨k1, k2, k3, ws', by rw [upd_ne nq]; exact k4, k5⟩
        | _ => exact ok.elim
theorem Abs.ownH (A : Abs W F n S σ H) {a : Addr} (h : OwnA S σ a) : ∃ vs, H a = some (.lst vs) := by
  obtain ⟨i, ds, h1, h2⟩ := h
  obtain ⟨_, _, _, vs, h4, _⟩ := A.sl i _ _ h1 h2
  exact ⟨vs, h4⟩
end
/-- what holds between two turns of a comprehension: the new list stands at D0 -/
structure CompIn (W : Wd) (F1 : Hp) (H1 : Hp) (S1 : List Sl) (σ : St) (vs : List Nat) (D0 : Addr) (kg : KG) (kt : KT) (ke : KE) (Q : List D → Nat → Prop) (i : Nat) (ds : List D) (H : Hp) : Prop where
  ex : ∃ (F : Hp) (n : Nat) (us : List V) (acc : List D), Same F1 F ∧ (∀ a o, H1 a = some o → pad W.pa ≠ some a → H a = some o) ∧ (∀ a, H a = none → H1 a = none) ∧ (∀ a o, F a = some o → F1 a = some o ∨ H1 a = none) ∧ Abs W F n (wipeD S1 vs) (wipe σ vs) H ∧
    F D0 = none ∧ H D0 = some (.lst us) ∧ Reps W.K W.pa F us acc ∧ acc.length ≤ i ∧ kComps kg kt ke vs (wipeD S1 vs) ds acc n Q
/-- the reading of a comprehension, up to what is done with the new list: it stands at D0, not frozen -/
theorem lc_read {K : PySem.W.Frag} {wi : TI} {g : TG} {tt : TT} {te : TE} {ki : KA} {kg : KG} {kt : KT} {ke : KE} {vs sl : List Nat}
    (hi : ∀ (W : Wd) (F : Hp) (n : Nat) (S : List Sl) (σ : St) (H : Hp) (Q : List D → List Sl → Nat → Prop) (R : It → Hp → Prop), W.K = K → Abs W F n S σ H → ki S n Q →
      (∀ J H' F' n' S' ds, Grow W S σ F H F' H' S' → Abs W F' n' S' σ H' → WalkD W F' J ds → Q ds S' n' → R J H') → wi σ H R)
    (hg : ∀ (W : Wd) (F : Hp) (n : Nat) (S : List Sl) (σ : St) (H : Hp) (v : V) (d : D) (Q : List Sl → Prop) (R : St → Hp → Prop), W.K = K → Abs W F n S σ H → Rep W.K W.pa F v d → kg d S Q →
      (∀ σ' S', Abs W F n S' σ' H → (∀ i, i ∉ sl → σ'[i]? = σ[i]? ∧ S'[i]? = S[i]?) → (∀ i ds, S'[i]? = some (.own ds) → S[i]? = some (.own ds) ∧ i ∉ sl) → Q S' → R σ' H) → g v σ H R)
    (hsl : ∀ i ∈ sl, i ∈ vs) (ht : SpT K tt kt) (he : SpE K te ke)
    (W : Wd) (F : Hp) (n : Nat) (S : List Sl) (σ : St) (H : Hp) (Q : D → List Sl → Nat → Prop) (R : VK) (hK : W.K = K) (A : Abs W F n S σ H) (q : kComp ki kg kt ke vs S n Q)
    (fin : ∀ D0 us acc H' F' n' S', Grow W S σ F H F' H' S' → Abs W F' n' S' σ H' → F' D0 = none → W.H0 D0 = none → pad W.pa ≠ some D0 → H' D0 = some (.lst us) → Reps W.K W.pa F' us acc → ¬ OwnA S' σ D0 → H D0 = none → Q (.lst acc) S' n' → R (.ref D0) H') :
    tLc wi g tt te vs σ H R := by
  refine hi W F n S σ H _ _ hK A q fun J H1 F1 n1 S1 ds g1 A1 wk q1 => ?_
  obtain ⟨len, ok, q1⟩ := q1
  intro D0 hD
  obtain ⟨fD, h0D, pD⟩ := A1.w.fresh hD
  have noD : ¬ OwnA S1 σ D0 := fun z => by
    obtain ⟨ws, e⟩ := A1.ownH z
    rw [hD] at e; cases e
  have hDH : H D0 = none := g1.hn D0 hD
  refine ⟨fun i m H => m = ds.length - i ∧ i ≤ ds.length ∧ CompIn W F1 H1 S1 σ vs D0 kg kt ke (fun acc n2 => Q (.lst acc) S1 n2) i (ds.drop i) H, ⟨ds.length, by simp, Nat.zero_le _, ⟨F1, n1, [], [], Same.refl _, fun a o h _ => same_new hD a o h, fun a h => ?_, fun _ _ h => .inl h,
    (A1.new (New.free A1.w hD _)).wipe vs, fD, upd_same, .nil, Nat.zero_le _, by rw [List.drop_zero]; exact q1⟩⟩, ?_⟩
  · by_cases y : a = D0
    · rw [y, upd_same] at h; cases h
    · rw [upd_ne y] at h; exact h
  rintro i m H2 ⟨rfl, hi2, ⟨F2, n2, us, acc, f2, h2, hn2, nf2, A2, fD2, hD2, r2, la, q2⟩⟩
  have noD2 : ¬ OwnA (wipeD S1 vs) (wipe σ vs) D0 := fun z => noD (own_wipe z)
  by_cases hlt : i < ds.length
  · have ed : ds.drop i = ds[i] :: ds.drop (i + 1) := List.drop_eq_getElem_cons hlt
    rw [ed] at q2
    refine .inr ⟨wk.goes F2 H2 n2 i f2 A2.w hlt, fun H' => CompIn W F1 H1 S1 σ vs D0 kg kt ke (fun acc n2 => Q (.lst acc) S1 n2) (i + 1) (ds.drop (i + 1)) H', fun H' p => ⟨ds.length - (i + 1), by omega, rfl, hlt, p⟩, fun x H' y => ?_⟩
    obtain ⟨F3, d, hd, g3, r3⟩ := wk.yields F2 H2 n2 i x H' f2 A2.w hlt y
    have ed2 : d = ds[i] := Option.some.inj (hd.symm.trans (List.getElem?_eq_getElem hlt))
    subst ed2
    have A3 := A2.new g3
    refine hg W F3 n2 _ _ H' x _ _ _ hK A3 r3 q2 fun σ2 S2 A4 c4 o4 q4 => ?_
    obtain ⟨w4, q4⟩ := q4
    have wσ : wipe σ2 vs = wipe σ vs := by
      have e1 : wipe σ2 vs = wipe (wipe σ vs) vs := by
        refine wipe_eq ?_ fun j hj => (c4 j fun z => hj (hsl j z)).1
        rw [← A4.len, ← (show (wipeD S2 vs).length = S2.length from wipeD_len _ _), w4, A3.len]
      have e2 : wipe (wipe σ vs) vs = wipe σ vs := wipe_eq (wipe_length _ _) fun j hj => wipe_out hj
      exact e1.trans e2
    refine ⟨wσ, ?_⟩
    have noD4 : ¬ OwnA S2 σ2 D0 := fun ⟨j, es, z1, z2⟩ => by
      obtain ⟨y1, y2⟩ := o4 j es z1
      exact noD2 ⟨j, es, y1, (c4 j y2).1 ▸ z2⟩
    -- what follows once a turn is through
    have next : ∀ (F5 H5 : Hp) (n5 : Nat) (acc5 : List D) (us5 : List V), Grow W S2 σ2 F3 H' F5 H5 S2 → Abs W F5 n5 S2 σ2 H5 → H5 D0 = some (.lst us) → ∀ zs, Reps W.K W.pa F5 (us ++ us5) zs → zs.length ≤ i + 1 →
        kComps kg kt ke vs (wipeD S1 vs) (ds.drop (i + 1)) zs n5 (fun acc n2 => Q (.lst acc) S1 n2) → CompIn W F1 H1 S1 σ vs D0 kg kt ke (fun acc n2 => Q (.lst acc) S1 n2) (i + 1) (ds.drop (i + 1)) (upd H5 D0 (.lst (us ++ us5))) := by
      intro F5 H5 n5 acc5 us5 g5 A5 hD5 zs r5 l5 q5
      have fD5 : F5 D0 = none := by
        cases e : F5 D0 with
        | none => rfl
        | some o =>
          rcases g5.nf D0 o e with z | z | z
          · rcases g3.nw D0 o z with z | z
            · rw [fD2] at z; cases z
            · rw [hD2] at z; cases z
          · rw [g3.h _ _ hD2] at z; cases z
          · exact absurd z noD4
      have A6 : Abs W F5 n5 (wipeD S1 vs) (wipe σ vs) H5 := by
        have := A5.wipe vs
        rw [w4, wσ] at this
        exact this
      refine ⟨F5, n5, us ++ us5, zs, f2.trans (g3.f.trans g5.f), fun a o h p => ?_, fun a h => ?_, fun a o h => ?_, A6.put fD5 hD5 pD h0D noD2, fD5, upd_same, r5, l5, q5⟩
      · have na : a ≠ D0 := fun e => by rw [e, hD] at h; cases h
        rw [upd_ne na]
        exact g5.h a o (g3.h a o (h2 a o h p)) p
      · by_cases y : a = D0
        · rw [y, upd_same] at h; cases h
        · rw [upd_ne y] at h
          refine hn2 a ?_
          cases e : H2 a with
          | none => rfl
          | some o =>
            have := g5.hn a h
            rw [g3.h _ _ e] at this; cases this
      · rcases g5.nf a o h with z | z | z
        · rcases g3.nw a o z with z | z
          · exact nf2 a o z
          · exact .inr (hn2 a z)
        · refine .inr (hn2 a ?_)
          cases e : H2 a with
          | none => rfl
          | some o => rw [g3.h _ _ e] at z; cases z
        · obtain ⟨j, es, z1, z2⟩ := z
          obtain ⟨y1, y2⟩ := o4 j es z1
          have zo : OwnA (wipeD S1 vs) (wipe σ vs) a := ⟨j, es, y1, (c4 j y2).1 ▸ z2⟩
          have z3 : OwnA S2 σ2 a := ⟨j, es, z1, z2⟩
          obtain ⟨k1, _⟩ := A5.sl j _ _ z1 z2
          rw [k1] at h; cases h
    refine ht W F3 n2 S2 σ2 H' _ _ hK A4 q4 fun b H4 F4 n4 S4 g4 A5 q5 => ?_
    obtain ⟨e5, q5⟩ := q5
    subst e5
    have hD4 : H4 D0 = some (.lst us) := g4.h _ _ (g3.h _ _ hD2) pD
    cases b with
    | false =>
      have r5 : Reps W.K W.pa F4 (us ++ []) acc := by rw [List.append_nil]; exact Reps.mono (g3.f.trans g4.f) r2
      have := next F4 H4 n4 acc [] g4 A5 hD4 acc r5 (by omega) (by simpa using q5)
      have e : upd H4 D0 (.lst (us ++ [])) = H4 := by
        funext a
        unfold upd
        by_cases y : a = D0
        · rw [if_pos y, y, hD4, List.append_nil]
        · rw [if_neg y]
      rw [e] at this
      exact iteF this
    | true =>
      have q5 : ke S4 n4 fun y S5 n5 => S5 = S4 ∧ kComps kg kt ke vs (wipeD S1 vs) (ds.drop (i + 1)) (acc ++ [y]) n5 (fun acc n2 => Q (.lst acc) S1 n2) := by simpa using q5
      refine iteT (he W F4 n4 S4 σ2 H4 _ _ hK A5 q5 fun y H5 F5 n5 S5 d5 g5 A6 r6 q6 => ?_)
      obtain ⟨e6, q6⟩ := q6
      subst e6
      have hD5 : H5 D0 = some (.lst us) := g5.h _ _ hD4 pD
      have r7 : Reps W.K W.pa F5 (us ++ [y]) (acc ++ [d5]) := Reps.append (Reps.mono (g3.f.trans (g4.f.trans g5.f)) r2) (.cons r6 .nil)
      have lu : us.length = acc.length := r2.length
      exact ⟨us, hD5, by rw [lu]; exact big_lt (by omega), next F5 H5 n5 acc [y] (g4.trans g5) A6 hD5 _ r7 (by rw [List.length_append, List.length_singleton]; omega) q6⟩
  · have e : i = ds.length := by omega
    subst e
    rw [List.drop_length] at q2
    have A3 := A1.back ok f2 A2
    refine .inl ⟨wk.stops F2 H2 n2 f2 A2.w, ?_⟩
    refine fin D0 us acc H2 F2 n2 S1 (g1.trans ⟨f2, h2, hn2, fun a o h => ?_, fun _ h => h⟩) A3 fD2 h0D pD hD2 r2 noD hDH q2
    rcases nf2 a o h with z | z
    · exact .inl z
    · exact .inr (.inl z)
end DL
namespace DL
open PySem PySem.Spec PyProof.Rows L2
section
variable {X : Cx}
/-! ### comprehensions as expressions; lists of one's own -/
theorem Grow.shut {W : Wd} {S S' : List Sl} {σ : St} {F H F' H' : Hp} {D0 : Addr} {us : List V} (g : Grow W S σ F H F' H' S') (hF : F' D0 = none) (hD : H D0 = none) : Grow W S σ F H (upd F' D0 (.lst us)) H' S' :=
  ⟨g.f.trans (same_new hF), g.h, g.hn, fun a o h => by
    by_cases y : a = D0
    · subst y; exact .inr (.inl hD)
    · rw [upd_ne y] at h; exact g.nf a o h, g.os⟩
/-- a new list that stands apart, not frozen -/
abbrev SpO (K : PySem.W.Frag) (t : TE) (k : KA) : Prop :=
  ∀ (W : Wd) (F : Hp) (n : Nat) (S : List Sl) (σ : St) (H : Hp) (Q : List D → List Sl → Nat → Prop) (R : VK), W.K = K → Abs W F n S σ H → k S n Q →
    (∀ D0 us acc H' F' n' S', Grow W S σ F H F' H' S' → Abs W F' n' S' σ H' → F' D0 = none → W.H0 D0 = none → pad W.pa ≠ some D0 → H' D0 = some (.lst us) → Reps W.K W.pa F' us acc → ¬ OwnA S' σ D0 → H D0 = none → Q acc S' n' → R (.ref D0) H') → t σ H R
structure DOw (X : Cx) (e : Expr) (t : TE) (k : KA) : Prop where
  pe : PE X e t
  ok : SpO X.K t k
def kOut (k : KA) : KE := fun S n Q => k S n fun ds S1 n1 => Q (.lst ds) S1 n1
theorem SpO.e {K : PySem.W.Frag} {t : TE} {k : KA} (h : SpO K t k) : SpE K t (kOut k) := by
  intro W F n S σ H Q R hK A q fin
  refine h W F n S σ H _ _ hK A q fun D0 us acc H' F' n' S' g A' hF h0 hp hD r no hn q' => ?_
  exact fin _ H' (upd F' D0 (.lst us)) n' S' (.lst acc) (g.shut hF hn) (A'.shut hF hD hp h0 no) (.lst upd_same (Reps.mono (same_new hF) r)) q'
theorem DOw.e {e : Expr} {t : TE} {k : KA} (h : DOw X e t k) : DE X e t (kOut k) := ⟨h.pe, h.ok.e⟩
def kLstO (ks : KA) : KA := fun S n Q => ks S n fun ds S1 n1 => ds.length ≤ 1000000 ∧ Q ds S1 n1
theorem dow_lst {es : List Expr} {ts : TA} {ks : KA} {pos : Pos} (h : DA X es ts ks) : DOw X (.List es pos) (tLst ts) (kLstO ks) := by
  refine ⟨pe_lst h.pe, fun W F n S σ H Q R hK A q fin => ?_⟩
  refine h.ok W F n S σ H _ _ hK A q fun vs H1 F1 n1 S1 ds g1 A1 r q1 => ?_
  refine ⟨by rw [r.length]; exact big_ok q1.1, fun p hp => ?_⟩
  obtain ⟨f1, f2, f3⟩ := A1.w.fresh hp
  have g2 := New.free A1.w hp (.lst vs)
  refine fin p vs ds _ F1 n1 S1 (g1.trans g2.grow) (A1.new g2) f1 f2 f3 upd_same r (fun z => ?_) (g1.hn p hp) q1.2
  obtain ⟨ws, e⟩ := A1.ownH z
  rw [hp] at e; cases e
def kCompO (ki : KA) (kg : KG) (kt : KT) (ke : KE) (vs : List Nat) : KA := fun S n Q => ki S n fun ds S1 n1 => ds.length ≤ 1000000 ∧ okW S1 vs = true ∧
  kComps kg kt ke vs (wipeD S1 vs) ds [] n1 fun acc n2 => Q acc S1 n2
/-- the parts of a comprehension -/
structure DLc (X : Cx) (elt tg iter : Expr) (ifs : List Expr) (scope : Scope) (own : List (Str × Nat)) (wi : TI) (g : TG) (tt : TT) (te : TE) (ki : KA) (kg : KG) (kt : KT) (ke : KE) : Prop where
  hN : X.N.Nodup
  hi : DI X tg iter wi ki
  blk : BlkOk X.N X.env.scope scope own
  hg : ∀ (s : Shared) (H : Hp) (C : Addr) (cl : List (Str × Addr)) (fp : List Addr), PG (X.blk s H scope (compEnvC scope cl C X.env) fp) tg g
  ht : ∀ (s : Shared) (H : Hp) (C : Addr) (cl : List (Str × Addr)) (fp : List Addr), PTs (X.blk s H scope (compEnvC scope cl C X.env) fp) ifs tt
  he : ∀ (s : Shared) (H : Hp) (C : Addr) (cl : List (Str × Addr)) (fp : List Addr), PE (X.blk s H scope (compEnvC scope cl C X.env) fp) elt te
  ok : ∀ (W : Wd) (F : Hp) (n : Nat) (S : List Sl) (σ : St) (H : Hp) (Q : D → List Sl → Nat → Prop) (R : VK), W.K = X.K → Abs W F n S σ H → kComp ki kg kt ke (own.map (·.2)) S n Q →
    (∀ D0 us acc H' F' n' S', Grow W S σ F H F' H' S' → Abs W F' n' S' σ H' → F' D0 = none → W.H0 D0 = none → pad W.pa ≠ some D0 → H' D0 = some (.lst us) → Reps W.K W.pa F' us acc → ¬ OwnA S' σ D0 → H D0 = none → Q (.lst acc) S' n' → R (.ref D0) H') →
    tLc wi g tt te (own.map (·.2)) σ H R
variable {elt tg iter : Expr} {ifs : List Expr} {scope : Scope} {own : List (Str × Nat)} {wi : TI} {g : TG} {tt : TT} {te : TE} {ki : KA} {kg : KG} {kt : KT} {ke : KE} {sl : List Nat}
theorem dlc_mk (hN : X.N.Nodup) (hi : DI X tg iter wi ki) (blk : BlkOk X.N X.env.scope scope own) (_ : DG (X.blk X.s_0 X.H_0 scope (compEnvC scope [] 0 X.env) []) tg g sl kg) (_ : DTs (X.blk X.s_0 X.H_0 scope (compEnvC scope [] 0 X.env) []) ifs tt kt) (_ : DE (X.blk X.s_0 X.H_0 scope (compEnvC scope [] 0 X.env) []) elt te ke)
    (hg : ∀ (s : Shared) (H : Hp) (C : Addr) (cl : List (Str × Addr)) (fp : List Addr), DG (X.blk s H scope (compEnvC scope cl C X.env) fp) tg g sl kg)
    (ht : ∀ (s : Shared) (H : Hp) (C : Addr) (cl : List (Str × Addr)) (fp : List Addr), DTs (X.blk s H scope (compEnvC scope cl C X.env) fp) ifs tt kt)
    (he : ∀ (s : Shared) (H : Hp) (C : Addr) (cl : List (Str × Addr)) (fp : List Addr), DE (X.blk s H scope (compEnvC scope cl C X.env) fp) elt te ke) (hsl : ∀ i ∈ sl, i ∈ own.map (·.2) := by decide) : DLc X elt tg iter ifs scope own wi g tt te ki kg kt ke :=
  ⟨hN, hi, blk, fun s H C cl fp => (hg s H C cl fp).pe, fun s H C cl fp => (ht s H C cl fp).pe, fun s H C cl fp => (he s H C cl fp).pe,
    lc_read hi.ok (hg X.s_0 X.H_0 0 [] []).ok hsl (ht X.s_0 X.H_0 0 [] []).ok (he X.s_0 X.H_0 0 [] []).ok⟩
theorem dow_lc {pos : Pos} (h : DLc X elt tg iter ifs scope own wi g tt te ki kg kt ke) (hc : X.calm = true := by rfl) (hs : ∀ x, foldedSetIterable iter X.env x = pure x := by intro _; rfl) :
    DOw X (.ListComp elt [⟨tg, iter, ifs, 0⟩] scope pos) (tLc wi g tt te (own.map (·.2))) (kCompO ki kg kt ke (own.map (·.2))) := by
  refine ⟨pe_lc hc h.hN h.hi.pe h.blk h.hg h.ht h.he hs, fun W F n S σ H Q R hK A q fin => ?_⟩
  exact h.ok W F n S σ H (fun d S1 n1 => match d with | .lst ds => Q ds S1 n1 | _ => False) R hK A q fin
/-! ### statements -/
structure DEnds where
  nx : List Sl → Nat → Prop
  rt : D → Nat → Prop
  bk : List Sl → Nat → Prop := fun _ _ => False
  ct : List Sl → Nat → Prop := fun _ _ => False
abbrev KS := DEnds → List Sl → Nat → Prop
structure EndsOk (W : Wd) (F : Hp) (E : DEnds) (R : Ends) : Prop where
  nx : ∀ F' n' S' σ' H', Same F F' → Abs W F' n' S' σ' H' → E.nx S' n' → R.nx σ' H'
  rt : ∀ F' n' v d H', Same F F' → Wok W F' H' n' → Rep W.K W.pa F' v d → E.rt d n' → R.rt v H'
  bk : ∀ F' n' S' σ' H', Same F F' → Abs W F' n' S' σ' H' → E.bk S' n' → R.bk σ' H'
  ct : ∀ F' n' S' σ' H', Same F F' → Abs W F' n' S' σ' H' → E.ct S' n' → R.ct σ' H'
theorem EndsOk.mono {W : Wd} {F F1 : Hp} {E : DEnds} {R : Ends} (h : EndsOk W F E R) (f : Same F F1) : EndsOk W F1 E R :=
  ⟨fun F' n' S' σ' H' g => h.nx F' n' S' σ' H' (f.trans g), fun F' n' v d H' g => h.rt F' n' v d H' (f.trans g), fun F' n' S' σ' H' g => h.bk F' n' S' σ' H' (f.trans g), fun F' n' S' σ' H' g => h.ct F' n' S' σ' H' (f.trans g)⟩
abbrev SpS (K : PySem.W.Frag) (t : TS) (k : KS) : Prop :=
  ∀ (W : Wd) (F : Hp) (n : Nat) (S : List Sl) (σ : St) (H : Hp) (E : DEnds) (R : Ends), W.K = K → Abs W F n S σ H → k E S n → EndsOk W F E R → t R σ H
structure DS (X : Cx) (st : Stmt) (t : TS) (k : KS) : Prop where
  pe : PS X st t
  ok : SpS X.K t k
structure DSs (X : Cx) (st : List Stmt) (t : TS) (k : KS) : Prop where
  pe : PSs X st t
  ok : SpS X.K t k
def kNext : KS := fun E S n => E.nx S n
def kSeq (k1 k2 : KS) : KS := fun E S n => k1 { E with nx := k2 E } S n
def kNever : KS := fun _ _ _ => False
variable {st : Stmt} {sts sts2 : List Stmt} {t t1 t2 : TS} {k1 k2 : KS} {pos : Pos}
theorem dss_nil : DSs X [] tNext kNext := ⟨pss_nil, fun W F n S σ H E R hK A q fin => fin.nx F n S σ H (Same.refl _) A q⟩
theorem dss_cons (h1 : DS X st t1 k1) (h2 : DSs X sts t2 k2) : DSs X (st :: sts) (tSeq t1 t2) (kSeq k1 k2) := by
  refine ⟨pss_cons h1.pe h2.pe, fun W F n S σ H E R hK A q fin => ?_⟩
  exact h1.ok W F n S σ H { E with nx := k2 E } { R with nx := t2 R } hK A q ⟨fun F' n' S' σ' H' f A' q' => h2.ok W F' n' S' σ' H' E R hK A' q' (fin.mono f), fin.rt, fin.bk, fin.ct⟩
theorem dss_one (h1 : DS X st t1 k1) : DSs X [st] t1 k1 := ⟨pss_one h1.pe, h1.ok⟩
theorem ds_pass : DS X (.Pass pos) tNext kNext := ⟨ps_pass, fun W F n S σ H E R hK A q fin => fin.nx F n S σ H (Same.refl _) A q⟩
theorem ds_never : DS X st tNever kNever := ⟨ps_never, fun W F n S σ H E R hK A q fin => q.elim⟩
theorem dss_never : DSs X sts tNever kNever := ⟨pss_never, fun W F n S σ H E R hK A q fin => q.elim⟩
def kBrk : KS := fun E S n => E.bk S n
def kCnt : KS := fun E S n => E.ct S n
theorem ds_brk : DS X (.Break pos) tBreak kBrk := ⟨ps_break, fun W F n S σ H E R hK A q fin => fin.bk F n S σ H (Same.refl _) A q⟩
theorem ds_cnt : DS X (.Continue pos) tCont kCnt := ⟨ps_continue, fun W F n S σ H E R hK A q fin => fin.ct F n S σ H (Same.refl _) A q⟩
variable {e e2 : Expr} {te2 : TE} {k : KE} {ke2 : KE} {ts : TA} {ks : KA}
def kDrop (k : KE) : KS := fun E S n => k S n fun _ S1 n1 => E.nx S1 n1
theorem ds_expr (h : DE X e te k) (hs : swapsWith e none pos.line X.env = pure false := by rfl) : DS X (.Expr e pos) (tDrop te) (kDrop k) := by
  refine ⟨ps_expr h.pe hs, fun W F n S σ H E R hK A q fin => ?_⟩
  exact h.ok W F n S σ H _ _ hK A q fun v H1 F1 n1 S1 d g1 A1 r q1 => fin.nx F1 n1 S1 σ H1 g1.f A1 q1
def kRet (k : KE) : KS := fun E S n => k S n fun d _ n1 => E.rt d n1
theorem ds_ret (h : DE X e te k) : DS X (.Return (some e) pos) (tRet te) (kRet k) := by
  refine ⟨ps_ret h.pe, fun W F n S σ H E R hK A q fin => ?_⟩
  exact h.ok W F n S σ H _ _ hK A q fun v H1 F1 n1 S1 d g1 A1 r q1 => fin.rt F1 n1 v d H1 g1.f A1.w r q1
def kRetN : KS := fun E _ n => E.rt .non n
theorem ds_retN : DS X (.Return none pos) tRetN kRetN := ⟨ps_retN, fun W F n S σ H E R hK A q fin => fin.rt F n _ _ H (Same.refl _) A.w .non q⟩
def kIfS (kt : KT) (k1 k2 : KS) : KS := fun E S n => kt S n fun c S1 n1 => if c = true then k1 E S1 n1 else k2 E S1 n1
theorem ds_if (h : DT X e tt kt) (h1 : DSs X sts t1 k1) (h2 : DSs X sts2 t2 k2) : DS X (.If e sts sts2 pos) (tIfS tt t1 t2) (kIfS kt k1 k2) := by
  refine ⟨ps_if h.pe h1.pe h2.pe, fun W F n S σ H E R hK A q fin => ?_⟩
  refine h.ok W F n S σ H _ _ hK A q fun c H1 F1 n1 S1 g1 A1 q1 => ?_
  cases c with
  | true => exact iteT (h1.ok W F1 n1 S1 σ H1 E R hK A1 (by simpa using q1) (fin.mono g1.f))
  | false => exact iteF (h2.ok W F1 n1 S1 σ H1 E R hK A1 (by simpa using q1) (fin.mono g1.f))
/-- a target's store -/
def kAsg (k : KE) (kg : KG) : KS := fun E S n => k S n fun d S1 n1 => kg d S1 fun S2 => E.nx S2 n1
theorem asg_ok {K : PySem.W.Frag} (h : SpE K te k) (hg : ∀ (W : Wd) (F : Hp) (n : Nat) (S : List Sl) (σ : St) (H : Hp) (v : V) (d : D) (Q : List Sl → Prop) (R : St → Hp → Prop), W.K = K → Abs W F n S σ H → Rep W.K W.pa F v d → kg d S Q →
    (∀ σ' S', Abs W F n S' σ' H → (∀ i, i ∉ sl → σ'[i]? = σ[i]? ∧ S'[i]? = S[i]?) → (∀ i ds, S'[i]? = some (.own ds) → S[i]? = some (.own ds) ∧ i ∉ sl) → Q S' → R σ' H) → g v σ H R) : SpS K (tAsg te g) (kAsg k kg) := by
  intro W F n S σ H E R hK A q fin
  refine h W F n S σ H _ _ hK A q fun v H1 F1 n1 S1 d g1 A1 r q1 => ?_
  exact hg W F1 n1 S1 σ H1 v d _ _ hK A1 r q1 fun σ' S' A2 _ _ q2 => fin.nx F1 n1 S' σ' H1 g1.f A2 q2
theorem ds_asg (h : DE X e te k) (h2 : DG X tg g sl kg) (hp : PE X e te → PG X tg g → PS X (.Assign [tg] e pos) (tAsg te g) := by intro a b; exact ps_asg a b) : DS X (.Assign [tg] e pos) (tAsg te g) (kAsg k kg) := ⟨hp h.pe h2.pe, asg_ok h.ok h2.ok⟩
/-- a name is set -/
theorem ds_set (i : Nat) {x : Str} {pos' : Pos} (h : DE X e te k) (hp : PE X e te → PS X (.Assign [.Name x pos'] e pos) (tAsg te (gName i))) : DS X (.Assign [.Name x pos'] e pos) (tAsg te (gName i)) (kAsg k (gN i)) := by
  refine ⟨hp h.pe, asg_ok (sl := [i]) h.ok fun W F n S σ H v d Q R hK A r q fin => ?_⟩
  refine fin _ _ (A.set r i) (fun j hj => ⟨List.getElem?_set_ne (not_single hj), List.getElem?_set_ne (not_single hj)⟩) (fun j ds hd => ?_) q
  by_cases e : j = i
  · subst e
    have hj : j < S.length := by
      have := (List.getElem?_eq_some_iff.mp hd).1
      rwa [List.length_set] at this
    rw [List.getElem?_set_self hj] at hd
    cases hd
  · rw [List.getElem?_set_ne (Ne.symm e)] at hd
    exact ⟨hd, fun z => e (List.mem_singleton.mp z)⟩
/-- a name is set to a list of the def's own -/
def kOwnS (i : Nat) (k : KA) : KS := fun E S n => k S n fun ds S1 n1 => E.nx (S1.set i (.own ds)) n1
theorem Abs.setOwn {W : Wd} {F H : Hp} {n : Nat} {S : List Sl} {σ : St} (A : Abs W F n S σ H) {D0 : Addr} {us : List V} {acc : List D} (i : Nat) (hF : F D0 = none) (h0 : W.H0 D0 = none) (hp : pad W.pa ≠ some D0) (hD : H D0 = some (.lst us)) (r : Reps W.K W.pa F us acc) (no : ¬ OwnA S σ D0) :
    Abs W F n (S.set i (.own acc)) (σ.set i (some (.ref D0))) H := by
  have far : ∀ (j : Nat) (es : List D), j ≠ i → (S.set i (.own acc))[j]? = some (.own es) → (σ.set i (some (.ref D0)))[j]? = some (some (.ref D0)) → False := fun j es nj h1 h2 => by
    rw [List.getElem?_set_ne (Ne.symm nj)] at h1 h2
    exact no ⟨j, es, h1, h2⟩
  refine ⟨A.w, by rw [List.length_set, List.length_set]; exact A.len, fun j s u h1 h2 => ?_, fun j k p ds es h1 h2 h3 h4 => ?_⟩
  · by_cases e : j = i
    · subst e
      have hj : j < S.length := by
        have := (List.getElem?_eq_some_iff.mp h1).1
        rwa [List.length_set] at this
      rw [List.getElem?_set_self hj] at h1
      rw [List.getElem?_set_self (by rw [← A.len]; exact hj)] at h2
      cases h1
      cases h2
      exact ⟨hF, h0, hp, us, hD, r⟩
    · rw [List.getElem?_set_ne (Ne.symm e)] at h1 h2
      exact A.sl j s u h1 h2
  · by_cases ej : j = i
    · by_cases ek : k = i
      · exact ej.trans ek.symm
      · subst ej
        have hj : j < σ.length := by
          have := (List.getElem?_eq_some_iff.mp h3).1
          rwa [List.length_set] at this
        rw [List.getElem?_set_self hj] at h3
        cases h3
        exact (far k es ek h2 h4).elim
    · by_cases ek : k = i
      · subst ek
        have hj : k < σ.length := by
          have := (List.getElem?_eq_some_iff.mp h4).1
          rwa [List.length_set] at this
        rw [List.getElem?_set_self hj] at h4
        cases h4
        exact (far j ds ej h1 h3).elim
      · rw [List.getElem?_set_ne (Ne.symm ej)] at h1 h3
        rw [List.getElem?_set_ne (Ne.symm ek)] at h2 h4
        exact A.di j k p ds es h1 h2 h3 h4
theorem own_ok {K : PySem.W.Frag} {ka : KA} (i : Nat) (h : SpO K te ka) : SpS K (tAsg te (gName i)) (kOwnS i ka) := by
  intro W F n S σ H E R hK A q fin
  refine h W F n S σ H _ _ hK A q fun D0 us acc H' F' n' S' g A' hF h0 hp hD r no hn q' => ?_
  exact fin.nx F' n' _ _ H' g.f (A'.setOwn i hF h0 hp hD r no) q'
theorem ds_own (i : Nat) {x : Str} {pos' : Pos} {ka : KA} (h : DOw X e te ka) (hp : PE X e te → PS X (.Assign [.Name x pos'] e pos) (tAsg te (gName i))) : DS X (.Assign [.Name x pos'] e pos) (tAsg te (gName i)) (kOwnS i ka) :=
  ⟨hp h.pe, own_ok i h.ok⟩
/-- x = [.. for ..], x a local on the same row -/
theorem ds_lc (i : Nat) {x : Str} {py lpos spos : Pos} (h : DLc X elt tg iter ifs scope own wi g tt te ki kg kt ke) (hy : X.N[i]? = some x) (hyl : X.env.scope.names.lookup x = some .local)
    (hsw : swapsWith (.ListComp elt [⟨tg, iter, ifs, 0⟩] scope lpos) (some (.Name x py)) spos.line X.env = pure true) (hc : X.calm = true := by rfl) (hs : ∀ x, foldedSetIterable iter X.env x = pure x := by intro _; rfl) :
    DS X (.Assign [.Name x py] (.ListComp elt [⟨tg, iter, ifs, 0⟩] scope lpos) spos) (tAsg (tLc wi g tt te (own.map (·.2))) (gName i)) (kAsg (kOut (kCompO ki kg kt ke (own.map (·.2)))) (gN i)) := by
  have hO : SpO X.K (tLc wi g tt te (own.map (·.2))) (kCompO ki kg kt ke (own.map (·.2))) := fun W F n S σ H Q R hK A q fin =>
    h.ok W F n S σ H (fun d S1 n1 => match d with | .lst ds => Q ds S1 n1 | _ => False) R hK A q fin
  refine ⟨ps_setLc hc h.hN hy hyl hsw h.hi.pe h.blk h.hg h.ht h.he hs, asg_ok (sl := [i]) hO.e fun W F n S σ H v d Q R hK A r q fin => ?_⟩
  refine fin _ _ (A.set r i) (fun j hj => ⟨List.getElem?_set_ne (not_single hj), List.getElem?_set_ne (not_single hj)⟩) (fun j ds hd => ?_) q
  by_cases e : j = i
  · subst e
    have hj : j < S.length := by
      have := (List.getElem?_eq_some_iff.mp hd).1
      rwa [List.length_set] at this
    rw [List.getElem?_set_self hj] at hd
    cases hd
  · rw [List.getElem?_set_ne (Ne.symm e)] at hd
    exact ⟨hd, fun z => e (List.mem_singleton.mp z)⟩
theorem ds_lcO (i : Nat) {x : Str} {py lpos spos : Pos} (h : DLc X elt tg iter ifs scope own wi g tt te ki kg kt ke) (hy : X.N[i]? = some x) (hyl : X.env.scope.names.lookup x = some .local)
    (hsw : swapsWith (.ListComp elt [⟨tg, iter, ifs, 0⟩] scope lpos) (some (.Name x py)) spos.line X.env = pure true) (hc : X.calm = true := by rfl) (hs : ∀ x, foldedSetIterable iter X.env x = pure x := by intro _; rfl) :
    DS X (.Assign [.Name x py] (.ListComp elt [⟨tg, iter, ifs, 0⟩] scope lpos) spos) (tAsg (tLc wi g tt te (own.map (·.2))) (gName i)) (kOwnS i (kCompO ki kg kt ke (own.map (·.2)))) := by
  have hO : SpO X.K (tLc wi g tt te (own.map (·.2))) (kCompO ki kg kt ke (own.map (·.2))) := fun W F n S σ H Q R hK A q fin =>
    h.ok W F n S σ H (fun d S1 n1 => match d with | .lst ds => Q ds S1 n1 | _ => False) R hK A q fin
  exact ⟨ps_setLc hc h.hN hy hyl hsw h.hi.pe h.blk h.hg h.ht h.he hs, own_ok i hO⟩
/-- x, y = a, b (locals) -/
def kPar (i j : Nat) (ks : KA) : KS := fun E S n => ks S n fun ds S1 n1 => match ds with
  | [d, f] => E.nx ((S1.set i (.val d)).set j (.val f)) n1
  | _ => False
theorem ds_par {i j : Nat} {es : List Expr} (h : DA X es ts ks) (hp : PA X es ts → PS X st (tPar i j ts)) : DS X st (tPar i j ts) (kPar i j ks) := by
  refine ⟨hp h.pe, fun W F n S σ H E R hK A q fin => ?_⟩
  refine h.ok W F n S σ H _ _ hK A q fun vs H1 F1 n1 S1 ds g1 A1 r q1 => ?_
  match ds, r, q1 with
  | [d, f], .cons r1 (.cons r2 .nil), q1 => exact ⟨_, _, rfl, fin.nx F1 n1 _ _ H1 g1.f ((A1.set r1 i).set r2 j) q1⟩
/-- x op= e, ints -/
def kAug (i : Nat) (f : Int → Int → Int) (k : KE) : KS := fun E S n => match S[i]? with
  | some (.val (.int a)) => k S n fun d S1 n1 => match d with
    | .int b => E.nx (S1.set i (.val (.int (f a b)))) n1
    | _ => False
  | _ => False
theorem ds_aug (i : Nat) {f : Int → Int → Int} (h : DE X e te k) (hp : PE X e te → PS X st (tAug i te (ipI f))) : DS X st (tAug i te (ipI f)) (kAug i f k) := by
  refine ⟨hp h.pe, fun W F n S σ H E R hK A q fin => ?_⟩
  unfold kAug at q
  cases e1 : S[i]? with
  | none => rw [e1] at q; exact q.elim
  | some s =>
    rw [e1] at q
    cases s with
    | no => exact q.elim
    | own _ => exact q.elim
    | val d =>
      cases d <;> try exact False.elim q
      case int a =>
        obtain ⟨v, e2, ok⟩ := slot_of A e1
        cases v with
        | none => exact ok.elim
        | some v =>
          cases ok
          refine ⟨_, e2, h.ok W F n S σ H _ _ hK A q fun w H1 F1 n1 S1 d g1 A1 r q1 => ?_⟩
          cases d <;> try exact False.elim q1
          case int b =>
            cases r
            exact ⟨a, b, rfl, rfl, fin.nx F1 n1 _ _ H1 g1.f (A1.set (.int _) i) q1⟩
/-! ### lists of one's own are changed -/
theorem Abs.putOwn {W : Wd} {F H : Hp} {n : Nat} {S : List Sl} {σ : St} (A : Abs W F n S σ H) {i : Nat} {p : Addr} {ds es : List D} {ws : List V} (e : S[i]? = some (.own ds)) (e2 : σ[i]? = some (some (.ref p))) (r : Reps W.K W.pa F ws es) :
    Abs W F n (S.set i (.own es)) σ (upd H p (.lst ws)) := by
  obtain ⟨h1, h2, h3, vs, h4, h5⟩ := A.sl i _ _ e e2
  have hi : i < S.length := (List.getElem?_eq_some_iff.mp e).1
  have far : ∀ a o, F a = some o → a ≠ p := fun a o h z => by rw [z, h1] at h; cases h
  have old : ∀ (j : Nat) (es' : List D), (S.set i (.own es))[j]? = some (Sl.own es') → ∃ es0, S[j]? = some (Sl.own es0) := fun j es' h => by
    by_cases y : j = i
    · subst y; exact ⟨ds, e⟩
    · rw [List.getElem?_set_ne (Ne.symm y)] at h; exact ⟨es', h⟩
  refine ⟨⟨fun a u z => ?_, fun q z => ?_, fun a u z k => ?_, fun q z => ?_, A.w.f0, A.w.nf⟩, by rw [List.length_set]; exact A.len, fun j s v z1 z2 => ?_, fun j k q ds1 ds2 z1 z2 z3 z4 => ?_⟩
  · rw [upd_ne (far _ _ z)]; exact A.w.sub _ _ z
  · obtain ⟨y1, ca, turn, rst, y2, y3⟩ := A.w.pen q z
    have nq : q ≠ p := fun y => h3 (y ▸ z)
    exact ⟨y1, ca, turn, rst, by rw [upd_ne nq]; exact y2, y3⟩
  · have na : a ≠ p := fun y => by rw [y, h2] at z; cases z
    rw [upd_ne na]; exact A.w.old _ _ z k
  · have nq : q ≠ p := fun y => h3 (y ▸ z)
    rw [upd_ne nq]; exact A.w.oldp q z
  · by_cases y : j = i
    · subst y
      rw [List.getElem?_set_self hi] at z1
      cases z1
      rw [e2] at z2
      cases z2
      exact ⟨h1, h2, h3, ws, upd_same, r⟩
    · rw [List.getElem?_set_ne (Ne.symm y)] at z1
      have ok := A.sl j s v z1 z2
      cases s with
      | no => trivial
      | val d =>
        cases v with
        | none => exact ok.elim
        | some v => exact ok
      | own es' =>
        cases v with
        | none => exact ok.elim
        | some v =>
          cases v with
          | ref q =>
            obtain ⟨k1, k2, k3, ws', k4, k5⟩ := ok
            have nq : q ≠ p := fun x => y (A.di j i p es' ds z1 e (x ▸ z2) e2)
            exact ⟨k1, k2, k3, ws', by rw [upd_ne nq]; exact k4, k5⟩
          | _ => exact ok.elim
  · obtain ⟨es1, y1⟩ := old j _ z1
    obtain ⟨es2, y2⟩ := old k _ z2
    exact A.di j k q es1 es2 y1 y2 z3 z4
theorem slot_own {W : Wd} {F H : Hp} {n : Nat} {S : List Sl} {σ : St} (A : Abs W F n S σ H) {i : Nat} {ds : List D} (e : S[i]? = some (.own ds)) : ∃ p vs, σ[i]? = some (some (.ref p)) ∧ H p = some (.lst vs) ∧ Reps W.K W.pa F vs ds := by
  obtain ⟨v, e2, ok⟩ := slot_of A e
  cases v with
  | none => exact ok.elim
  | some v =>
    cases v with
    | ref p => obtain ⟨_, _, _, vs, h4, h5⟩ := ok; exact ⟨p, vs, e2, h4, h5⟩
    | _ => exact ok.elim
/-- x.append(e) -/
def kApp (i : Nat) (k : KE) : KS := fun E S n => match S[i]? with
  | some (.own _) => k S n fun d S1 n1 => match S1[i]? with
    | some (.own ds) => ds.length < 1000000 ∧ E.nx (S1.set i (.own (ds ++ [d]))) n1
    | _ => False
  | _ => False
theorem ds_app (i : Nat) (h : DE X e te k) (hp : PE X e te → PS X st (tDrop (tBM X.K "list" rAppend (tVar i) (tCons te tNil)))) : DS X st (tDrop (tBM X.K "list" rAppend (tVar i) (tCons te tNil))) (kApp i k) := by
  refine ⟨hp h.pe, fun W F n S σ H E R hK A q fin => ?_⟩
  unfold kApp at q
  cases e1 : S[i]? with
  | none => rw [e1] at q; exact q.elim
  | some s =>
    rw [e1] at q
    cases s with
    | no => exact q.elim
    | val _ => exact q.elim
    | own ds0 =>
      obtain ⟨p, vs0, e2, h4, _⟩ := slot_own A e1
      refine ⟨_, e2, .inl ⟨rfl, _, SqL.of h4⟩, h.ok W F n S σ H _ _ hK A q fun v H1 F1 n1 S1 d g1 A1 r q1 => ?_⟩
      cases e3 : S1[i]? with
      | none => rw [e3] at q1; exact q1.elim
      | some s =>
        rw [e3] at q1
        cases s with
        | no => exact q1.elim
        | val _ => exact q1.elim
        | own ds =>
          obtain ⟨p', vs, e4, h5, r5⟩ := slot_own A1 e3
          have ep : p' = p := by rw [e2] at e4; cases e4; rfl
          subst ep
          refine ⟨p', vs, v, rfl, rfl, h5, by rw [r5.length]; exact big_lt (Nat.le_of_lt q1.1), ?_⟩
          exact fin.nx F1 n1 _ _ _ g1.f (A1.putOwn e3 e4 (Reps.append r5 (.cons r .nil))) q1.2
/-- x.extend(e) -/
def kExt (i : Nat) (k : KE) : KS := fun E S n => match S[i]? with
  | some (.own _) => k S n fun d S1 n1 => match S1[i]?, d with
    | some (.own ds), .lst es => ds.length + es.length < 1000000 ∧ E.nx (S1.set i (.own (ds ++ es))) n1
    | _, _ => False
  | _ => False
theorem ds_ext (i : Nat) (h : DE X e te k) (hp : PE X e te → PS X st (tDrop (tBM X.K "list" rExtend (tVar i) (tCons te tNil)))) : DS X st (tDrop (tBM X.K "list" rExtend (tVar i) (tCons te tNil))) (kExt i k) := by
  refine ⟨hp h.pe, fun W F n S σ H E R hK A q fin => ?_⟩
  unfold kExt at q
  cases e1 : S[i]? with
  | none => rw [e1] at q; exact q.elim
  | some s =>
    rw [e1] at q
    cases s with
    | no => exact q.elim
    | val _ => exact q.elim
    | own ds0 =>
      obtain ⟨p, vs0, e2, h4, _⟩ := slot_own A e1
      refine ⟨_, e2, .inl ⟨rfl, _, SqL.of h4⟩, h.ok W F n S σ H _ _ hK A q fun v H1 F1 n1 S1 d g1 A1 r q1 => ?_⟩
      cases e3 : S1[i]? with
      | none => rw [e3] at q1; exact q1.elim
      | some s =>
        rw [e3] at q1
        cases s with
        | no => exact q1.elim
        | val _ => exact q1.elim
        | own ds =>
          cases d <;> try exact False.elim q1
          case lst es =>
            obtain ⟨p', vs, e4, h5, r5⟩ := slot_own A1 e3
            have ep : p' = p := by rw [e2] at e4; cases e4; rfl
            subst ep
            cases r with
            | lst hb rb =>
              refine ⟨p', _, vs, _, rfl, rfl, h5, A1.w.sub _ _ hb, by rw [r5.length, rb.length]; exact big_ok (Nat.le_of_lt q1.1), ?_⟩
              exact fin.nx F1 n1 _ _ _ g1.f (A1.putOwn e3 e4 (Reps.append r5 rb)) q1.2
/-- x[e] = e2 -/
def kSub (i : Nat) (k2 k : KE) : KS := fun E S n => k2 S n fun d S1 n1 => match S1[i]? with
  | some (.own _) => k S1 n1 fun z S2 n2 => match S2[i]?, z with
    | some (.own ds), .int j => match ixN ds.length j with
      | some m => E.nx (S2.set i (.own (ds.set m d))) n2
      | none => False
    | _, _ => False
  | _ => False
theorem ds_sub (i : Nat) (h2 : DE X e2 te2 ke2) (h : DE X e te k) (hp : PE X e2 te2 → PE X e te → PS X st (tAsg te2 (gSub (tVar i) te rSetL))) : DS X st (tAsg te2 (gSub (tVar i) te rSetL)) (kSub i ke2 k) := by
  refine ⟨hp h2.pe h.pe, fun W F n S σ H E R hK A q fin => ?_⟩
  refine h2.ok W F n S σ H _ _ hK A q fun v H1 F1 n1 S1 d g1 A1 r q1 => ?_
  cases e1 : S1[i]? with
  | none => rw [e1] at q1; exact q1.elim
  | some s =>
    rw [e1] at q1
    cases s with
    | no => exact q1.elim
    | val _ => exact q1.elim
    | own ds0 =>
      obtain ⟨p, vs0, e2, h4, _⟩ := slot_own A1 e1
      refine ⟨_, e2, h.ok W F1 n1 S1 σ H1 _ _ hK A1 q1 fun w H2 F2 n2 S2 z g2 A2 r2 q2 => ?_⟩
      cases e3 : S2[i]? with
      | none => rw [e3] at q2; exact q2.elim
      | some s =>
        rw [e3] at q2
        cases s with
        | no => exact q2.elim
        | val _ => exact q2.elim
        | own ds =>
          cases z <;> try exact False.elim q2
          case int j =>
            obtain ⟨p', vs, e4, h5, r5⟩ := slot_own A2 e3
            have ep : p' = p := by rw [e2] at e4; cases e4; rfl
            subst ep
            have q2 : (match ixN ds.length j with | some m => E.nx (S2.set i (.own (ds.set m d))) n2 | none => False) := q2
            cases e6 : ixN ds.length j with
            | none => rw [e6] at q2; exact q2.elim
            | some m =>
              rw [e6] at q2
              cases r2
              refine ⟨p', vs, j, m, rfl, rfl, h5, by rw [r5.length]; exact e6, ?_⟩
              exact fin.nx F2 n2 _ _ _ (g1.f.trans g2.f) (A2.putOwn e3 e4 (Reps.set (Rep.mono g2.f r) m r5)) q2
/-! ### loops -/
def kFors (kg : KG) (kb : KS) (E : DEnds) : List D → List Sl → Nat → Prop
  | [] => fun S n => E.nx S n
  | d :: ds => fun S n => kg d S fun S1 => kb { E with nx := kFors kg kb E ds, ct := kFors kg kb E ds, bk := E.nx } S1 n
def kFor (ki : KA) (kg : KG) (kb : KS) : KS := fun E S n => ki S n fun ds S1 n1 => kFors kg kb E ds S1 n1
theorem ds_for (hi : DI X tg iter wi ki) (hg : DG X tg g sl kg) (hb : DSs X sts t1 k1) (hp : PI X tg iter wi → PG X tg g → PSs X sts t1 → PS X (.For tg iter sts [] pos) (tFor wi g t1)) : DS X (.For tg iter sts [] pos) (tFor wi g t1) (kFor ki kg k1) := by
  refine ⟨hp hi.pe hg.pe hb.pe, fun W F n S σ H E R hK A q fin => ?_⟩
  refine hi.ok W F n S σ H _ _ hK A q fun J H1 F1 n1 S1 ds g1 A1 wk q1 => ?_
  refine ⟨fun i m σ H => m = ds.length - i ∧ i ≤ ds.length ∧ ∃ F2 n2 S2, Same F1 F2 ∧ Abs W F2 n2 S2 σ H ∧ kFors kg k1 E (ds.drop i) S2 n2, ⟨ds.length, by simp, Nat.zero_le _, F1, n1, S1, Same.refl _, A1, by rw [List.drop_zero]; exact q1⟩, ?_⟩
  rintro i m σ2 H2 ⟨rfl, hi2, F2, n2, S2, f2, A2, q2⟩
  by_cases hlt : i < ds.length
  · have ed : ds.drop i = ds[i] :: ds.drop (i + 1) := List.drop_eq_getElem_cons hlt
    rw [ed] at q2
    refine .inr ⟨wk.goes F2 H2 n2 i f2 A2.w hlt, fun σ' H' => ∃ F3 n3 S3, Same F1 F3 ∧ Abs W F3 n3 S3 σ' H' ∧ kFors kg k1 E (ds.drop (i + 1)) S3 n3, fun σ' H' p => ⟨ds.length - (i + 1), by omega, rfl, hlt, p⟩, fun x H' y => ?_⟩
    obtain ⟨F3, d, hd, g3, r3⟩ := wk.yields F2 H2 n2 i x H' f2 A2.w hlt y
    have ed2 : d = ds[i] := Option.some.inj (hd.symm.trans (List.getElem?_eq_getElem hlt))
    subst ed2
    refine hg.ok W F3 n2 _ _ H' x _ _ _ hK (A2.new g3) r3 q2 fun σ4 S4 A4 _ _ q4 => ?_
    refine hb.ok W F3 n2 S4 σ4 H' _ _ hK A4 q4 ⟨fun F' n' S' σ' H' f A' q' => ⟨F', n', S', f2.trans (g3.f.trans f), A', q'⟩, fun F' n' v d H' f => fin.rt F' n' v d H' (g1.f.trans (f2.trans (g3.f.trans f))),
      fun F' n' S' σ' H' f => fin.nx F' n' S' σ' H' (g1.f.trans (f2.trans (g3.f.trans f))), fun F' n' S' σ' H' f A' q' => ⟨F', n', S', f2.trans (g3.f.trans f), A', q'⟩⟩
  · have e : i = ds.length := by omega
    subst e
    rw [List.drop_length] at q2
    exact .inl ⟨wk.stops F2 H2 n2 f2 A2.w, fin.nx F2 n2 S2 σ2 H2 (g1.f.trans f2) A2 q2⟩
def kWhiles (kt : KT) (kb : KS) (E : DEnds) : Nat → List Sl → Nat → Prop
  | 0 => fun _ _ => False
  | m + 1 => fun S n => kt S n fun b S1 n1 => if b = true then kb { E with nx := kWhiles kt kb E m, ct := kWhiles kt kb E m, bk := E.nx } S1 n1 else E.nx S1 n1
def kWhile (kt : KT) (kb : KS) : KS := fun E S n => ∃ m, kWhiles kt kb E m S n
theorem ds_while (ht : DT X e tt kt) (hb : DSs X sts t1 k1) (hp : PT X e tt → PSs X sts t1 → PS X (.While e sts [] pos) (tWhile tt t1)) : DS X (.While e sts [] pos) (tWhile tt t1) (kWhile kt k1) := by
  refine ⟨hp ht.pe hb.pe, fun W F n S σ H E R hK A q fin => ?_⟩
  obtain ⟨m0, q⟩ := q
  refine ⟨fun m σ H => ∃ F2 n2 S2, Same F F2 ∧ Abs W F2 n2 S2 σ H ∧ kWhiles kt k1 E m S2 n2, ⟨m0, F, n, S, Same.refl _, A, q⟩, ?_⟩
  rintro m σ2 H2 ⟨F2, n2, S2, f2, A2, q2⟩
  cases m with
  | zero => exact False.elim q2
  | succ m =>
    refine ht.ok W F2 n2 S2 σ2 H2 _ _ hK A2 q2 fun b H3 F3 n3 S3 g3 A3 q3 => ?_
    cases b with
    | false => exact fin.nx F3 n3 S3 σ2 H3 (f2.trans g3.f) A3 (by simpa using q3)
    | true =>
      have q3 := (show k1 { E with nx := kWhiles kt k1 E m, ct := kWhiles kt k1 E m, bk := E.nx } S3 n3 by simpa using q3)
      refine ⟨fun σ' H' => ∃ F4 n4 S4, Same F F4 ∧ Abs W F4 n4 S4 σ' H' ∧ kWhiles kt k1 E m S4 n4, fun σ' H' p => ⟨m, Nat.lt_succ_self _, p⟩, ?_⟩
      exact hb.ok W F3 n3 S3 σ2 H3 _ _ hK A3 q3 ⟨fun F' n' S' σ' H' f A' q' => ⟨F', n', S', f2.trans (g3.f.trans f), A', q'⟩, fun F' n' v d H' f => fin.rt F' n' v d H' (f2.trans (g3.f.trans f)),
        fun F' n' S' σ' H' f => fin.nx F' n' S' σ' H' (f2.trans (g3.f.trans f)), fun F' n' S' σ' H' f A' q' => ⟨F', n', S', f2.trans (g3.f.trans f), A', q'⟩⟩
end
end DL
namespace DL
open PySem PySem.Spec PyProof.Rows L2
/-! ### what a def promises, where no recursion of repr is under way -/
section
variable {P : Program} {w : World} {K : PySem.W.Frag} {mg : Str → Option Value} {base : Heap} {CX : CXT} {k : Nat} {f : Addr} {fd : FuncData} {ps : List Str} {sp : Sp}
structure FnG (P : Program) (w : World) (K : PySem.W.Frag) (mg : Str → Option Value) (base : Heap) (CX : CXT) (k : Nat) (f : Addr) (fd : FuncData) (ps : List Str) (sp : Sp) : Prop where
  long : ∀ vs H Q E, sp vs H Q E → vs.length = ps.length
  goes : ∀ (A : Around) (outer : List Env) (s : Shared) (H : Hp) (args : Args) (us : List Value) (vs : List V) (Q : VK) (E : XK),
    Room k A → A.guards = some [] → Env0 P w K mg base A outer s H → BindsTo s fd args (ps.zip us) → Vals vs us → sp vs H Q E →
    codeAny (model P w) A (.call (.ref f) args) (CR CX outer P w H s Q E) s
theorem FnG.of (F : FnOk P w K mg base CX k f fd ps sp) : FnG P w K mg base CX k f fd ps sp :=
  ⟨F.len, fun A outer s H args us vs Q E hr _ => F.run A outer s H args us vs Q E hr⟩
theorem FnG.up (F : FnG P w K mg base CX k f fd ps sp) {j : Nat} (h : k ≤ j) : FnG P w K mg base CX j f fd ps sp :=
  ⟨F.long, fun A outer s H args us vs Q E hr => F.goes A outer s H args us vs Q E (hr.mono h)⟩
/-- a def of the text by its body -/
theorem FnG.mk' {name qual : Str} {params : Arguments} {body : List Stmt} {scope : Scope} {dV kV doc pm cdv ct oc : Value} {an od : Option Addr} {osl : Array (Option Value)} {N : List Str}
    (lk : K.lookup f = some ⟨oc, od, .func (PySem.W.fnOf name qual params body scope dV kV doc pm an cdv ct), osl⟩) (hcd : PySem.W.codeIn K cdv qual = true)
    (S : FnScope N ps scope) (long : ∀ vs H Q E, sp vs H Q E → vs.length = ps.length)
    (walk : ∀ (A : Around) (outer : List Env) (s : Shared) (H : Hp) (vs : List V) (Q : VK) (E : XK), Room k (A.deeper (envOfC qual scope s.heap.objs.size f cdv)) → A.guards = some [] → sp vs H Q E →
      ∃ t, PSs (cxOf CX P w K mg base N qual scope f cdv A outer s H E) body t ∧ t ⟨fun _ H' => Q .non H', Q, fun _ _ => False, fun _ _ => False⟩ (start N vs) H) :
    FnG P w K mg base CX (k + 1) f (PySem.W.fnOf name qual params body scope dV kV doc pm an cdv ct) ps sp := by
  refine ⟨long, ?_⟩
  intro A outer s H args us vs Q E hr hgd e0 hb r hsp
  have kept : ∀ b o, base.get? b = some o → s.heap.get? b = some o := fun b o z => (e0.bs b o z).1
  have inK : K.In s.heap := e0.mod.kin.keeps kept
  have cells : ∀ y ∈ ps.zip us, scope.names.lookup y.1 = some .local ∨
      (scope.names.lookup y.1 = some .cell ∧ ((cellsFrom (s.heap.objs.size + 1) scope.names []).lookup y.1).isSome = true) := by
    rintro ⟨n, v⟩ hy
    rcases S.par n (List.of_mem_zip hy).1 with z | z
    · exact Or.inl z
    · exact Or.inr ⟨z, PySem.W.cellsFrom_some _ _ _ (Or.inl z)⟩
  refine codeAny_call_function hr.depth (inK _ _ lk) rfl S.co S.gen rfl
    (PySem.W.codeRec_of inK hcd) (hb _ _ _ _ ?_)
  refine wpAny_newFunctionEnv_cells S.kind cells ?_
  intro env he s1 x
  subst he
  refine ⟨(e0.mod.nolimit.keeps kept).keeps x.toInCall.keep, codeAny_func ?_⟩
  obtain ⟨t, ht, hq⟩ := walk A outer s H vs Q E (hr.deeper _) hgd hsp
  have I := inv_start (CX := CX) (E := E) S hr.hd e0 (long _ _ _ _ hsp) r x
  refine wpAny_mono (ht.run [] s1 _ H _ I hq) ?_ (fun _ _ z => z)
  intro fl s' z
  cases fl with
  | next => obtain ⟨σ', H', J, q⟩ := z; exact ⟨V.non, H', J.os, J.bare, J.base, J.hok, rfl, q⟩
  | ret u => obtain ⟨v, σ', H', J, rv, q⟩ := z; exact ⟨v, H', J.os, J.bare, J.base, J.hok, rv, q⟩
  | brk => obtain ⟨_, _, _, q⟩ := z; exact q.elim
  | cont => obtain ⟨_, _, _, q⟩ := z; exact q.elim
end
section
variable {X : Cx} {CX : CXT} {k : Nat} {f : Addr} {fd : FuncData} {ps : List Str} {sp : Sp} {dvs : List V} {ds : List Value} {E : XK}
theorem FnG.call {pins : List (Addr × Obj)} {σ : St} {H : Hp} {s : Shared} {Q : VK} {us : List Value} {vs : List V} {args : Args} {all : List Value} {vall : List V} (F : FnG X.prog X.w X.K X.mg X.base CX k f fd ps sp) (hr : Room k X.A) (hgd : X.A.guards = some [])
    (hx : Passes CX X E) (I : Inv X pins σ H s) (hb : BindsTo s fd args (ps.zip all)) (r : Vals vall all) (h : sp vall H Q E) :
    codeAny (model X.prog X.w) X.A (.call (.ref f) args) (fun res s' => match res with | .ok (.ret u) => EP X pins σ Q u s' | .ok _ => False | .error e => X.xe e s') s := by
  refine codeAny_mono (F.goes X.A X.stack s H args all vall Q E hr hgd I.env0 hb r h) ?_
  intro res s' z
  cases res with
  | error e => exact hx pins σ H s e s' I z
  | ok fl =>
    cases fl with
    | ret u => exact I.after z
    | _ => exact False.elim z
theorem FnG.run {pins : List (Addr × Obj)} {σ : St} {H : Hp} {s : Shared} {Q : VK} {us : List Value} {vs : List V} (F : FnG X.prog X.w X.K X.mg X.base CX k f fd ps sp) (hr : Room k X.A) (hgd : X.A.guards = some []) (hb : Binds X.K fd ps ds) (hd : Vals dvs ds)
    (hx : Passes CX X E) (I : Inv X pins σ H s) (r : Vals vs us) (h : sp (vs ++ dvs) H Q E) : wpAny (model X.prog X.w) X.A (PySem.call (.ref f) us) (EP X pins σ Q) X.xe s := by
  have r2 : Vals (vs ++ dvs) (us ++ ds) := r.append hd
  have hl : (us ++ ds).length = ps.length := r2.length.symm.trans (F.long _ _ _ _ h)
  refine wpAny_call (codeAny_mono (F.call (us := us) (vs := vs) hr hgd hx I (hb s us I.kIn hl) r2 h) ?_)
  intro res s' z
  cases res with
  | error e => exact z
  | ok fl => cases fl <;> first | exact z | exact False.elim z
variable {x : Str} {p pos : Pos} {e : Expr} {es : List Expr} {t tk : TA} {kws : List Keyword} {ks : List Str} {g : List Value → List Value → List Value} {gV : List V → List V → List V}
theorem pe_callG (F : FnG X.prog X.w X.K X.mg X.base CX k f fd ps sp) (hr : Room k X.A) (hgd : X.A.guards = some []) (hg : Gl X x) (hm : X.mg x = some (.ref f)) (hk : PySem.W.keepIn X.K (.ref f) = true) (hb : Binds X.K fd ps ds) (hd : Vals dvs ds) (hx : Passes CX X E)
    (ha : PA X (e :: es) t) (hdb : (x == ("__debug__" : Str)) = false := by decide) (he : starEach (e :: es) X.env = (false, eval e X.env) :: starEach es X.env := by rfl) (hpl : (backTo pos (starEach es X.env)).any (·.1) = false := by rfl) :
    PE X (.Call (.Name x p) (e :: es) [] pos) (tCall sp dvs E t) := by
  constructor
  intro pins s σ H Q I h
  refine wpAny_Call_Name_kw (ld_glob I hg hm ?_ hdb)
  refine PySem.W.callWith_K (h₀ := X.base) I.ok.mod.kin hk ?_ he hpl
  refine thn (ha.run pos pins s σ H _ I h) ?_
  rintro us s1 ⟨vs, H1, I1, r, q⟩
  exact ⟨I1.kIn, F.run hr hgd hb hd hx I1 r q⟩
theorem pe_callG0 (F : FnG X.prog X.w X.K X.mg X.base CX k f fd ps sp) (hr : Room k X.A) (hgd : X.A.guards = some []) (hg : Gl X x) (hm : X.mg x = some (.ref f)) (hk : PySem.W.keepIn X.K (.ref f) = true) (hb : Binds X.K fd ps ds) (hd : Vals dvs ds) (hx : Passes CX X E)
    (hdb : (x == ("__debug__" : Str)) = false := by decide) : PE X (.Call (.Name x p) [] [] pos) (tCall sp dvs E tNil) := by
  constructor
  intro pins s σ H Q I h
  exact wpAny_Call_Name_kw (ld_glob I hg hm (PySem.W.callWith_K0 I.kIn hk (F.run (us := []) hr hgd hb hd hx I .nil h)) hdb)
end
/-! ### promises over data -/
/-- arguments, draws so far, what is wanted -/
abbrev DC := List D → Nat → (D → Nat → Prop) → Prop
def spD (K : PySem.W.Frag) (c : DC) : Sp := fun vs H Q _ => ∃ (pa : Option Pn) (F : Hp) (n : Nat) (ds : List D) (Qd : D → Nat → Prop), Wok ⟨K, pa, F, H⟩ F H n ∧ Reps K pa F vs ds ∧ c ds n Qd ∧
  ∀ v H' F' n' d, Wok ⟨K, pa, F, H⟩ F' H' n' → Rep K pa F' v d → Qd d n' → Q v H'
/-- a caller's place as a callee's begin -/
theorem Wok.enter {W : Wd} {F H : Hp} {n : Nat} (w : Wok W F H n) : Wok ⟨W.K, W.pa, F, H⟩ F H n :=
  ⟨w.sub, w.pen, fun _ _ h _ => h, w.oldp, Same.refl _, fun _ _ h => .inl h⟩
theorem Abs.leave {W : Wd} {F H F' H' : Hp} {n n' : Nat} {S : List Sl} {σ : St} (A : Abs W F n S σ H) (w : Wok ⟨W.K, W.pa, F, H⟩ F' H' n') : Grow W S σ F H F' H' S ∧ Abs W F' n' S σ H' := by
  have g : Grow W S σ F H F' H' S := by
    refine ⟨w.f0, w.old, fun a h => ?_, fun a o h => ?_, fun _ h => h⟩
    · cases q : H a with
      | none => rfl
      | some o =>
        by_cases e : pad W.pa = some a
        · exact absurd h (w.oldp a e)
        · rw [w.old a o q e] at h; cases h
    · rcases w.nf a o h with z | z
      · exact .inl z
      · exact .inr (.inl z)
  refine ⟨g, ⟨w.sub, w.pen, fun a o h p => w.old a o (A.w.old a o h p) p, w.oldp, A.w.f0.trans w.f0, fun a o h => ?_⟩, A.len, fun i s v h1 h2 => ?_, A.di⟩
  · rcases w.nf a o h with z | z
    · exact A.w.nf a o z
    · exact .inr (A.w.fresh z).2.1
  · refine (A.sl i s v h1 h2).grow g fun p vs h3 h4 h5 => ?_
    cases q : F' p with
    | none => rfl
    | some o =>
      rcases w.nf p o q with z | z
      · rw [show F p = some o from z] at h4; cases h4
      · rw [show H p = none from z] at h3; cases h3
def kFn (c : DC) (ks : KA) : KE := fun S n Q => ks S n fun ds S1 n1 => c ds n1 fun d n2 => Q d S1 n2
theorem call_ok {K : PySem.W.Frag} {c : DC} {t : TA} {ks : KA} {E : XK} (h : SpA K t ks) : SpE K (tCall (spD K c) [] E t) (kFn c ks) := by
  intro W F n S σ H Q R hK A q fin
  refine h W F n S σ H _ _ hK A q fun vs H1 F1 n1 S1 ds g1 A1 r1 q1 => ?_
  rw [List.append_nil]
  subst hK
  refine ⟨W.pa, F1, n1, ds, _, A1.w.enter, r1, q1, fun v H2 F2 n2 d w2 r2 q2 => ?_⟩
  obtain ⟨g2, A2⟩ := A1.leave w2
  exact fin v H2 F2 n2 S1 d (g1.trans g2) A2 r2 q2
section
variable {X : Cx} {k j : Nat} {f : Addr} {fd : FuncData} {ps : List Str} {c : DC} {x : Str} {p pos : Pos} {e : Expr} {es : List Expr} {t : TA} {ks : KA}
/-- where calls are made -/
structure Stand (X : Cx) (j : Nat) : Prop where
  room : Room j X.A
  gd : X.A.guards = some []
/-- f(e, ..) -/
theorem de_fn (F : FnG X.prog X.w X.K X.mg X.base CX0 k f fd ps (spD X.K c)) (st : Stand X j) (hm : X.mg x = some (.ref f)) (hk : PySem.W.keepIn X.K (.ref f) = true) (hb : Binds X.K fd ps []) (h : DA X (e :: es) t ks) (hj : k ≤ j := by decide)
    (hp : FnG X.prog X.w X.K X.mg X.base CX0 k f fd ps (spD X.K c) → Room k X.A → X.A.guards = some [] → X.mg x = some (.ref f) → PySem.W.keepIn X.K (.ref f) = true → Binds X.K fd ps [] → PA X (e :: es) t → PE X (.Call (.Name x p) (e :: es) [] pos) (tCall (spD X.K c) [] E0 t) := by
      intro a b c d e f g; exact pe_callG a b c (by exact rfl) d e f .nil pass0 g) :
    DE X (.Call (.Name x p) (e :: es) [] pos) (tCall (spD X.K c) [] E0 t) (kFn c ks) := ⟨hp F (st.room.mono hj) st.gd hm hk hb h.pe, call_ok h.ok⟩
end
/-! ### a def by its body -/
def startD (N : List Str) (ds : List D) : List Sl := ds.map Sl.val ++ List.replicate (N.length - ds.length) Sl.no
theorem reps_at {K : PySem.W.Frag} {pa : Option Pn} {F : Hp} {vs : List V} {ds : List D} (r : Reps K pa F vs ds) {N : List Str} {i : Nat} {s : Sl} {v : Option V} (h1 : (startD N ds)[i]? = some s) (h2 : (start N vs)[i]? = some v) (W : Wd) (hK : W.K = K) (hp : W.pa = pa) {H : Hp} : SlOk W F H s v := by
  subst hK hp
  unfold startD at h1
  unfold L2.start at h2
  by_cases hi : i < ds.length
  · rw [List.getElem?_append_left (by simpa using hi), List.getElem?_map, List.getElem?_eq_getElem hi] at h1
    have hv : i < vs.length := by rw [r.length]; exact hi
    rw [List.getElem?_append_left (by simpa using hv), List.getElem?_map, List.getElem?_eq_getElem hv] at h2
    cases h1
    cases h2
    obtain ⟨d, e1, e2⟩ := r.get (List.getElem?_eq_getElem hv)
    rw [List.getElem?_eq_getElem hi] at e1
    cases e1
    exact e2
  · rw [List.getElem?_append_right (by simpa using hi), List.getElem?_replicate] at h1
    split at h1
    · cases h1; trivial
    · cases h1
theorem startD_own {N : List Str} {ds : List D} {i : Nat} {es : List D} (h : (startD N ds)[i]? = some (.own es)) : False := by
  unfold startD at h
  by_cases hi : i < ds.length
  · rw [List.getElem?_append_left (by simpa using hi), List.getElem?_map, List.getElem?_eq_getElem hi] at h
    cases h
  · rw [List.getElem?_append_right (by simpa using hi), List.getElem?_replicate] at h
    split at h <;> cases h
theorem body_ok {K : PySem.W.Frag} {c : DC} {t : TS} {kb : KS} {N ps : List Str} (hl : ps.length ≤ N.length) (long : ∀ ds n Q, c ds n Q → ds.length = ps.length) (h : SpS K t kb) (hc : ∀ ds n Q, c ds n Q → kb ⟨fun _ n' => Q .non n', Q, fun _ _ => False, fun _ _ => False⟩ (startD N ds) n)
    {vs : List V} {H : Hp} {Q : VK} {E : XK} (q : spD K c vs H Q E) : t ⟨fun _ H' => Q .non H', Q, fun _ _ => False, fun _ _ => False⟩ (start N vs) H := by
  obtain ⟨pa, F, n, ds, Qd, w, r, q1, q2⟩ := q
  have e := long ds n Qd q1
  refine h ⟨K, pa, F, H⟩ F n (startD N ds) (start N vs) H _ _ rfl ⟨w, ?_, fun i s v h1 h2 => reps_at r h1 h2 _ rfl rfl, fun i j p es fs h1 _ _ _ => (startD_own h1).elim⟩ (hc ds n Qd q1) ⟨fun F' n' S' σ' H' f A' z => q2 _ H' F' n' _ A'.w .non z, fun F' n' v d H' f w' r' z => q2 v H' F' n' d w' r' z, fun _ _ _ _ _ _ _ z => z.elim, fun _ _ _ _ _ _ _ z => z.elim⟩
  unfold startD L2.start
  rw [List.length_append, List.length_append, List.length_map, List.length_map, List.length_replicate, List.length_replicate, r.length]
section
variable {P : Program} {w : World} {K : PySem.W.Frag} {mg : Str → Option Value} {base : Heap} {k : Nat} {f : Addr} {fd : FuncData} {N ps : List Str} {c : DC} {x qual : Str} {st : Stmt}
theorem Stand.of {A : Around} {env : Env} (hr : Room k (A.deeper env)) (hg : A.guards = some []) (X : Cx) (e : X.A = A.deeper env) : Stand X k := ⟨e ▸ hr, by rw [e]; exact hg⟩
/-- THE RULE: the walk of the body, then what is to be shown over data -/
theorem def_ok (F : Fun K x qual st f fd) (S : FnScope N ps (defScope st)) (long : ∀ ds n Q, c ds n Q → ds.length = ps.length)
    (walk : ∀ (cdv : Value) (A : Around) (outer : List Env) (s : Shared) (H : Hp) (E : XK), Stand (cxOf CX0 P w K mg base N qual (defScope st) f cdv A outer s H E).nox k →
      ∃ t kb, DSs (cxOf CX0 P w K mg base N qual (defScope st) f cdv A outer s H E).nox (defBody st) t kb ∧ ∀ ds n Q, c ds n Q → kb ⟨fun _ n' => Q .non n', Q, fun _ _ => False, fun _ _ => False⟩ (startD N ds) n) :
    FnG P w K mg base CX0 (k + 1) f fd ps (spD K c) := by
  obtain ⟨oc, od, kV, doc, pm, an, cdv, ct, osl, rfl, lk, hcd⟩ := F.ex
  have hl : ps.length ≤ N.length := by
    have := congrArg List.length S.pre
    rw [List.length_take] at this
    omega
  refine FnG.mk' lk hcd S (fun vs H Q E q => ?_) fun A outer s H vs Q E hr hg q => ?_
  · obtain ⟨pa, F, n, ds, Qd, w, r, q1, q2⟩ := q
    rw [r.length]
    exact long ds n Qd q1
  · obtain ⟨t, kb, h1, h2⟩ := walk cdv A outer s H E (Stand.of hr hg _ rfl)
    exact ⟨t, h1.pe.nox, body_ok hl long h1.ok h2 q⟩
end
end DL
namespace DL
open PySem PySem.Spec PyProof.Rows L2
/-! ### the pen -/
section
variable {X : Cx}
theorem pen_at {W : Wd} {F H : Hp} {n : Nat} {S : List Sl} {σ : St} (A : Abs W F n S σ H) {i : Nat} {cs : List Int} (e : S[i]? = some (.val (.pen cs))) :
    ∃ a ca turn rst, σ[i]? = some (some (.ref a)) ∧ W.pa = some (a, cs) ∧ F a = none ∧ H a = some (.lst [.ref ca, .int turn, .int rst]) ∧ F ca = some (.lst (cs.map V.int)) ∧ 0 ≤ turn ∧ turn ≤ (n : Int) ∧ 0 ≤ rst := by
  obtain ⟨v, e2, ok⟩ := slot_of A e
  cases v with
  | none => exact ok.elim
  | some v =>
    cases ok with
    | pen hp =>
      rename_i a
      have hq : pad W.pa = some a := by rw [hp]; rfl
      obtain ⟨h1, ca, turn, rst, h2, h3, h4⟩ := A.w.pen a hq
      have ec : pcs W.pa = cs := by rw [hp]; rfl
      rw [ec] at h3
      exact ⟨a, ca, turn, rst, e2, hp, h1, h2, h3, h4⟩
def kPen0 (i : Nat) : KE := fun S n Q => match S[i]? with
  | some (.val (.pen cs)) => Q (.lst (cs.map D.int)) S n
  | _ => False
def kPen1 (i : Nat) : KE := fun S n Q => match S[i]? with
  | some (.val (.pen _)) => ∀ t : Int, 0 ≤ t → t ≤ (n : Int) → Q (.int t) S n
  | _ => False
def kPen2 (i : Nat) : KE := fun S n Q => match S[i]? with
  | some (.val (.pen _)) => ∀ t : Int, 0 ≤ t → Q (.int t) S n
  | _ => False
variable {x : Str} {p q pos : Pos} {j : Nat}
abbrev tPen (K : PySem.W.Frag) (i : Nat) (z : Int) : TE := tOp (rIx K) (tVar i) (tC (.int z))
theorem val_pen {S : List Sl} {i : Nat} {Q : List Int → Prop} (h : match S[i]? with | some (.val (.pen cs)) => Q cs | _ => False) : ∃ cs, S[i]? = some (.val (.pen cs)) ∧ Q cs := by
  cases e : S[i]? with
  | none => rw [e] at h; exact h.elim
  | some s =>
    rw [e] at h
    cases s with
    | no => exact h.elim
    | own _ => exact h.elim
    | val d =>
      cases d <;> try exact False.elim h
      case pen cs => exact ⟨cs, rfl, h⟩
theorem de_pen0 (i : Nat) (h : PE X (.Name x p) (tVar i) := by exact pv i) : DE X (.Subscript (.Name x p) (.Constant (.int 0) j q) pos) (tPen X.K i 0) (kPen0 i) := by
  refine ⟨pe_ix ix_seq h pe_int fun _ _ => rfl, fun W F n S σ H Q R hK A k fin => ?_⟩
  obtain ⟨cs, e, k⟩ := val_pen (Q := fun cs => Q (.lst (cs.map D.int)) S n) k
  obtain ⟨a, ca, turn, rst, e1, e2, e3, e4, e5, e6⟩ := pen_at A e
  exact ⟨_, e1, .inl ⟨a, _, 0, _, rfl, rfl, SqL.of e4, atI_nat (j := 0) rfl, fin _ H F n S _ .refl A (.lst e5 (Reps.ints cs)) k⟩⟩
theorem de_pen1 (i : Nat) (h : PE X (.Name x p) (tVar i) := by exact pv i) : DE X (.Subscript (.Name x p) (.Constant (.int 1) j q) pos) (tPen X.K i 1) (kPen1 i) := by
  refine ⟨pe_ix ix_seq h pe_int fun _ _ => rfl, fun W F n S σ H Q R hK A k fin => ?_⟩
  obtain ⟨cs, e, k⟩ := val_pen (Q := fun cs => ∀ t : Int, 0 ≤ t → t ≤ (n : Int) → Q (.int t) S n) k
  obtain ⟨a, ca, turn, rst, e1, e2, e3, e4, e5, e6, e7, e8⟩ := pen_at A e
  exact ⟨_, e1, .inl ⟨a, _, 1, _, rfl, rfl, SqL.of e4, atI_nat (j := 1) rfl, fin _ H F n S _ .refl A (.int _) (k turn e6 e7)⟩⟩
theorem de_pen2 (i : Nat) (h : PE X (.Name x p) (tVar i) := by exact pv i) : DE X (.Subscript (.Name x p) (.Constant (.int 2) j q) pos) (tPen X.K i 2) (kPen2 i) := by
  refine ⟨pe_ix ix_seq h pe_int fun _ _ => rfl, fun W F n S σ H Q R hK A k fin => ?_⟩
  obtain ⟨cs, e, k⟩ := val_pen (Q := fun cs => ∀ t : Int, 0 ≤ t → Q (.int t) S n) k
  obtain ⟨a, ca, turn, rst, e1, e2, e3, e4, e5, e6, e7, e8⟩ := pen_at A e
  exact ⟨_, e1, .inl ⟨a, _, 2, _, rfl, rfl, SqL.of e4, atI_nat (j := 2) rfl, fin _ H F n S _ .refl A (.int _) (k rst e8)⟩⟩
/-- the pen's list is written -/
theorem Abs.ink {W : Wd} {F H : Hp} {n n' : Nat} {S : List Sl} {σ : St} {a ca : Addr} {cs : List Int} {t r : Int} (A : Abs W F n S σ H) (hp : W.pa = some (a, cs)) (h1 : F a = none) (h2 : F ca = some (.lst (cs.map V.int))) (ht : 0 ≤ t) (ht2 : t ≤ (n' : Int)) (hr : 0 ≤ r) :
    Abs W F n' S σ (upd H a (.lst [.ref ca, .int t, .int r])) := by
  have pa : pad W.pa = some a := by rw [hp]; rfl
  have pc : pcs W.pa = cs := by rw [hp]; rfl
  refine ⟨⟨fun b o z => ?_, fun b z => ?_, fun b o z k => ?_, fun b z => ?_, A.w.f0, A.w.nf⟩, A.len, fun j s v z1 z2 => ?_, A.di⟩
  · rw [upd_ne (fun y => by rw [y, h1] at z; cases z)]
    exact A.w.sub _ _ z
  · have eb : b = a := by rw [pa] at z; cases z; rfl
    subst eb
    exact ⟨h1, ca, t, r, upd_same, by rw [pc]; exact h2, ht, ht2, hr⟩
  · rw [upd_ne (fun y => k (by rw [y]; exact pa))]
    exact A.w.old _ _ z k
  · have eb : b = a := by rw [pa] at z; cases z; rfl
    subst eb
    rw [upd_same]
    intro z; cases z
  · have ok := A.sl j s v z1 z2
    cases s with
    | no => trivial
    | val d =>
      cases v with
      | none => exact ok.elim
      | some v => exact ok
    | own es =>
      cases v with
      | none => exact ok.elim
      | some v =>
        cases v with
        | ref b =>
          obtain ⟨k1, k2, k3, ws, k4, k5⟩ := ok
          have nb : b ≠ a := fun y => k3 (y ▸ pa)
          exact ⟨k1, k2, k3, ws, by rw [upd_ne nb]; exact k4, k5⟩
        | _ => exact ok.elim
variable {e : Expr} {te : TE} {k : KE} {st : Stmt}
def asInt (d : D) (f : Int → Prop) : Prop := match d with
  | .int t => f t
  | _ => False
def kInk1 (i : Nat) (k : KE) : KS := fun E S n => k S n fun d S1 n1 => match S1[i]? with
  | some (.val (.pen _)) => asInt d fun t => (0 ≤ t ∧ t ≤ (n1 : Int) + 1) ∧ E.nx S1 (n1 + 1)
  | _ => False
def kInk2 (i : Nat) (k : KE) : KS := fun E S n => k S n fun d S1 n1 => match S1[i]? with
  | some (.val (.pen _)) => asInt d fun t => 0 ≤ t ∧ E.nx S1 n1
  | _ => False
theorem ds_ink1 (i : Nat) (h : DE X e te k) (hp : PE X e te → PS X st (tAsg te (gSub (tVar i) (tC (.int 1)) rSetL))) : DS X st (tAsg te (gSub (tVar i) (tC (.int 1)) rSetL)) (kInk1 i k) := by
  refine ⟨hp h.pe, fun W F n S σ H E R hK A q fin => ?_⟩
  refine h.ok W F n S σ H _ _ hK A q fun v H1 F1 n1 S1 d g1 A1 r q1 => ?_
  obtain ⟨cs, e0, q1⟩ := val_pen (Q := fun _ => asInt d fun t => (0 ≤ t ∧ t ≤ (n1 : Int) + 1) ∧ E.nx S1 (n1 + 1)) q1
  obtain ⟨a, ca, turn, rst, e1, e2, e3, e4, e5, e6, e7, e8⟩ := pen_at A1 e0
  cases d <;> try exact False.elim q1
  case int t =>
    cases r
    refine ⟨_, e1, a, _, 1, 1, rfl, rfl, e4, rfl, ?_⟩
    exact fin.nx F1 (n1 + 1) S1 σ _ g1.f (A1.ink e2 e3 e5 q1.1.1 q1.1.2 e8) q1.2
theorem ds_ink2 (i : Nat) (h : DE X e te k) (hp : PE X e te → PS X st (tAsg te (gSub (tVar i) (tC (.int 2)) rSetL))) : DS X st (tAsg te (gSub (tVar i) (tC (.int 2)) rSetL)) (kInk2 i k) := by
  refine ⟨hp h.pe, fun W F n S σ H E R hK A q fin => ?_⟩
  refine h.ok W F n S σ H _ _ hK A q fun v H1 F1 n1 S1 d g1 A1 r q1 => ?_
  obtain ⟨cs, e0, q1⟩ := val_pen (Q := fun _ => asInt d fun t => 0 ≤ t ∧ E.nx S1 n1) q1
  obtain ⟨a, ca, turn, rst, e1, e2, e3, e4, e5, e6, e7, e8⟩ := pen_at A1 e0
  cases d <;> try exact False.elim q1
  case int t =>
    cases r
    refine ⟨_, e1, a, _, 2, 2, rfl, rfl, e4, rfl, ?_⟩
    exact fin.nx F1 n1 S1 σ _ g1.f (A1.ink e2 e3 e5 e6 e7 q1.1) q1.2
end
/-! ### the law -/
def spLaw (K : PySem.W.Frag) : Sp := fun vs H Q _ => ∃ (a : Addr) (ns : List Int), vs = [.ref a] ∧ SqL K H a (ns.map V.int) ∧ ns.length ≤ 63 ∧ ∀ H', Q (.bl true) H'
/-- what makes the pen -/
def spPen (K : PySem.W.Frag) : Sp := fun vs H Q _ => ∃ (a : Addr) (ns : List Int), vs = [.ref a] ∧ SqL K H a (ns.map V.int) ∧ ns.length ≤ 63 ∧
  ∀ (H' : Hp) (p ca : Addr) (cs : List Int), Same H H' → p ≠ ca → H p = none → H ca = none → H' p = some (.lst [.ref ca, .int 0, .int 0]) → H' ca = some (.lst (cs.map V.int)) → Q (.ref p) H'
/-- the law's body behind the making of the pen, which stands in slot 1 -/
theorem law_body {X : Cx} {H : Hp} {a p ca : Addr} {cs : List Int} {m : Nat} {sts : List Stmt} {t : TS} {k : KS} {R : Ends} (h : DSs X sts t k) (npc : p ≠ ca) (hp : H p = some (.lst [.ref ca, .int 0, .int 0])) (hc : H ca = some (.lst (cs.map V.int)))
    (q : k ⟨fun _ _ => False, fun d _ => d = .bl true, fun _ _ => False, fun _ _ => False⟩ (.no :: .val (.pen cs) :: List.replicate m .no) 0) (fin : ∀ H', R.rt (.bl true) H') : t R (some (.ref a) :: some (.ref p) :: List.replicate m none) H := by
  have hF : (upd (fun _ => none) ca (.lst (cs.map V.int)) : Hp) ca = some (.lst (cs.map V.int)) := upd_same
  have nF : (upd (fun _ => none) ca (.lst (cs.map V.int)) : Hp) p = none := by rw [upd_ne npc]
  have only : ∀ b o, (upd (fun _ => none) ca (.lst (cs.map V.int)) : Hp) b = some o → b = ca ∧ o = .lst (cs.map V.int) := fun b o z => by
    by_cases y : b = ca
    · subst y; rw [upd_same] at z; cases z; exact ⟨rfl, rfl⟩
    · rw [upd_ne y] at z; cases z
  refine h.ok ⟨X.K, some (p, cs), fun _ => none, fun _ => none⟩ (upd (fun _ => none) ca (.lst (cs.map V.int))) 0 _ _ H _ R rfl ⟨⟨fun b o z => ?_, fun b z => ?_, fun b o z => ?_, fun b z => ?_, fun b o z => ?_, fun b o z => .inr rfl⟩, ?_, fun i s v z1 z2 => ?_, fun i j b ds es z1 z2 => ?_⟩ q
    ⟨fun _ _ _ _ _ _ _ z => z.elim, fun F' n' v d H' f w r z => ?_, fun _ _ _ _ _ _ _ z => z.elim, fun _ _ _ _ _ _ _ z => z.elim⟩
  · obtain ⟨rfl, rfl⟩ := only b o z
    exact hc
  · have e : b = p := by cases z; rfl
    subst e
    exact ⟨nF, ca, 0, 0, hp, hF, Int.le_refl _, Int.le_refl _, Int.le_refl _⟩
  · cases (show (none : Option HO) = some o from z)
  · have e : b = p := by cases z; rfl
    subst e
    rw [hp]
    intro z; cases z
  · cases (show (none : Option HO) = some o from z)
  · simp
  · match i with
    | 0 => cases z1; trivial
    | 1 =>
      cases z1
      cases z2
      exact .pen rfl
    | i + 2 =>
      have z1 : (List.replicate m Sl.no)[i]? = some s := z1
      rw [List.getElem?_replicate] at z1
      split at z1
      · cases z1; trivial
      · cases z1
  · match i with
    | 0 => cases z1
    | 1 => cases z1
    | i + 2 =>
      have z1 : (List.replicate m Sl.no)[i]? = some (.own ds) := z1
      rw [List.getElem?_replicate] at z1
      split at z1 <;> cases z1
  · have z : d = .bl true := z
    subst z
    cases r
    exact fin H'
section
variable {P : Program} {w : World} {K : PySem.W.Frag} {mg mb : Str → Option Value} {CX : CXT} {k : Nat} {fa a : Addr} {fd : FuncData} {x : Str} {sp : Sp} {s1 : Shared} {vs : List Value} {ns : List Int}
/-- the law's call at the heap behind the top -/
theorem law_goes (KX : K.In s1.heap) (hns : s1.heap.Ns mainGlobals mg) (hb : s1.heap.Ns builtinsNs mb) (hbb : ∀ x : Str, x ≠ "__name__" → mb x = bootBuiltins x) (hlim : s1.heap.NoLimit) (hg : s1.gens = #[])
    (ha : s1.heap.get? a = some { cls := .type "list", data := .seq vs.toArray }) (hi : IntsAre vs ns) (hl : ns.length ≤ sizeLine) (hr : Room k callerA)
    (F : ∀ base : Heap, K.In base → base.Ns mainGlobals mg → FnG P w K mg base CX k fa fd [x] sp) (hbind : ∀ (s : Shared) (u : Value), BindsTo s fd ⟨[u], []⟩ [(x, u)])
    (hsp : ∀ H : Hp, SqL K H a (ns.map V.int) → sp [.ref a] H (fun v _ => v = .bl true) fun _ _ _ => False)
    (hCX : ∀ H e s', CX [] H s1 (fun _ _ _ => False) e s' → False) :
    codeAny (model P w) callerA (.call (.ref fa) ⟨[.ref a], []⟩) (fun r s' => r = .ok (.ret (.bool true)) ∧ OldK s1.heap s'.heap ∧ s'.os = s1.os ∧ AllBare s'.gens) s1 := by
  -- the abstract heap: the script alone, locked, unless the module holds it
  have core : ∀ H : Hp, SqL K H a (ns.map V.int) → HOk P w H s1.heap → (∀ b u, H b = some u → b = a ∧ K.lookup b = none ∧ ∃ o xs, u = .frz o (.lst xs)) →
      codeAny (model P w) callerA (.call (.ref fa) ⟨[.ref a], []⟩) (fun r s' => r = .ok (.ret (.bool true)) ∧ OldK s1.heap s'.heap ∧ s'.os = s1.os ∧ AllBare s'.gens) s1 := by
    intro H hS ok only
    have down : ∀ {b : Addr} {o : Obj}, s1.heap.get? b = some o → (∀ its, o.data ≠ .seq its 0) ∨ H b = none → (hidT s1.heap H).get? b = some o := by
      intro b o z y
      refine hidT_get z ?_
      rcases y with y | y
      · cases q : H b with
        | none => rfl
        | some u =>
          obtain ⟨e, _⟩ := only b u q
          subst e
          rw [ha] at z
          cases z
          exact absurd rfl (y _)
      · exact y
    have nsd : ∀ {b : Addr} {m : Str → Option Value}, s1.heap.Ns b m → (hidT s1.heap H).Ns b m := by
      rintro b m ⟨o, es, ep, z, d, r⟩
      exact ⟨o, es, ep, down z (.inl fun its y => by rw [d] at y; cases y), d, r⟩
    have kin : K.In (hidT s1.heap H) := fun b o z => down (KX b o z) (.inr (by
      cases q : H b with
      | none => rfl
      | some u => rw [(only b u q).2.1] at z; cases z))
    have hM : Mod K mg (hidT s1.heap H) := by
      obtain ⟨mc, z1, z2⟩ := hlim
      exact ⟨kin, nsd hns, ⟨mb, nsd hb, hbb⟩, ⟨mc, nsd z1, z2⟩⟩
    have e0 : Env0 P w K mg (hidT s1.heap H) callerA [] s1 H := by
      refine ⟨rfl, hM, fun b o z => of_hidT z, Nat.le_of_eq (hidT_size _ _), trivial, fun b z => ?_, ok, .of_eq hg⟩
      exact absurd (show b ∈ ([] : List Addr) from z) List.not_mem_nil
    refine codeAny_mono ((F _ kin (nsd hns)).goes callerA [] s1 H ⟨[.ref a], []⟩ [.ref a] [.ref a] _ _ hr rfl e0 (hbind s1 (.ref a)) (.cons rfl .nil) (hsp H hS)) ?_
    intro r s' z
    cases r with
    | error e => exact (hCX H e s' z).elim
    | ok fl =>
      cases fl with
      | ret u =>
        obtain ⟨v, H', os, bare, un, ok', r', q⟩ := z
        cases (show v = .bl true from q)
        cases (show u = Value.bool true from r')
        refine ⟨rfl, OldK.of_keep fun b o y => ?_, os, bare⟩
        cases qb : H b with
        | none => exact un.keep b o y qb (fun z => absurd (show b ∈ ([] : List Addr) from z) List.not_mem_nil) List.not_mem_nil
        | some u =>
          obtain ⟨_, _, ob, xs, rfl⟩ := only b u qb
          obtain ⟨e1, _⟩ := ok b _ qb
          obtain ⟨e2, _⟩ := ok' b _ (un.frzs b ob _ qb)
          rw [y] at e1
          cases e1
          exact e2
      | _ => exact False.elim z
  have rv := vals_ints hi
  have lv := hi.length
  cases hk : K.lookup a with
  | some o =>
    have z := KX a o hk
    rw [ha] at z
    cases z
    refine core (fun _ => none) (.inr ⟨_, vs.toArray, _, hk, rfl, rfl, rfl, by rw [List.size_toArray, lv]; exact hl, by simpa using rv⟩) (fun b u z => ?_) (fun b u z => ?_) <;> cases (show (none : Option HO) = some u from z)
  | none =>
    have at_ : ∀ b u, upd (fun _ => none) a (.frz { cls := .type "list", data := .seq vs.toArray } (.lst (ns.map V.int))) b = some u → b = a ∧ u = .frz { cls := .type "list", data := .seq vs.toArray } (.lst (ns.map V.int)) := fun b u z => by
      by_cases y : b = a
      · subst y; rw [upd_same] at z; cases z; exact ⟨rfl, rfl⟩
      · rw [upd_ne y] at z; cases z
    refine core (upd (fun _ => none) a (.frz { cls := .type "list", data := .seq vs.toArray } (.lst (ns.map V.int)))) (.inl (.inr ⟨_, upd_same⟩)) (fun b u z => ?_) (fun b u z => ?_)
    · obtain ⟨rfl, rfl⟩ := at_ b u z
      exact ⟨ha, by rw [List.length_map]; exact hl, vs, _, rv, ha⟩
    · obtain ⟨rfl, rfl⟩ := at_ b u z
      exact ⟨rfl, hk, _, _, rfl⟩
end
/-- the goal that the head leaves -/
theorem walk_ofG {l : PySem.W.OpenLaw} {k : Nat} {q : Program} {loose : List Str} {XP : (Str → Option Value) → Heap → Prop} {YP : World → Heap → Prop} {d : DefRec} {K : Params → PySem.W.Frag}
    (hn : l.most = some 63) (hdf : d.params.defaults = []) (hr : Room k callerA) (hY : ∀ (w : World) (h : Heap), YP w h → (K w.params).In h)
    (F : ∀ (w : World) (mg : Str → Option Value) (fa : Addr) (h : Heap), (K w.params).In h → h.Ns mainGlobals mg → mg d.name = some (.ref fa) →
      ∃ fd : FuncData, (∀ (s : Shared) (u : Value), BindsTo s fd ⟨[u], []⟩ [("script", u)]) ∧
        ∀ base : Heap, (K w.params).In base → base.Ns mainGlobals mg → FnG l.prog w (K w.params) mg base CX0 k fa fd ["script"] (spLaw (K w.params))) :
    PySem.W.WalkO q loose XP YP l.row.toRowW d [] (fun f vs => PySem.call f vs) := by
  refine Att.attach_call hn hdf ?_
  intro w s0 s1 mg mb fa o pm cd doc a vs ns G Y ho hd hcd hmg hobj hints hlen hg
  have KX := hY w _ Y
  obtain ⟨fd, hb, hF⟩ := F w mg fa _ KX G.T.g hmg
  refine law_goes KX G.T.g G.T.b G.T.builtins G.T.nolimit hg hobj hints (Nat.le_trans hlen (by decide)) hr hF hb (fun H hS => ?_) (fun _ _ _ z => z)
  exact ⟨a, ns, rfl, hS, hlen, fun _ => rfl⟩
end DL
namespace DL
open PySem PySem.Spec PyProof.Rows L2
/-! ### calls with keywords -/
/-- the parameters' values: places in the positional ones and the keywords' ones behind them -/
def permed {α : Type} (z : α) (perm : List Nat) (us : List α) : List α := perm.map fun j => us.getD j z
theorem vals_permed {vs : List V} {us : List Value} (r : Vals vs us) : ∀ perm, Vals (permed V.non perm vs) (permed Value.none perm us)
  | [] => .nil
  | j :: perm => by
    refine .cons ?_ (vals_permed r perm)
    show RelV (vs.getD j V.non) (us.getD j Value.none)
    rw [List.getD_eq_getElem?_getD, List.getD_eq_getElem?_getD]
    cases e : vs[j]? with
    | none => rw [r.none_of e]; rfl
    | some v =>
      obtain ⟨u, e2, h⟩ := r.get e
      rw [e2]
      exact h
theorem reps_permed {K : PySem.W.Frag} {pa : Option Pn} {F : Hp} {vs : List V} {ds : List D} (r : Reps K pa F vs ds) : ∀ perm, Reps K pa F (permed V.non perm vs) (permed D.non perm ds)
  | [] => .nil
  | j :: perm => by
    refine .cons ?_ (reps_permed r perm)
    show Rep K pa F (vs.getD j V.non) (ds.getD j D.non)
    rw [List.getD_eq_getElem?_getD, List.getD_eq_getElem?_getD]
    cases e : vs[j]? with
    | none =>
      have h : ds[j]? = none := by
        have h1 := List.getElem?_eq_none_iff.mp e
        rw [r.length] at h1
        exact List.getElem?_eq_none_iff.mpr h1
      rw [h]
      exact .non
    | some v =>
      obtain ⟨u, e2, h⟩ := r.get e
      rw [e2]
      exact h
structure KwB (K : PySem.W.Frag) (fd : FuncData) (ps : List Str) (n : Nat) (ks : List Str) (perm : List Nat) : Prop where
  to : ∀ (s : Shared) (us ws : List Value), us.length = n → ws.length = ks.length → BindsTo s fd ⟨us, ks.zip ws⟩ (ps.zip (permed Value.none perm (us ++ ws)))
theorem kwb_mk {K : PySem.W.Frag} {x qual : Str} {st : Stmt} {f : Addr} {fd : FuncData} {ps ks : List Str} {n : Nat} {perm : List Nat} (F : Fun K x qual st f fd)
    (h : ∀ (kV doc pm : Value) (an : Option Addr) (cdv ct : Value) (us ws : List Value), us.length = n → ws.length = ks.length →
      bindArgs (PySem.W.fnOf x qual (defArgs st) (defBody st) (defScope st) .none kV doc pm an cdv ct) ⟨us, ks.zip ws⟩ = pure (ps.zip (permed Value.none perm (us ++ ws)))) : KwB K fd ps n ks perm := by
  obtain ⟨oc, od, kV, doc, pm, an, cdv, ct, osl, rfl, lk, hcd⟩ := F.ex
  exact ⟨fun s us ws h1 h2 => .of_eq (h kV doc pm an cdv ct us ws h1 h2)⟩
section
variable {X : Cx} {CX : CXT} {k j n : Nat} {f : Addr} {fd : FuncData} {ps ks : List Str} {perm : List Nat} {sp : Sp} {E : XK} {x : Str} {p pos : Pos} {e : Expr} {es : List Expr} {kws : List Keyword} {t tk : TA}
def tKw (sp : Sp) (perm : List Nat) (n m : Nat) (E : XK) (t tk : TA) : TE := fun σ H Q => t σ H fun vs H1 => tk σ H1 fun zs H2 => vs.length = n ∧ zs.length = m ∧ sp (permed V.non perm (vs ++ zs)) H2 Q E
theorem FnG.runK {pins : List (Addr × Obj)} {σ : St} {H : Hp} {s : Shared} {Q : VK} {us ws : List Value} {vs zs : List V} (F : FnG X.prog X.w X.K X.mg X.base CX k f fd ps sp) (hr : Room k X.A) (hgd : X.A.guards = some []) (hb : KwB X.K fd ps n ks perm) (hx : Passes CX X E)
    (I : Inv X pins σ H s) (r : Vals vs us) (rz : Vals zs ws) (l1 : vs.length = n) (l2 : zs.length = ks.length) (h : sp (permed V.non perm (vs ++ zs)) H Q E) : wpAny (model X.prog X.w) X.A (PySem.call (.ref f) us (ks.zip ws)) (EP X pins σ Q) X.xe s := by
  refine wpAny_call (codeAny_mono (F.call (us := us) (vs := vs) hr hgd hx I (hb.to s us ws (r.length.symm.trans l1) (rz.length.symm.trans l2)) (vals_permed (r.append rz) perm) h) ?_)
  intro res s' z
  cases res with
  | error e => exact z
  | ok fl => cases fl <;> first | exact z | exact False.elim z
theorem pe_kw (F : FnG X.prog X.w X.K X.mg X.base CX k f fd ps sp) (hr : Room k X.A) (hgd : X.A.guards = some []) (hg : Gl X x) (hm : X.mg x = some (.ref f)) (hk : PySem.W.keepIn X.K (.ref f) = true) (hb : KwB X.K fd ps n ks perm) (hx : Passes CX X E)
    (ha : PA X (e :: es) t) (hkw : PK X kws tk) (hall : (backToKw pos (keywordEach kws X.env)).all (·.1.isSome) = true := by rfl) (hks : (backToKw pos (keywordEach kws X.env)).filterMap (·.1) = ks := by rfl)
    (hdb : (x == ("__debug__" : Str)) = false := by decide) (he : starEach (e :: es) X.env = (false, eval e X.env) :: starEach es X.env := by rfl)
    (hpl : ((backTo pos (starEach (e :: es) X.env)).any (·.1) || (backToKw pos (keywordEach kws X.env)).any (·.1.isNone)) = false := by rfl) :
    PE X (.Call (.Name x p) (e :: es) kws pos) (tKw sp perm n ks.length E t tk) := by
  constructor
  intro pins s σ H Q I h
  refine wpAny_Call_Name_kw (ld_glob I hg hm ?_ hdb)
  refine PySem.W.callWith_KW (h₀ := X.base) I.ok.mod.kin hk hall (thn (ha.run pos pins s σ H _ I h) ?_) hpl he
  rintro us s1 ⟨vs, H1, I1, r, q⟩
  refine thn (hkw.run pos pins s1 σ H1 _ I1 q) ?_
  rintro ws s2 ⟨zs, H2, I2, rz, l1, l2, q2⟩
  refine ⟨I2.kIn, ?_⟩
  rw [hks]
  exact F.runK hr hgd hb hx I2 r rz l1 l2 q2
theorem pe_kw0 (F : FnG X.prog X.w X.K X.mg X.base CX k f fd ps sp) (hr : Room k X.A) (hgd : X.A.guards = some []) (hg : Gl X x) (hm : X.mg x = some (.ref f)) (hk : PySem.W.keepIn X.K (.ref f) = true) (hb : KwB X.K fd ps 0 ks perm) (hx : Passes CX X E)
    (hkw : PK X kws tk) (hall : (backToKw pos (keywordEach kws X.env)).all (·.1.isSome) = true := by rfl) (hks : (backToKw pos (keywordEach kws X.env)).filterMap (·.1) = ks := by rfl) (hdb : (x == ("__debug__" : Str)) = false := by decide)
    (hpl : ((backTo pos (starEach [] X.env)).any (·.1) || (backToKw pos (keywordEach kws X.env)).any (·.1.isNone)) = false := by rfl) :
    PE X (.Call (.Name x p) [] kws pos) (tKw sp perm 0 ks.length E tNil tk) := by
  constructor
  intro pins s σ H Q I h
  refine wpAny_Call_Name_kw (ld_glob I hg hm ?_ hdb)
  refine PySem.W.callWith_KW0 (h₀ := X.base) I.ok.mod.kin hk hall (thn (hkw.run pos pins s σ H _ I h) ?_) hpl
  rintro ws s2 ⟨zs, H2, I2, rz, l1, l2, q2⟩
  refine ⟨I2.kIn, ?_⟩
  rw [hks]
  exact F.runK (us := []) (vs := []) hr hgd hb hx I2 .nil rz rfl l2 q2
structure DK (X : Cx) (kws : List Keyword) (t : TA) (k : KA) : Prop where
  pe : PK X kws t
  ok : SpA X.K t k
theorem dk_nil : DK X [] tNil kNil := ⟨pk_nil, fun W F n S σ H Q R hK A q fin => fin [] H F n S [] .refl A .nil q⟩
theorem dk_cons {te : TE} {kk : KE} {ka : KA} {nm : Option Str} {kpos : Pos} (h : DE X e te kk) (hs : DK X kws t ka) : DK X (⟨nm, e, kpos⟩ :: kws) (tCons te t) (kCons kk ka) := by
  refine ⟨pk_cons h.pe hs.pe, fun W F n S σ H Q R hK A q fin => ?_⟩
  refine h.ok W F n S σ H _ _ hK A q fun v H1 F1 n1 S1 d g1 A1 r q1 => ?_
  refine hs.ok W F1 n1 S1 σ H1 _ _ hK A1 q1 fun vs H2 F2 n2 S2 ds g2 A2 r2 q2 => ?_
  exact fin _ H2 F2 n2 S2 _ (g1.trans g2) A2 (.cons (Rep.mono g2.f r) r2) q2
def kFnK (c : DC) (perm : List Nat) (n m : Nat) (ka kz : KA) : KE := fun S nn Q => ka S nn fun ds S1 n1 => kz S1 n1 fun zs S2 n2 => ds.length = n ∧ zs.length = m ∧ c (permed D.non perm (ds ++ zs)) n2 fun d n3 => Q d S2 n3
theorem kw_ok {K : PySem.W.Frag} {c : DC} {ka kz : KA} {m : Nat} (h : SpA K t ka) (hz : SpA K tk kz) : SpE K (tKw (spD K c) perm n m E t tk) (kFnK c perm n m ka kz) := by
  intro W F nn S σ H Q R hK A q fin
  refine h W F nn S σ H _ _ hK A q fun vs H1 F1 n1 S1 ds g1 A1 r1 q1 => ?_
  refine hz W F1 n1 S1 σ H1 _ _ hK A1 q1 fun zs H2 F2 n2 S2 es g2 A2 r2 q2 => ?_
  subst hK
  refine ⟨r1.length.trans q2.1, r2.length.trans q2.2.1, W.pa, F2, n2, _, _, A2.w.enter, reps_permed (Reps.append (Reps.mono g2.f r1) r2) perm, q2.2.2, fun v H3 F3 n3 d w3 r3 q3 => ?_⟩
  obtain ⟨g3, A3⟩ := A2.leave w3
  exact fin v H3 F3 n3 S2 d ((g1.trans g2).trans g3) A3 r3 q3
variable {c : DC} {ka kz : KA}
theorem de_kw (F : FnG X.prog X.w X.K X.mg X.base CX0 k f fd ps (spD X.K c)) (st : Stand X j) (hm : X.mg x = some (.ref f)) (hk : PySem.W.keepIn X.K (.ref f) = true) (hb : KwB X.K fd ps n ks perm) (h : DA X (e :: es) t ka) (hz : DK X kws tk kz) (hj : k ≤ j := by decide)
    (hp : FnG X.prog X.w X.K X.mg X.base CX0 k f fd ps (spD X.K c) → Room k X.A → X.A.guards = some [] → X.mg x = some (.ref f) → PySem.W.keepIn X.K (.ref f) = true → KwB X.K fd ps n ks perm → PA X (e :: es) t → PK X kws tk → PE X (.Call (.Name x p) (e :: es) kws pos) (tKw (spD X.K c) perm n ks.length E0 t tk) := by
      intro a b c d e f g h; exact pe_kw a b c (by exact rfl) d e f pass0 g h) :
    DE X (.Call (.Name x p) (e :: es) kws pos) (tKw (spD X.K c) perm n ks.length E0 t tk) (kFnK c perm n ks.length ka kz) := ⟨hp F (st.room.mono hj) st.gd hm hk hb h.pe hz.pe, kw_ok h.ok hz.ok⟩
theorem de_kw0 (F : FnG X.prog X.w X.K X.mg X.base CX0 k f fd ps (spD X.K c)) (st : Stand X j) (hm : X.mg x = some (.ref f)) (hk : PySem.W.keepIn X.K (.ref f) = true) (hb : KwB X.K fd ps 0 ks perm) (hz : DK X kws tk kz) (hj : k ≤ j := by decide)
    (hp : FnG X.prog X.w X.K X.mg X.base CX0 k f fd ps (spD X.K c) → Room k X.A → X.A.guards = some [] → X.mg x = some (.ref f) → PySem.W.keepIn X.K (.ref f) = true → KwB X.K fd ps 0 ks perm → PK X kws tk → PE X (.Call (.Name x p) [] kws pos) (tKw (spD X.K c) perm 0 ks.length E0 tNil tk) := by
      intro a b c d e f g; exact pe_kw0 a b c (by exact rfl) d e f pass0 g) :
    DE X (.Call (.Name x p) [] kws pos) (tKw (spD X.K c) perm 0 ks.length E0 tNil tk) (kFnK c perm 0 ks.length kNil kz) := ⟨hp F (st.room.mono hj) st.gd hm hk hb hz.pe, kw_ok (da_nil (X := X)).ok hz.ok⟩
theorem Stand.blk {s : Shared} {H : Hp} {scope : Scope} {fe : Env} {fp : List Addr} (st : Stand X j) : Stand (X.blk s H scope fe fp) j := ⟨st.room, st.gd⟩
theorem Stand.u64 (st : Stand X j) : X.A.units + 64 < cLine := st.room.units
theorem Stand.u65 (st : Stand X j) : X.A.units + 65 < cLine := by have := st.room.un; omega
end
end DL
namespace DL
open PySem PySem.Spec PyProof.Rows L2
/-! ### the pen's making; the law's body behind it -/
abbrev rToInt : List V → Hp → VK → Prop := fun xs H Q => (∃ i, xs = [.int i] ∧ Q (.int i) H) ∨ ∃ k, xs = [.bl k] ∧ Q (.int (if k then 1 else 0)) H
def tPenT (K : PySem.W.Frag) : TS := tRet (tLst (tCons (tLc (iSeq K (tSl (rSlL K) (tVar 0) tNoPart (tPart (tC (.int 63))))) (gName 1) tYes (tCB rToInt (tCons (tVar 1) tNil)) [1]) (tCons (tC (.int 0)) (tCons (tC (.int 0)) tNil))))
theorem cut_ints (ns : List Int) (lo hi : Option Int) : ∃ cs : List Int, cutV (ns.map V.int) lo hi = cs.map V.int ∧ cs.length ≤ ns.length := by
  refine ⟨(ns.drop (HT.sIx ns.length 0 lo)).take (HT.sIx ns.length ns.length hi - HT.sIx ns.length 0 lo), ?_, ?_⟩
  · unfold cutV
    rw [List.length_map, List.map_take, List.map_drop]
  · rw [List.length_take, List.length_drop]; omega
theorem pen_read {K : PySem.W.Frag} {a : Addr} {ns : List Int} {H : Hp} {Q : VK} (h : SqL K H a (ns.map V.int)) (hl : ns.length ≤ 63)
    (q : ∀ (H' : Hp) (p ca : Addr) (cs : List Int), Same H H' → p ≠ ca → H p = none → H ca = none → H' p = some (.lst [.ref ca, .int 0, .int 0]) → H' ca = some (.lst (cs.map V.int)) → Q (.ref p) H') {E : Ends} (hE : E.rt = Q) :
    tPenT K E [some (.ref a), none] H := by
  show tLst _ _ H E.rt
  rw [hE]
  refine ⟨.ref a, rfl, 63, rfl, a, _, rfl, h, fun c hc => ?_⟩
  obtain ⟨cs, ec, lc⟩ := cut_ints ns none (some 63)
  rw [ec]
  have s1 : Same H (upd H c (.lst (cs.map V.int))) := same_new hc
  refine ⟨c, rfl, .inl ⟨⟨_, SqL.of upd_same⟩, fun D0 hD => ?_⟩⟩
  have nDc : D0 ≠ c := fun e => by rw [e, upd_same] at hD; cases hD
  have hD0 : H D0 = none := by rw [upd_ne nDc] at hD; exact hD
  refine lc_list (xs := cs.map V.int) (fun i H2 => Same (upd H c (.lst (cs.map V.int))) H2 ∧ H2 D0 = some (.lst ((cs.take i).map V.int))) ⟨same_new hD, by rw [upd_same]; rfl⟩ (fun i H2 _ p => SqL.of (p.1 _ _ upd_same)) (fun i x H2 hx p => ?_) (fun H2 p => ?_)
  · rw [List.getElem?_map] at hx
    obtain ⟨z, hz, rfl⟩ := Option.map_eq_some_iff.mp hx
    refine ⟨rfl, ?_⟩
    simp only [tYes, if_true]
    refine ⟨.int z, rfl, .inl ⟨z, rfl, _, p.2, ?_, ?_, ?_⟩⟩
    · rw [List.length_map, List.length_take]
      exact big_lt (by omega)
    · intro b o hb
      have nb : b ≠ D0 := fun e => by rw [e, hD] at hb; cases hb
      rw [upd_ne nb]
      exact p.1 b o hb
    · rw [upd_same, ← List.map_singleton, ← List.map_append]
      rw [List.take_add_one, hz]
      rfl
  · refine ⟨big_ok (by show 3 ≤ 1000000; decide), fun p0 hp0 => ?_⟩
    have np : p0 ≠ D0 := fun e => by rw [e, p.2] at hp0; cases hp0
    have hp : H p0 = none := by
      cases e : H p0 with
      | none => rfl
      | some o => rw [p.1 _ _ (s1 _ _ e)] at hp0; cases hp0
    refine q _ p0 D0 cs (s1.trans (p.1.trans (same_new hp0))) np hp hD0 upd_same ?_
    rw [upd_ne (Ne.symm np), p.2, List.length_map, List.take_length]
section
variable {P : Program} {w : World} {K : PySem.W.Frag} {mg : Str → Option Value} {base : Heap} {k : Nat} {f : Addr} {fd : FuncData} {N : List Str} {x qual : Str} {st : Stmt}
theorem pen_ok (F : Fun K x qual st f fd) (S : FnScope N ["script"] (defScope st)) (hN : N.length = 2)
    (walk : ∀ (cdv : Value) (A : Around) (outer : List Env) (s : Shared) (H : Hp) (E : XK), Stand (cxOf CX0 P w K mg base N qual (defScope st) f cdv A outer s H E).nox 0 → PSs (cxOf CX0 P w K mg base N qual (defScope st) f cdv A outer s H E).nox (defBody st) (tPenT K)) :
    FnG P w K mg base CX0 1 f fd ["script"] (spPen K) := by
  obtain ⟨oc, od, kV, doc, pm, an, cdv, ct, osl, rfl, lk, hcd⟩ := F.ex
  refine FnG.mk' lk hcd S (fun vs H Q E q => ?_) fun A outer s H vs Q E hr hg q => ?_
  · obtain ⟨a, ns, rfl, _⟩ := q; rfl
  · obtain ⟨a, ns, rfl, h1, h2, h3⟩ := q
    refine ⟨_, (walk cdv A outer s H E (Stand.of hr hg _ rfl)).nox, ?_⟩
    have e : L2.start N [V.ref a] = [some (.ref a), none] := by
      unfold L2.start
      rw [hN]
      rfl
    rw [e]
    exact pen_read h1 h2 h3 rfl
/-- the law: the pen first, then its body -/
theorem law_ok (F : Fun K x qual st f fd) (S : FnScope N ["script"] (defScope st)) (m : Nat) (hN : N.length = m + 2)
    (walk : ∀ (cdv : Value) (A : Around) (outer : List Env) (s : Shared) (H : Hp) (E : XK), Stand (cxOf CX0 P w K mg base N qual (defScope st) f cdv A outer s H E).nox k →
      ∃ sts t kb, (PSs (cxOf CX0 P w K mg base N qual (defScope st) f cdv A outer s H E).nox sts t → PSs (cxOf CX0 P w K mg base N qual (defScope st) f cdv A outer s H E).nox (defBody st) (tSeq (tAsg (tCall (spPen K) [] E0 (tCons (tVar 0) tNil)) (gName 1)) t)) ∧
        DSs (cxOf CX0 P w K mg base N qual (defScope st) f cdv A outer s H E).nox sts t kb ∧ ∀ cs, kb ⟨fun _ _ => False, fun d _ => d = .bl true, fun _ _ => False, fun _ _ => False⟩ (.no :: .val (.pen cs) :: List.replicate m .no) 0) :
    FnG P w K mg base CX0 (k + 1) f fd ["script"] (spLaw K) := by
  obtain ⟨oc, od, kV, doc, pm, an, cdv, ct, osl, rfl, lk, hcd⟩ := F.ex
  refine FnG.mk' lk hcd S (fun vs H Q E q => ?_) fun A outer s H vs Q E hr hg q => ?_
  · obtain ⟨a, ns, rfl, _⟩ := q; rfl
  · obtain ⟨a, ns, rfl, h1, h2, h3⟩ := q
    obtain ⟨sts, t, kb, w1, w2, w3⟩ := walk cdv A outer s H E (Stand.of hr hg _ rfl)
    refine ⟨_, (w1 w2.pe).nox, ?_⟩
    have e : L2.start N [V.ref a] = some (.ref a) :: none :: List.replicate m none := by
      unfold L2.start
      rw [hN]
      rfl
    rw [e]
    refine ⟨.ref a, rfl, a, ns, rfl, h1, h2, fun H' p ca cs s1 np _ _ hp hc => ?_⟩
    have z := law_body (a := a) (R := ⟨fun _ H' => Q .non H', Q, fun _ _ => False, fun _ _ => False⟩) w2 np hp hc (w3 cs) h3
    exact z
end
end DL
namespace L79
open PySem L2 DL
/-! ### what each def answers -/
def bD (b : Bool) : D := .int (if b then 1 else 0)
def rowD (r : List Bool) : D := .tup (r.map bD)
def hot (r : List Bool) : Bool := r.any id
/-- where a word is hot, from k on -/
def posn : Int → List Bool → List Int
  | _, [] => []
  | k, b :: bs => if b = true then k :: posn (k + 1) bs else posn (k + 1) bs
def pairD (p : Int × Int) : D := .tup [.int p.1, .int p.2]
def resD : Option (List (Int × Int)) → D
  | none => .non
  | some ps => .tup (ps.map pairD)
/-- cyclic gaps: the one before first -/
def gapsC (m : Int) : Int → List Int → List Int
  | _, [] => []
  | p, x :: xs => ((x - p - 1) % m + 1) :: gapsC m x xs
def bigs (g : Int) : Nat → List Int → List Nat
  | _, [] => []
  | k, x :: xs => if g < x then k :: bigs g (k + 1) xs else bigs g (k + 1) xs
def beginsC (m g : Int) (W : List Int) : List Nat := bigs g 0 (gapsC m (W.getLast?.getD 0) W)
def foundC (m : Int) (W : List Int) (B : List Nat) : List (Int × Int) :=
  (B.zip (B.drop 1 ++ (B.take 1).map fun b => W.length + b)).map fun p =>
    (W.getD p.1 0, (W.getD ((p.2 - 1) % W.length) 0 - W.getD p.1 0) % m + 1)
def around (m : Int) (W : List Int) (b g : Int) : Option (List (Int × Int)) :=
  if beginsC m g W = [] ∧ W ≠ [] then none
  else if (foundC m W (beginsC m g W)).any (fun p => decide (b < p.2)) then none else some (foundC m W (beginsC m g W))
/-- what the law parts off -/
def part1 (g : Int) (x : Int) : List (Int × Int) → List (Int × Int)
  | [] => [(x, x)]
  | [p] => if x - p.2 - 1 < g then [(p.1, x)] else [p, (x, x)]
  | p :: q :: ps => p :: part1 g x (q :: ps)
def parted (g : Int) : List (Int × Int) → List Int → List (Int × Int)
  | acc, [] => acc
  | acc, x :: xs => parted g (part1 g x acc) xs
def oftenC (m b g : Int) : Int := 4 + (b + g) / m
def due (hs : List Bool) (b g : Int) : Option (List (Int × Int)) :=
  let ps := parted g [] (posn 0 (List.replicate (oftenC hs.length b g).toNat hs).flatten)
  if ps.any (fun p => decide (b ≤ p.2 - p.1)) then none
  else some ((ps.filter fun p => decide ((hs.length : Int) ≤ p.1) && decide (p.1 < 2 * (hs.length : Int))).map fun p => (p.1 - hs.length, p.2 - p.1 + 1))
/-- the rows are kept in a list or a tuple -/
def rowsIs (rs : List (List Bool)) (d : D) : Prop := (d = .lst (rs.map rowD) ∨ d = .tup (rs.map rowD)) ∧ rs.length ≤ 1000 ∧ ∀ r ∈ rs, r.length ≤ 1000
def wrongs (rs : List (List Bool)) : List Int := posn 0 (rs.map hot)
def c_is_bit : DC := fun ds n Q => ∃ b, ds = [bD b] ∧ Q (.bl true) n
def c_is_bits : DC := fun ds n Q => ∃ r : List Bool, ds = [rowD r, .int (r.length : Nat)] ∧ r.length ≤ 1000 ∧ Q (.bl true) n
def c_is_between : DC := fun ds n Q => ∃ v lo hi, ds = [.int v, .int lo, .int hi] ∧ Q (.bl (decide (lo ≤ v) && decide (v ≤ hi))) n
def c_need_bursts : DC := fun ds n Q => ∃ b g : Int, ds = [.int b, .int g] ∧ (1 ≤ b ∧ b ≤ 8 ∧ 0 ≤ g ∧ g ≤ 24) ∧ Q .non n
def c_need_steps : DC := fun ds n Q => ∃ rs d, ds = [d] ∧ rowsIs rs d ∧ Q .non n
def c_wrong_steps : DC := fun ds n Q => ∃ rs d, ds = [d] ∧ rowsIs rs d ∧ Q (.lst ((wrongs rs).map D.int)) n
def c_bursts_around : DC := fun ds n Q => ∃ rs d b g, ds = [d, .int b, .int g] ∧ rowsIs rs d ∧ rs ≠ [] ∧ (1 ≤ b ∧ b ≤ 8 ∧ 0 ≤ g ∧ g ≤ 24) ∧ Q (resD (around rs.length (wrongs rs) b g)) n
def c_law_draw : DC := fun ds n Q => ∃ (cs : List Int) (m : Int), ds = [.pen cs, .int m] ∧ (0 < m ∧ m < 1073741824) ∧ n ≤ 100000 ∧ ∀ d : Int, 0 ≤ d → d < m → ∀ n', n' ≤ n + 1 → Q (.int d) n'
def c_law_pick : DC := fun ds n Q => ∃ cs xs, ds = [.pen cs, .lst xs] ∧ xs ≠ [] ∧ xs.length ≤ 1000 ∧ n ≤ 100000 ∧ ∀ d ∈ xs, ∀ n', n' ≤ n + 1 → Q d n'
def allRows : Nat → List (List Bool)
  | 0 => [[]]
  | k + 1 => (allRows k).flatMap fun r => [r ++ [false], r ++ [true]]
def c_law_all : DC := fun ds n Q => ∃ k : Nat, ds = [.int k] ∧ k ≤ 2 ∧ Q (.lst ((allRows k).map rowD)) n
def c_law_parted : DC := fun ds n Q => ∃ rs g, ds = [.lst (rs.map rowD), .int g] ∧ rs.length ≤ 1000 ∧ Q (.lst ((parted g [] (wrongs rs)).map pairD)) n
def c_law_due : DC := fun ds n Q => ∃ rs b g, ds = [.lst (rs.map rowD), .int b, .int g] ∧ rs ≠ [] ∧ rs.length ≤ 12 ∧ (1 ≤ b ∧ b ≤ 8 ∧ 0 ≤ g ∧ g ≤ 24) ∧ Q (resD (due (rs.map hot) b g)) n
def c_law_one_right : DC := fun ds n Q => ∃ cs, ds = [.pen cs] ∧ n ≤ 10000 ∧ ∀ n', n' ≤ n + 100 → Q (.bl true) n'
theorem l_is_bit : ∀ ds n Q, c_is_bit ds n Q → ds.length = 1 := by rintro ds n Q ⟨_, rfl, _⟩; rfl
theorem l_is_bits : ∀ ds n Q, c_is_bits ds n Q → ds.length = 2 := by rintro ds n Q ⟨_, rfl, _⟩; rfl
theorem l_is_between : ∀ ds n Q, c_is_between ds n Q → ds.length = 3 := by rintro ds n Q ⟨_, _, _, rfl, _⟩; rfl
theorem l_need_bursts : ∀ ds n Q, c_need_bursts ds n Q → ds.length = 2 := by rintro ds n Q ⟨_, _, rfl, _⟩; rfl
theorem l_need_steps : ∀ ds n Q, c_need_steps ds n Q → ds.length = 1 := by rintro ds n Q ⟨_, _, rfl, _⟩; rfl
theorem l_wrong_steps : ∀ ds n Q, c_wrong_steps ds n Q → ds.length = 1 := by rintro ds n Q ⟨_, _, rfl, _⟩; rfl
theorem l_bursts_around : ∀ ds n Q, c_bursts_around ds n Q → ds.length = 3 := by rintro ds n Q ⟨_, _, _, _, rfl, _⟩; rfl
theorem l_law_draw : ∀ ds n Q, c_law_draw ds n Q → ds.length = 2 := by rintro ds n Q ⟨_, _, rfl, _⟩; rfl
theorem l_law_pick : ∀ ds n Q, c_law_pick ds n Q → ds.length = 2 := by rintro ds n Q ⟨_, _, rfl, _⟩; rfl
theorem l_law_all : ∀ ds n Q, c_law_all ds n Q → ds.length = 1 := by rintro ds n Q ⟨_, rfl, _⟩; rfl
theorem l_law_parted : ∀ ds n Q, c_law_parted ds n Q → ds.length = 2 := by rintro ds n Q ⟨_, _, rfl, _⟩; rfl
theorem l_law_due : ∀ ds n Q, c_law_due ds n Q → ds.length = 3 := by rintro ds n Q ⟨_, _, _, rfl, _⟩; rfl
theorem l_law_one_right : ∀ ds n Q, c_law_one_right ds n Q → ds.length = 1 := by rintro ds n Q ⟨_, rfl, _⟩; rfl
end L79
namespace L79
open PySem L2 DL
/-- is_bit: 0 value -/
def kb_is_bit : KS := (kRet (kAndV (kCall bIsi (kCons (kB 0) (kCons (kC (.ty "int")) kNil))) (kAndV (kNotV (kCall bIsi (kCons (kB 0) (kCons (kC (.ty "bool")) kNil)))) (kBin dIn (kB 0) (kTup (kCons (kC (.int 0)) (kCons (kC (.int 1)) kNil)))))))
def kg_is_bits_1 : KG := (gN 2)
def ke_is_bits_2 : KE := (kFn c_is_bit (kCons (kV 2) kNil))
/-- is_bits: 0 value, 1 many, 2 part -/
def kb_is_bits : KS := (kRet (kAndV (kCall bIsi (kCons (kB 0) (kCons (kC (.ty "tuple")) kNil))) (kAndV (kBin dEq (kCall bLen (kCons (kB 0) kNil)) (kB 1)) (kCall bAll (kCons (kOut (kCompO (kIter (kV 0)) kg_is_bits_1 kYes ke_is_bits_2 [2])) kNil)))))
/-- is_between: 0 value, 1 low, 2 high -/
def kb_is_between : KS := (kRet (kAndV (kCall bIsi (kCons (kB 0) (kCons (kC (.ty "int")) kNil))) (kAndV (kNotV (kCall bIsi (kCons (kB 0) (kCons (kC (.ty "bool")) kNil)))) (kChain dLe dLe (kB 1) (kB 0) (kB 2)))))
/-- need_bursts: 0 burst, 1 guard -/
def kb_need_bursts : KS := (kSeq (kIfS (kNotT (kTest (kFn c_is_between (kCons (kV 0) (kCons (kC (.int 1)) (kCons (kC (.int 8)) kNil))))))
    kNever
    kNext)
    (kIfS (kNotT (kTest (kFn c_is_between (kCons (kV 1) (kCons (kC (.int 0)) (kCons (kC (.int 24)) kNil))))))
    kNever
    kNext))
def kg_need_steps_1 : KG := (gTupD 2 (gsCons (gN 1) (gsCons (gN 2) gsNil)))
def kb_need_steps_2 : KS := (kIfS (kOrT (kNotT (kTest (kCall bIsi (kCons (kB 2) (kCons (kC (.ty "tuple")) kNil))))) (kNotT (kTest (kFn c_is_bits (kCons (kV 2) (kCons (kCall bLen (kCons (kB 2) kNil)) kNil))))))
    kNever
    kNext)
/-- need_steps: 0 rows, 1 at, 2 row -/
def kb_need_steps : KS := (kSeq (kIfS (kNotT (kTest (kIsi2 (kB 0) "list" "tuple")))
    kNever
    kNext)
    (kFor (kEnum (kCons (kV 0) kNil)) kg_need_steps_1
    kb_need_steps_2))
def kt_wrong_steps_1 : KT := (kTest (kBin dIn (kC (.int 1)) (kB 2)))
def kg_wrong_steps_2 : KG := (gTupD 2 (gsCons (gN 1) (gsCons (gN 2) gsNil)))
def ke_wrong_steps_3 : KE := (kV 1)
/-- wrong_steps: 0 rows, 1 at, 2 row -/
def kb_wrong_steps : KS := (kRet (kOut (kCompO (kEnum (kCons (kV 0) kNil)) kg_wrong_steps_2 kt_wrong_steps_1 ke_wrong_steps_3 [1, 2])))
def kg_bursts_around_1 : KG := (gTupD 2 (gsCons (gN 12) (gsCons (gN 13) gsNil)))
def ke_bursts_around_2 : KE := (kBin dAdd (kBin dMod (kBin dSub (kBin dSub (kB 13) (kB 12)) (kC (.int 1))) (kB 4)) (kC (.int 1)))
def kt_bursts_around_3 : KT := (kTest (kBin dGt (kB 14) (kB 2)))
def kg_bursts_around_4 : KG := (gTupD 2 (gsCons (gN 8) (gsCons (gN 14) gsNil)))
def ke_bursts_around_5 : KE := (kV 8)
def kg_bursts_around_6 : KG := (gN 15)
def ke_bursts_around_7 : KE := (kBin dAdd (kCall bLen (kCons (kB 3) kNil)) (kB 15))
def kg_bursts_around_8 : KG := (gTupD 2 (gsCons (gN 8) (gsCons (gN 9) gsNil)))
def kb_bursts_around_9 : KS := (kSeq (kPar 10 11 (kCons (kBin dIx (kB 3) (kB 8)) (kCons (kBin dIx (kB 3) (kBin dMod (kBin dSub (kB 9) (kC (.int 1))) (kCall bLen (kCons (kB 3) kNil)))) kNil)))
    (kApp 7 (kTup (kCons (kV 10) (kCons (kBin dAdd (kBin dMod (kBin dSub (kB 11) (kB 10)) (kB 4)) (kC (.int 1))) kNil)))))
def kg_bursts_around_10 : KG := (gTupD 2 (gsCons (gN 10) (gsCons (gN 16) gsNil)))
def ke_bursts_around_11 : KE := (kBin dGt (kB 16) (kB 1))
def kr_bursts_around_12 : KS := (kRet (kIf (kTest (kCall bAny (kCons (kOut (kCompO (kIter (kV 7)) kg_bursts_around_10 kYes ke_bursts_around_11 [10, 16])) kNil))) (kC .non) (kCall bTuple (kCons (kB 7) kNil))))
def kr_bursts_around_13 : KS := (kSeq (kFor (kZip (kCons (kV 6) (kCons (kLst (kStar (kSl (kB 6) (kPart (kC (.int 1))) kNoPart) (kStar (kOut (kCompO (kIter (kSl (kB 6) kNoPart (kPart (kC (.int 1))))) kg_bursts_around_6 kYes ke_bursts_around_7 [15])) kNil))) kNil))) kg_bursts_around_8
    kb_bursts_around_9)
    kr_bursts_around_12)
def kr_bursts_around_14 : KS := (kSeq (kOwnS 7 (kLstO kNil))
    kr_bursts_around_13)
def kr_bursts_around_15 : KS := (kSeq (kIfS (kAndT (kTest (kBin dEq (kB 6) (kLst kNil))) (kTest (kBin dNe (kB 3) (kLst kNil))))
    (kRet (kC .non))
    kNext)
    kr_bursts_around_14)
def kr_bursts_around_16 : KS := (kSeq (kAsg (kOut (kCompO (kEnum (kCons (kV 5) kNil)) kg_bursts_around_4 kt_bursts_around_3 ke_bursts_around_5 [8, 14])) (gN 6))
    kr_bursts_around_15)
def kr_bursts_around_17 : KS := (kSeq (kAsg (kOut (kCompO (kZip (kCons (kLst (kStar (kSl (kB 3) (kPart (kUn dNeg (kC (.int 1)))) kNoPart) (kStar (kB 3) kNil))) (kCons (kV 3) kNil))) kg_bursts_around_1 kYes ke_bursts_around_2 [12, 13])) (gN 5))
    kr_bursts_around_16)
def kr_bursts_around_18 : KS := (kSeq (kAsg (kTup (kCons (kFn c_wrong_steps (kCons (kV 0) kNil)) (kCons (kCall bLen (kCons (kB 0) kNil)) kNil))) (gTupD 2 (gsCons (gN 3) (gsCons (gN 4) gsNil))))
    kr_bursts_around_17)
def kr_bursts_around_19 : KS := (kSeq (kIfS (kTest (kBin dEq (kCall bLen (kCons (kB 0) kNil)) (kC (.int 0))))
    kNever
    kNext)
    kr_bursts_around_18)
def kr_bursts_around_20 : KS := (kSeq (kDrop (kFn c_need_steps (kCons (kV 0) kNil)))
    kr_bursts_around_19)
/-- bursts_around: 0 rows, 1 burst, 2 guard, 3 wrong, 4 many, 5 gaps, 6 begins, 7 found, 8 spot, 9 later, 10 first, 11 last, 12 before, 13 at, 14 gap, 15 begin, 16 length -/
def kb_bursts_around : KS := (kSeq (kDrop (kFn c_need_bursts (kCons (kV 1) (kCons (kV 2) kNil))))
    kr_bursts_around_20)
def kr_law_draw_1 : KS := (kRet (kBin dMod (kCall bInt (kCons (kBin dDiv (kB 5) (kC (.int 64))) kNil)) (kB 1)))
def kr_law_draw_2 : KS := (kSeq (kAsg (kBin dMod (kCall bInt (kCons (kBin dPow (kBin dAdd (kBin dAdd (kBin dMul (kB 5) (kBin dAdd (kBin dMul (kC (.int 2)) (kB 3)) (kC (.int 5547)))) (kBin dMul (kBin dMul (kC (.int 30127)) (kB 3)) (kB 3))) (kC (.int 62155))) (kC (.int 3))) kNil)) (kC (.int 2147483587))) (gN 5))
    kr_law_draw_1)
def kr_law_draw_3 : KS := (kSeq (kAsg (kBin dMod (kCall bInt (kCons (kBin dPow (kBin dAdd (kBin dAdd (kBin dMod (kCall bInt (kCons (kB 4) kNil)) (kC (.int 2147483549))) (kBin dMul (kC (.int 62155)) (kB 3))) (kC (.int 8183))) (kC (.int 5))) kNil)) (kC (.int 2147483629))) (gN 5))
    kr_law_draw_2)
def kr_law_draw_4 : KS := (kSeq (kIfS (kAndT (kTest (kBin dLt (kB 3) (kCall bLen (kCons (kPen0 0) kNil)))) (kTest (kBin dGe (kCall bAbs (kCons (kB 4) kNil)) (kBin dPow (kC (.int 10)) (kC (.int 18))))))
    (kSeq (kAsg (kBin dAdd (kBin dMul (kC (.int 2)) (kBin dSub (kCall bAbs (kCons (kB 4) kNil)) (kBin dPow (kC (.int 10)) (kC (.int 18))))) (kCall bInt (kCons (kBin dLt (kB 4) (kC (.int 0))) kNil))) (gN 2))
    (kSeq (kInk2 0 (kBin dDiv (kCall bInt (kCons (kB 2) kNil)) (kB 1)))
    (kRet (kBin dMod (kCall bInt (kCons (kB 2) kNil)) (kB 1)))))
    kNext)
    kr_law_draw_3)
def kr_law_draw_5 : KS := (kSeq (kIfS (kTest (kBin dNe (kPen0 0) (kLst kNil)))
    (kAsg (kBin dIx (kPen0 0) (kBin dMod (kCall bInt (kCons (kB 3) kNil)) (kCall bLen (kCons (kPen0 0) kNil)))) (gN 4))
    kNext)
    kr_law_draw_4)
def kr_law_draw_6 : KS := (kSeq (kAsg (kBin dAdd (kBin dMul (kC (.int 62155)) (kB 3)) (kC (.int 8183))) (gN 4))
    kr_law_draw_5)
def kr_law_draw_7 : KS := (kSeq (kInk1 0 (kBin dAdd (kB 3) (kC (.int 1))))
    kr_law_draw_6)
def kr_law_draw_8 : KS := (kSeq (kAsg (kPen1 0) (gN 3))
    kr_law_draw_7)
/-- law_draw: 0 pen, 1 many, 2 rest, 3 turn, 4 cell, 5 mixed -/
def kb_law_draw : KS := (kSeq (kIfS (kTest (kBin dGt (kPen2 0) (kC (.int 0))))
    (kSeq (kAsg (kCall bInt (kCons (kPen2 0) kNil)) (gN 2))
    (kSeq (kInk2 0 (kBin dDiv (kB 2) (kB 1)))
    (kRet (kBin dMod (kCall bInt (kCons (kB 2) kNil)) (kB 1)))))
    kNext)
    kr_law_draw_8)
/-- law_pick: 0 pen, 1 some -/
def kb_law_pick : KS := (kRet (kBin dIx (kB 1) (kFn c_law_draw (kCons (kV 0) (kCons (kCall bLen (kCons (kB 1) kNil)) kNil)))))
def kg_law_all_1 : KG := (gN 4)
def kb_law_all_2 : KS := (kAsg (kBin dAdd (kB 3) (kLst (kCons (kBin dAdd (kB 4) (kTup (kCons (kC (.int 0)) kNil))) (kCons (kBin dAdd (kB 4) (kTup (kCons (kC (.int 1)) kNil))) kNil)))) (gN 3))
def kg_law_all_3 : KG := (gN 2)
def kb_law_all_4 : KS := (kSeq (kAsg (kLst kNil) (gN 3))
    (kSeq (kFor (kIter (kV 1)) kg_law_all_1
    kb_law_all_2)
    (kAsg (kV 3) (gN 1))))
/-- law_all: 0 many, 1 found, 2 turn, 3 longer, 4 bits -/
def kb_law_all : KS := (kSeq (kAsg (kLst (kCons (kTup kNil) kNil)) (gN 1))
    (kSeq (kFor (kRng1 (kCons (kV 0) kNil)) kg_law_all_3
    kb_law_all_4)
    (kRet (kV 1))))
def kg_law_parted_1 : KG := (gTupD 2 (gsCons (gN 3) (gsCons (gN 4) gsNil)))
def kb_law_parted_2 : KS := (kIfS (kTest (kBin dIn (kC (.int 1)) (kB 4)))
    (kIfS (kAndT (kTest (kBin dNe (kB 2) (kLst kNil))) (kTest (kBin dLt (kBin dSub (kBin dSub (kB 3) (kBin dIx (kBin dIx (kB 2) (kUn dNeg (kC (.int 1)))) (kC (.int 1)))) (kC (.int 1))) (kB 1))))
    (kSub 2 (kTup (kCons (kBin dIx (kBin dIx (kB 2) (kUn dNeg (kC (.int 1)))) (kC (.int 0))) (kCons (kV 3) kNil))) (kUn dNeg (kC (.int 1))))
    (kApp 2 (kTup (kCons (kV 3) (kCons (kV 3) kNil)))))
    kNext)
/-- law_parted: 0 rows, 1 guard, 2 found, 3 at, 4 row -/
def kb_law_parted : KS := (kSeq (kOwnS 2 (kLstO kNil))
    (kSeq (kFor (kEnum (kCons (kV 0) kNil)) kg_law_parted_1
    kb_law_parted_2)
    (kRet (kV 2))))
def kt_law_due_1 : KT := (kTest (kBin dGe (kBin dSub (kB 7) (kB 6)) (kB 1)))
def kg_law_due_2 : KG := (gTupD 2 (gsCons (gN 6) (gsCons (gN 7) gsNil)))
def ke_law_due_3 : KE := (kC (.int 1))
def kt_law_due_4 : KT := (kTest (kChain dLe dLt (kB 3) (kB 6) (kBin dMul (kC (.int 2)) (kB 3))))
def kg_law_due_5 : KG := (gTupD 2 (gsCons (gN 6) (gsCons (gN 7) gsNil)))
def ke_law_due_6 : KE := (kTup (kCons (kBin dSub (kB 6) (kB 3)) (kCons (kBin dAdd (kBin dSub (kB 7) (kB 6)) (kC (.int 1))) kNil)))
/-- law_due: 0 rows, 1 burst, 2 guard, 3 many, 4 often, 5 found, 6 first, 7 last -/
def kb_law_due : KS := (kSeq (kAsg (kCall bLen (kCons (kB 0) kNil)) (gN 3))
    (kSeq (kAsg (kBin dAdd (kC (.int 4)) (kBin dDiv (kBin dAdd (kB 1) (kB 2)) (kB 3))) (gN 4))
    (kSeq (kAsg (kFn c_law_parted (kCons (kBin dMul (kB 0) (kB 4)) (kCons (kV 2) kNil))) (gN 5))
    (kSeq (kIfS (kTest (kBin dNe (kOut (kCompO (kIter (kV 5)) kg_law_due_2 kt_law_due_1 ke_law_due_3 [6, 7])) (kLst kNil)))
    (kRet (kC .non))
    kNext)
    (kRet (kCall bTuple (kCons (kOut (kCompO (kIter (kV 5)) kg_law_due_5 kt_law_due_4 ke_law_due_6 [6, 7])) kNil)))))))
def kg_law_one_right_1 : KG := (gN 13)
def ke_law_one_right_2 : KE := (kIf (kTest (kBin dEq (kFn c_law_draw (kCons (kV 0) (kCons (kV 5) kNil))) (kC (.int 0)))) (kFn c_law_pick (kCons (kV 0) (kCons (kFn c_law_all (kCons (kV 2) kNil)) kNil))) (kBin dMul (kTup (kCons (kC (.int 0)) kNil)) (kB 2)))
def kg_law_one_right_3 : KG := (gTupD 2 (gsCons (gN 14) (gsCons (gN 15) gsNil)))
def ke_law_one_right_4 : KE := (kTup (kCons (kBin dMod (kCall bInt (kCons (kBin dSub (kB 14) (kB 9)) kNil)) (kB 1)) (kCons (kV 15) kNil)))
def kt_law_one_right_5 : KT := (kTest (kBin dNotIn (kB 16) (kB 10)))
def kg_law_one_right_6 : KG := (gN 16)
def ke_law_one_right_7 : KE := (kV 16)
def kg_law_one_right_8 : KG := (gTupD 2 (gsCons (gN 14) (gsCons (gN 15) gsNil)))
def ke_law_one_right_9 : KE := (kTup (kCons (kBin dAdd (kB 14) (kB 1)) (kCons (kV 15) kNil)))
def kr_law_one_right_10 : KS := (kRet (kBin dEq (kCall bList (kCons (kB 11) kNil)) (kBin dAdd (kCall bList (kCons (kB 7) kNil)) (kOut (kCompO (kIter (kV 7)) kg_law_one_right_8 kYes ke_law_one_right_9 [14, 15])))))
def kr_law_one_right_11 : KS := (kSeq (kIfS (kOrT (kTest (kBin dNe (kCall bLen (kCons (kB 10) kNil)) (kCall bLen (kCons (kB 12) kNil)))) (kTest (kBin dNe (kOut (kCompO (kIter (kV 12)) kg_law_one_right_6 kt_law_one_right_5 ke_law_one_right_7 [16])) (kLst kNil))))
    (kRet (kC (.bl false)))
    kNext)
    kr_law_one_right_10)
def kr_law_one_right_12 : KS := (kSeq (kAsg (kOut (kCompO (kIter (kV 7)) kg_law_one_right_3 kYes ke_law_one_right_4 [14, 15])) (gN 12))
    kr_law_one_right_11)
def kr_law_one_right_13 : KS := (kSeq (kIfS (kOrT (kTest (kBin dIsN (kB 10) (kC .non))) (kTest (kBin dIsN (kB 11) (kC .non))))
    (kRet (kC (.bl false)))
    kNext)
    kr_law_one_right_12)
def kr_law_one_right_14 : KS := (kSeq (kIfS (kTest (kBin dIsN (kB 7) (kC .non)))
    (kRet (kAndV (kBin dIsN (kB 10) (kC .non)) (kBin dIsN (kB 11) (kC .non))))
    kNext)
    kr_law_one_right_13)
def kr_law_one_right_15 : KS := (kSeq (kAsg (kTup (kCons (kFn c_bursts_around (kCons (kBin dAdd (kSl (kB 6) (kPart (kV 9)) kNoPart) (kSl (kB 6) kNoPart (kPart (kV 9)))) (kCons (kV 3) (kCons (kV 4) kNil)))) (kCons (kFn c_bursts_around (kCons (kBin dMul (kB 6) (kC (.int 2))) (kCons (kV 3) (kCons (kV 4) kNil)))) kNil))) (gTupD 2 (gsCons (gN 10) (gsCons (gN 11) gsNil))))
    kr_law_one_right_14)
def kr_law_one_right_16 : KS := (kSeq (kAsg (kFn c_law_draw (kCons (kV 0) (kCons (kV 1) kNil))) (gN 9))
    kr_law_one_right_15)
def kr_law_one_right_17 : KS := (kSeq (kIfS (kOrT (kTest (kBin dNe (kCall bRepr (kCons (kB 8) kNil)) (kCall bRepr (kCons (kB 7) kNil)))) (kTest (kBin dNe (kFnK c_bursts_around [2, 1, 0] 0 3 kNil (kCons (kV 4) (kCons (kV 3) (kCons (kCall bTuple (kCons (kB 6) kNil)) kNil)))) (kB 8))))
    (kRet (kC (.bl false)))
    kNext)
    kr_law_one_right_16)
def kr_law_one_right_18 : KS := (kSeq (kAsg (kFn c_bursts_around (kCons (kCall bList (kCons (kB 6) kNil)) (kCons (kV 3) (kCons (kV 4) kNil)))) (gN 8))
    kr_law_one_right_17)
def kr_law_one_right_19 : KS := (kSeq (kAsg (kFn c_law_due (kCons (kV 6) (kCons (kV 3) (kCons (kV 4) kNil)))) (gN 7))
    kr_law_one_right_18)
def kr_law_one_right_20 : KS := (kSeq (kAsg (kOut (kCompO (kRng1 (kCons (kV 1) kNil)) kg_law_one_right_1 kYes ke_law_one_right_2 [13])) (gN 6))
    kr_law_one_right_19)
def kr_law_one_right_21 : KS := (kSeq (kAsg (kBin dAdd (kC (.int 2)) (kFn c_law_draw (kCons (kV 0) (kCons (kC (.int 4)) kNil)))) (gN 5))
    kr_law_one_right_20)
/-- law_one_right: 0 pen, 1 many, 2 width, 3 burst, 4 guard, 5 often, 6 rows, 7 due, 8 told, 9 turn, 10 other, 11 twice, 12 moved, 13 step, 14 first, 15 length, 16 one -/
def kb_law_one_right : KS := (kSeq (kAsg (kTup (kCons (kBin dAdd (kC (.int 1)) (kFn c_law_draw (kCons (kV 0) (kCons (kC (.int 12)) kNil)))) (kCons (kBin dAdd (kC (.int 1)) (kFn c_law_draw (kCons (kV 0) (kCons (kC (.int 2)) kNil)))) (kCons (kBin dAdd (kC (.int 1)) (kFn c_law_draw (kCons (kV 0) (kCons (kC (.int 8)) kNil)))) (kCons (kFn c_law_pick (kCons (kV 0) (kCons (kLst (kCons (kC (.int 0)) (kCons (kC (.int 1)) (kCons (kC (.int 1)) (kCons (kC (.int 2)) (kCons (kC (.int 3)) (kCons (kC (.int 4)) (kCons (kC (.int 24)) kNil)))))))) kNil))) kNil))))) (gTupD 4 (gsCons (gN 1) (gsCons (gN 2) (gsCons (gN 3) (gsCons (gN 4) gsNil))))))
    kr_law_one_right_21)
def kg_law_1 : KG := (gN 2)
def kb_law_2 : KS := (kIfS (kNotT (kTest (kFn c_law_one_right (kCons (kV 1) kNil))))
    (kRet (kC (.bl false)))
    kNext)
/-- law: 0 script, 1 pen, 2 lap, 3 row -/
def kb_law : KS := (kSeq (kFor (kRng1 (kCons (kC (.int 8)) kNil)) kg_law_1
    kb_law_2)
    (kSeq (kAsg (kLst (kCons (kTup (kCons (kC (.int 1)) kNil)) (kCons (kTup (kCons (kC (.int 0)) kNil)) (kCons (kTup (kCons (kC (.int 0)) kNil)) (kCons (kTup (kCons (kC (.int 1)) kNil)) kNil))))) (gN 3))
    (kRet (kAndV (kBin dEq (kLst (kCons (kFn c_bursts_around (kCons (kV 3) (kCons (kC (.int 2)) (kCons (kC (.int 2)) kNil)))) (kCons (kFn c_bursts_around (kCons (kV 3) (kCons (kC (.int 1)) (kCons (kC (.int 2)) kNil)))) (kCons (kFn c_bursts_around (kCons (kV 3) (kCons (kC (.int 2)) (kCons (kC (.int 3)) kNil)))) kNil)))) (kLst (kCons (kTup (kCons (kTup (kCons (kC (.int 3)) (kCons (kC (.int 2)) kNil))) kNil)) (kCons (kC .non) (kCons (kC .non) kNil))))) (kBin dEq (kFn c_bursts_around (kCons (kLst (kCons (kTup (kCons (kC (.int 1)) (kCons (kC (.int 1)) kNil))) kNil)) (kCons (kC (.int 8)) (kCons (kC (.int 0)) kNil)))) (kTup (kCons (kTup (kCons (kC (.int 0)) (kCons (kC (.int 1)) kNil))) kNil)))))))
end L79
namespace L79
open PySem PySem.Spec PyProof.Rows L2 DL
theorem kit_ii : kitB "int" "int" = some true := by decide +kernel
theorem kit_ib : kitB "int" "bool" = some false := by decide +kernel
theorem kit_tt : kitB "tuple" "tuple" = some true := by decide +kernel
theorem kit_ll : kitB "list" "list" = some true := by decide +kernel
theorem kit_lt : kitB "list" "tuple" = some false := by decide +kernel
theorem kit_tl : kitB "tuple" "list" = some false := by decide +kernel
/-- by what a bool says -/
def condV (d : D) (A B : Prop) : Prop := match d with
  | .bl c => if c = true then A else B
  | _ => False
theorem kAndV_e (k1 k2 : KE) : kAndV k1 k2 = fun S n Q => k1 S n fun d S1 n1 => condV d (k2 S1 n1 Q) (Q (.bl false) S1 n1) := by
  funext S n Q
  unfold kAndV
  congr 1
  funext d S1 n1
  cases d <;> try rfl
  case bl c => cases c <;> simp [condV]
theorem kOrV_e (k1 k2 : KE) : kOrV k1 k2 = fun S n Q => k1 S n fun d S1 n1 => condV d (Q (.bl true) S1 n1) (k2 S1 n1 Q) := by
  funext S n Q
  unfold kOrV
  congr 1
  funext d S1 n1
  cases d <;> try rfl
  case bl c => cases c <;> simp [condV]
def isB (d : D) (A : Bool → Prop) : Prop := match d with
  | .bl c => A c
  | _ => False
theorem isB_bl (c : Bool) (A : Bool → Prop) : isB (.bl c) A = A c := rfl
theorem kTest_e (k : KE) : kTest k = fun S n Q => k S n fun d S1 n1 => isB d fun c => Q c S1 n1 := by
  funext S n Q
  unfold kTest
  congr 1
theorem kChain_e (op op' : D2) (ka kb kc : KE) : kChain op op' ka kb kc = fun S n Q => ka S n fun x S1 n1 => kb S1 n1 fun y S2 n2 => op x y fun d => condV d (kc S2 n2 fun z S3 n3 => op' y z fun d' => Q d' S3 n3) (Q (.bl false) S2 n2) := by
  funext S n Q
  unfold kChain
  congr 1
  funext x S1 n1
  congr 1
  funext y S2 n2
  congr 1
  funext d
  cases d <;> try rfl
  case bl c => cases c <;> simp [condV]
theorem pl_non (k : Nat) : D.pl k .non = True := by cases k <;> rfl
theorem pl_bl (k : Nat) (b : Bool) : D.pl k (.bl b) = True := by cases k <;> rfl
theorem pl_int (k : Nat) (i : Int) : D.pl k (.int i) = True := by cases k <;> rfl
theorem pl_tup (k : Nat) (ds : List D) : D.pl (k + 1) (.tup ds) = ∀ d ∈ ds, D.pl k d := rfl
theorem pl_lst (k : Nat) (ds : List D) : D.pl (k + 1) (.lst ds) = ∀ d ∈ ds, D.pl k d := rfl
theorem eqb_int (a b : Int) : D.eqb (.int a) (.int b) = (a == b) := rfl
theorem eqb_nil (xs : List D) : D.eqb (.lst xs) (.lst []) = xs.isEmpty := by cases xs <;> rfl
theorem eqb_non : D.eqb .non .non = true := rfl
/-- a comprehension that draws nothing -/
theorem comps_fm {kg : KG} {kt : KT} {ke : KE} {vs : List Nat} {Sc : List Sl} {n : Nat} {Q : List D → Nat → Prop} (f : D → Option D) : ∀ (ds acc : List D)
    (h : ∀ d ∈ ds, ∀ R : Option D → Nat → Prop, R (f d) n → kg d Sc fun S2 => wipeD S2 vs = Sc ∧ kt S2 n fun b S3 n3 => S3 = S2 ∧ if b = true then ke S2 n3 fun y S4 n4 => S4 = S2 ∧ R (some y) n4 else R none n3)
    (q : Q (acc ++ ds.filterMap f) n), kComps kg kt ke vs Sc ds acc n Q
  | [], acc, h, q => by simpa [kComps] using q
  | d :: ds, acc, h, q => by
    refine h d (List.mem_cons_self ..) (fun o n' => match o with | some y => kComps kg kt ke vs Sc ds (acc ++ [y]) n' Q | none => kComps kg kt ke vs Sc ds acc n' Q) ?_
    cases e : f d with
    | none =>
      refine comps_fm f ds acc (fun d' hd => h d' (List.mem_cons_of_mem _ hd)) ?_
      rw [List.filterMap_cons_none e] at q
      exact q
    | some y =>
      refine comps_fm f ds (acc ++ [y]) (fun d' hd => h d' (List.mem_cons_of_mem _ hd)) ?_
      rw [List.filterMap_cons_some e] at q
      rw [List.append_assoc]
      exact q
theorem hot_in (r : List Bool) : inV (.int 1) ((r.map bD).map D.v) = hot r := by
  unfold inV hot
  induction r with
  | nil => rfl
  | cons b r ih =>
    rw [List.map_cons, List.map_cons, List.any_cons, ih, List.any_cons]
    cases b <;> rfl
theorem flat_row (r : List Bool) : (r.map bD).all D.flat = true := by
  rw [List.all_eq_true]
  intro d hd
  obtain ⟨b, _, rfl⟩ := List.mem_map.mp hd
  rfl
theorem tyn_int (i : Int) : (D.int i).tyn = "int" := rfl
theorem tyn_bl (i : Bool) : (D.bl i).tyn = "bool" := rfl
theorem tyn_non : D.non.tyn = "NoneType" := rfl
theorem tyn_tup (i : List D) : (D.tup i).tyn = "tuple" := rfl
theorem tyn_lst (i : List D) : (D.lst i).tyn = "list" := rfl
theorem flat_int (i : Int) : (D.int i).flat = true := rfl
theorem v_int (i : Int) : (D.int i).v = .int i := rfl
theorem fors_cons {kg : KG} {kb : KS} {E : DEnds} {d : D} {ds : List D} {S : List Sl} {n : Nat} : kFors kg kb E (d :: ds) S n = kg d S fun S1 => kb { E with nx := kFors kg kb E ds, ct := kFors kg kb E ds, bk := E.nx } S1 n := rfl
theorem fors_nil {kg : KG} {kb : KS} {E : DEnds} {S : List Sl} {n : Nat} : kFors kg kb E [] S n = E.nx S n := rfl
theorem enum_cons (k : Nat) (d : D) (ds : List D) : enumD k (d :: ds) = .tup [.int (k : Nat), d] :: enumD (k + 1) ds := rfl
theorem pl_bD (k : Nat) (b : Bool) : D.pl k (bD b) = True := pl_int k _
theorem pl_row (k : Nat) (r : List Bool) : D.pl (k + 1) (rowD r) = True := by
  refine eq_true ?_
  show ∀ d ∈ r.map bD, D.pl k d
  intro d hd
  obtain ⟨b, _, rfl⟩ := List.mem_map.mp hd
  rw [pl_bD]; trivial
theorem pl_pair (k : Nat) (p : Int × Int) : D.pl (k + 1) (pairD p) = True := by
  refine eq_true ?_
  show ∀ d ∈ [D.int p.1, D.int p.2], D.pl k d
  intro d hd
  rcases List.mem_cons.mp hd with rfl | hd
  · rw [pl_int]; trivial
  · rcases List.mem_cons.mp hd with rfl | hd
    · rw [pl_int]; trivial
    · cases hd
theorem pl_maps {α : Type} {f : α → D} {k : Nat} (h : ∀ a, D.pl k (f a) = True) (xs : List α) : ∀ d ∈ xs.map f, D.pl k d := by
  intro d hd
  obtain ⟨a, _, rfl⟩ := List.mem_map.mp hd
  rw [h]; trivial
end L79
namespace L79
open PySem PySem.Spec PyProof.Rows L2 DL
theorem m_is_bit : ∀ ds n Q, c_is_bit ds n Q → kb_is_bit ⟨fun _ n' => Q .non n', Q, fun _ _ => False, fun _ _ => False⟩ (startD ["value"] ds) n := by
  rintro ds n Q ⟨b, rfl, q⟩
  cases b <;> simp only [kb_is_bit, kSeq, kAsg, kRet, kIfS, kDrop, kNext, kNever, kOwnS, kApp, kSub, kPar, kAndV_e, kOrV_e, kNotV, kAndT, kOrT, kNotT, kTest_e, isB_bl, kBin, kUn, kChain_e, condV, kCall, kCons, kNil, kTup, kLst, kLstO, kOut, kCompO, kIter, kEnum, kZip, kRng1, DL.kV, kB, kC, kIf, kStar, kSl, kPart, kNoPart, kFn, kFnK, kIsi2, kFor, gN, gTupD, gsCons, gsNil, kYes, dNeg, dAdd, dSub, dMod, dDiv, dMul, dPow, dCmp, dInt, dEq, dNe, dIn, dNotIn, dIx, dIsN, bLen, bInt, bAbs, bTuple, bList, bAny, bAll, bIsi, startD, okW, wipeD, List.map_cons, List.map_nil, List.cons_append, List.nil_append, List.getElem?_cons_zero, List.getElem?_cons_succ, List.set_cons_zero, List.set_cons_succ, List.length_cons, List.length_nil, List.replicate_succ, List.replicate_zero, List.all_cons, List.all_nil, Bool.and_true, Bool.true_and, tyn_int, tyn_bl, tyn_non, tyn_tup, tyn_lst, kit_ii, kit_ib, kit_tt, kit_ll, kit_lt, kit_tl, flat_int, v_int, flat_row, pl_non, pl_bl, pl_int, pl_tup, pl_lst, eqb_int, eqb_nil, eqb_non, D.isN, ne_eq, not_false_eq_true, true_and, and_true, if_true, if_false, Bool.false_eq_true, reduceCtorEq, String.reduceEq, Bool.not_true, Bool.not_false, Bool.or_false, Bool.false_or, Bool.or_true, Bool.true_or, Nat.zero_add, Nat.reduceAdd, Nat.reduceLeDiff, Nat.reduceSub, Nat.reduceEqDiff, bD] <;> exact q
theorem m_is_bits : ∀ ds n Q, c_is_bits ds n Q → kb_is_bits ⟨fun _ n' => Q .non n', Q, fun _ _ => False, fun _ _ => False⟩ (startD ["value", "many", "part"] ds) n := by
  rintro ds n Q ⟨r, rfl, h, q⟩
  simp only [kb_is_bits, kSeq, kAsg, kRet, kIfS, kDrop, kNext, kNever, kOwnS, kApp, kSub, kPar, kAndV_e, kOrV_e, kNotV, kAndT, kOrT, kNotT, kTest_e, isB_bl, kBin, kUn, kChain_e, condV, kCall, kCons, kNil, kTup, kLst, kLstO, kOut, kCompO, kIter, kEnum, kZip, kRng1, DL.kV, kB, kC, kIf, kStar, kSl, kPart, kNoPart, kFn, kFnK, kIsi2, kFor, gN, gTupD, gsCons, gsNil, kYes, dNeg, dAdd, dSub, dMod, dDiv, dMul, dPow, dCmp, dInt, dEq, dNe, dIn, dNotIn, dIx, dIsN, bLen, bInt, bAbs, bTuple, bList, bAny, bAll, bIsi, startD, okW, wipeD, List.map_cons, List.map_nil, List.cons_append, List.nil_append, List.getElem?_cons_zero, List.getElem?_cons_succ, List.set_cons_zero, List.set_cons_succ, List.length_cons, List.length_nil, List.replicate_succ, List.replicate_zero, List.all_cons, List.all_nil, Bool.and_true, Bool.true_and, tyn_int, tyn_bl, tyn_non, tyn_tup, tyn_lst, kit_ii, kit_ib, kit_tt, kit_ll, kit_lt, kit_tl, flat_int, v_int, flat_row, pl_non, pl_bl, pl_int, pl_tup, pl_lst, eqb_int, eqb_nil, eqb_non, D.isN, ne_eq, not_false_eq_true, true_and, and_true, if_true, if_false, Bool.false_eq_true, reduceCtorEq, String.reduceEq, Bool.not_true, Bool.not_false, Bool.or_false, Bool.false_or, Bool.or_true, Bool.true_or, Nat.zero_add, Nat.reduceAdd, Nat.reduceLeDiff, Nat.reduceSub, Nat.reduceEqDiff, rowD]
  rw [show (List.map bD r).length = r.length from List.length_map .., show (((r.length : Nat) : Int) == ((r.length : Nat) : Int)) = true from beq_self_eq_true _]
  refine ⟨by omega, ?_⟩
  refine comps_fm (fun _ => some (.bl true)) _ _ (fun d hd R hR => ?_) ?_
  · obtain ⟨b, hb, rfl⟩ := List.mem_map.mp hd
    simp only [kg_is_bits_1, ke_is_bits_2, kSeq, kAsg, kRet, kIfS, kDrop, kNext, kNever, kOwnS, kApp, kSub, kPar, kAndV_e, kOrV_e, kNotV, kAndT, kOrT, kNotT, kTest_e, isB_bl, kBin, kUn, kChain_e, condV, kCall, kCons, kNil, kTup, kLst, kLstO, kOut, kCompO, kIter, kEnum, kZip, kRng1, DL.kV, kB, kC, kIf, kStar, kSl, kPart, kNoPart, kFn, kFnK, kIsi2, kFor, gN, gTupD, gsCons, gsNil, kYes, dNeg, dAdd, dSub, dMod, dDiv, dMul, dPow, dCmp, dInt, dEq, dNe, dIn, dNotIn, dIx, dIsN, bLen, bInt, bAbs, bTuple, bList, bAny, bAll, bIsi, startD, okW, wipeD, List.map_cons, List.map_nil, List.cons_append, List.nil_append, List.getElem?_cons_zero, List.getElem?_cons_succ, List.set_cons_zero, List.set_cons_succ, List.length_cons, List.length_nil, List.replicate_succ, List.replicate_zero, List.all_cons, List.all_nil, Bool.and_true, Bool.true_and, tyn_int, tyn_bl, tyn_non, tyn_tup, tyn_lst, kit_ii, kit_ib, kit_tt, kit_ll, kit_lt, kit_tl, flat_int, v_int, flat_row, pl_non, pl_bl, pl_int, pl_tup, pl_lst, eqb_int, eqb_nil, eqb_non, D.isN, ne_eq, not_false_eq_true, true_and, and_true, if_true, if_false, Bool.false_eq_true, reduceCtorEq, String.reduceEq, Bool.not_true, Bool.not_false, Bool.or_false, Bool.false_or, Bool.or_true, Bool.true_or, Nat.zero_add, Nat.reduceAdd, Nat.reduceLeDiff, Nat.reduceSub, Nat.reduceEqDiff]
    exact ⟨b, rfl, hR⟩
  · rw [List.nil_append]
    have e : ∀ bs : List D, D.bls (bs.filterMap fun _ => some (D.bl true)) = some (bs.map fun _ => true) := by
      intro bs
      induction bs with
      | nil => rfl
      | cons b bs ih =>
        show D.bls (.bl true :: bs.filterMap fun _ => some (D.bl true)) = _
        unfold D.bls; rw [ih]; rfl
    rw [e]
    have e2 : ((List.map bD r).map fun _ => true).all id = true := by simp
    show Q (.bl (((List.map bD r).map fun _ => true).all id)) n
    rw [e2]
    exact q
theorem m_is_between : ∀ ds n Q, c_is_between ds n Q → kb_is_between ⟨fun _ n' => Q .non n', Q, fun _ _ => False, fun _ _ => False⟩ (startD ["value", "low", "high"] ds) n := by
  rintro ds n Q ⟨v, lo, hi, rfl, q⟩
  simp only [kb_is_between, kSeq, kAsg, kRet, kIfS, kDrop, kNext, kNever, kOwnS, kApp, kSub, kPar, kAndV_e, kOrV_e, kNotV, kAndT, kOrT, kNotT, kTest_e, isB_bl, kBin, kUn, kChain_e, condV, kCall, kCons, kNil, kTup, kLst, kLstO, kOut, kCompO, kIter, kEnum, kZip, kRng1, DL.kV, kB, kC, kIf, kStar, kSl, kPart, kNoPart, kFn, kFnK, kIsi2, kFor, gN, gTupD, gsCons, gsNil, kYes, dNeg, dAdd, dSub, dMod, dDiv, dMul, dPow, dCmp, dInt, dEq, dNe, dIn, dNotIn, dIx, dIsN, bLen, bInt, bAbs, bTuple, bList, bAny, bAll, bIsi, startD, okW, wipeD, List.map_cons, List.map_nil, List.cons_append, List.nil_append, List.getElem?_cons_zero, List.getElem?_cons_succ, List.set_cons_zero, List.set_cons_succ, List.length_cons, List.length_nil, List.replicate_succ, List.replicate_zero, List.all_cons, List.all_nil, Bool.and_true, Bool.true_and, tyn_int, tyn_bl, tyn_non, tyn_tup, tyn_lst, kit_ii, kit_ib, kit_tt, kit_ll, kit_lt, kit_tl, flat_int, v_int, flat_row, pl_non, pl_bl, pl_int, pl_tup, pl_lst, eqb_int, eqb_nil, eqb_non, D.isN, ne_eq, not_false_eq_true, true_and, and_true, if_true, if_false, Bool.false_eq_true, reduceCtorEq, String.reduceEq, Bool.not_true, Bool.not_false, Bool.or_false, Bool.false_or, Bool.or_true, Bool.true_or, Nat.zero_add, Nat.reduceAdd, Nat.reduceLeDiff, Nat.reduceSub, Nat.reduceEqDiff]
  by_cases h : lo ≤ v
  · rw [if_pos (decide_eq_true h)]
    rw [decide_eq_true h, Bool.true_and] at q
    exact q
  · rw [if_neg (by rw [decide_eq_false h]; exact Bool.false_ne_true)]
    rw [decide_eq_false h, Bool.false_and] at q
    exact q
theorem m_need_bursts : ∀ ds n Q, c_need_bursts ds n Q → kb_need_bursts ⟨fun _ n' => Q .non n', Q, fun _ _ => False, fun _ _ => False⟩ (startD ["burst", "guard"] ds) n := by
  rintro ds n Q ⟨b, g, rfl, h, q⟩
  have y1 : (decide (1 ≤ b) && decide (b ≤ 8)) = true := by rw [decide_eq_true h.1, decide_eq_true h.2.1]; rfl
  have y2 : (decide (0 ≤ g) && decide (g ≤ 24)) = true := by rw [decide_eq_true h.2.2.1, decide_eq_true h.2.2.2]; rfl
  simp only [kb_need_bursts, kSeq, kAsg, kRet, kIfS, kDrop, kNext, kNever, kOwnS, kApp, kSub, kPar, kAndV_e, kOrV_e, kNotV, kAndT, kOrT, kNotT, kTest_e, isB_bl, kBin, kUn, kChain_e, condV, kCall, kCons, kNil, kTup, kLst, kLstO, kOut, kCompO, kIter, kEnum, kZip, kRng1, DL.kV, kB, kC, kIf, kStar, kSl, kPart, kNoPart, kFn, kFnK, kIsi2, kFor, gN, gTupD, gsCons, gsNil, kYes, dNeg, dAdd, dSub, dMod, dDiv, dMul, dPow, dCmp, dInt, dEq, dNe, dIn, dNotIn, dIx, dIsN, bLen, bInt, bAbs, bTuple, bList, bAny, bAll, bIsi, startD, okW, wipeD, List.map_cons, List.map_nil, List.cons_append, List.nil_append, List.getElem?_cons_zero, List.getElem?_cons_succ, List.set_cons_zero, List.set_cons_succ, List.length_cons, List.length_nil, List.replicate_succ, List.replicate_zero, List.all_cons, List.all_nil, Bool.and_true, Bool.true_and, tyn_int, tyn_bl, tyn_non, tyn_tup, tyn_lst, kit_ii, kit_ib, kit_tt, kit_ll, kit_lt, kit_tl, flat_int, v_int, flat_row, pl_non, pl_bl, pl_int, pl_tup, pl_lst, eqb_int, eqb_nil, eqb_non, D.isN, ne_eq, not_false_eq_true, true_and, and_true, if_true, if_false, Bool.false_eq_true, reduceCtorEq, String.reduceEq, Bool.not_true, Bool.not_false, Bool.or_false, Bool.false_or, Bool.or_true, Bool.true_or, Nat.zero_add, Nat.reduceAdd, Nat.reduceLeDiff, Nat.reduceSub, Nat.reduceEqDiff, c_is_between]
  refine ⟨b, 1, 8, rfl, ?_⟩
  simp only [y1, kSeq, kAsg, kRet, kIfS, kDrop, kNext, kNever, kOwnS, kApp, kSub, kPar, kAndV_e, kOrV_e, kNotV, kAndT, kOrT, kNotT, kTest_e, isB_bl, kBin, kUn, kChain_e, condV, kCall, kCons, kNil, kTup, kLst, kLstO, kOut, kCompO, kIter, kEnum, kZip, kRng1, DL.kV, kB, kC, kIf, kStar, kSl, kPart, kNoPart, kFn, kFnK, kIsi2, kFor, gN, gTupD, gsCons, gsNil, kYes, dNeg, dAdd, dSub, dMod, dDiv, dMul, dPow, dCmp, dInt, dEq, dNe, dIn, dNotIn, dIx, dIsN, bLen, bInt, bAbs, bTuple, bList, bAny, bAll, bIsi, startD, okW, wipeD, List.map_cons, List.map_nil, List.cons_append, List.nil_append, List.getElem?_cons_zero, List.getElem?_cons_succ, List.set_cons_zero, List.set_cons_succ, List.length_cons, List.length_nil, List.replicate_succ, List.replicate_zero, List.all_cons, List.all_nil, Bool.and_true, Bool.true_and, tyn_int, tyn_bl, tyn_non, tyn_tup, tyn_lst, kit_ii, kit_ib, kit_tt, kit_ll, kit_lt, kit_tl, flat_int, v_int, flat_row, pl_non, pl_bl, pl_int, pl_tup, pl_lst, eqb_int, eqb_nil, eqb_non, D.isN, ne_eq, not_false_eq_true, true_and, and_true, if_true, if_false, Bool.false_eq_true, reduceCtorEq, String.reduceEq, Bool.not_true, Bool.not_false, Bool.or_false, Bool.false_or, Bool.or_true, Bool.true_or, Nat.zero_add, Nat.reduceAdd, Nat.reduceLeDiff, Nat.reduceSub, Nat.reduceEqDiff]
  refine ⟨g, 0, 24, rfl, ?_⟩
  simp only [y2, kSeq, kAsg, kRet, kIfS, kDrop, kNext, kNever, kOwnS, kApp, kSub, kPar, kAndV_e, kOrV_e, kNotV, kAndT, kOrT, kNotT, kTest_e, isB_bl, kBin, kUn, kChain_e, condV, kCall, kCons, kNil, kTup, kLst, kLstO, kOut, kCompO, kIter, kEnum, kZip, kRng1, DL.kV, kB, kC, kIf, kStar, kSl, kPart, kNoPart, kFn, kFnK, kIsi2, kFor, gN, gTupD, gsCons, gsNil, kYes, dNeg, dAdd, dSub, dMod, dDiv, dMul, dPow, dCmp, dInt, dEq, dNe, dIn, dNotIn, dIx, dIsN, bLen, bInt, bAbs, bTuple, bList, bAny, bAll, bIsi, startD, okW, wipeD, List.map_cons, List.map_nil, List.cons_append, List.nil_append, List.getElem?_cons_zero, List.getElem?_cons_succ, List.set_cons_zero, List.set_cons_succ, List.length_cons, List.length_nil, List.replicate_succ, List.replicate_zero, List.all_cons, List.all_nil, Bool.and_true, Bool.true_and, tyn_int, tyn_bl, tyn_non, tyn_tup, tyn_lst, kit_ii, kit_ib, kit_tt, kit_ll, kit_lt, kit_tl, flat_int, v_int, flat_row, pl_non, pl_bl, pl_int, pl_tup, pl_lst, eqb_int, eqb_nil, eqb_non, D.isN, ne_eq, not_false_eq_true, true_and, and_true, if_true, if_false, Bool.false_eq_true, reduceCtorEq, String.reduceEq, Bool.not_true, Bool.not_false, Bool.or_false, Bool.false_or, Bool.or_true, Bool.true_or, Nat.zero_add, Nat.reduceAdd, Nat.reduceLeDiff, Nat.reduceSub, Nat.reduceEqDiff]
  exact q
theorem ns_loop (E : DEnds) (n : Nat) (d : D) : ∀ (rs : List (List Bool)) (k : Nat) (a b : Sl), (∀ r ∈ rs, r.length ≤ 1000) → (∀ a b, E.nx [.val d, a, b] n) → kFors kg_need_steps_1 kb_need_steps_2 E (enumD k (rs.map rowD)) [.val d, a, b] n
  | [], k, a, b, h, q => q a b
  | r :: rs, k, a, b, h, q => by
    have hr := h r (List.mem_cons_self ..)
    have ih := ns_loop E n d rs (k + 1) (.val (.int k)) (.val (rowD r)) (fun r' hr => h r' (List.mem_cons_of_mem _ hr)) q
    rw [List.map_cons, enum_cons, fors_cons]
    generalize kFors kg_need_steps_1 kb_need_steps_2 E (enumD (k + 1) (rs.map rowD)) = X at ih ⊢
    simp only [kg_need_steps_1, kb_need_steps_2, kSeq, kAsg, kRet, kIfS, kDrop, kNext, kNever, kOwnS, kApp, kSub, kPar, kAndV_e, kOrV_e, kNotV, kAndT, kOrT, kNotT, kTest_e, isB_bl, kBin, kUn, kChain_e, condV, kCall, kCons, kNil, kTup, kLst, kLstO, kOut, kCompO, kIter, kEnum, kZip, kRng1, DL.kV, kB, kC, kIf, kStar, kSl, kPart, kNoPart, kFn, kFnK, kIsi2, kFor, gN, gTupD, gsCons, gsNil, kYes, dNeg, dAdd, dSub, dMod, dDiv, dMul, dPow, dCmp, dInt, dEq, dNe, dIn, dNotIn, dIx, dIsN, bLen, bInt, bAbs, bTuple, bList, bAny, bAll, bIsi, startD, okW, wipeD, List.map_cons, List.map_nil, List.cons_append, List.nil_append, List.getElem?_cons_zero, List.getElem?_cons_succ, List.set_cons_zero, List.set_cons_succ, List.length_cons, List.length_nil, List.replicate_succ, List.replicate_zero, List.all_cons, List.all_nil, Bool.and_true, Bool.true_and, tyn_int, tyn_bl, tyn_non, tyn_tup, tyn_lst, kit_ii, kit_ib, kit_tt, kit_ll, kit_lt, kit_tl, flat_int, v_int, flat_row, pl_non, pl_bl, pl_int, pl_tup, pl_lst, eqb_int, eqb_nil, eqb_non, D.isN, ne_eq, not_false_eq_true, true_and, and_true, if_true, if_false, Bool.false_eq_true, reduceCtorEq, String.reduceEq, Bool.not_true, Bool.not_false, Bool.or_false, Bool.false_or, Bool.or_true, Bool.true_or, Nat.zero_add, Nat.reduceAdd, Nat.reduceLeDiff, Nat.reduceSub, Nat.reduceEqDiff, rowD, c_is_bits]
    exact ⟨r, by rw [List.length_map], hr, ih⟩
theorem m_need_steps : ∀ ds n Q, c_need_steps ds n Q → kb_need_steps ⟨fun _ n' => Q .non n', Q, fun _ _ => False, fun _ _ => False⟩ (startD ["rows", "at", "row"] ds) n := by
  rintro ds n Q ⟨rs, d, rfl, ⟨hd, h1, h2⟩, q⟩
  rcases hd with rfl | rfl
  · simp only [kb_need_steps, kSeq, kAsg, kRet, kIfS, kDrop, kNext, kNever, kOwnS, kApp, kSub, kPar, kAndV_e, kOrV_e, kNotV, kAndT, kOrT, kNotT, kTest_e, isB_bl, kBin, kUn, kChain_e, condV, kCall, kCons, kNil, kTup, kLst, kLstO, kOut, kCompO, kIter, kEnum, kZip, kRng1, DL.kV, kB, kC, kIf, kStar, kSl, kPart, kNoPart, kFn, kFnK, kIsi2, kFor, gN, gTupD, gsCons, gsNil, kYes, dNeg, dAdd, dSub, dMod, dDiv, dMul, dPow, dCmp, dInt, dEq, dNe, dIn, dNotIn, dIx, dIsN, bLen, bInt, bAbs, bTuple, bList, bAny, bAll, bIsi, startD, okW, wipeD, List.map_cons, List.map_nil, List.cons_append, List.nil_append, List.getElem?_cons_zero, List.getElem?_cons_succ, List.set_cons_zero, List.set_cons_succ, List.length_cons, List.length_nil, List.replicate_succ, List.replicate_zero, List.all_cons, List.all_nil, Bool.and_true, Bool.true_and, tyn_int, tyn_bl, tyn_non, tyn_tup, tyn_lst, kit_ii, kit_ib, kit_tt, kit_ll, kit_lt, kit_tl, flat_int, v_int, flat_row, pl_non, pl_bl, pl_int, pl_tup, pl_lst, eqb_int, eqb_nil, eqb_non, D.isN, ne_eq, not_false_eq_true, true_and, and_true, if_true, if_false, Bool.false_eq_true, reduceCtorEq, String.reduceEq, Bool.not_true, Bool.not_false, Bool.or_false, Bool.false_or, Bool.or_true, Bool.true_or, Nat.zero_add, Nat.reduceAdd, Nat.reduceLeDiff, Nat.reduceSub, Nat.reduceEqDiff]
    exact ns_loop _ n _ rs 0 _ _ h2 fun _ _ => q
  · simp only [kb_need_steps, kSeq, kAsg, kRet, kIfS, kDrop, kNext, kNever, kOwnS, kApp, kSub, kPar, kAndV_e, kOrV_e, kNotV, kAndT, kOrT, kNotT, kTest_e, isB_bl, kBin, kUn, kChain_e, condV, kCall, kCons, kNil, kTup, kLst, kLstO, kOut, kCompO, kIter, kEnum, kZip, kRng1, DL.kV, kB, kC, kIf, kStar, kSl, kPart, kNoPart, kFn, kFnK, kIsi2, kFor, gN, gTupD, gsCons, gsNil, kYes, dNeg, dAdd, dSub, dMod, dDiv, dMul, dPow, dCmp, dInt, dEq, dNe, dIn, dNotIn, dIx, dIsN, bLen, bInt, bAbs, bTuple, bList, bAny, bAll, bIsi, startD, okW, wipeD, List.map_cons, List.map_nil, List.cons_append, List.nil_append, List.getElem?_cons_zero, List.getElem?_cons_succ, List.set_cons_zero, List.set_cons_succ, List.length_cons, List.length_nil, List.replicate_succ, List.replicate_zero, List.all_cons, List.all_nil, Bool.and_true, Bool.true_and, tyn_int, tyn_bl, tyn_non, tyn_tup, tyn_lst, kit_ii, kit_ib, kit_tt, kit_ll, kit_lt, kit_tl, flat_int, v_int, flat_row, pl_non, pl_bl, pl_int, pl_tup, pl_lst, eqb_int, eqb_nil, eqb_non, D.isN, ne_eq, not_false_eq_true, true_and, and_true, if_true, if_false, Bool.false_eq_true, reduceCtorEq, String.reduceEq, Bool.not_true, Bool.not_false, Bool.or_false, Bool.false_or, Bool.or_true, Bool.true_or, Nat.zero_add, Nat.reduceAdd, Nat.reduceLeDiff, Nat.reduceSub, Nat.reduceEqDiff]
    exact ns_loop _ n _ rs 0 _ _ h2 fun _ _ => q
def fWrong : D → Option D := fun d => match d with
  | .tup [k, .tup bs] => if inV (.int 1) (bs.map D.v) = true then some k else none
  | _ => none
theorem fWrong_posn : ∀ (rs : List (List Bool)) (k : Nat), (enumD k (rs.map rowD)).filterMap fWrong = (posn k (rs.map hot)).map D.int
  | [], k => rfl
  | r :: rs, k => by
    have ih := fWrong_posn rs (k + 1)
    have e : ((k + 1 : Nat) : Int) = (k : Int) + 1 := rfl
    rw [e] at ih
    rw [List.map_cons, List.map_cons]
    show List.filterMap fWrong (.tup [.int (k : Nat), rowD r] :: enumD (k + 1) (rs.map rowD)) = _
    unfold posn
    have f : fWrong (.tup [.int (k : Nat), rowD r]) = if hot r = true then some (.int k) else none := by
      show (if inV (.int 1) ((r.map bD).map D.v) = true then some (D.int k) else none) = _
      rw [hot_in]
    by_cases hr : hot r = true
    · rw [if_pos hr, List.filterMap_cons_some (by rw [f, if_pos hr]), ih]; rfl
    · rw [if_neg hr, List.filterMap_cons_none (by rw [f, if_neg hr]), ih]
theorem mem_enum : ∀ (ds : List D) (k : Nat) (d : D), d ∈ enumD k ds → ∃ (j : Nat) (e : D), d = .tup [.int j, e] ∧ e ∈ ds
  | [], _, _, h => by cases h
  | d :: ds, k, x, h => by
    unfold enumD at h
    rcases List.mem_cons.mp h with rfl | h
    · exact ⟨k, d, rfl, List.mem_cons_self ..⟩
    · obtain ⟨j, e, h1, h2⟩ := mem_enum ds (k + 1) x h
      exact ⟨j, e, h1, List.mem_cons_of_mem _ h2⟩
theorem m_wrong_steps : ∀ ds n Q, c_wrong_steps ds n Q → kb_wrong_steps ⟨fun _ n' => Q .non n', Q, fun _ _ => False, fun _ _ => False⟩ (startD ["rows", "at", "row"] ds) n := by
  rintro ds n Q ⟨rs, d, rfl, ⟨hd, h1, h2⟩, q⟩
  have go : ∀ d : D, kComps kg_wrong_steps_2 kt_wrong_steps_1 ke_wrong_steps_3 [1, 2] [Sl.val d, Sl.no, Sl.no] (enumD 0 (rs.map rowD)) [] n fun acc n2 => Q (.lst acc) n2 := by
    intro d
    refine comps_fm fWrong _ _ (fun x hx R hR => ?_) ?_
    · obtain ⟨j, e, rfl, he⟩ := mem_enum _ _ _ hx
      obtain ⟨r, hr, rfl⟩ := List.mem_map.mp he
      have f : fWrong (.tup [.int j, rowD r]) = if hot r = true then some (.int j) else none := by
        show (if inV (.int 1) ((r.map bD).map D.v) = true then some (D.int j) else none) = _
        rw [hot_in]
      rw [f] at hR
      simp only [kg_wrong_steps_2, kt_wrong_steps_1, ke_wrong_steps_3, kSeq, kAsg, kRet, kIfS, kDrop, kNext, kNever, kOwnS, kApp, kSub, kPar, kAndV_e, kOrV_e, kNotV, kAndT, kOrT, kNotT, kTest_e, isB_bl, kBin, kUn, kChain_e, condV, kCall, kCons, kNil, kTup, kLst, kLstO, kOut, kCompO, kIter, kEnum, kZip, kRng1, DL.kV, kB, kC, kIf, kStar, kSl, kPart, kNoPart, kFn, kFnK, kIsi2, kFor, gN, gTupD, gsCons, gsNil, kYes, dNeg, dAdd, dSub, dMod, dDiv, dMul, dPow, dCmp, dInt, dEq, dNe, dIn, dNotIn, dIx, dIsN, bLen, bInt, bAbs, bTuple, bList, bAny, bAll, bIsi, startD, okW, wipeD, List.map_cons, List.map_nil, List.cons_append, List.nil_append, List.getElem?_cons_zero, List.getElem?_cons_succ, List.set_cons_zero, List.set_cons_succ, List.length_cons, List.length_nil, List.replicate_succ, List.replicate_zero, List.all_cons, List.all_nil, Bool.and_true, Bool.true_and, tyn_int, tyn_bl, tyn_non, tyn_tup, tyn_lst, kit_ii, kit_ib, kit_tt, kit_ll, kit_lt, kit_tl, flat_int, v_int, flat_row, pl_non, pl_bl, pl_int, pl_tup, pl_lst, eqb_int, eqb_nil, eqb_non, D.isN, ne_eq, not_false_eq_true, true_and, and_true, if_true, if_false, Bool.false_eq_true, reduceCtorEq, String.reduceEq, Bool.not_true, Bool.not_false, Bool.or_false, Bool.false_or, Bool.or_true, Bool.true_or, Nat.zero_add, Nat.reduceAdd, Nat.reduceLeDiff, Nat.reduceSub, Nat.reduceEqDiff, rowD, hot_in]
      by_cases hh : hot r = true
      · rw [if_pos hh] at hR ⊢
        exact hR
      · rw [if_neg hh] at hR ⊢
        exact hR
    · rw [fWrong_posn]
      exact q
  have len : (enumD 0 (rs.map rowD)).length ≤ 1000000 := by rw [enumD_len, List.length_map]; omega
  rcases hd with rfl | rfl
  · simp only [kb_wrong_steps, kSeq, kAsg, kRet, kIfS, kDrop, kNext, kNever, kOwnS, kApp, kSub, kPar, kAndV_e, kOrV_e, kNotV, kAndT, kOrT, kNotT, kTest_e, isB_bl, kBin, kUn, kChain_e, condV, kCall, kCons, kNil, kTup, kLst, kLstO, kOut, kCompO, kIter, kEnum, kZip, kRng1, DL.kV, kB, kC, kIf, kStar, kSl, kPart, kNoPart, kFn, kFnK, kIsi2, kFor, gN, gTupD, gsCons, gsNil, kYes, dNeg, dAdd, dSub, dMod, dDiv, dMul, dPow, dCmp, dInt, dEq, dNe, dIn, dNotIn, dIx, dIsN, bLen, bInt, bAbs, bTuple, bList, bAny, bAll, bIsi, startD, okW, wipeD, List.map_cons, List.map_nil, List.cons_append, List.nil_append, List.getElem?_cons_zero, List.getElem?_cons_succ, List.set_cons_zero, List.set_cons_succ, List.length_cons, List.length_nil, List.replicate_succ, List.replicate_zero, List.all_cons, List.all_nil, Bool.and_true, Bool.true_and, tyn_int, tyn_bl, tyn_non, tyn_tup, tyn_lst, kit_ii, kit_ib, kit_tt, kit_ll, kit_lt, kit_tl, flat_int, v_int, flat_row, pl_non, pl_bl, pl_int, pl_tup, pl_lst, eqb_int, eqb_nil, eqb_non, D.isN, ne_eq, not_false_eq_true, true_and, and_true, if_true, if_false, Bool.false_eq_true, reduceCtorEq, String.reduceEq, Bool.not_true, Bool.not_false, Bool.or_false, Bool.false_or, Bool.or_true, Bool.true_or, Nat.zero_add, Nat.reduceAdd, Nat.reduceLeDiff, Nat.reduceSub, Nat.reduceEqDiff]
    exact ⟨len, go _⟩
  · simp only [kb_wrong_steps, kSeq, kAsg, kRet, kIfS, kDrop, kNext, kNever, kOwnS, kApp, kSub, kPar, kAndV_e, kOrV_e, kNotV, kAndT, kOrT, kNotT, kTest_e, isB_bl, kBin, kUn, kChain_e, condV, kCall, kCons, kNil, kTup, kLst, kLstO, kOut, kCompO, kIter, kEnum, kZip, kRng1, DL.kV, kB, kC, kIf, kStar, kSl, kPart, kNoPart, kFn, kFnK, kIsi2, kFor, gN, gTupD, gsCons, gsNil, kYes, dNeg, dAdd, dSub, dMod, dDiv, dMul, dPow, dCmp, dInt, dEq, dNe, dIn, dNotIn, dIx, dIsN, bLen, bInt, bAbs, bTuple, bList, bAny, bAll, bIsi, startD, okW, wipeD, List.map_cons, List.map_nil, List.cons_append, List.nil_append, List.getElem?_cons_zero, List.getElem?_cons_succ, List.set_cons_zero, List.set_cons_succ, List.length_cons, List.length_nil, List.replicate_succ, List.replicate_zero, List.all_cons, List.all_nil, Bool.and_true, Bool.true_and, tyn_int, tyn_bl, tyn_non, tyn_tup, tyn_lst, kit_ii, kit_ib, kit_tt, kit_ll, kit_lt, kit_tl, flat_int, v_int, flat_row, pl_non, pl_bl, pl_int, pl_tup, pl_lst, eqb_int, eqb_nil, eqb_non, D.isN, ne_eq, not_false_eq_true, true_and, and_true, if_true, if_false, Bool.false_eq_true, reduceCtorEq, String.reduceEq, Bool.not_true, Bool.not_false, Bool.or_false, Bool.false_or, Bool.or_true, Bool.true_or, Nat.zero_add, Nat.reduceAdd, Nat.reduceLeDiff, Nat.reduceSub, Nat.reduceEqDiff]
    exact ⟨len, go _⟩
end L79
namespace L79
open PySem PySem.Spec PyProof.Rows L2 DL
theorem dr1 (E : DEnds) (p s2 s3 s4 : Sl) (m x : Int) (n : Nat) (hm : 0 < m) (q : ∀ d : Int, 0 ≤ d → d < m → E.rt (.int d) n) : kr_law_draw_1 E [p, .val (.int m), s2, s3, s4, .val (.int x)] n := by
  simp only [kr_law_draw_1, kSeq, kAsg, kRet, kIfS, kDrop, kNext, kNever, kOwnS, kApp, kSub, kPar, kAndV_e, kOrV_e, kNotV, kAndT, kOrT, kNotT, kTest_e, isB_bl, kBin, kUn, kChain_e, condV, kCall, kCons, kNil, kTup, kLst, kLstO, kOut, kCompO, kIter, kEnum, kZip, kRng1, DL.kV, kB, kC, kIf, kStar, kSl, kPart, kNoPart, kFn, kFnK, kIsi2, kFor, gN, gTupD, gsCons, gsNil, kYes, dNeg, dAdd, dSub, dMod, dDiv, dMul, dPow, dCmp, dInt, dEq, dNe, dIn, dNotIn, dIx, dIsN, bLen, bInt, bAbs, bTuple, bList, bAny, bAll, bIsi, startD, okW, wipeD, List.map_cons, List.map_nil, List.cons_append, List.nil_append, List.getElem?_cons_zero, List.getElem?_cons_succ, List.set_cons_zero, List.set_cons_succ, List.length_cons, List.length_nil, List.replicate_succ, List.replicate_zero, List.all_cons, List.all_nil, Bool.and_true, Bool.true_and, tyn_int, tyn_bl, tyn_non, tyn_tup, tyn_lst, kit_ii, kit_ib, kit_tt, kit_ll, kit_lt, kit_tl, flat_int, v_int, flat_row, pl_non, pl_bl, pl_int, pl_tup, pl_lst, eqb_int, eqb_nil, eqb_non, D.isN, ne_eq, not_false_eq_true, true_and, and_true, if_true, if_false, Bool.false_eq_true, reduceCtorEq, String.reduceEq, Bool.not_true, Bool.not_false, Bool.or_false, Bool.false_or, Bool.or_true, Bool.true_or, Nat.zero_add, Nat.reduceAdd, Nat.reduceLeDiff, Nat.reduceSub, Nat.reduceEqDiff, kPen0, kPen1, kPen2, kInk1, kInk2, asInt]
  exact ⟨⟨by decide, by decide⟩, hm, q _ (Int.emod_nonneg _ (by omega)) (Int.emod_lt_of_pos _ hm)⟩
theorem cmul_l {i j : Int} (h : -(2 ^ 64) < i ∧ i < 2 ^ 64) : CMul i j := .inl h
theorem dr2 (E : DEnds) (p s2 s4 : Sl) (m x t : Int) (n : Nat) (hm : 0 < m) (ht : 0 ≤ t ∧ t ≤ 100000) (hx : 0 ≤ x ∧ x < 2147483629) (q : ∀ d : Int, 0 ≤ d → d < m → E.rt (.int d) n) : kr_law_draw_2 E [p, .val (.int m), s2, .val (.int t), s4, .val (.int x)] n := by
  simp only [kr_law_draw_2, kSeq, kAsg, kRet, kIfS, kDrop, kNext, kNever, kOwnS, kApp, kSub, kPar, kAndV_e, kOrV_e, kNotV, kAndT, kOrT, kNotT, kTest_e, isB_bl, kBin, kUn, kChain_e, condV, kCall, kCons, kNil, kTup, kLst, kLstO, kOut, kCompO, kIter, kEnum, kZip, kRng1, DL.kV, kB, kC, kIf, kStar, kSl, kPart, kNoPart, kFn, kFnK, kIsi2, kFor, gN, gTupD, gsCons, gsNil, kYes, dNeg, dAdd, dSub, dMod, dDiv, dMul, dPow, dCmp, dInt, dEq, dNe, dIn, dNotIn, dIx, dIsN, bLen, bInt, bAbs, bTuple, bList, bAny, bAll, bIsi, startD, okW, wipeD, List.map_cons, List.map_nil, List.cons_append, List.nil_append, List.getElem?_cons_zero, List.getElem?_cons_succ, List.set_cons_zero, List.set_cons_succ, List.length_cons, List.length_nil, List.replicate_succ, List.replicate_zero, List.all_cons, List.all_nil, Bool.and_true, Bool.true_and, tyn_int, tyn_bl, tyn_non, tyn_tup, tyn_lst, kit_ii, kit_ib, kit_tt, kit_ll, kit_lt, kit_tl, flat_int, v_int, flat_row, pl_non, pl_bl, pl_int, pl_tup, pl_lst, eqb_int, eqb_nil, eqb_non, D.isN, ne_eq, not_false_eq_true, true_and, and_true, if_true, if_false, Bool.false_eq_true, reduceCtorEq, String.reduceEq, Bool.not_true, Bool.not_false, Bool.or_false, Bool.false_or, Bool.or_true, Bool.true_or, Nat.zero_add, Nat.reduceAdd, Nat.reduceLeDiff, Nat.reduceSub, Nat.reduceEqDiff, kPen0, kPen1, kPen2, kInk1, kInk2, asInt]
  have a1 : x * (2 * t + 5547) ≤ 2147483629 * 205547 := Int.mul_le_mul (by omega) (by omega) (by omega) (by omega)
  have a2 : 0 ≤ x * (2 * t + 5547) := Int.mul_nonneg (by omega) (by omega)
  have a3 : (30127 * t) * t ≤ (30127 * 100000) * 100000 := Int.mul_le_mul (by omega) (by omega) (by omega) (by omega)
  have a4 : 0 ≤ (30127 * t) * t := Int.mul_nonneg (by omega) (by omega)
  generalize x * (2 * t + 5547) = y at *
  generalize 30127 * t * t = z at *
  exact ⟨cmul_l (by omega), cmul_l (by omega), cmul_l (by omega), cmul_l (by omega), ⟨by decide, by decide, by omega⟩, by decide, dr1 E _ _ _ _ _ _ _ hm q⟩
theorem dr3 (E : DEnds) (p s2 s5 : Sl) (m c t : Int) (n : Nat) (hm : 0 < m) (ht : 0 ≤ t ∧ t ≤ 100000) (q : ∀ d : Int, 0 ≤ d → d < m → E.rt (.int d) n) : kr_law_draw_3 E [p, .val (.int m), s2, .val (.int t), .val (.int c), s5] n := by
  simp only [kr_law_draw_3, kSeq, kAsg, kRet, kIfS, kDrop, kNext, kNever, kOwnS, kApp, kSub, kPar, kAndV_e, kOrV_e, kNotV, kAndT, kOrT, kNotT, kTest_e, isB_bl, kBin, kUn, kChain_e, condV, kCall, kCons, kNil, kTup, kLst, kLstO, kOut, kCompO, kIter, kEnum, kZip, kRng1, DL.kV, kB, kC, kIf, kStar, kSl, kPart, kNoPart, kFn, kFnK, kIsi2, kFor, gN, gTupD, gsCons, gsNil, kYes, dNeg, dAdd, dSub, dMod, dDiv, dMul, dPow, dCmp, dInt, dEq, dNe, dIn, dNotIn, dIx, dIsN, bLen, bInt, bAbs, bTuple, bList, bAny, bAll, bIsi, startD, okW, wipeD, List.map_cons, List.map_nil, List.cons_append, List.nil_append, List.getElem?_cons_zero, List.getElem?_cons_succ, List.set_cons_zero, List.set_cons_succ, List.length_cons, List.length_nil, List.replicate_succ, List.replicate_zero, List.all_cons, List.all_nil, Bool.and_true, Bool.true_and, tyn_int, tyn_bl, tyn_non, tyn_tup, tyn_lst, kit_ii, kit_ib, kit_tt, kit_ll, kit_lt, kit_tl, flat_int, v_int, flat_row, pl_non, pl_bl, pl_int, pl_tup, pl_lst, eqb_int, eqb_nil, eqb_non, D.isN, ne_eq, not_false_eq_true, true_and, and_true, if_true, if_false, Bool.false_eq_true, reduceCtorEq, String.reduceEq, Bool.not_true, Bool.not_false, Bool.or_false, Bool.false_or, Bool.or_true, Bool.true_or, Nat.zero_add, Nat.reduceAdd, Nat.reduceLeDiff, Nat.reduceSub, Nat.reduceEqDiff, kPen0, kPen1, kPen2, kInk1, kInk2, asInt]
  have b1 : 0 ≤ c % 2147483549 := Int.emod_nonneg _ (by decide)
  have b2 : c % 2147483549 < 2147483549 := Int.emod_lt_of_pos _ (by decide)
  exact ⟨by decide, cmul_l (by omega), ⟨by decide, by decide, by omega⟩, by decide, dr2 E _ _ _ _ _ _ _ hm ht ⟨Int.emod_nonneg _ (by decide), Int.emod_lt_of_pos _ (by decide)⟩ q⟩
theorem dr4 (E : DEnds) (s2 s5 : Sl) (cs : List Int) (m c t : Int) (n : Nat) (hm : 0 < m ∧ m < 1073741824) (ht : 0 ≤ t ∧ t ≤ 100000) (q : ∀ d : Int, 0 ≤ d → d < m → E.rt (.int d) n) : kr_law_draw_4 E [.val (.pen cs), .val (.int m), s2, .val (.int t), .val (.int c), s5] n := by
  simp only [kr_law_draw_4, kSeq, kAsg, kRet, kIfS, kDrop, kNext, kNever, kOwnS, kApp, kSub, kPar, kAndV_e, kOrV_e, kNotV, kAndT, kOrT, kNotT, kTest_e, isB_bl, kBin, kUn, kChain_e, condV, kCall, kCons, kNil, kTup, kLst, kLstO, kOut, kCompO, kIter, kEnum, kZip, kRng1, DL.kV, kB, kC, kIf, kStar, kSl, kPart, kNoPart, kFn, kFnK, kIsi2, kFor, gN, gTupD, gsCons, gsNil, kYes, dNeg, dAdd, dSub, dMod, dDiv, dMul, dPow, dCmp, dInt, dEq, dNe, dIn, dNotIn, dIx, dIsN, bLen, bInt, bAbs, bTuple, bList, bAny, bAll, bIsi, startD, okW, wipeD, List.map_cons, List.map_nil, List.cons_append, List.nil_append, List.getElem?_cons_zero, List.getElem?_cons_succ, List.set_cons_zero, List.set_cons_succ, List.length_cons, List.length_nil, List.replicate_succ, List.replicate_zero, List.all_cons, List.all_nil, Bool.and_true, Bool.true_and, tyn_int, tyn_bl, tyn_non, tyn_tup, tyn_lst, kit_ii, kit_ib, kit_tt, kit_ll, kit_lt, kit_tl, flat_int, v_int, flat_row, pl_non, pl_bl, pl_int, pl_tup, pl_lst, eqb_int, eqb_nil, eqb_non, D.isN, ne_eq, not_false_eq_true, true_and, and_true, if_true, if_false, Bool.false_eq_true, reduceCtorEq, String.reduceEq, Bool.not_true, Bool.not_false, Bool.or_false, Bool.false_or, Bool.or_true, Bool.true_or, Nat.zero_add, Nat.reduceAdd, Nat.reduceLeDiff, Nat.reduceSub, Nat.reduceEqDiff, kPen0, kPen1, kPen2, kInk1, kInk2, asInt]
  have e18 : (10 : Int) ^ Int.toNat 18 = 1000000000000000000 := by decide
  rw [e18]
  have cp : CPow 10 18 := ⟨by decide, by decide, by decide⟩
  have r3 := dr3 E (.val (.pen cs)) s2 s5 m c t n hm.1 ht q
  generalize (if c < 0 then -c else c) = w
  split
  · refine ⟨cp, ?_⟩
    split
    · rename_i h
      have h := of_decide_eq_true h
      have nn : 0 ≤ 2 * (w - 1000000000000000000) + if decide (c < 0) = true then 1 else 0 := by
        have h2 : (0 : Int) ≤ if decide (c < 0) = true then 1 else 0 := by split <;> decide
        omega
      exact ⟨cp, cmul_l (by decide), ⟨hm.1, hm.2⟩, Int.ediv_nonneg nn (by omega), hm.1, q _ (Int.emod_nonneg _ (by omega)) (Int.emod_lt_of_pos _ hm.1)⟩
    · exact r3
  · exact r3
theorem dr5 (E : DEnds) (s2 s5 : Sl) (cs : List Int) (m c t : Int) (n : Nat) (hm : 0 < m ∧ m < 1073741824) (ht : 0 ≤ t ∧ t ≤ 100000) (q : ∀ d : Int, 0 ≤ d → d < m → E.rt (.int d) n) : kr_law_draw_5 E [.val (.pen cs), .val (.int m), s2, .val (.int t), .val (.int c), s5] n := by
  simp only [kr_law_draw_5, kSeq, kAsg, kRet, kIfS, kDrop, kNext, kNever, kOwnS, kApp, kSub, kPar, kAndV_e, kOrV_e, kNotV, kAndT, kOrT, kNotT, kTest_e, isB_bl, kBin, kUn, kChain_e, condV, kCall, kCons, kNil, kTup, kLst, kLstO, kOut, kCompO, kIter, kEnum, kZip, kRng1, DL.kV, kB, kC, kIf, kStar, kSl, kPart, kNoPart, kFn, kFnK, kIsi2, kFor, gN, gTupD, gsCons, gsNil, kYes, dNeg, dAdd, dSub, dMod, dDiv, dMul, dPow, dCmp, dInt, dEq, dNe, dIn, dNotIn, dIx, dIsN, bLen, bInt, bAbs, bTuple, bList, bAny, bAll, bIsi, startD, okW, wipeD, List.map_cons, List.map_nil, List.cons_append, List.nil_append, List.getElem?_cons_zero, List.getElem?_cons_succ, List.set_cons_zero, List.set_cons_succ, List.length_cons, List.length_nil, List.replicate_succ, List.replicate_zero, List.all_cons, List.all_nil, Bool.and_true, Bool.true_and, tyn_int, tyn_bl, tyn_non, tyn_tup, tyn_lst, kit_ii, kit_ib, kit_tt, kit_ll, kit_lt, kit_tl, flat_int, v_int, flat_row, pl_non, pl_bl, pl_int, pl_tup, pl_lst, eqb_int, eqb_nil, eqb_non, D.isN, ne_eq, not_false_eq_true, true_and, and_true, if_true, if_false, Bool.false_eq_true, reduceCtorEq, String.reduceEq, Bool.not_true, Bool.not_false, Bool.or_false, Bool.false_or, Bool.or_true, Bool.true_or, Nat.zero_add, Nat.reduceAdd, Nat.reduceLeDiff, Nat.reduceSub, Nat.reduceEqDiff, kPen0, kPen1, kPen2, kInk1, kInk2, asInt]
  refine ⟨pl_maps (fun i => pl_int 7 i) cs, (fun d hd => by cases hd), ?_⟩
  split
  · rename_i h
    have hl : 0 < cs.length := by
      cases cs with
      | nil => simp at h
      | cons a b => simp
    rw [List.length_map]
    have h1 : 0 ≤ t % (cs.length : Int) := Int.emod_nonneg _ (by omega)
    have h2 : t % (cs.length : Int) < cs.length := Int.emod_lt_of_pos _ (by omega)
    refine ⟨by omega, ?_⟩
    have e : atI (cs.map D.int) (t % (cs.length : Int)) = some (D.int (cs[(t % (cs.length : Int)).toNat]'(by omega))) := by
      unfold atI ixN
      rw [List.length_map, if_pos h1, if_pos h2]
      show (cs.map D.int)[(t % (cs.length : Int)).toNat]? = _
      rw [List.getElem?_map, List.getElem?_eq_getElem (by omega)]
      rfl
    rw [e]
    exact dr4 E s2 s5 cs m _ t n hm ht q
  · exact dr4 E s2 s5 cs m c t n hm ht q
theorem dr8 (E : DEnds) (s2 s3 s4 s5 : Sl) (cs : List Int) (m : Int) (n : Nat) (hm : 0 < m ∧ m < 1073741824) (hn : n ≤ 100000) (q : ∀ d : Int, 0 ≤ d → d < m → ∀ n', n' ≤ n + 1 → E.rt (.int d) n') : kr_law_draw_8 E [.val (.pen cs), .val (.int m), s2, s3, s4, s5] n := by
  simp only [kr_law_draw_8, kr_law_draw_7, kr_law_draw_6, kSeq, kAsg, kRet, kIfS, kDrop, kNext, kNever, kOwnS, kApp, kSub, kPar, kAndV_e, kOrV_e, kNotV, kAndT, kOrT, kNotT, kTest_e, isB_bl, kBin, kUn, kChain_e, condV, kCall, kCons, kNil, kTup, kLst, kLstO, kOut, kCompO, kIter, kEnum, kZip, kRng1, DL.kV, kB, kC, kIf, kStar, kSl, kPart, kNoPart, kFn, kFnK, kIsi2, kFor, gN, gTupD, gsCons, gsNil, kYes, dNeg, dAdd, dSub, dMod, dDiv, dMul, dPow, dCmp, dInt, dEq, dNe, dIn, dNotIn, dIx, dIsN, bLen, bInt, bAbs, bTuple, bList, bAny, bAll, bIsi, startD, okW, wipeD, List.map_cons, List.map_nil, List.cons_append, List.nil_append, List.getElem?_cons_zero, List.getElem?_cons_succ, List.set_cons_zero, List.set_cons_succ, List.length_cons, List.length_nil, List.replicate_succ, List.replicate_zero, List.all_cons, List.all_nil, Bool.and_true, Bool.true_and, tyn_int, tyn_bl, tyn_non, tyn_tup, tyn_lst, kit_ii, kit_ib, kit_tt, kit_ll, kit_lt, kit_tl, flat_int, v_int, flat_row, pl_non, pl_bl, pl_int, pl_tup, pl_lst, eqb_int, eqb_nil, eqb_non, D.isN, ne_eq, not_false_eq_true, true_and, and_true, if_true, if_false, Bool.false_eq_true, reduceCtorEq, String.reduceEq, Bool.not_true, Bool.not_false, Bool.or_false, Bool.false_or, Bool.or_true, Bool.true_or, Nat.zero_add, Nat.reduceAdd, Nat.reduceLeDiff, Nat.reduceSub, Nat.reduceEqDiff, kPen0, kPen1, kPen2, kInk1, kInk2, asInt]
  intro t h1 h2
  exact ⟨⟨by omega, by omega⟩, cmul_l (by omega), dr5 E _ _ _ _ _ _ _ hm ⟨h1, by omega⟩ fun d a b => q d a b _ (Nat.le_refl _)⟩
theorem m_law_draw : ∀ ds n Q, c_law_draw ds n Q → kb_law_draw ⟨fun _ n' => Q .non n', Q, fun _ _ => False, fun _ _ => False⟩ (startD ["pen", "many", "rest", "turn", "cell", "mixed"] ds) n := by
  rintro ds n Q ⟨cs, m, rfl, hm, hn, q⟩
  simp only [kb_law_draw, kSeq, kAsg, kRet, kIfS, kDrop, kNext, kNever, kOwnS, kApp, kSub, kPar, kAndV_e, kOrV_e, kNotV, kAndT, kOrT, kNotT, kTest_e, isB_bl, kBin, kUn, kChain_e, condV, kCall, kCons, kNil, kTup, kLst, kLstO, kOut, kCompO, kIter, kEnum, kZip, kRng1, DL.kV, kB, kC, kIf, kStar, kSl, kPart, kNoPart, kFn, kFnK, kIsi2, kFor, gN, gTupD, gsCons, gsNil, kYes, dNeg, dAdd, dSub, dMod, dDiv, dMul, dPow, dCmp, dInt, dEq, dNe, dIn, dNotIn, dIx, dIsN, bLen, bInt, bAbs, bTuple, bList, bAny, bAll, bIsi, startD, okW, wipeD, List.map_cons, List.map_nil, List.cons_append, List.nil_append, List.getElem?_cons_zero, List.getElem?_cons_succ, List.set_cons_zero, List.set_cons_succ, List.length_cons, List.length_nil, List.replicate_succ, List.replicate_zero, List.all_cons, List.all_nil, Bool.and_true, Bool.true_and, tyn_int, tyn_bl, tyn_non, tyn_tup, tyn_lst, kit_ii, kit_ib, kit_tt, kit_ll, kit_lt, kit_tl, flat_int, v_int, flat_row, pl_non, pl_bl, pl_int, pl_tup, pl_lst, eqb_int, eqb_nil, eqb_non, D.isN, ne_eq, not_false_eq_true, true_and, and_true, if_true, if_false, Bool.false_eq_true, reduceCtorEq, String.reduceEq, Bool.not_true, Bool.not_false, Bool.or_false, Bool.false_or, Bool.or_true, Bool.true_or, Nat.zero_add, Nat.reduceAdd, Nat.reduceLeDiff, Nat.reduceSub, Nat.reduceEqDiff, kPen0, kPen1, kPen2, kInk1, kInk2, asInt]
  intro t ht
  split
  · intro r hr
    exact ⟨⟨hm.1, hm.2⟩, Int.ediv_nonneg hr (by omega), hm.1, q _ (Int.emod_nonneg _ (by omega)) (Int.emod_lt_of_pos _ hm.1) n (by omega)⟩
  · exact dr8 _ _ _ _ _ _ _ _ hm hn q
theorem m_law_pick : ∀ ds n Q, c_law_pick ds n Q → kb_law_pick ⟨fun _ n' => Q .non n', Q, fun _ _ => False, fun _ _ => False⟩ (startD ["pen", "some"] ds) n := by
  rintro ds n Q ⟨cs, xs, rfl, h1, h2, h3, q⟩
  have hl : 0 < xs.length := List.length_pos_iff.mpr h1
  simp only [kb_law_pick, kSeq, kAsg, kRet, kIfS, kDrop, kNext, kNever, kOwnS, kApp, kSub, kPar, kAndV_e, kOrV_e, kNotV, kAndT, kOrT, kNotT, kTest_e, isB_bl, kBin, kUn, kChain_e, condV, kCall, kCons, kNil, kTup, kLst, kLstO, kOut, kCompO, kIter, kEnum, kZip, kRng1, DL.kV, kB, kC, kIf, kStar, kSl, kPart, kNoPart, kFn, kFnK, kIsi2, kFor, gN, gTupD, gsCons, gsNil, kYes, dNeg, dAdd, dSub, dMod, dDiv, dMul, dPow, dCmp, dInt, dEq, dNe, dIn, dNotIn, dIx, dIsN, bLen, bInt, bAbs, bTuple, bList, bAny, bAll, bIsi, startD, okW, wipeD, List.map_cons, List.map_nil, List.cons_append, List.nil_append, List.getElem?_cons_zero, List.getElem?_cons_succ, List.set_cons_zero, List.set_cons_succ, List.length_cons, List.length_nil, List.replicate_succ, List.replicate_zero, List.all_cons, List.all_nil, Bool.and_true, Bool.true_and, tyn_int, tyn_bl, tyn_non, tyn_tup, tyn_lst, kit_ii, kit_ib, kit_tt, kit_ll, kit_lt, kit_tl, flat_int, v_int, flat_row, pl_non, pl_bl, pl_int, pl_tup, pl_lst, eqb_int, eqb_nil, eqb_non, D.isN, ne_eq, not_false_eq_true, true_and, and_true, if_true, if_false, Bool.false_eq_true, reduceCtorEq, String.reduceEq, Bool.not_true, Bool.not_false, Bool.or_false, Bool.false_or, Bool.or_true, Bool.true_or, Nat.zero_add, Nat.reduceAdd, Nat.reduceLeDiff, Nat.reduceSub, Nat.reduceEqDiff, kPen0, kPen1, kPen2, kInk1, kInk2, asInt, c_law_draw]
  refine ⟨cs, xs.length, rfl, ⟨by omega, by omega⟩, h3, fun d a b n' hn' => ?_⟩
  have hi : d.toNat < xs.length := by omega
  have e : atI xs d = some (xs[d.toNat]'hi) := by
    unfold atI ixN
    rw [if_pos a, if_pos b]
    exact List.getElem?_eq_getElem hi
  rw [e]
  exact q _ (List.getElem_mem hi) n' hn'
theorem m_law_all : ∀ ds n Q, c_law_all ds n Q → kb_law_all ⟨fun _ n' => Q .non n', Q, fun _ _ => False, fun _ _ => False⟩ (startD ["many", "found", "turn", "longer", "bits"] ds) n := by
  rintro ds n Q ⟨k, rfl, h, q⟩
  rcases (show k = 0 ∨ k = 1 ∨ k = 2 by omega) with rfl | rfl | rfl
  · simp only [kb_law_all, kSeq, kAsg, kRet, kIfS, kDrop, kNext, kNever, kOwnS, kApp, kSub, kPar, kAndV_e, kOrV_e, kNotV, kAndT, kOrT, kNotT, kTest_e, isB_bl, kBin, kUn, kChain_e, condV, kCall, kCons, kNil, kTup, kLst, kLstO, kOut, kCompO, kIter, kEnum, kZip, kRng1, DL.kV, kB, kC, kIf, kStar, kSl, kPart, kNoPart, kFn, kFnK, kIsi2, kFor, gN, gTupD, gsCons, gsNil, kYes, dNeg, dAdd, dSub, dMod, dDiv, dMul, dPow, dCmp, dInt, dEq, dNe, dIn, dNotIn, dIx, dIsN, bLen, bInt, bAbs, bTuple, bList, bAny, bAll, bIsi, startD, okW, wipeD, List.map_cons, List.map_nil, List.cons_append, List.nil_append, List.getElem?_cons_zero, List.getElem?_cons_succ, List.set_cons_zero, List.set_cons_succ, List.length_cons, List.length_nil, List.replicate_succ, List.replicate_zero, List.all_cons, List.all_nil, Bool.and_true, Bool.true_and, tyn_int, tyn_bl, tyn_non, tyn_tup, tyn_lst, kit_ii, kit_ib, kit_tt, kit_ll, kit_lt, kit_tl, flat_int, v_int, flat_row, pl_non, pl_bl, pl_int, pl_tup, pl_lst, eqb_int, eqb_nil, eqb_non, D.isN, ne_eq, not_false_eq_true, true_and, and_true, if_true, if_false, Bool.false_eq_true, reduceCtorEq, String.reduceEq, Bool.not_true, Bool.not_false, Bool.or_false, Bool.false_or, Bool.or_true, Bool.true_or, Nat.zero_add, Nat.reduceAdd, Nat.reduceLeDiff, Nat.reduceSub, Nat.reduceEqDiff, kPen0, kPen1, kPen2, kInk1, kInk2, asInt]
    refine ⟨by decide, ?_⟩
    show kFors kg_law_all_3 kb_law_all_4 _ [] _ _
    simp only [fors_nil, kSeq, kAsg, kRet, kIfS, kDrop, kNext, kNever, kOwnS, kApp, kSub, kPar, kAndV_e, kOrV_e, kNotV, kAndT, kOrT, kNotT, kTest_e, isB_bl, kBin, kUn, kChain_e, condV, kCall, kCons, kNil, kTup, kLst, kLstO, kOut, kCompO, kIter, kEnum, kZip, kRng1, DL.kV, kB, kC, kIf, kStar, kSl, kPart, kNoPart, kFn, kFnK, kIsi2, kFor, gN, gTupD, gsCons, gsNil, kYes, dNeg, dAdd, dSub, dMod, dDiv, dMul, dPow, dCmp, dInt, dEq, dNe, dIn, dNotIn, dIx, dIsN, bLen, bInt, bAbs, bTuple, bList, bAny, bAll, bIsi, startD, okW, wipeD, List.map_cons, List.map_nil, List.cons_append, List.nil_append, List.getElem?_cons_zero, List.getElem?_cons_succ, List.set_cons_zero, List.set_cons_succ, List.length_cons, List.length_nil, List.replicate_succ, List.replicate_zero, List.all_cons, List.all_nil, Bool.and_true, Bool.true_and, tyn_int, tyn_bl, tyn_non, tyn_tup, tyn_lst, kit_ii, kit_ib, kit_tt, kit_ll, kit_lt, kit_tl, flat_int, v_int, flat_row, pl_non, pl_bl, pl_int, pl_tup, pl_lst, eqb_int, eqb_nil, eqb_non, D.isN, ne_eq, not_false_eq_true, true_and, and_true, if_true, if_false, Bool.false_eq_true, reduceCtorEq, String.reduceEq, Bool.not_true, Bool.not_false, Bool.or_false, Bool.false_or, Bool.or_true, Bool.true_or, Nat.zero_add, Nat.reduceAdd, Nat.reduceLeDiff, Nat.reduceSub, Nat.reduceEqDiff, kPen0, kPen1, kPen2, kInk1, kInk2, asInt]
    exact q
  · simp only [kb_law_all, kSeq, kAsg, kRet, kIfS, kDrop, kNext, kNever, kOwnS, kApp, kSub, kPar, kAndV_e, kOrV_e, kNotV, kAndT, kOrT, kNotT, kTest_e, isB_bl, kBin, kUn, kChain_e, condV, kCall, kCons, kNil, kTup, kLst, kLstO, kOut, kCompO, kIter, kEnum, kZip, kRng1, DL.kV, kB, kC, kIf, kStar, kSl, kPart, kNoPart, kFn, kFnK, kIsi2, kFor, gN, gTupD, gsCons, gsNil, kYes, dNeg, dAdd, dSub, dMod, dDiv, dMul, dPow, dCmp, dInt, dEq, dNe, dIn, dNotIn, dIx, dIsN, bLen, bInt, bAbs, bTuple, bList, bAny, bAll, bIsi, startD, okW, wipeD, List.map_cons, List.map_nil, List.cons_append, List.nil_append, List.getElem?_cons_zero, List.getElem?_cons_succ, List.set_cons_zero, List.set_cons_succ, List.length_cons, List.length_nil, List.replicate_succ, List.replicate_zero, List.all_cons, List.all_nil, Bool.and_true, Bool.true_and, tyn_int, tyn_bl, tyn_non, tyn_tup, tyn_lst, kit_ii, kit_ib, kit_tt, kit_ll, kit_lt, kit_tl, flat_int, v_int, flat_row, pl_non, pl_bl, pl_int, pl_tup, pl_lst, eqb_int, eqb_nil, eqb_non, D.isN, ne_eq, not_false_eq_true, true_and, and_true, if_true, if_false, Bool.false_eq_true, reduceCtorEq, String.reduceEq, Bool.not_true, Bool.not_false, Bool.or_false, Bool.false_or, Bool.or_true, Bool.true_or, Nat.zero_add, Nat.reduceAdd, Nat.reduceLeDiff, Nat.reduceSub, Nat.reduceEqDiff, kPen0, kPen1, kPen2, kInk1, kInk2, asInt]
    refine ⟨by decide, ?_⟩
    show kFors kg_law_all_3 kb_law_all_4 _ [.int 0] _ _
    simp only [fors_nil, fors_cons, kg_law_all_3, kb_law_all_4, kg_law_all_1, kb_law_all_2, kSeq, kAsg, kRet, kIfS, kDrop, kNext, kNever, kOwnS, kApp, kSub, kPar, kAndV_e, kOrV_e, kNotV, kAndT, kOrT, kNotT, kTest_e, isB_bl, kBin, kUn, kChain_e, condV, kCall, kCons, kNil, kTup, kLst, kLstO, kOut, kCompO, kIter, kEnum, kZip, kRng1, DL.kV, kB, kC, kIf, kStar, kSl, kPart, kNoPart, kFn, kFnK, kIsi2, kFor, gN, gTupD, gsCons, gsNil, kYes, dNeg, dAdd, dSub, dMod, dDiv, dMul, dPow, dCmp, dInt, dEq, dNe, dIn, dNotIn, dIx, dIsN, bLen, bInt, bAbs, bTuple, bList, bAny, bAll, bIsi, startD, okW, wipeD, List.map_cons, List.map_nil, List.cons_append, List.nil_append, List.getElem?_cons_zero, List.getElem?_cons_succ, List.set_cons_zero, List.set_cons_succ, List.length_cons, List.length_nil, List.replicate_succ, List.replicate_zero, List.all_cons, List.all_nil, Bool.and_true, Bool.true_and, tyn_int, tyn_bl, tyn_non, tyn_tup, tyn_lst, kit_ii, kit_ib, kit_tt, kit_ll, kit_lt, kit_tl, flat_int, v_int, flat_row, pl_non, pl_bl, pl_int, pl_tup, pl_lst, eqb_int, eqb_nil, eqb_non, D.isN, ne_eq, not_false_eq_true, true_and, and_true, if_true, if_false, Bool.false_eq_true, reduceCtorEq, String.reduceEq, Bool.not_true, Bool.not_false, Bool.or_false, Bool.false_or, Bool.or_true, Bool.true_or, Nat.zero_add, Nat.reduceAdd, Nat.reduceLeDiff, Nat.reduceSub, Nat.reduceEqDiff, kPen0, kPen1, kPen2, kInk1, kInk2, asInt]
    exact q
  · simp only [kb_law_all, kSeq, kAsg, kRet, kIfS, kDrop, kNext, kNever, kOwnS, kApp, kSub, kPar, kAndV_e, kOrV_e, kNotV, kAndT, kOrT, kNotT, kTest_e, isB_bl, kBin, kUn, kChain_e, condV, kCall, kCons, kNil, kTup, kLst, kLstO, kOut, kCompO, kIter, kEnum, kZip, kRng1, DL.kV, kB, kC, kIf, kStar, kSl, kPart, kNoPart, kFn, kFnK, kIsi2, kFor, gN, gTupD, gsCons, gsNil, kYes, dNeg, dAdd, dSub, dMod, dDiv, dMul, dPow, dCmp, dInt, dEq, dNe, dIn, dNotIn, dIx, dIsN, bLen, bInt, bAbs, bTuple, bList, bAny, bAll, bIsi, startD, okW, wipeD, List.map_cons, List.map_nil, List.cons_append, List.nil_append, List.getElem?_cons_zero, List.getElem?_cons_succ, List.set_cons_zero, List.set_cons_succ, List.length_cons, List.length_nil, List.replicate_succ, List.replicate_zero, List.all_cons, List.all_nil, Bool.and_true, Bool.true_and, tyn_int, tyn_bl, tyn_non, tyn_tup, tyn_lst, kit_ii, kit_ib, kit_tt, kit_ll, kit_lt, kit_tl, flat_int, v_int, flat_row, pl_non, pl_bl, pl_int, pl_tup, pl_lst, eqb_int, eqb_nil, eqb_non, D.isN, ne_eq, not_false_eq_true, true_and, and_true, if_true, if_false, Bool.false_eq_true, reduceCtorEq, String.reduceEq, Bool.not_true, Bool.not_false, Bool.or_false, Bool.false_or, Bool.or_true, Bool.true_or, Nat.zero_add, Nat.reduceAdd, Nat.reduceLeDiff, Nat.reduceSub, Nat.reduceEqDiff, kPen0, kPen1, kPen2, kInk1, kInk2, asInt]
    refine ⟨by decide, ?_⟩
    show kFors kg_law_all_3 kb_law_all_4 _ [.int 0, .int 1] _ _
    simp only [fors_nil, fors_cons, kg_law_all_3, kb_law_all_4, kg_law_all_1, kb_law_all_2, kSeq, kAsg, kRet, kIfS, kDrop, kNext, kNever, kOwnS, kApp, kSub, kPar, kAndV_e, kOrV_e, kNotV, kAndT, kOrT, kNotT, kTest_e, isB_bl, kBin, kUn, kChain_e, condV, kCall, kCons, kNil, kTup, kLst, kLstO, kOut, kCompO, kIter, kEnum, kZip, kRng1, DL.kV, kB, kC, kIf, kStar, kSl, kPart, kNoPart, kFn, kFnK, kIsi2, kFor, gN, gTupD, gsCons, gsNil, kYes, dNeg, dAdd, dSub, dMod, dDiv, dMul, dPow, dCmp, dInt, dEq, dNe, dIn, dNotIn, dIx, dIsN, bLen, bInt, bAbs, bTuple, bList, bAny, bAll, bIsi, startD, okW, wipeD, List.map_cons, List.map_nil, List.cons_append, List.nil_append, List.getElem?_cons_zero, List.getElem?_cons_succ, List.set_cons_zero, List.set_cons_succ, List.length_cons, List.length_nil, List.replicate_succ, List.replicate_zero, List.all_cons, List.all_nil, Bool.and_true, Bool.true_and, tyn_int, tyn_bl, tyn_non, tyn_tup, tyn_lst, kit_ii, kit_ib, kit_tt, kit_ll, kit_lt, kit_tl, flat_int, v_int, flat_row, pl_non, pl_bl, pl_int, pl_tup, pl_lst, eqb_int, eqb_nil, eqb_non, D.isN, ne_eq, not_false_eq_true, true_and, and_true, if_true, if_false, Bool.false_eq_true, reduceCtorEq, String.reduceEq, Bool.not_true, Bool.not_false, Bool.or_false, Bool.false_or, Bool.or_true, Bool.true_or, Nat.zero_add, Nat.reduceAdd, Nat.reduceLeDiff, Nat.reduceSub, Nat.reduceEqDiff, kPen0, kPen1, kPen2, kInk1, kInk2, asInt]
    exact q
end L79
namespace L79
open PySem PySem.Spec PyProof.Rows L2 DL
theorem posn_cons (k : Int) (b : Bool) (bs : List Bool) : posn k (b :: bs) = if b = true then k :: posn (k + 1) bs else posn (k + 1) bs := rfl
theorem part1_end (g x : Int) (p : Int × Int) : ∀ acc : List (Int × Int), part1 g x (acc ++ [p]) = if x - p.2 - 1 < g then acc ++ [(p.1, x)] else acc ++ [p, (x, x)]
  | [] => by
    show (if x - p.2 - 1 < g then [(p.1, x)] else [p, (x, x)]) = _
    split <;> rfl
  | [q] => by
    show q :: (if x - p.2 - 1 < g then [(p.1, x)] else [p, (x, x)]) = _
    split <;> rfl
  | q :: q2 :: acc => by
    have ih := part1_end g x p (q2 :: acc)
    show q :: part1 g x (q2 :: acc ++ [p]) = _
    rw [ih]
    split <;> rfl
theorem part1_len (g x : Int) : ∀ acc : List (Int × Int), (part1 g x acc).length ≤ acc.length + 1
  | [] => by simp [part1]
  | [p] => by unfold part1; split <;> simp
  | p :: q :: ps => by
    have := part1_len g x (q :: ps)
    unfold part1
    simp only [List.length_cons] at this ⊢
    omega
theorem parted_len (g : Int) : ∀ (xs : List Int) (acc : List (Int × Int)), (parted g acc xs).length ≤ acc.length + xs.length
  | [], acc => Nat.le_refl _
  | x :: xs, acc => by
    have h1 := parted_len g xs (part1 g x acc)
    have h2 := part1_len g x acc
    show (parted g (part1 g x acc) xs).length ≤ _
    rw [List.length_cons]
    omega
theorem posn_len : ∀ (bs : List Bool) (k : Int), (posn k bs).length ≤ bs.length
  | [], k => Nat.le_refl _
  | b :: bs, k => by
    have := posn_len bs (k + 1)
    rw [posn_cons]
    split
    · rw [List.length_cons, List.length_cons]; omega
    · rw [List.length_cons]; omega
theorem at01 (p : Int × Int) : atI [D.int p.1, D.int p.2] 1 = some (D.int p.2) := rfl
theorem at00 (p : Int × Int) : atI [D.int p.1, D.int p.2] 0 = some (D.int p.1) := rfl
theorem ixN_last {n : Nat} : ixN (n + 1) (-1) = some n := by
  unfold ixN
  rw [if_neg (by omega), if_pos (by omega)]
  congr 1
  omega
theorem at_end (acc : List D) (d : D) : atI (acc ++ [d]) (-1) = some d := by
  unfold atI
  rw [List.length_append, List.length_singleton, ixN_last]
  show (acc ++ [d])[acc.length]? = some d
  rw [List.getElem?_append_right (Nat.le_refl _), Nat.sub_self]
  rfl
theorem lp_loop (E : DEnds) (n : Nat) (d0 : D) (g : Int) : ∀ (rs : List (List Bool)) (k : Nat) (acc : List (Int × Int)) (a b : Sl), acc.length + rs.length ≤ 1000 →
    (∀ a b, E.nx [.val d0, .val (.int g), .own ((parted g acc (posn k (rs.map hot))).map pairD), a, b] n) → kFors kg_law_parted_1 kb_law_parted_2 E (enumD k (rs.map rowD)) [.val d0, .val (.int g), .own (acc.map pairD), a, b] n
  | [], k, acc, a, b, h, q => q a b
  | r :: rs, k, acc, a, b, h, q => by
    rw [List.length_cons] at h
    have ih := fun acc' h' q' => lp_loop E n d0 g rs (k + 1) acc' (.val (.int k)) (.val (rowD r)) h' q'
    have ek : ((k + 1 : Nat) : Int) = (k : Int) + 1 := rfl
    rw [ek] at ih
    rw [List.map_cons, enum_cons, fors_cons]
    generalize kFors kg_law_parted_1 kb_law_parted_2 E (enumD (k + 1) (rs.map rowD)) = X at ih ⊢
    rw [List.map_cons, posn_cons] at q
    by_cases hh : hot r = true
    · rw [if_pos hh] at q
      have pl := pl_maps (pl_pair 6) acc
      rcases List.eq_nil_or_concat acc with rfl | ⟨acc', p, rfl⟩
      · simp only [kg_law_parted_1, kb_law_parted_2, kSeq, kAsg, kRet, kIfS, kDrop, kNext, kNever, kOwnS, kApp, kSub, kPar, kAndV_e, kOrV_e, kNotV, kAndT, kOrT, kNotT, kTest_e, isB_bl, kBin, kUn, kChain_e, condV, kCall, kCons, kNil, kTup, kLst, kLstO, kOut, kCompO, kIter, kEnum, kZip, kRng1, DL.kV, kB, kC, kIf, kStar, kSl, kPart, kNoPart, kFn, kFnK, kIsi2, kFor, gN, gTupD, gsCons, gsNil, kYes, dNeg, dAdd, dSub, dMod, dDiv, dMul, dPow, dCmp, dInt, dEq, dNe, dIn, dNotIn, dIx, dIsN, bLen, bInt, bAbs, bTuple, bList, bAny, bAll, bIsi, startD, okW, wipeD, List.map_cons, List.map_nil, List.cons_append, List.nil_append, List.getElem?_cons_zero, List.getElem?_cons_succ, List.set_cons_zero, List.set_cons_succ, List.length_cons, List.length_nil, List.replicate_succ, List.replicate_zero, List.all_cons, List.all_nil, Bool.and_true, Bool.true_and, tyn_int, tyn_bl, tyn_non, tyn_tup, tyn_lst, kit_ii, kit_ib, kit_tt, kit_ll, kit_lt, kit_tl, flat_int, v_int, flat_row, pl_non, pl_bl, pl_int, pl_tup, pl_lst, eqb_int, eqb_nil, eqb_non, D.isN, ne_eq, not_false_eq_true, true_and, and_true, if_true, if_false, Bool.false_eq_true, reduceCtorEq, String.reduceEq, Bool.not_true, Bool.not_false, Bool.or_false, Bool.false_or, Bool.or_true, Bool.true_or, Nat.zero_add, Nat.reduceAdd, Nat.reduceLeDiff, Nat.reduceSub, Nat.reduceEqDiff, rowD, hot_in]
        rw [if_pos hh]
        simp only [List.isEmpty_nil, kSeq, kAsg, kRet, kIfS, kDrop, kNext, kNever, kOwnS, kApp, kSub, kPar, kAndV_e, kOrV_e, kNotV, kAndT, kOrT, kNotT, kTest_e, isB_bl, kBin, kUn, kChain_e, condV, kCall, kCons, kNil, kTup, kLst, kLstO, kOut, kCompO, kIter, kEnum, kZip, kRng1, DL.kV, kB, kC, kIf, kStar, kSl, kPart, kNoPart, kFn, kFnK, kIsi2, kFor, gN, gTupD, gsCons, gsNil, kYes, dNeg, dAdd, dSub, dMod, dDiv, dMul, dPow, dCmp, dInt, dEq, dNe, dIn, dNotIn, dIx, dIsN, bLen, bInt, bAbs, bTuple, bList, bAny, bAll, bIsi, startD, okW, wipeD, List.map_cons, List.map_nil, List.cons_append, List.nil_append, List.getElem?_cons_zero, List.getElem?_cons_succ, List.set_cons_zero, List.set_cons_succ, List.length_cons, List.length_nil, List.replicate_succ, List.replicate_zero, List.all_cons, List.all_nil, Bool.and_true, Bool.true_and, tyn_int, tyn_bl, tyn_non, tyn_tup, tyn_lst, kit_ii, kit_ib, kit_tt, kit_ll, kit_lt, kit_tl, flat_int, v_int, flat_row, pl_non, pl_bl, pl_int, pl_tup, pl_lst, eqb_int, eqb_nil, eqb_non, D.isN, ne_eq, not_false_eq_true, true_and, and_true, if_true, if_false, Bool.false_eq_true, reduceCtorEq, String.reduceEq, Bool.not_true, Bool.not_false, Bool.or_false, Bool.false_or, Bool.or_true, Bool.true_or, Nat.zero_add, Nat.reduceAdd, Nat.reduceLeDiff, Nat.reduceSub, Nat.reduceEqDiff]
        exact ⟨(fun d hd => by cases hd), (fun d hd => by cases hd), by decide, ih [(k, k)] (by simp only [List.length_cons, List.length_nil] at h ⊢; omega) q⟩
      · rw [List.concat_eq_append] at *
        have ea : (acc' ++ [p]).map pairD = acc'.map pairD ++ [pairD p] := by rw [List.map_append]; rfl
        have ne : (acc'.map pairD ++ [pairD p]).isEmpty = false := by cases acc' <;> rfl
        have q1 : ∀ a b, E.nx [.val d0, .val (.int g), .own ((parted g (part1 g k (acc' ++ [p])) (posn (k + 1) (rs.map hot))).map pairD), a, b] n := q
        rw [part1_end] at q1
        rw [ea] at pl ⊢
        simp only [kg_law_parted_1, kb_law_parted_2, kSeq, kAsg, kRet, kIfS, kDrop, kNext, kNever, kOwnS, kApp, kSub, kPar, kAndV_e, kOrV_e, kNotV, kAndT, kOrT, kNotT, kTest_e, isB_bl, kBin, kUn, kChain_e, condV, kCall, kCons, kNil, kTup, kLst, kLstO, kOut, kCompO, kIter, kEnum, kZip, kRng1, DL.kV, kB, kC, kIf, kStar, kSl, kPart, kNoPart, kFn, kFnK, kIsi2, kFor, gN, gTupD, gsCons, gsNil, kYes, dNeg, dAdd, dSub, dMod, dDiv, dMul, dPow, dCmp, dInt, dEq, dNe, dIn, dNotIn, dIx, dIsN, bLen, bInt, bAbs, bTuple, bList, bAny, bAll, bIsi, startD, okW, wipeD, List.map_cons, List.map_nil, List.cons_append, List.nil_append, List.getElem?_cons_zero, List.getElem?_cons_succ, List.set_cons_zero, List.set_cons_succ, List.length_cons, List.length_nil, List.replicate_succ, List.replicate_zero, List.all_cons, List.all_nil, Bool.and_true, Bool.true_and, tyn_int, tyn_bl, tyn_non, tyn_tup, tyn_lst, kit_ii, kit_ib, kit_tt, kit_ll, kit_lt, kit_tl, flat_int, v_int, flat_row, pl_non, pl_bl, pl_int, pl_tup, pl_lst, eqb_int, eqb_nil, eqb_non, D.isN, ne_eq, not_false_eq_true, true_and, and_true, if_true, if_false, Bool.false_eq_true, reduceCtorEq, String.reduceEq, Bool.not_true, Bool.not_false, Bool.or_false, Bool.false_or, Bool.or_true, Bool.true_or, Nat.zero_add, Nat.reduceAdd, Nat.reduceLeDiff, Nat.reduceSub, Nat.reduceEqDiff, rowD, hot_in]
        rw [if_pos hh]
        simp only [kSeq, kAsg, kRet, kIfS, kDrop, kNext, kNever, kOwnS, kApp, kSub, kPar, kAndV_e, kOrV_e, kNotV, kAndT, kOrT, kNotT, kTest_e, isB_bl, kBin, kUn, kChain_e, condV, kCall, kCons, kNil, kTup, kLst, kLstO, kOut, kCompO, kIter, kEnum, kZip, kRng1, DL.kV, kB, kC, kIf, kStar, kSl, kPart, kNoPart, kFn, kFnK, kIsi2, kFor, gN, gTupD, gsCons, gsNil, kYes, dNeg, dAdd, dSub, dMod, dDiv, dMul, dPow, dCmp, dInt, dEq, dNe, dIn, dNotIn, dIx, dIsN, bLen, bInt, bAbs, bTuple, bList, bAny, bAll, bIsi, startD, okW, wipeD, List.map_cons, List.map_nil, List.cons_append, List.nil_append, List.getElem?_cons_zero, List.getElem?_cons_succ, List.set_cons_zero, List.set_cons_succ, List.length_cons, List.length_nil, List.replicate_succ, List.replicate_zero, List.all_cons, List.all_nil, Bool.and_true, Bool.true_and, tyn_int, tyn_bl, tyn_non, tyn_tup, tyn_lst, kit_ii, kit_ib, kit_tt, kit_ll, kit_lt, kit_tl, flat_int, v_int, flat_row, pl_non, pl_bl, pl_int, pl_tup, pl_lst, eqb_int, eqb_nil, eqb_non, D.isN, ne_eq, not_false_eq_true, true_and, and_true, if_true, if_false, Bool.false_eq_true, reduceCtorEq, String.reduceEq, Bool.not_true, Bool.not_false, Bool.or_false, Bool.false_or, Bool.or_true, Bool.true_or, Nat.zero_add, Nat.reduceAdd, Nat.reduceLeDiff, Nat.reduceSub, Nat.reduceEqDiff, ne, at_end]
        refine ⟨pl, (fun d hd => by cases hd), ?_⟩
        simp only [pairD, at01, at00, kSeq, kAsg, kRet, kIfS, kDrop, kNext, kNever, kOwnS, kApp, kSub, kPar, kAndV_e, kOrV_e, kNotV, kAndT, kOrT, kNotT, kTest_e, isB_bl, kBin, kUn, kChain_e, condV, kCall, kCons, kNil, kTup, kLst, kLstO, kOut, kCompO, kIter, kEnum, kZip, kRng1, DL.kV, kB, kC, kIf, kStar, kSl, kPart, kNoPart, kFn, kFnK, kIsi2, kFor, gN, gTupD, gsCons, gsNil, kYes, dNeg, dAdd, dSub, dMod, dDiv, dMul, dPow, dCmp, dInt, dEq, dNe, dIn, dNotIn, dIx, dIsN, bLen, bInt, bAbs, bTuple, bList, bAny, bAll, bIsi, startD, okW, wipeD, List.map_cons, List.map_nil, List.cons_append, List.nil_append, List.getElem?_cons_zero, List.getElem?_cons_succ, List.set_cons_zero, List.set_cons_succ, List.length_cons, List.length_nil, List.replicate_succ, List.replicate_zero, List.all_cons, List.all_nil, Bool.and_true, Bool.true_and, tyn_int, tyn_bl, tyn_non, tyn_tup, tyn_lst, kit_ii, kit_ib, kit_tt, kit_ll, kit_lt, kit_tl, flat_int, v_int, flat_row, pl_non, pl_bl, pl_int, pl_tup, pl_lst, eqb_int, eqb_nil, eqb_non, D.isN, ne_eq, not_false_eq_true, true_and, and_true, if_true, if_false, Bool.false_eq_true, reduceCtorEq, String.reduceEq, Bool.not_true, Bool.not_false, Bool.or_false, Bool.false_or, Bool.or_true, Bool.true_or, Nat.zero_add, Nat.reduceAdd, Nat.reduceLeDiff, Nat.reduceSub, Nat.reduceEqDiff]
        rw [List.length_append, List.length_singleton, ixN_last]
        by_cases hg : (k : Int) - p.2 - 1 < g
        · rw [if_pos (decide_eq_true hg)]
          rw [if_pos hg] at q1
          have := ih (acc' ++ [(p.1, (k : Int))]) (by rw [List.length_append, List.length_singleton] at h ⊢; omega) q1
          have es : (acc'.map pairD ++ [pairD p]).set (acc'.map pairD).length (pairD (p.1, (k : Int))) = (acc' ++ [(p.1, (k : Int))]).map pairD := by
            rw [List.set_append_right _ _ (Nat.le_refl _), Nat.sub_self, List.map_append]
            rfl
          rw [← es] at this
          exact this
        · rw [if_neg (by rw [decide_eq_false hg]; exact Bool.false_ne_true)]
          rw [if_neg hg] at q1
          have := ih (acc' ++ [p, ((k : Int), (k : Int))]) (by simp only [List.length_append, List.length_cons, List.length_nil] at h ⊢; omega) q1
          have es : (acc'.map pairD ++ [pairD p]) ++ [pairD ((k : Int), (k : Int))] = (acc' ++ [p, ((k : Int), (k : Int))]).map pairD := by
            rw [List.map_append, List.append_assoc]
            rfl
          rw [← es] at this
          refine ⟨?_, this⟩
          rw [List.length_map]
          simp only [List.length_append, List.length_cons, List.length_nil] at h
          omega
    · rw [if_neg hh] at q
      simp only [kg_law_parted_1, kb_law_parted_2, kSeq, kAsg, kRet, kIfS, kDrop, kNext, kNever, kOwnS, kApp, kSub, kPar, kAndV_e, kOrV_e, kNotV, kAndT, kOrT, kNotT, kTest_e, isB_bl, kBin, kUn, kChain_e, condV, kCall, kCons, kNil, kTup, kLst, kLstO, kOut, kCompO, kIter, kEnum, kZip, kRng1, DL.kV, kB, kC, kIf, kStar, kSl, kPart, kNoPart, kFn, kFnK, kIsi2, kFor, gN, gTupD, gsCons, gsNil, kYes, dNeg, dAdd, dSub, dMod, dDiv, dMul, dPow, dCmp, dInt, dEq, dNe, dIn, dNotIn, dIx, dIsN, bLen, bInt, bAbs, bTuple, bList, bAny, bAll, bIsi, startD, okW, wipeD, List.map_cons, List.map_nil, List.cons_append, List.nil_append, List.getElem?_cons_zero, List.getElem?_cons_succ, List.set_cons_zero, List.set_cons_succ, List.length_cons, List.length_nil, List.replicate_succ, List.replicate_zero, List.all_cons, List.all_nil, Bool.and_true, Bool.true_and, tyn_int, tyn_bl, tyn_non, tyn_tup, tyn_lst, kit_ii, kit_ib, kit_tt, kit_ll, kit_lt, kit_tl, flat_int, v_int, flat_row, pl_non, pl_bl, pl_int, pl_tup, pl_lst, eqb_int, eqb_nil, eqb_non, D.isN, ne_eq, not_false_eq_true, true_and, and_true, if_true, if_false, Bool.false_eq_true, reduceCtorEq, String.reduceEq, Bool.not_true, Bool.not_false, Bool.or_false, Bool.false_or, Bool.or_true, Bool.true_or, Nat.zero_add, Nat.reduceAdd, Nat.reduceLeDiff, Nat.reduceSub, Nat.reduceEqDiff, rowD, hot_in]
      rw [if_neg hh]
      exact ih acc (by omega) q
theorem m_law_parted : ∀ ds n Q, c_law_parted ds n Q → kb_law_parted ⟨fun _ n' => Q .non n', Q, fun _ _ => False, fun _ _ => False⟩ (startD ["rows", "guard", "found", "at", "row"] ds) n := by
  rintro ds n Q ⟨rs, g, rfl, h, q⟩
  simp only [kb_law_parted, kSeq, kAsg, kRet, kIfS, kDrop, kNext, kNever, kOwnS, kApp, kSub, kPar, kAndV_e, kOrV_e, kNotV, kAndT, kOrT, kNotT, kTest_e, isB_bl, kBin, kUn, kChain_e, condV, kCall, kCons, kNil, kTup, kLst, kLstO, kOut, kCompO, kIter, kEnum, kZip, kRng1, DL.kV, kB, kC, kIf, kStar, kSl, kPart, kNoPart, kFn, kFnK, kIsi2, kFor, gN, gTupD, gsCons, gsNil, kYes, dNeg, dAdd, dSub, dMod, dDiv, dMul, dPow, dCmp, dInt, dEq, dNe, dIn, dNotIn, dIx, dIsN, bLen, bInt, bAbs, bTuple, bList, bAny, bAll, bIsi, startD, okW, wipeD, List.map_cons, List.map_nil, List.cons_append, List.nil_append, List.getElem?_cons_zero, List.getElem?_cons_succ, List.set_cons_zero, List.set_cons_succ, List.length_cons, List.length_nil, List.replicate_succ, List.replicate_zero, List.all_cons, List.all_nil, Bool.and_true, Bool.true_and, tyn_int, tyn_bl, tyn_non, tyn_tup, tyn_lst, kit_ii, kit_ib, kit_tt, kit_ll, kit_lt, kit_tl, flat_int, v_int, flat_row, pl_non, pl_bl, pl_int, pl_tup, pl_lst, eqb_int, eqb_nil, eqb_non, D.isN, ne_eq, not_false_eq_true, true_and, and_true, if_true, if_false, Bool.false_eq_true, reduceCtorEq, String.reduceEq, Bool.not_true, Bool.not_false, Bool.or_false, Bool.false_or, Bool.or_true, Bool.true_or, Nat.zero_add, Nat.reduceAdd, Nat.reduceLeDiff, Nat.reduceSub, Nat.reduceEqDiff]
  refine lp_loop _ n _ g rs 0 [] _ _ (by simpa using h) fun a b => ?_
  simp only [kSeq, kAsg, kRet, kIfS, kDrop, kNext, kNever, kOwnS, kApp, kSub, kPar, kAndV_e, kOrV_e, kNotV, kAndT, kOrT, kNotT, kTest_e, isB_bl, kBin, kUn, kChain_e, condV, kCall, kCons, kNil, kTup, kLst, kLstO, kOut, kCompO, kIter, kEnum, kZip, kRng1, DL.kV, kB, kC, kIf, kStar, kSl, kPart, kNoPart, kFn, kFnK, kIsi2, kFor, gN, gTupD, gsCons, gsNil, kYes, dNeg, dAdd, dSub, dMod, dDiv, dMul, dPow, dCmp, dInt, dEq, dNe, dIn, dNotIn, dIx, dIsN, bLen, bInt, bAbs, bTuple, bList, bAny, bAll, bIsi, startD, okW, wipeD, List.map_cons, List.map_nil, List.cons_append, List.nil_append, List.getElem?_cons_zero, List.getElem?_cons_succ, List.set_cons_zero, List.set_cons_succ, List.length_cons, List.length_nil, List.replicate_succ, List.replicate_zero, List.all_cons, List.all_nil, Bool.and_true, Bool.true_and, tyn_int, tyn_bl, tyn_non, tyn_tup, tyn_lst, kit_ii, kit_ib, kit_tt, kit_ll, kit_lt, kit_tl, flat_int, v_int, flat_row, pl_non, pl_bl, pl_int, pl_tup, pl_lst, eqb_int, eqb_nil, eqb_non, D.isN, ne_eq, not_false_eq_true, true_and, and_true, if_true, if_false, Bool.false_eq_true, reduceCtorEq, String.reduceEq, Bool.not_true, Bool.not_false, Bool.or_false, Bool.false_or, Bool.or_true, Bool.true_or, Nat.zero_add, Nat.reduceAdd, Nat.reduceLeDiff, Nat.reduceSub, Nat.reduceEqDiff]
  exact q
theorem due_step1 (b : Int) (p : Int × Int) (s0 s2 s3 s4 s5 : Sl) (n : Nat) (R : Option D → Nat → Prop) (h : R (if decide (b ≤ p.2 - p.1) = true then some (.int 1) else none) n) :
    (kg_law_due_2 (pairD p) [s0, .val (.int b), s2, s3, s4, s5, .no, .no] fun S2 => wipeD S2 [6, 7] = [s0, .val (.int b), s2, s3, s4, s5, .no, .no] ∧ kt_law_due_1 S2 n fun b S3 n3 => S3 = S2 ∧ if b = true then ke_law_due_3 S2 n3 fun y S4 n4 => S4 = S2 ∧ R (some y) n4 else R none n3) := by
  simp only [kg_law_due_2, kt_law_due_1, ke_law_due_3, pairD, kSeq, kAsg, kRet, kIfS, kDrop, kNext, kNever, kOwnS, kApp, kSub, kPar, kAndV_e, kOrV_e, kNotV, kAndT, kOrT, kNotT, kTest_e, isB_bl, kBin, kUn, kChain_e, condV, kCall, kCons, kNil, kTup, kLst, kLstO, kOut, kCompO, kIter, kEnum, kZip, kRng1, DL.kV, kB, kC, kIf, kStar, kSl, kPart, kNoPart, kFn, kFnK, kIsi2, kFor, gN, gTupD, gsCons, gsNil, kYes, dNeg, dAdd, dSub, dMod, dDiv, dMul, dPow, dCmp, dInt, dEq, dNe, dIn, dNotIn, dIx, dIsN, bLen, bInt, bAbs, bTuple, bList, bAny, bAll, bIsi, startD, okW, wipeD, List.map_cons, List.map_nil, List.cons_append, List.nil_append, List.getElem?_cons_zero, List.getElem?_cons_succ, List.set_cons_zero, List.set_cons_succ, List.length_cons, List.length_nil, List.replicate_succ, List.replicate_zero, List.all_cons, List.all_nil, Bool.and_true, Bool.true_and, tyn_int, tyn_bl, tyn_non, tyn_tup, tyn_lst, kit_ii, kit_ib, kit_tt, kit_ll, kit_lt, kit_tl, flat_int, v_int, flat_row, pl_non, pl_bl, pl_int, pl_tup, pl_lst, eqb_int, eqb_nil, eqb_non, D.isN, ne_eq, not_false_eq_true, true_and, and_true, if_true, if_false, Bool.false_eq_true, reduceCtorEq, String.reduceEq, Bool.not_true, Bool.not_false, Bool.or_false, Bool.false_or, Bool.or_true, Bool.true_or, Nat.zero_add, Nat.reduceAdd, Nat.reduceLeDiff, Nat.reduceSub, Nat.reduceEqDiff]
  split
  · rename_i z; rw [if_pos z] at h; exact h
  · rename_i z; rw [if_neg z] at h; exact h
theorem due_step2 (m : Int) (p : Int × Int) (s0 s2 s1 s4 s5 : Sl) (n : Nat) (R : Option D → Nat → Prop) (h : R (if (decide (m ≤ p.1) && decide (p.1 < 2 * m)) = true then some (pairD (p.1 - m, p.2 - p.1 + 1)) else none) n) :
    (kg_law_due_5 (pairD p) [s0, s1, s2, .val (.int m), s4, s5, .no, .no] fun S2 => wipeD S2 [6, 7] = [s0, s1, s2, .val (.int m), s4, s5, .no, .no] ∧ kt_law_due_4 S2 n fun b S3 n3 => S3 = S2 ∧ if b = true then ke_law_due_6 S2 n3 fun y S4 n4 => S4 = S2 ∧ R (some y) n4 else R none n3) := by
  simp only [kg_law_due_5, kt_law_due_4, ke_law_due_6, pairD, kSeq, kAsg, kRet, kIfS, kDrop, kNext, kNever, kOwnS, kApp, kSub, kPar, kAndV_e, kOrV_e, kNotV, kAndT, kOrT, kNotT, kTest_e, isB_bl, kBin, kUn, kChain_e, condV, kCall, kCons, kNil, kTup, kLst, kLstO, kOut, kCompO, kIter, kEnum, kZip, kRng1, DL.kV, kB, kC, kIf, kStar, kSl, kPart, kNoPart, kFn, kFnK, kIsi2, kFor, gN, gTupD, gsCons, gsNil, kYes, dNeg, dAdd, dSub, dMod, dDiv, dMul, dPow, dCmp, dInt, dEq, dNe, dIn, dNotIn, dIx, dIsN, bLen, bInt, bAbs, bTuple, bList, bAny, bAll, bIsi, startD, okW, wipeD, List.map_cons, List.map_nil, List.cons_append, List.nil_append, List.getElem?_cons_zero, List.getElem?_cons_succ, List.set_cons_zero, List.set_cons_succ, List.length_cons, List.length_nil, List.replicate_succ, List.replicate_zero, List.all_cons, List.all_nil, Bool.and_true, Bool.true_and, tyn_int, tyn_bl, tyn_non, tyn_tup, tyn_lst, kit_ii, kit_ib, kit_tt, kit_ll, kit_lt, kit_tl, flat_int, v_int, flat_row, pl_non, pl_bl, pl_int, pl_tup, pl_lst, eqb_int, eqb_nil, eqb_non, D.isN, ne_eq, not_false_eq_true, true_and, and_true, if_true, if_false, Bool.false_eq_true, reduceCtorEq, String.reduceEq, Bool.not_true, Bool.not_false, Bool.or_false, Bool.false_or, Bool.or_true, Bool.true_or, Nat.zero_add, Nat.reduceAdd, Nat.reduceLeDiff, Nat.reduceSub, Nat.reduceEqDiff]
  by_cases z : m ≤ p.1
  · rw [if_pos (decide_eq_true z)]
    rw [decide_eq_true z, Bool.true_and] at h
    refine ⟨cmul_l (by decide), ?_⟩
    split
    · rename_i y; rw [if_pos y] at h; exact h
    · rename_i y; rw [if_neg y] at h; exact h
  · rw [if_neg (by rw [decide_eq_false z]; exact Bool.false_ne_true)]
    rw [decide_eq_false z, Bool.false_and, if_neg Bool.false_ne_true] at h
    exact h
def f1D (b : Int) : D → Option D := fun d => match d with
  | .tup [.int x, .int y] => if decide (b ≤ y - x) = true then some (.int 1) else none
  | _ => none
def f2D (m : Int) : D → Option D := fun d => match d with
  | .tup [.int x, .int y] => if (decide (m ≤ x) && decide (x < 2 * m)) = true then some (pairD (x - m, y - x + 1)) else none
  | _ => none
theorem f1_all (b : Int) : ∀ ps : List (Int × Int), ((ps.map pairD).filterMap (f1D b)).isEmpty = !(ps.any fun p => decide (b ≤ p.2 - p.1))
  | [] => rfl
  | p :: ps => by
    have ih := f1_all b ps
    have f : f1D b (pairD p) = if decide (b ≤ p.2 - p.1) = true then some (.int 1) else none := rfl
    rw [List.map_cons, List.any_cons]
    by_cases z : decide (b ≤ p.2 - p.1) = true
    · rw [List.filterMap_cons_some (by rw [f, if_pos z]), z]; rfl
    · rw [List.filterMap_cons_none (by rw [f, if_neg z]), ih, Bool.eq_false_iff.mpr z]; rfl
theorem f1_int (b : Int) : ∀ (ps : List (Int × Int)), ∀ d ∈ (ps.map pairD).filterMap (f1D b), D.pl 7 d := by
  intro ps d hd
  obtain ⟨e, he, h⟩ := List.mem_filterMap.mp hd
  obtain ⟨p, _, rfl⟩ := List.mem_map.mp he
  have f : f1D b (pairD p) = if decide (b ≤ p.2 - p.1) = true then some (.int 1) else none := rfl
  rw [f] at h
  split at h
  · cases h; rw [pl_int]; trivial
  · cases h
theorem f2_all (m : Int) : ∀ ps : List (Int × Int), (ps.map pairD).filterMap (f2D m) = ((ps.filter fun p => decide (m ≤ p.1) && decide (p.1 < 2 * m)).map fun p => (p.1 - m, p.2 - p.1 + 1)).map pairD
  | [] => rfl
  | p :: ps => by
    have ih := f2_all m ps
    have f : f2D m (pairD p) = if (decide (m ≤ p.1) && decide (p.1 < 2 * m)) = true then some (pairD (p.1 - m, p.2 - p.1 + 1)) else none := rfl
    rw [List.map_cons]
    by_cases z : (decide (m ≤ p.1) && decide (p.1 < 2 * m)) = true
    · rw [List.filterMap_cons_some (by rw [f, if_pos z]), ih, List.filter_cons_of_pos (p := fun p : Int × Int => decide (m ≤ p.1) && decide (p.1 < 2 * m)) z]; rfl
    · rw [List.filterMap_cons_none (by rw [f, if_neg z]), ih, List.filter_cons_of_neg (p := fun p : Int × Int => decide (m ≤ p.1) && decide (p.1 < 2 * m)) z]
theorem m_law_due : ∀ ds n Q, c_law_due ds n Q → kb_law_due ⟨fun _ n' => Q .non n', Q, fun _ _ => False, fun _ _ => False⟩ (startD ["rows", "burst", "guard", "many", "often", "found", "first", "last"] ds) n := by
  rintro ds n Q ⟨rs, b, g, rfl, h1, h2, h3, q⟩
  simp only [kb_law_due, kSeq, kAsg, kRet, kIfS, kDrop, kNext, kNever, kOwnS, kApp, kSub, kPar, kAndV_e, kOrV_e, kNotV, kAndT, kOrT, kNotT, kTest_e, isB_bl, kBin, kUn, kChain_e, condV, kCall, kCons, kNil, kTup, kLst, kLstO, kOut, kCompO, kIter, kEnum, kZip, kRng1, DL.kV, kB, kC, kIf, kStar, kSl, kPart, kNoPart, kFn, kFnK, kIsi2, kFor, gN, gTupD, gsCons, gsNil, kYes, dNeg, dAdd, dSub, dMod, dDiv, dMul, dPow, dCmp, dInt, dEq, dNe, dIn, dNotIn, dIx, dIsN, bLen, bInt, bAbs, bTuple, bList, bAny, bAll, bIsi, startD, okW, wipeD, List.map_cons, List.map_nil, List.cons_append, List.nil_append, List.getElem?_cons_zero, List.getElem?_cons_succ, List.set_cons_zero, List.set_cons_succ, List.length_cons, List.length_nil, List.replicate_succ, List.replicate_zero, List.all_cons, List.all_nil, Bool.and_true, Bool.true_and, tyn_int, tyn_bl, tyn_non, tyn_tup, tyn_lst, kit_ii, kit_ib, kit_tt, kit_ll, kit_lt, kit_tl, flat_int, v_int, flat_row, pl_non, pl_bl, pl_int, pl_tup, pl_lst, eqb_int, eqb_nil, eqb_non, D.isN, ne_eq, not_false_eq_true, true_and, and_true, if_true, if_false, Bool.false_eq_true, reduceCtorEq, String.reduceEq, Bool.not_true, Bool.not_false, Bool.or_false, Bool.false_or, Bool.or_true, Bool.true_or, Nat.zero_add, Nat.reduceAdd, Nat.reduceLeDiff, Nat.reduceSub, Nat.reduceEqDiff, c_law_parted]
  rw [List.length_map]
  have hl : 0 < rs.length := List.length_pos_iff.mpr h1
  have d0 : 0 ≤ (b + g) / (rs.length : Int) := Int.ediv_nonneg (by omega) (by omega)
  have d1 : (b + g) / (rs.length : Int) ≤ b + g := Int.ediv_le_self _ (by omega)
  have o1 : 4 ≤ 4 + (b + g) / (rs.length : Int) := by omega
  have o2 : 4 + (b + g) / (rs.length : Int) ≤ 36 := by omega
  have ot : (4 + (b + g) / (rs.length : Int)).toNat ≤ 36 := by omega
  have len : rs.length * (4 + (b + g) / (rs.length : Int)).toNat ≤ 12 * 36 := Nat.mul_le_mul h2 ot
  have hlen : ∀ (k : Nat), (List.replicate k rs).flatten.length = rs.length * k := fun k => by
    rw [List.length_flatten, List.map_replicate, List.sum_replicate_nat, Nat.mul_comm]
  unfold due oftenC at q
  simp only [List.length_map] at q
  generalize (4 + (b + g) / (rs.length : Int)) = o at *
  have ew : posn 0 (List.replicate o.toNat (rs.map hot)).flatten = wrongs (List.replicate o.toNat rs).flatten := by
    unfold wrongs
    rw [List.map_flatten, List.map_replicate]
  rw [ew] at q
  refine ⟨⟨by omega, by omega⟩, by omega, by omega, by omega, (List.replicate o.toNat rs).flatten, g, ?_, by rw [hlen]; omega, ?_⟩
  · rw [List.map_flatten, List.map_replicate]
  have pb := parted_len g (wrongs (List.replicate o.toNat rs).flatten) []
  have pw := posn_len ((List.replicate o.toNat rs).flatten.map hot) 0
  rw [List.length_map, hlen] at pw
  have pb2 : (parted g [] (wrongs (List.replicate o.toNat rs).flatten)).length ≤ 432 := by
    refine Nat.le_trans pb ?_
    rw [List.length_nil, Nat.zero_add]
    exact Nat.le_trans pw len
  generalize parted g [] (wrongs (List.replicate o.toNat rs).flatten) = ps at *
  rw [List.length_map]
  refine ⟨by omega, ?_⟩
  refine comps_fm (f1D b) _ _ (fun d hd R hR => ?_) ?_
  · obtain ⟨p, _, rfl⟩ := List.mem_map.mp hd
    exact due_step1 b p _ _ _ _ _ n R hR
  · rw [List.nil_append]
    refine ⟨f1_int b ps, (fun d hd => by cases hd), ?_⟩
    rw [f1_all, Bool.not_not]
    split
    · rename_i z
      rw [if_pos z] at q
      exact q
    · rename_i z
      rw [if_neg z] at q
      refine ⟨by omega, ?_⟩
      refine comps_fm (f2D rs.length) _ _ (fun d hd R hR => ?_) ?_
      · obtain ⟨p, _, rfl⟩ := List.mem_map.mp hd
        exact due_step2 rs.length p _ _ _ _ _ n R hR
      · rw [List.nil_append, f2_all]
        exact q
end L79
namespace L79
open PySem PySem.Spec PyProof.Rows L2 DL
def gapD (m : Int) : D → Option D := fun d => match d with
  | .tup [.int x, .int y] => some (.int ((y - x - 1) % m + 1))
  | _ => none
theorem zip_gaps (m : Int) : ∀ (W : List Int) (p : Int), (zipD (.int p :: W.map D.int) (W.map D.int)).filterMap (gapD m) = (gapsC m p W).map D.int
  | [], p => rfl
  | x :: W, p => by
    have ih := zip_gaps m W x
    show ((D.tup [.int p, .int x]) :: zipD (.int x :: W.map D.int) (W.map D.int)).filterMap (gapD m) = _
    rw [List.filterMap_cons_some (show gapD m (.tup [.int p, .int x]) = some (.int ((x - p - 1) % m + 1)) from rfl), ih]
    rfl
theorem cut_last (W : List D) : DL.cutD W (some (-1)) none = W.drop (W.length - 1) := by
  show (W.drop (-1 + (W.length : Int)).toNat).take (W.length - (-1 + (W.length : Int)).toNat) = _
  have e : (-1 + (W.length : Int)).toNat = W.length - 1 := by omega
  rw [e]
  exact List.take_of_length_le (by rw [List.length_drop]; omega)
theorem cut_from1 (W : List D) : DL.cutD W (some 1) none = W.drop 1 := by
  show (W.drop (min 1 W.length)).take (W.length - min 1 W.length) = _
  cases W with
  | nil => rfl
  | cons x W =>
    have e2 : min 1 (x :: W).length = 1 := by rw [List.length_cons]; omega
    rw [e2]
    exact List.take_of_length_le (by rw [List.length_drop]; omega)
theorem cut_to1 (W : List D) : DL.cutD W none (some 1) = W.take 1 := by
  show (W.drop 0).take (min 1 W.length - 0) = _
  rw [List.drop_zero, Nat.sub_zero]
  cases W with
  | nil => rfl
  | cons x W =>
    have e2 : min 1 (x :: W).length = 1 := by rw [List.length_cons]; omega
    rw [e2]
theorem gaps_all (m : Int) (W : List Int) : (zipD (DL.cutD (W.map D.int) (some (-1)) none ++ W.map D.int) (W.map D.int)).filterMap (gapD m) = (gapsC m (W.getLast?.getD 0) W).map D.int := by
  rcases List.eq_nil_or_concat W with rfl | ⟨W', x, rfl⟩
  · rfl
  · rw [List.concat_eq_append, cut_last, List.length_map, List.length_append, List.length_singleton]
    have e : ((W' ++ [x]).map D.int).drop (W'.length + 1 - 1) = [D.int x] := by
      rw [Nat.add_sub_cancel, List.map_append, List.drop_append_of_le_length (by rw [List.length_map]; exact Nat.le_refl _), List.drop_of_length_le (by rw [List.length_map]; exact Nat.le_refl _)]
      rfl
    rw [e, List.getLast?_concat]
    exact zip_gaps m (W' ++ [x]) x
def bigD (g : Int) : D → Option D := fun d => match d with
  | .tup [k, .int x] => if decide (g < x) = true then some k else none
  | _ => none
theorem bigs_all (g : Int) : ∀ (G : List Int) (k : Nat), (enumD k (G.map D.int)).filterMap (bigD g) = (bigs g k G).map fun j : Nat => D.int j
  | [], k => rfl
  | x :: G, k => by
    have ih := bigs_all g G (k + 1)
    rw [List.map_cons, enum_cons]
    have f : bigD g (.tup [.int k, .int x]) = if decide (g < x) = true then some (.int k) else none := rfl
    unfold bigs
    by_cases z : g < x
    · rw [List.filterMap_cons_some (by rw [f, if_pos (decide_eq_true z)]), ih, if_pos z]; rfl
    · rw [List.filterMap_cons_none (by rw [f, if_neg (by rw [decide_eq_false z]; exact Bool.false_ne_true)]), ih, if_neg z]
theorem bigs_ge (g : Int) : ∀ (G : List Int) (k : Nat), (∀ j ∈ bigs g k G, k ≤ j ∧ j < k + G.length) ∧ ∀ j ∈ (bigs g k G).drop 1, k + 1 ≤ j
  | [], k => ⟨(fun j h => by cases h), (fun j h => by cases h)⟩
  | x :: G, k => by
    obtain ⟨h1, h2⟩ := bigs_ge g G (k + 1)
    rw [List.length_cons]
    unfold bigs
    split
    · refine ⟨fun j h => ?_, fun j h => ?_⟩
      · rcases List.mem_cons.mp h with rfl | h
        · omega
        · have := h1 j h; omega
      · rw [List.drop_one, List.tail_cons] at h
        exact (h1 j h).1
    · refine ⟨fun j h => ?_, fun j h => ?_⟩
      · have := h1 j h; omega
      · have := h2 j h; omega
theorem gaps_len (m : Int) : ∀ (W : List Int) (p : Int), (gapsC m p W).length = W.length
  | [], p => rfl
  | x :: W, p => by
    unfold gapsC
    rw [List.length_cons, gaps_len m W x, List.length_cons]
theorem step_gap (m : Int) (x y : Int) (hm : 0 < m) (s0 s1 s2 s3 s5 s6 s7 s8 s9 s10 s11 s14 s15 s16 : Sl) (n : Nat) (R : Option D → Nat → Prop) (h : R (some (.int ((y - x - 1) % m + 1))) n) :
    kg_bursts_around_1 (.tup [.int x, .int y]) [s0, s1, s2, s3, .val (.int m), s5, s6, s7, s8, s9, s10, s11, .no, .no, s14, s15, s16] fun S2 => wipeD S2 [12, 13] = [s0, s1, s2, s3, .val (.int m), s5, s6, s7, s8, s9, s10, s11, .no, .no, s14, s15, s16] ∧
      kYes S2 n fun b S3 n3 => S3 = S2 ∧ if b = true then ke_bursts_around_2 S2 n3 fun y S4 n4 => S4 = S2 ∧ R (some y) n4 else R none n3 := by
  simp only [kg_bursts_around_1, ke_bursts_around_2, kSeq, kAsg, kRet, kIfS, kDrop, kNext, kNever, kOwnS, kApp, kSub, kPar, kAndV_e, kOrV_e, kNotV, kAndT, kOrT, kNotT, kTest_e, isB_bl, kBin, kUn, kChain_e, condV, kCall, kCons, kNil, kTup, kLst, kLstO, kOut, kCompO, kIter, kEnum, kZip, kRng1, DL.kV, kB, kC, kIf, kStar, kSl, kPart, kNoPart, kFn, kFnK, kIsi2, kFor, gN, gTupD, gsCons, gsNil, kYes, dNeg, dAdd, dSub, dMod, dDiv, dMul, dPow, dCmp, dInt, dEq, dNe, dIn, dNotIn, dIx, dIsN, bLen, bInt, bAbs, bTuple, bList, bAny, bAll, bIsi, startD, okW, wipeD, List.map_cons, List.map_nil, List.cons_append, List.nil_append, List.getElem?_cons_zero, List.getElem?_cons_succ, List.set_cons_zero, List.set_cons_succ, List.length_cons, List.length_nil, List.replicate_succ, List.replicate_zero, List.all_cons, List.all_nil, Bool.and_true, Bool.true_and, tyn_int, tyn_bl, tyn_non, tyn_tup, tyn_lst, kit_ii, kit_ib, kit_tt, kit_ll, kit_lt, kit_tl, flat_int, v_int, flat_row, pl_non, pl_bl, pl_int, pl_tup, pl_lst, eqb_int, eqb_nil, eqb_non, D.isN, ne_eq, not_false_eq_true, true_and, and_true, if_true, if_false, Bool.false_eq_true, reduceCtorEq, String.reduceEq, Bool.not_true, Bool.not_false, Bool.or_false, Bool.false_or, Bool.or_true, Bool.true_or, Nat.zero_add, Nat.reduceAdd, Nat.reduceLeDiff, Nat.reduceSub, Nat.reduceEqDiff]
  exact ⟨hm, h⟩
theorem step_big (g : Int) (k x : Int) (s0 s1 s3 s4 s5 s6 s7 s9 s10 s11 s12 s13 s15 s16 : Sl) (n : Nat) (R : Option D → Nat → Prop) (h : R (if decide (g < x) = true then some (.int k) else none) n) :
    kg_bursts_around_4 (.tup [.int k, .int x]) [s0, s1, .val (.int g), s3, s4, s5, s6, s7, .no, s9, s10, s11, s12, s13, .no, s15, s16] fun S2 => wipeD S2 [8, 14] = [s0, s1, .val (.int g), s3, s4, s5, s6, s7, .no, s9, s10, s11, s12, s13, .no, s15, s16] ∧
      kt_bursts_around_3 S2 n fun b S3 n3 => S3 = S2 ∧ if b = true then ke_bursts_around_5 S2 n3 fun y S4 n4 => S4 = S2 ∧ R (some y) n4 else R none n3 := by
  simp only [kg_bursts_around_4, kt_bursts_around_3, ke_bursts_around_5, kSeq, kAsg, kRet, kIfS, kDrop, kNext, kNever, kOwnS, kApp, kSub, kPar, kAndV_e, kOrV_e, kNotV, kAndT, kOrT, kNotT, kTest_e, isB_bl, kBin, kUn, kChain_e, condV, kCall, kCons, kNil, kTup, kLst, kLstO, kOut, kCompO, kIter, kEnum, kZip, kRng1, DL.kV, kB, kC, kIf, kStar, kSl, kPart, kNoPart, kFn, kFnK, kIsi2, kFor, gN, gTupD, gsCons, gsNil, kYes, dNeg, dAdd, dSub, dMod, dDiv, dMul, dPow, dCmp, dInt, dEq, dNe, dIn, dNotIn, dIx, dIsN, bLen, bInt, bAbs, bTuple, bList, bAny, bAll, bIsi, startD, okW, wipeD, List.map_cons, List.map_nil, List.cons_append, List.nil_append, List.getElem?_cons_zero, List.getElem?_cons_succ, List.set_cons_zero, List.set_cons_succ, List.length_cons, List.length_nil, List.replicate_succ, List.replicate_zero, List.all_cons, List.all_nil, Bool.and_true, Bool.true_and, tyn_int, tyn_bl, tyn_non, tyn_tup, tyn_lst, kit_ii, kit_ib, kit_tt, kit_ll, kit_lt, kit_tl, flat_int, v_int, flat_row, pl_non, pl_bl, pl_int, pl_tup, pl_lst, eqb_int, eqb_nil, eqb_non, D.isN, ne_eq, not_false_eq_true, true_and, and_true, if_true, if_false, Bool.false_eq_true, reduceCtorEq, String.reduceEq, Bool.not_true, Bool.not_false, Bool.or_false, Bool.false_or, Bool.or_true, Bool.true_or, Nat.zero_add, Nat.reduceAdd, Nat.reduceLeDiff, Nat.reduceSub, Nat.reduceEqDiff]
  split
  · rename_i z; rw [if_pos z] at h; exact h
  · rename_i z; rw [if_neg z] at h; exact h
theorem step_off (W : List D) (x : Int) (s0 s1 s2 s4 s5 s6 s7 s8 s9 s10 s11 s12 s13 s14 s16 : Sl) (n : Nat) (R : Option D → Nat → Prop) (h : R (some (.int (W.length + x))) n) :
    kg_bursts_around_6 (.int x) [s0, s1, s2, .val (.lst W), s4, s5, s6, s7, s8, s9, s10, s11, s12, s13, s14, .no, s16] fun S2 => wipeD S2 [15] = [s0, s1, s2, .val (.lst W), s4, s5, s6, s7, s8, s9, s10, s11, s12, s13, s14, .no, s16] ∧
      kYes S2 n fun b S3 n3 => S3 = S2 ∧ if b = true then ke_bursts_around_7 S2 n3 fun y S4 n4 => S4 = S2 ∧ R (some y) n4 else R none n3 := by
  simp only [kg_bursts_around_6, ke_bursts_around_7, kSeq, kAsg, kRet, kIfS, kDrop, kNext, kNever, kOwnS, kApp, kSub, kPar, kAndV_e, kOrV_e, kNotV, kAndT, kOrT, kNotT, kTest_e, isB_bl, kBin, kUn, kChain_e, condV, kCall, kCons, kNil, kTup, kLst, kLstO, kOut, kCompO, kIter, kEnum, kZip, kRng1, DL.kV, kB, kC, kIf, kStar, kSl, kPart, kNoPart, kFn, kFnK, kIsi2, kFor, gN, gTupD, gsCons, gsNil, kYes, dNeg, dAdd, dSub, dMod, dDiv, dMul, dPow, dCmp, dInt, dEq, dNe, dIn, dNotIn, dIx, dIsN, bLen, bInt, bAbs, bTuple, bList, bAny, bAll, bIsi, startD, okW, wipeD, List.map_cons, List.map_nil, List.cons_append, List.nil_append, List.getElem?_cons_zero, List.getElem?_cons_succ, List.set_cons_zero, List.set_cons_succ, List.length_cons, List.length_nil, List.replicate_succ, List.replicate_zero, List.all_cons, List.all_nil, Bool.and_true, Bool.true_and, tyn_int, tyn_bl, tyn_non, tyn_tup, tyn_lst, kit_ii, kit_ib, kit_tt, kit_ll, kit_lt, kit_tl, flat_int, v_int, flat_row, pl_non, pl_bl, pl_int, pl_tup, pl_lst, eqb_int, eqb_nil, eqb_non, D.isN, ne_eq, not_false_eq_true, true_and, and_true, if_true, if_false, Bool.false_eq_true, reduceCtorEq, String.reduceEq, Bool.not_true, Bool.not_false, Bool.or_false, Bool.false_or, Bool.or_true, Bool.true_or, Nat.zero_add, Nat.reduceAdd, Nat.reduceLeDiff, Nat.reduceSub, Nat.reduceEqDiff]
  exact h
theorem step_long (b : Int) (p : Int × Int) (s0 s2 s3 s4 s5 s6 s7 s8 s9 s11 s12 s13 s14 s15 : Sl) (n : Nat) (R : Option D → Nat → Prop) (h : R (some (.bl (decide (b < p.2)))) n) :
    kg_bursts_around_10 (pairD p) [s0, .val (.int b), s2, s3, s4, s5, s6, s7, s8, s9, .no, s11, s12, s13, s14, s15, .no] fun S2 => wipeD S2 [10, 16] = [s0, .val (.int b), s2, s3, s4, s5, s6, s7, s8, s9, .no, s11, s12, s13, s14, s15, .no] ∧
      kYes S2 n fun b S3 n3 => S3 = S2 ∧ if b = true then ke_bursts_around_11 S2 n3 fun y S4 n4 => S4 = S2 ∧ R (some y) n4 else R none n3 := by
  simp only [kg_bursts_around_10, ke_bursts_around_11, pairD, kSeq, kAsg, kRet, kIfS, kDrop, kNext, kNever, kOwnS, kApp, kSub, kPar, kAndV_e, kOrV_e, kNotV, kAndT, kOrT, kNotT, kTest_e, isB_bl, kBin, kUn, kChain_e, condV, kCall, kCons, kNil, kTup, kLst, kLstO, kOut, kCompO, kIter, kEnum, kZip, kRng1, DL.kV, kB, kC, kIf, kStar, kSl, kPart, kNoPart, kFn, kFnK, kIsi2, kFor, gN, gTupD, gsCons, gsNil, kYes, dNeg, dAdd, dSub, dMod, dDiv, dMul, dPow, dCmp, dInt, dEq, dNe, dIn, dNotIn, dIx, dIsN, bLen, bInt, bAbs, bTuple, bList, bAny, bAll, bIsi, startD, okW, wipeD, List.map_cons, List.map_nil, List.cons_append, List.nil_append, List.getElem?_cons_zero, List.getElem?_cons_succ, List.set_cons_zero, List.set_cons_succ, List.length_cons, List.length_nil, List.replicate_succ, List.replicate_zero, List.all_cons, List.all_nil, Bool.and_true, Bool.true_and, tyn_int, tyn_bl, tyn_non, tyn_tup, tyn_lst, kit_ii, kit_ib, kit_tt, kit_ll, kit_lt, kit_tl, flat_int, v_int, flat_row, pl_non, pl_bl, pl_int, pl_tup, pl_lst, eqb_int, eqb_nil, eqb_non, D.isN, ne_eq, not_false_eq_true, true_and, and_true, if_true, if_false, Bool.false_eq_true, reduceCtorEq, String.reduceEq, Bool.not_true, Bool.not_false, Bool.or_false, Bool.false_or, Bool.or_true, Bool.true_or, Nat.zero_add, Nat.reduceAdd, Nat.reduceLeDiff, Nat.reduceSub, Nat.reduceEqDiff]
  exact h
def fndP (m : Int) (W : List Int) (p : Nat × Nat) : Int × Int := (W.getD p.1 0, (W.getD ((p.2 - 1) % W.length) 0 - W.getD p.1 0) % m + 1)
theorem at_getD (W : List Int) (j : Nat) (h : j < W.length) : atI (W.map D.int) (j : Int) = some (.int (W.getD j 0)) := by
  unfold atI ixN
  rw [List.length_map, if_pos (by omega), if_pos (by omega)]
  show (W.map D.int)[(j : Int).toNat]? = _
  rw [Int.toNat_natCast, List.getElem?_map, List.getD_eq_getElem?_getD, List.getElem?_eq_getElem h]
  rfl
def pairN (p : Nat × Nat) : D := .tup [.int p.1, .int p.2]
theorem fb_loop (E : DEnds) (n : Nat) (W : List Int) (m : Int) (hm : 0 < m) (s0 s1 s2 s5 s6 : Sl) : ∀ (ps : List (Nat × Nat)) (acc : List (Int × Int)) (s8 s9 s10 s11 : Sl), (∀ ds, s10 ≠ .own ds) → (∀ p ∈ ps, p.1 < W.length ∧ 1 ≤ p.2) → acc.length + ps.length ≤ 2000 →
    (∀ s8 s9 s10 s11, (∀ ds, s10 ≠ .own ds) → E.nx [s0, s1, s2, .val (.lst (W.map D.int)), .val (.int m), s5, s6, .own ((acc ++ ps.map (fndP m W)).map pairD), s8, s9, s10, s11, .no, .no, .no, .no, .no] n) →
    kFors kg_bursts_around_8 kb_bursts_around_9 E (ps.map pairN) [s0, s1, s2, .val (.lst (W.map D.int)), .val (.int m), s5, s6, .own (acc.map pairD), s8, s9, s10, s11, .no, .no, .no, .no, .no] n
  | [], acc, s8, s9, s10, s11, ok, h, l, q => by
    rw [List.map_nil, List.append_nil] at q
    exact q s8 s9 s10 s11 ok
  | p :: ps, acc, s8, s9, s10, s11, ok, h, l, q => by
    obtain ⟨h1, h2⟩ := h p (List.mem_cons_self ..)
    rw [List.length_cons] at l
    have ih := fun s8 s9 s10 s11 ok => fb_loop E n W m hm s0 s1 s2 s5 s6 ps (acc ++ [fndP m W p]) s8 s9 s10 s11 ok (fun p' hp => h p' (List.mem_cons_of_mem _ hp)) (by rw [List.length_append, List.length_singleton]; omega) (by
      rw [List.append_assoc]; exact q)
    rw [List.map_cons, fors_cons]
    generalize kFors kg_bursts_around_8 kb_bursts_around_9 E (ps.map pairN) = X at ih ⊢
    have e1 := at_getD W p.1 h1
    have hl : 0 < W.length := by omega
    have em : ((p.2 : Int) - 1) % ((W.map D.int).length : Int) = (((p.2 - 1) % W.length : Nat) : Int) := by
      rw [List.length_map, Int.natCast_emod]
      congr 1
      omega
    have e2 := at_getD W ((p.2 - 1) % W.length) (Nat.mod_lt _ hl)
    simp only [kg_bursts_around_8, kb_bursts_around_9, pairN, e1, em, e2, kSeq, kAsg, kRet, kIfS, kDrop, kNext, kNever, kOwnS, kApp, kSub, kPar, kAndV_e, kOrV_e, kNotV, kAndT, kOrT, kNotT, kTest_e, isB_bl, kBin, kUn, kChain_e, condV, kCall, kCons, kNil, kTup, kLst, kLstO, kOut, kCompO, kIter, kEnum, kZip, kRng1, DL.kV, kB, kC, kIf, kStar, kSl, kPart, kNoPart, kFn, kFnK, kIsi2, kFor, gN, gTupD, gsCons, gsNil, kYes, dNeg, dAdd, dSub, dMod, dDiv, dMul, dPow, dCmp, dInt, dEq, dNe, dIn, dNotIn, dIx, dIsN, bLen, bInt, bAbs, bTuple, bList, bAny, bAll, bIsi, startD, okW, wipeD, List.map_cons, List.map_nil, List.cons_append, List.nil_append, List.getElem?_cons_zero, List.getElem?_cons_succ, List.set_cons_zero, List.set_cons_succ, List.length_cons, List.length_nil, List.replicate_succ, List.replicate_zero, List.all_cons, List.all_nil, Bool.and_true, Bool.true_and, tyn_int, tyn_bl, tyn_non, tyn_tup, tyn_lst, kit_ii, kit_ib, kit_tt, kit_ll, kit_lt, kit_tl, flat_int, v_int, flat_row, pl_non, pl_bl, pl_int, pl_tup, pl_lst, eqb_int, eqb_nil, eqb_non, D.isN, ne_eq, not_false_eq_true, true_and, and_true, if_true, if_false, Bool.false_eq_true, reduceCtorEq, String.reduceEq, Bool.not_true, Bool.not_false, Bool.or_false, Bool.false_or, Bool.or_true, Bool.true_or, Nat.zero_add, Nat.reduceAdd, Nat.reduceLeDiff, Nat.reduceSub, Nat.reduceEqDiff]
    refine ⟨by rw [List.length_map]; omega, hm, by rw [List.length_map]; omega, ?_⟩
    have := ih (.val (.int p.1)) (.val (.int p.2)) (.val (.int (W.getD p.1 0))) (.val (.int (W.getD ((p.2 - 1) % W.length) 0))) (fun _ z => by cases z)
    rw [List.map_append] at this
    exact this
def longD (b : Int) : D → Option D := fun d => match d with
  | .tup [_, .int y] => some (.bl (decide (b < y)))
  | _ => none
theorem long_all (b : Int) : ∀ ps : List (Int × Int), (ps.map pairD).filterMap (longD b) = ps.map fun p => .bl (decide (b < p.2))
  | [] => rfl
  | p :: ps => by
    rw [List.map_cons, List.filterMap_cons_some (show longD b (pairD p) = some (.bl (decide (b < p.2))) from rfl), long_all b ps]
    rfl
theorem bls_all (f : Int × Int → Bool) : ∀ ps : List (Int × Int), D.bls (ps.map fun p => .bl (f p)) = some (ps.map f)
  | [] => rfl
  | p :: ps => by
    rw [List.map_cons]
    unfold D.bls
    rw [bls_all f ps]
    rfl
theorem ba12 (E : DEnds) (n : Nat) (b : Int) (ps : List (Int × Int)) (s0 s2 s3 s4 s5 s6 s8 s9 s10 s11 : Sl) (hl : ps.length ≤ 1000) (okS : ∀ ds, s10 ≠ .own ds)
    (q : E.rt (resD (if ps.any (fun p => decide (b < p.2)) then none else some ps)) n) : kr_bursts_around_12 E [s0, .val (.int b), s2, s3, s4, s5, s6, .own (ps.map pairD), s8, s9, s10, s11, .no, .no, .no, .no, .no] n := by
  simp only [kr_bursts_around_12, kSeq, kAsg, kRet, kIfS, kDrop, kNext, kNever, kOwnS, kApp, kSub, kPar, kAndV_e, kOrV_e, kNotV, kAndT, kOrT, kNotT, kTest_e, isB_bl, kBin, kUn, kChain_e, condV, kCall, kCons, kNil, kTup, kLst, kLstO, kOut, kCompO, kIter, kEnum, kZip, kRng1, DL.kV, kB, kC, kIf, kStar, kSl, kPart, kNoPart, kFn, kFnK, kIsi2, kFor, gN, gTupD, gsCons, gsNil, kYes, dNeg, dAdd, dSub, dMod, dDiv, dMul, dPow, dCmp, dInt, dEq, dNe, dIn, dNotIn, dIx, dIsN, bLen, bInt, bAbs, bTuple, bList, bAny, bAll, bIsi, startD, okW, wipeD, List.map_cons, List.map_nil, List.cons_append, List.nil_append, List.getElem?_cons_zero, List.getElem?_cons_succ, List.set_cons_zero, List.set_cons_succ, List.length_cons, List.length_nil, List.replicate_succ, List.replicate_zero, List.all_cons, List.all_nil, Bool.and_true, Bool.true_and, tyn_int, tyn_bl, tyn_non, tyn_tup, tyn_lst, kit_ii, kit_ib, kit_tt, kit_ll, kit_lt, kit_tl, flat_int, v_int, flat_row, pl_non, pl_bl, pl_int, pl_tup, pl_lst, eqb_int, eqb_nil, eqb_non, D.isN, ne_eq, not_false_eq_true, true_and, and_true, if_true, if_false, Bool.false_eq_true, reduceCtorEq, String.reduceEq, Bool.not_true, Bool.not_false, Bool.or_false, Bool.false_or, Bool.or_true, Bool.true_or, Nat.zero_add, Nat.reduceAdd, Nat.reduceLeDiff, Nat.reduceSub, Nat.reduceEqDiff]
  refine ⟨by rw [List.length_map]; omega, ?_, ?_⟩
  · cases s10 <;> first | rfl | exact absurd rfl (okS _)
  · refine comps_fm (longD b) _ _ (fun d hd R hR => ?_) ?_
    · obtain ⟨p, _, rfl⟩ := List.mem_map.mp hd
      exact step_long b p _ _ _ _ _ _ _ _ _ _ _ _ _ _ n R hR
    · rw [List.nil_append, long_all, bls_all]
      have e : (ps.map fun p => decide (b < p.2)).any id = ps.any fun p => decide (b < p.2) := by rw [List.any_map]; rfl
      show if (ps.map fun p => decide (b < p.2)).any id = true then _ else _
      rw [e]
      split
      · rename_i z; rw [if_pos z] at q; exact q
      · rename_i z; rw [if_neg z] at q; exact q
def offD (W : List Int) : D → Option D := fun d => match d with
  | .int x => some (.int (W.length + x))
  | _ => none
theorem off_all (W : List Int) : ∀ B : List Nat, (B.map fun j : Nat => D.int j).filterMap (offD W) = (B.map fun j => W.length + j).map fun j : Nat => D.int j
  | [] => rfl
  | j :: B => by
    rw [List.map_cons, List.filterMap_cons_some (show offD W (.int (j : Nat)) = some (.int ((W.length : Int) + (j : Nat))) from rfl), off_all W B]
    rfl
theorem zip_pairs : ∀ (A B : List Nat), zipD (A.map fun j : Nat => D.int j) (B.map fun j : Nat => D.int j) = (A.zip B).map pairN
  | [], _ => rfl
  | _ :: _, [] => rfl
  | a :: A, b :: B => by
    show D.tup [.int (a : Nat), .int (b : Nat)] :: zipD (A.map fun j : Nat => D.int j) (B.map fun j : Nat => D.int j) = _
    rw [zip_pairs A B]
    rfl
theorem ba13 (E : DEnds) (n : Nat) (b g : Int) (W : List Int) (B : List Nat) (m : Int) (hm : 0 < m) (s0 s2 s5 : Sl) (hW : W.length ≤ 1000) (hB : B.length ≤ 1000)
    (h : ∀ j ∈ B, j < W.length) (h1 : ∀ j ∈ B.drop 1, 1 ≤ j)
    (q : ∀ s8 s9 s10 s11, (∀ ds, s10 ≠ .own ds) → kr_bursts_around_12 E [s0, .val (.int b), s2, .val (.lst (W.map D.int)), .val (.int m), s5, .val (.lst (B.map fun j : Nat => D.int j)), .own ((foundC m W B).map pairD), s8, s9, s10, s11, .no, .no, .no, .no, .no] n) :
    kr_bursts_around_13 E [s0, .val (.int b), s2, .val (.lst (W.map D.int)), .val (.int m), s5, .val (.lst (B.map fun j : Nat => D.int j)), .own [], .no, .no, .no, .no, .no, .no, .no, .no, .no] n := by
  simp only [kr_bursts_around_13, kSeq, kAsg, kRet, kIfS, kDrop, kNext, kNever, kOwnS, kApp, kSub, kPar, kAndV_e, kOrV_e, kNotV, kAndT, kOrT, kNotT, kTest_e, isB_bl, kBin, kUn, kChain_e, condV, kCall, kCons, kNil, kTup, kLst, kLstO, kOut, kCompO, kIter, kEnum, kZip, kRng1, DL.kV, kB, kC, kIf, kStar, kSl, kPart, kNoPart, kFn, kFnK, kIsi2, kFor, gN, gTupD, gsCons, gsNil, kYes, dNeg, dAdd, dSub, dMod, dDiv, dMul, dPow, dCmp, dInt, dEq, dNe, dIn, dNotIn, dIx, dIsN, bLen, bInt, bAbs, bTuple, bList, bAny, bAll, bIsi, startD, okW, wipeD, List.map_cons, List.map_nil, List.cons_append, List.nil_append, List.getElem?_cons_zero, List.getElem?_cons_succ, List.set_cons_zero, List.set_cons_succ, List.length_cons, List.length_nil, List.replicate_succ, List.replicate_zero, List.all_cons, List.all_nil, Bool.and_true, Bool.true_and, tyn_int, tyn_bl, tyn_non, tyn_tup, tyn_lst, kit_ii, kit_ib, kit_tt, kit_ll, kit_lt, kit_tl, flat_int, v_int, flat_row, pl_non, pl_bl, pl_int, pl_tup, pl_lst, eqb_int, eqb_nil, eqb_non, D.isN, ne_eq, not_false_eq_true, true_and, and_true, if_true, if_false, Bool.false_eq_true, reduceCtorEq, String.reduceEq, Bool.not_true, Bool.not_false, Bool.or_false, Bool.false_or, Bool.or_true, Bool.true_or, Nat.zero_add, Nat.reduceAdd, Nat.reduceLeDiff, Nat.reduceSub, Nat.reduceEqDiff]
  rw [cut_to1, cut_from1, ← List.map_take, ← List.map_drop]
  refine ⟨by rw [List.length_map, List.length_take]; omega, ?_⟩
  refine comps_fm (offD W) _ _ (fun d hd R hR => ?_) ?_
  · obtain ⟨j, _, rfl⟩ := List.mem_map.mp hd
    have e : ((W.map D.int).length : Int) = (W.length : Int) := by rw [List.length_map]
    refine step_off (W.map D.int) j _ _ _ _ _ _ _ _ _ _ _ _ _ _ _ n R ?_
    rw [e]; exact hR
  · rw [List.nil_append, off_all, List.append_nil, ← List.map_append]
    refine ⟨by rw [List.length_map, List.length_append, List.length_map, List.length_take, List.length_drop]; omega, ?_⟩
    rw [zip_pairs]
    refine fb_loop _ n W m hm _ _ _ _ _ _ [] _ _ _ _ (fun _ z => by cases z) (fun p hp => ?_) ?_ ?_
    · obtain ⟨p1, p2⟩ := List.of_mem_zip hp
      have y1 := h _ p1
      refine ⟨y1, ?_⟩
      rcases List.mem_append.mp p2 with y | y
      · exact h1 _ y
      · obtain ⟨j, _, e⟩ := List.mem_map.mp y
        omega
    · rw [List.length_nil, Nat.zero_add, List.length_zip]
      omega
    · intro s8 s9 s10 s11 ok
      rw [List.nil_append]
      exact q s8 s9 s10 s11 ok
theorem zip_ints : ∀ (A B : List Int) (d : D), d ∈ zipD (A.map D.int) (B.map D.int) → ∃ x y, d = .tup [.int x, .int y]
  | [], _, d, h => by cases h
  | _ :: _, [], d, h => by cases h
  | a :: A, b :: B, d, h => by
    rcases List.mem_cons.mp (show d ∈ D.tup [.int a, .int b] :: zipD (A.map D.int) (B.map D.int) from h) with rfl | h
    · exact ⟨a, b, rfl⟩
    · exact zip_ints A B d h
theorem zip_len : ∀ (A B : List D), (zipD A B).length ≤ B.length
  | [], _ => Nat.zero_le _
  | _ :: _, [] => Nat.zero_le _
  | a :: A, b :: B => by
    have := zip_len A B
    show (D.tup [a, b] :: zipD A B).length ≤ _
    rw [List.length_cons, List.length_cons]
    omega
theorem bigs_len (g : Int) : ∀ (G : List Int) (k : Nat), (bigs g k G).length ≤ G.length
  | [], _ => Nat.le_refl _
  | x :: G, k => by
    have := bigs_len g G (k + 1)
    unfold bigs
    split
    · rw [List.length_cons, List.length_cons]; omega
    · rw [List.length_cons]; omega
theorem ba17 (E : DEnds) (n : Nat) (W : List Int) (m b g : Int) (s0 : Sl) (hm : 0 < m) (hW : W.length ≤ 1000) (q : E.rt (resD (around m W b g)) n) :
    kr_bursts_around_17 E [s0, .val (.int b), .val (.int g), .val (.lst (W.map D.int)), .val (.int m), .no, .no, .no, .no, .no, .no, .no, .no, .no, .no, .no, .no] n := by
  simp only [kr_bursts_around_17, List.append_nil, kSeq, kAsg, kRet, kIfS, kDrop, kNext, kNever, kOwnS, kApp, kSub, kPar, kAndV_e, kOrV_e, kNotV, kAndT, kOrT, kNotT, kTest_e, isB_bl, kBin, kUn, kChain_e, condV, kCall, kCons, kNil, kTup, kLst, kLstO, kOut, kCompO, kIter, kEnum, kZip, kRng1, DL.kV, kB, kC, kIf, kStar, kSl, kPart, kNoPart, kFn, kFnK, kIsi2, kFor, gN, gTupD, gsCons, gsNil, kYes, dNeg, dAdd, dSub, dMod, dDiv, dMul, dPow, dCmp, dInt, dEq, dNe, dIn, dNotIn, dIx, dIsN, bLen, bInt, bAbs, bTuple, bList, bAny, bAll, bIsi, startD, okW, wipeD, List.map_cons, List.map_nil, List.cons_append, List.nil_append, List.getElem?_cons_zero, List.getElem?_cons_succ, List.set_cons_zero, List.set_cons_succ, List.length_cons, List.length_nil, List.replicate_succ, List.replicate_zero, List.all_cons, List.all_nil, Bool.and_true, Bool.true_and, tyn_int, tyn_bl, tyn_non, tyn_tup, tyn_lst, kit_ii, kit_ib, kit_tt, kit_ll, kit_lt, kit_tl, flat_int, v_int, flat_row, pl_non, pl_bl, pl_int, pl_tup, pl_lst, eqb_int, eqb_nil, eqb_non, D.isN, ne_eq, not_false_eq_true, true_and, and_true, if_true, if_false, Bool.false_eq_true, reduceCtorEq, String.reduceEq, Bool.not_true, Bool.not_false, Bool.or_false, Bool.false_or, Bool.or_true, Bool.true_or, Nat.zero_add, Nat.reduceAdd, Nat.reduceLeDiff, Nat.reduceSub, Nat.reduceEqDiff]
  have el : DL.cutD (W.map D.int) (some (-1)) none ++ W.map D.int = (W.drop (W.length - 1) ++ W).map D.int := by rw [cut_last, List.length_map, List.map_append, List.map_drop]
  refine ⟨?_, ?_, ?_⟩
  · rw [el, List.length_map, List.length_append, List.length_drop]; omega
  · refine Nat.le_trans (zip_len _ _) ?_
    rw [List.length_map]; omega
  refine comps_fm (gapD m) _ _ (fun d hd R hR => ?_) ?_
  · rw [el] at hd
    obtain ⟨x, y, rfl⟩ := zip_ints _ _ _ hd
    exact step_gap m x y hm _ _ _ _ _ _ _ _ _ _ _ _ _ _ n R hR
  rw [List.nil_append, gaps_all]
  unfold around beginsC at q
  have gl := gaps_len m W (W.getLast?.getD 0)
  generalize gapsC m (W.getLast?.getD 0) W = G at *
  simp only [kr_bursts_around_16, kSeq, kAsg, kRet, kIfS, kDrop, kNext, kNever, kOwnS, kApp, kSub, kPar, kAndV_e, kOrV_e, kNotV, kAndT, kOrT, kNotT, kTest_e, isB_bl, kBin, kUn, kChain_e, condV, kCall, kCons, kNil, kTup, kLst, kLstO, kOut, kCompO, kIter, kEnum, kZip, kRng1, DL.kV, kB, kC, kIf, kStar, kSl, kPart, kNoPart, kFn, kFnK, kIsi2, kFor, gN, gTupD, gsCons, gsNil, kYes, dNeg, dAdd, dSub, dMod, dDiv, dMul, dPow, dCmp, dInt, dEq, dNe, dIn, dNotIn, dIx, dIsN, bLen, bInt, bAbs, bTuple, bList, bAny, bAll, bIsi, startD, okW, wipeD, List.map_cons, List.map_nil, List.cons_append, List.nil_append, List.getElem?_cons_zero, List.getElem?_cons_succ, List.set_cons_zero, List.set_cons_succ, List.length_cons, List.length_nil, List.replicate_succ, List.replicate_zero, List.all_cons, List.all_nil, Bool.and_true, Bool.true_and, tyn_int, tyn_bl, tyn_non, tyn_tup, tyn_lst, kit_ii, kit_ib, kit_tt, kit_ll, kit_lt, kit_tl, flat_int, v_int, flat_row, pl_non, pl_bl, pl_int, pl_tup, pl_lst, eqb_int, eqb_nil, eqb_non, D.isN, ne_eq, not_false_eq_true, true_and, and_true, if_true, if_false, Bool.false_eq_true, reduceCtorEq, String.reduceEq, Bool.not_true, Bool.not_false, Bool.or_false, Bool.false_or, Bool.or_true, Bool.true_or, Nat.zero_add, Nat.reduceAdd, Nat.reduceLeDiff, Nat.reduceSub, Nat.reduceEqDiff]
  refine ⟨by rw [enumD_len, List.length_map]; omega, ?_⟩
  refine comps_fm (bigD g) _ _ (fun d hd R hR => ?_) ?_
  · obtain ⟨j, e, rfl, he⟩ := mem_enum _ _ _ hd
    obtain ⟨x, _, rfl⟩ := List.mem_map.mp he
    exact step_big g j x _ _ _ _ _ _ _ _ _ _ _ _ _ _ n R hR
  rw [List.nil_append, bigs_all]
  have bl := bigs_len g G 0
  obtain ⟨bg, bd⟩ := bigs_ge g G 0
  generalize bigs g 0 G = B at *
  have pB := pl_maps (fun j : Nat => pl_int 7 (j : Int)) B
  have pW := pl_maps (fun j : Int => pl_int 7 j) W
  have go : E.rt (resD (if (foundC m W B).any (fun p => decide (b < p.2)) then none else some (foundC m W B))) n → kr_bursts_around_14 E [s0, .val (.int b), .val (.int g), .val (.lst (W.map D.int)), .val (.int m), .val (.lst (G.map D.int)), .val (.lst (B.map fun j : Nat => D.int j)), .no, .no, .no, .no, .no, .no, .no, .no, .no, .no] n := by
    intro q
    simp only [kr_bursts_around_14, kSeq, kAsg, kRet, kIfS, kDrop, kNext, kNever, kOwnS, kApp, kSub, kPar, kAndV_e, kOrV_e, kNotV, kAndT, kOrT, kNotT, kTest_e, isB_bl, kBin, kUn, kChain_e, condV, kCall, kCons, kNil, kTup, kLst, kLstO, kOut, kCompO, kIter, kEnum, kZip, kRng1, DL.kV, kB, kC, kIf, kStar, kSl, kPart, kNoPart, kFn, kFnK, kIsi2, kFor, gN, gTupD, gsCons, gsNil, kYes, dNeg, dAdd, dSub, dMod, dDiv, dMul, dPow, dCmp, dInt, dEq, dNe, dIn, dNotIn, dIx, dIsN, bLen, bInt, bAbs, bTuple, bList, bAny, bAll, bIsi, startD, okW, wipeD, List.map_cons, List.map_nil, List.cons_append, List.nil_append, List.getElem?_cons_zero, List.getElem?_cons_succ, List.set_cons_zero, List.set_cons_succ, List.length_cons, List.length_nil, List.replicate_succ, List.replicate_zero, List.all_cons, List.all_nil, Bool.and_true, Bool.true_and, tyn_int, tyn_bl, tyn_non, tyn_tup, tyn_lst, kit_ii, kit_ib, kit_tt, kit_ll, kit_lt, kit_tl, flat_int, v_int, flat_row, pl_non, pl_bl, pl_int, pl_tup, pl_lst, eqb_int, eqb_nil, eqb_non, D.isN, ne_eq, not_false_eq_true, true_and, and_true, if_true, if_false, Bool.false_eq_true, reduceCtorEq, String.reduceEq, Bool.not_true, Bool.not_false, Bool.or_false, Bool.false_or, Bool.or_true, Bool.true_or, Nat.zero_add, Nat.reduceAdd, Nat.reduceLeDiff, Nat.reduceSub, Nat.reduceEqDiff]
    refine ba13 E n b g W B m hm _ _ _ hW (by omega) (fun j hj => ?_) (fun j hj => ?_) fun s8 s9 s10 s11 ok => ?_
    · have := (bg j hj).2; omega
    · have := bd j hj; omega
    · refine ba12 E n b _ _ _ _ _ _ _ _ _ _ _ ?_ ok q
      unfold foundC
      rw [List.length_map, List.length_zip]
      omega
  simp only [kr_bursts_around_15, kSeq, kAsg, kRet, kIfS, kDrop, kNext, kNever, kOwnS, kApp, kSub, kPar, kAndV_e, kOrV_e, kNotV, kAndT, kOrT, kNotT, kTest_e, isB_bl, kBin, kUn, kChain_e, condV, kCall, kCons, kNil, kTup, kLst, kLstO, kOut, kCompO, kIter, kEnum, kZip, kRng1, DL.kV, kB, kC, kIf, kStar, kSl, kPart, kNoPart, kFn, kFnK, kIsi2, kFor, gN, gTupD, gsCons, gsNil, kYes, dNeg, dAdd, dSub, dMod, dDiv, dMul, dPow, dCmp, dInt, dEq, dNe, dIn, dNotIn, dIx, dIsN, bLen, bInt, bAbs, bTuple, bList, bAny, bAll, bIsi, startD, okW, wipeD, List.map_cons, List.map_nil, List.cons_append, List.nil_append, List.getElem?_cons_zero, List.getElem?_cons_succ, List.set_cons_zero, List.set_cons_succ, List.length_cons, List.length_nil, List.replicate_succ, List.replicate_zero, List.all_cons, List.all_nil, Bool.and_true, Bool.true_and, tyn_int, tyn_bl, tyn_non, tyn_tup, tyn_lst, kit_ii, kit_ib, kit_tt, kit_ll, kit_lt, kit_tl, flat_int, v_int, flat_row, pl_non, pl_bl, pl_int, pl_tup, pl_lst, eqb_int, eqb_nil, eqb_non, D.isN, ne_eq, not_false_eq_true, true_and, and_true, if_true, if_false, Bool.false_eq_true, reduceCtorEq, String.reduceEq, Bool.not_true, Bool.not_false, Bool.or_false, Bool.false_or, Bool.or_true, Bool.true_or, Nat.zero_add, Nat.reduceAdd, Nat.reduceLeDiff, Nat.reduceSub, Nat.reduceEqDiff]
  refine ⟨pB, (fun d hd => by cases hd), ?_⟩
  by_cases z : B = []
  · subst z
    rw [if_pos (show ((([] : List Nat).map fun j : Nat => D.int j).isEmpty = true) from rfl)]
    refine ⟨pW, (fun d hd => by cases hd), ?_⟩
    by_cases y : W = []
    · subst y
      rw [if_neg (show ¬ (!(([] : List Int).map D.int).isEmpty) = true from by decide)]
      rw [if_neg (fun y => y.2 rfl)] at q
      exact go q
    · have ye : (!(W.map D.int).isEmpty) = true := by cases W with | nil => exact absurd rfl y | cons _ _ => rfl
      rw [if_pos ye]
      rw [if_pos ⟨rfl, y⟩] at q
      exact q
  · have ze : ¬ ((B.map fun j : Nat => D.int j).isEmpty = true) := by
      cases B with
      | nil => exact absurd rfl z
      | cons _ _ => simp
    rw [if_neg ze]
    rw [if_neg (fun y => z y.1)] at q
    exact go q
theorem ba18 (E : DEnds) (n : Nat) (d : D) (rs : List (List Bool)) (b g : Int) (hd : rowsIs rs d) (hr : rs ≠ []) (hbg : 1 ≤ b ∧ b ≤ 8 ∧ 0 ≤ g ∧ g ≤ 24) (q : E.rt (resD (around rs.length (wrongs rs) b g)) n) :
    kr_bursts_around_18 E [.val d, .val (.int b), .val (.int g), .no, .no, .no, .no, .no, .no, .no, .no, .no, .no, .no, .no, .no, .no] n := by
  have hd1 := hd
  obtain ⟨hd0, h1, h2⟩ := hd
  have hl : 0 < rs.length := List.length_pos_iff.mpr hr
  have pw := posn_len (rs.map hot) 0
  rw [List.length_map] at pw
  have go : kr_bursts_around_17 E [.val d, .val (.int b), .val (.int g), .val (.lst ((wrongs rs).map D.int)), .val (.int rs.length), .no, .no, .no, .no, .no, .no, .no, .no, .no, .no, .no, .no] n :=
    ba17 E n (wrongs rs) rs.length b g _ (by omega) (Nat.le_trans pw h1) q
  simp only [kr_bursts_around_18, c_wrong_steps, kSeq, kAsg, kRet, kIfS, kDrop, kNext, kNever, kOwnS, kApp, kSub, kPar, kAndV_e, kOrV_e, kNotV, kAndT, kOrT, kNotT, kTest_e, isB_bl, kBin, kUn, kChain_e, condV, kCall, kCons, kNil, kTup, kLst, kLstO, kOut, kCompO, kIter, kEnum, kZip, kRng1, DL.kV, kB, kC, kIf, kStar, kSl, kPart, kNoPart, kFn, kFnK, kIsi2, kFor, gN, gTupD, gsCons, gsNil, kYes, dNeg, dAdd, dSub, dMod, dDiv, dMul, dPow, dCmp, dInt, dEq, dNe, dIn, dNotIn, dIx, dIsN, bLen, bInt, bAbs, bTuple, bList, bAny, bAll, bIsi, startD, okW, wipeD, List.map_cons, List.map_nil, List.cons_append, List.nil_append, List.getElem?_cons_zero, List.getElem?_cons_succ, List.set_cons_zero, List.set_cons_succ, List.length_cons, List.length_nil, List.replicate_succ, List.replicate_zero, List.all_cons, List.all_nil, Bool.and_true, Bool.true_and, tyn_int, tyn_bl, tyn_non, tyn_tup, tyn_lst, kit_ii, kit_ib, kit_tt, kit_ll, kit_lt, kit_tl, flat_int, v_int, flat_row, pl_non, pl_bl, pl_int, pl_tup, pl_lst, eqb_int, eqb_nil, eqb_non, D.isN, ne_eq, not_false_eq_true, true_and, and_true, if_true, if_false, Bool.false_eq_true, reduceCtorEq, String.reduceEq, Bool.not_true, Bool.not_false, Bool.or_false, Bool.false_or, Bool.or_true, Bool.true_or, Nat.zero_add, Nat.reduceAdd, Nat.reduceLeDiff, Nat.reduceSub, Nat.reduceEqDiff]
  refine ⟨rs, d, rfl, hd1, ?_⟩
  rcases hd0 with rfl | rfl
  · show kr_bursts_around_17 E [_, _, _, _, .val (.int ((rs.map rowD).length : Nat)), _, _, _, _, _, _, _, _, _, _, _, _] n
    rw [List.length_map]
    exact go
  · show kr_bursts_around_17 E [_, _, _, _, .val (.int ((rs.map rowD).length : Nat)), _, _, _, _, _, _, _, _, _, _, _, _] n
    rw [List.length_map]
    exact go
theorem m_bursts_around : ∀ ds n Q, c_bursts_around ds n Q → kb_bursts_around ⟨fun _ n' => Q .non n', Q, fun _ _ => False, fun _ _ => False⟩ (startD ["rows", "burst", "guard", "wrong", "many", "gaps", "begins", "found", "spot", "later", "first", "last", "before", "at", "gap", "begin", "length"] ds) n := by
  rintro ds n Q ⟨rs, d, b, g, rfl, hd, hr, hbg, q⟩
  simp only [kb_bursts_around, c_need_bursts, c_need_steps, kr_bursts_around_20, kr_bursts_around_19, kSeq, kAsg, kRet, kIfS, kDrop, kNext, kNever, kOwnS, kApp, kSub, kPar, kAndV_e, kOrV_e, kNotV, kAndT, kOrT, kNotT, kTest_e, isB_bl, kBin, kUn, kChain_e, condV, kCall, kCons, kNil, kTup, kLst, kLstO, kOut, kCompO, kIter, kEnum, kZip, kRng1, DL.kV, kB, kC, kIf, kStar, kSl, kPart, kNoPart, kFn, kFnK, kIsi2, kFor, gN, gTupD, gsCons, gsNil, kYes, dNeg, dAdd, dSub, dMod, dDiv, dMul, dPow, dCmp, dInt, dEq, dNe, dIn, dNotIn, dIx, dIsN, bLen, bInt, bAbs, bTuple, bList, bAny, bAll, bIsi, startD, okW, wipeD, List.map_cons, List.map_nil, List.cons_append, List.nil_append, List.getElem?_cons_zero, List.getElem?_cons_succ, List.set_cons_zero, List.set_cons_succ, List.length_cons, List.length_nil, List.replicate_succ, List.replicate_zero, List.all_cons, List.all_nil, Bool.and_true, Bool.true_and, tyn_int, tyn_bl, tyn_non, tyn_tup, tyn_lst, kit_ii, kit_ib, kit_tt, kit_ll, kit_lt, kit_tl, flat_int, v_int, flat_row, pl_non, pl_bl, pl_int, pl_tup, pl_lst, eqb_int, eqb_nil, eqb_non, D.isN, ne_eq, not_false_eq_true, true_and, and_true, if_true, if_false, Bool.false_eq_true, reduceCtorEq, String.reduceEq, Bool.not_true, Bool.not_false, Bool.or_false, Bool.false_or, Bool.or_true, Bool.true_or, Nat.zero_add, Nat.reduceAdd, Nat.reduceLeDiff, Nat.reduceSub, Nat.reduceEqDiff]
  have go : kr_bursts_around_18 ⟨fun x n' => Q D.non n', Q, fun _ _ => False, fun _ _ => False⟩ [.val d, .val (.int b), .val (.int g), .no, .no, .no, .no, .no, .no, .no, .no, .no, .no, .no, .no, .no, .no] n := ba18 _ n d rs b g hd hr hbg q
  have ne : ∀ xs : List D, xs = rs.map rowD → ¬ (((xs.length : Nat) : Int) == 0) = true := by
    rintro xs rfl h
    have h := eq_of_beq h
    rw [List.length_map] at h
    have hl : 0 < rs.length := List.length_pos_iff.mpr hr
    omega
  refine ⟨b, g, rfl, hbg, rs, d, rfl, hd, ?_⟩
  rcases hd.1 with rfl | rfl
  · show if _ then _ else _
    rw [if_neg (ne _ rfl)]
    exact go
  · show if _ then _ else _
    rw [if_neg (ne _ rfl)]
    exact go
end L79
namespace L79
/-! ### the plain law: bursts of a row of places -/
def sh (c : Int) (X : List Int) : List Int := X.map fun x => x + c
def lastD : Int → List Int → Int
  | p, [] => p
  | _, x :: X => lastD x X
def dif : Int → List Int → List Int
  | _, [] => []
  | p, x :: X => (x - p) :: dif x X
def go (g : Int) : Int → Int → List Int → List (Int × Int)
  | f, l, [] => [(f, l)]
  | f, l, x :: X => if g < x - l then (f, l) :: go g x x X else go g f x X
def chunks (g : Int) : List Int → List (Int × Int)
  | [] => []
  | x :: X => go g x x X
def NB (g : Int) (G : List Int) : Prop := ∀ x ∈ G, ¬ g < x
theorem sh_nil (c : Int) : sh c [] = [] := rfl
theorem sh_cons (c x : Int) (X : List Int) : sh c (x :: X) = (x + c) :: sh c X := rfl
theorem sh_app (c : Int) (X Y : List Int) : sh c (X ++ Y) = sh c X ++ sh c Y := List.map_append ..
theorem sh_sh (c d : Int) (X : List Int) : sh c (sh d X) = sh (d + c) X := by
  unfold sh
  rw [List.map_map]
  apply List.map_congr_left
  intro x _
  show x + d + c = x + (d + c)
  omega
theorem sh_zero (X : List Int) : sh 0 X = X := by
  unfold sh
  rw [List.map_congr_left (g := id) (fun x _ => by show x + 0 = x; omega), List.map_id]
theorem lastD_app : ∀ (X Y : List Int) (p : Int), lastD p (X ++ Y) = lastD (lastD p X) Y
  | [], Y, p => rfl
  | x :: X, Y, p => lastD_app X Y x
theorem lastD_sh (c : Int) : ∀ (X : List Int) (p : Int), lastD (p + c) (sh c X) = lastD p X + c
  | [], p => rfl
  | x :: X, p => lastD_sh c X x
theorem lastD_mem : ∀ (X : List Int) (p : Int), lastD p X = p ∨ lastD p X ∈ X
  | [], p => .inl rfl
  | x :: X, p => by
    rcases lastD_mem X x with h | h
    · exact .inr (by show lastD x X ∈ _; rw [h]; exact List.mem_cons_self ..)
    · exact .inr (List.mem_cons_of_mem _ h)
theorem dif_app : ∀ (X Y : List Int) (p : Int), dif p (X ++ Y) = dif p X ++ dif (lastD p X) Y
  | [], Y, p => rfl
  | x :: X, Y, p => by
    show (x - p) :: dif x (X ++ Y) = (x - p) :: dif x X ++ _
    rw [dif_app X Y x]
    rfl
theorem dif_sh (c : Int) : ∀ (X : List Int) (p : Int), dif (p + c) (sh c X) = dif p X
  | [], p => rfl
  | x :: X, p => by
    show (x + c - (p + c)) :: dif (x + c) (sh c X) = (x - p) :: dif x X
    rw [dif_sh c X x]
    congr 1
    omega
theorem NB_app {g : Int} {G K : List Int} : NB g (G ++ K) ↔ NB g G ∧ NB g K := by
  unfold NB
  exact ⟨fun h => ⟨fun x hx => h x (List.mem_append_left _ hx), fun x hx => h x (List.mem_append_right _ hx)⟩, fun h x hx => (List.mem_append.mp hx).elim (h.1 x) (h.2 x)⟩
theorem go_split (g y : Int) (Y : List Int) : ∀ (X : List Int) (f l : Int), g < y - lastD l X → go g f l (X ++ y :: Y) = go g f l X ++ go g y y Y
  | [], f, l, h => by
    have h : g < y - l := h
    show (if g < y - l then (f, l) :: go g y y Y else go g f y Y) = _
    rw [if_pos h]
    rfl
  | x :: X, f, l, h => by
    show (if g < x - l then (f, l) :: go g x x (X ++ y :: Y) else go g f x (X ++ y :: Y)) = (if g < x - l then (f, l) :: go g x x X else go g f x X) ++ _
    split
    · rw [go_split g y Y X x x h]; rfl
    · exact go_split g y Y X f x h
theorem go_sh (g c : Int) : ∀ (X : List Int) (f l : Int), go g (f + c) (l + c) (sh c X) = (go g f l X).map fun p => (p.1 + c, p.2 + c)
  | [], f, l => rfl
  | x :: X, f, l => by
    show (if g < x + c - (l + c) then (f + c, l + c) :: go g (x + c) (x + c) (sh c X) else go g (f + c) (x + c) (sh c X)) = (if g < x - l then (f, l) :: go g x x X else go g f x X).map _
    have e : x + c - (l + c) = x - l := by omega
    rw [e]
    split
    · rw [go_sh g c X x x]; rfl
    · exact go_sh g c X f x
theorem go_ext (g : Int) : ∀ (X : List Int) (f l : Int), ∃ pre q, go g f l X = pre ++ [(q, lastD l X)] ∧ (q = f ∨ q ∈ X) ∧ ∀ Y, NB g (dif (lastD l X) Y) → go g f l (X ++ Y) = pre ++ [(q, lastD l (X ++ Y))]
  | [], f, l => by
    refine ⟨[], f, rfl, .inl rfl, fun Y => ?_⟩
    show NB g (dif l Y) → go g f l Y = [(f, lastD l Y)]
    induction Y generalizing l with
    | nil => intro _; rfl
    | cons y Y ih =>
      intro h
      show (if g < y - l then (f, l) :: go g y y Y else go g f y Y) = [(f, lastD y Y)]
      rw [if_neg (h _ (List.mem_cons_self ..))]
      exact ih y fun x hx => h x (List.mem_cons_of_mem _ hx)
  | x :: X, f, l => by
    by_cases z : g < x - l
    · obtain ⟨pre, q, h1, h3, h2⟩ := go_ext g X x x
      refine ⟨(f, l) :: pre, q, ?_, ?_, fun Y hY => ?_⟩
      · show (if g < x - l then (f, l) :: go g x x X else go g f x X) = _
        rw [if_pos z, h1]; rfl
      · rcases h3 with rfl | h3
        · exact .inr (List.mem_cons_self ..)
        · exact .inr (List.mem_cons_of_mem _ h3)
      · show (if g < x - l then (f, l) :: go g x x (X ++ Y) else go g f x (X ++ Y)) = _
        rw [if_pos z, h2 Y hY]; rfl
    · obtain ⟨pre, q, h1, h3, h2⟩ := go_ext g X f x
      refine ⟨pre, q, ?_, ?_, fun Y hY => ?_⟩
      · show (if g < x - l then (f, l) :: go g x x X else go g f x X) = _
        rw [if_neg z, h1]; rfl
      · rcases h3 with rfl | h3
        · exact .inl rfl
        · exact .inr (List.mem_cons_of_mem _ h3)
      · show (if g < x - l then (f, l) :: go g x x (X ++ Y) else go g f x (X ++ Y)) = _
        rw [if_neg z, h2 Y hY]; rfl
theorem go_bd (g lo hi : Int) : ∀ (X : List Int) (f l : Int), lo ≤ f → f ≤ l → l < hi → (∀ x ∈ X, l < x ∧ x < hi) → X.Pairwise (· < ·) → ∀ p ∈ go g f l X, lo ≤ p.1 ∧ p.1 ≤ p.2 ∧ p.2 < hi
  | [], f, l, h1, h2, h3, h4, h5, p, hp => by
    rcases List.mem_singleton.mp hp with rfl
    exact ⟨h1, h2, h3⟩
  | x :: X, f, l, h1, h2, h3, h4, h5, p, hp => by
    obtain ⟨y1, y2⟩ := h4 x (List.mem_cons_self ..)
    obtain ⟨z1, z2⟩ := List.pairwise_cons.mp h5
    have hp : p ∈ (if g < x - l then (f, l) :: go g x x X else go g f x X) := hp
    have h6 : ∀ y ∈ X, x < y ∧ y < hi := fun y hy => ⟨z1 y hy, (h4 y (List.mem_cons_of_mem _ hy)).2⟩
    split at hp
    · rcases List.mem_cons.mp hp with rfl | hp
      · exact ⟨h1, h2, h3⟩
      · exact go_bd g lo hi X x x (by omega) (by omega) y2 h6 z2 p hp
    · exact go_bd g lo hi X f x h1 (by omega) y2 h6 z2 p hp
theorem go_fst (g : Int) : ∀ (X : List Int) (f l : Int), ∀ p ∈ go g f l X, p.1 = f ∨ p.1 ∈ X
  | [], f, l, p, hp => by
    rcases List.mem_singleton.mp hp with rfl
    exact .inl rfl
  | x :: X, f, l, p, hp => by
    have hp : p ∈ (if g < x - l then (f, l) :: go g x x X else go g f x X) := hp
    split at hp
    · rcases List.mem_cons.mp hp with rfl | hp
      · exact .inl rfl
      · rcases go_fst g X x x p hp with h | h
        · exact .inr (by rw [h]; exact List.mem_cons_self ..)
        · exact .inr (List.mem_cons_of_mem _ h)
    · rcases go_fst g X f x p hp with h | h
      · exact .inl h
      · exact .inr (List.mem_cons_of_mem _ h)
/-- by places: where bursts begin -/
theorem go_idx (g : Int) (V : Nat → Int) : ∀ (Y : List Int) (k i : Nat) (f p : Int), 1 ≤ k → V i = f → V (k - 1) = p → (∀ j y, Y[j]? = some y → V (k + j) = y) →
    go g f p Y = ((i :: bigs g k (dif p Y)).zip (bigs g k (dif p Y) ++ [k + Y.length])).map fun q => (V q.1, V (q.2 - 1))
  | [], k, i, f, p, hk, hi, hp, h => by
    show [(f, p)] = [(V i, V (k + 0 - 1))]
    rw [Nat.add_zero, hi, hp]
  | y :: Y, k, i, f, p, hk, hi, hp, h => by
    have hy : V k = y := h 0 y rfl
    have h' : ∀ j z, Y[j]? = some z → V (k + 1 + j) = z := fun j z hz => by
      have := h (j + 1) z (by simpa using hz)
      rw [← this]
      congr 1
      omega
    have el : k + (y :: Y).length = k + 1 + Y.length := by rw [List.length_cons]; omega
    show (if g < y - p then (f, p) :: go g y y Y else go g f y Y) = ((i :: bigs g k ((y - p) :: dif y Y)).zip (bigs g k ((y - p) :: dif y Y) ++ [k + (y :: Y).length])).map _
    rw [el]
    unfold bigs
    by_cases z : g < y - p
    · rw [if_pos z, if_pos z, go_idx g V Y (k + 1) k y y (by omega) hy hy h']
      show (f, p) :: _ = (V i, V (k - 1)) :: _
      rw [hi, hp]
      rfl
    · rw [if_neg z, if_neg z]
      exact go_idx g V Y (k + 1) i f y (by omega) hi hy h'
theorem bigs_app (g : Int) : ∀ (G K : List Int) (k : Nat), bigs g k (G ++ K) = bigs g k G ++ bigs g (k + G.length) K
  | [], K, k => rfl
  | x :: G, K, k => by
    have e : k + (x :: G).length = k + 1 + G.length := by rw [List.length_cons]; omega
    show (if g < x then k :: bigs g (k + 1) (G ++ K) else bigs g (k + 1) (G ++ K)) = (if g < x then k :: bigs g (k + 1) G else bigs g (k + 1) G) ++ _
    rw [bigs_app g G K (k + 1), e]
    split <;> rfl
theorem bigs_none (g : Int) : ∀ (G : List Int) (k : Nat), NB g G → bigs g k G = []
  | [], k, h => rfl
  | x :: G, k, h => by
    show (if g < x then k :: bigs g (k + 1) G else bigs g (k + 1) G) = []
    rw [if_neg (h x (List.mem_cons_self ..))]
    exact bigs_none g G (k + 1) fun y hy => h y (List.mem_cons_of_mem _ hy)
theorem dif_len : ∀ (X : List Int) (p : Int), (dif p X).length = X.length
  | [], p => rfl
  | x :: X, p => by show (dif x X).length + 1 = X.length + 1; rw [dif_len X x]
/-- the first begin, if there is one -/
theorem first_big (g : Int) : ∀ (W : List Int) (p : Int), NB g (dif p W) ∨ ∃ P s S, W = P ++ s :: S ∧ NB g (dif p P) ∧ g < s - lastD p P
  | [], p => .inl fun x hx => by cases hx
  | w :: W, p => by
    by_cases z : g < w - p
    · exact .inr ⟨[], w, W, rfl, (fun x hx => by cases hx), z⟩
    · rcases first_big g W w with h | ⟨P, s, S, rfl, h1, h2⟩
      · refine .inl fun x hx => ?_
        rcases List.mem_cons.mp (show x ∈ (w - p) :: dif w W from hx) with rfl | hx
        · exact z
        · exact h x hx
      · refine .inr ⟨w :: P, s, S, rfl, fun x hx => ?_, h2⟩
        rcases List.mem_cons.mp (show x ∈ (w - p) :: dif w P from hx) with rfl | hx
        · exact z
        · exact h1 x hx
/-- what the law parts off are the chunks -/
theorem parted_go (g : Int) : ∀ (X : List Int) (acc : List (Int × Int)) (f l : Int), parted g (acc ++ [(f, l)]) X = acc ++ go g f l X
  | [], acc, f, l => rfl
  | x :: X, acc, f, l => by
    show parted g (part1 g x (acc ++ [(f, l)])) X = acc ++ (if g < x - l then (f, l) :: go g x x X else go g f x X)
    rw [part1_end]
    by_cases z : g < x - l
    · rw [if_pos z, if_neg (by show ¬ (x - l - 1 < g); omega)]
      have := parted_go g X (acc ++ [(f, l)]) x x
      rw [List.append_assoc, List.append_assoc] at this
      exact this
    · rw [if_neg z, if_pos (by show x - l - 1 < g; omega)]
      exact parted_go g X acc f x
theorem parted_chunks (g : Int) (X : List Int) : parted g [] X = chunks g X := by
  cases X with
  | nil => rfl
  | cons x X => exact parted_go g X [] x x
end L79
namespace L79
structure Good (m : Int) (W : List Int) : Prop where
  inc : W.Pairwise (· < ·)
  lo : ∀ x ∈ W, 0 ≤ x
  hi : ∀ x ∈ W, x < m
theorem gaps_dif (m : Int) : ∀ (W : List Int) (p : Int), W.Pairwise (· < ·) → (∀ x ∈ W, p < x ∧ x ≤ p + m) → gapsC m p W = dif p W
  | [], p, _, _ => rfl
  | x :: W, p, h, r => by
    obtain ⟨h1, h2⟩ := List.pairwise_cons.mp h
    obtain ⟨r1, r2⟩ := r x (List.mem_cons_self ..)
    show ((x - p - 1) % m + 1) :: gapsC m x W = (x - p) :: dif x W
    rw [gaps_dif m W x h2 fun y hy => ⟨h1 y hy, by have := (r y (List.mem_cons_of_mem _ hy)).2; omega⟩, Int.emod_eq_of_lt (by omega) (by omega)]
    congr 1
    omega
theorem last_of (P : List Int) (s : Int) (S : List Int) : (P ++ s :: S).getLast?.getD 0 = lastD s S := by
  have h : ∀ (S : List Int) (s : Int), (s :: S).getLast? = some (lastD s S) := by
    intro S
    induction S with
    | nil => intro s; rfl
    | cons y S ih => intro s; rw [List.getLast?_cons_cons]; exact ih y
  rw [List.getLast?_append, h]
  rfl
theorem last_bd {m : Int} {P S : List Int} {s : Int} (G : Good m (P ++ s :: S)) : 0 ≤ lastD s S ∧ lastD s S < m ∧ ∀ x ∈ P ++ s :: S, x ≤ lastD s S := by
  have mem : lastD s S ∈ P ++ s :: S := by
    refine List.mem_append_right _ ?_
    rcases lastD_mem S s with h | h
    · rw [h]; exact List.mem_cons_self ..
    · exact List.mem_cons_of_mem _ h
  refine ⟨G.lo _ mem, G.hi _ mem, ?_⟩
  have le : ∀ (S : List Int) (s : Int), (s :: S).Pairwise (· < ·) → ∀ x ∈ s :: S, x ≤ lastD s S := by
    intro S
    induction S with
    | nil => intro s _ x hx; rcases List.mem_singleton.mp hx with rfl; exact Int.le_refl _
    | cons y S ih =>
      intro s h x hx
      obtain ⟨h1, h2⟩ := List.pairwise_cons.mp h
      have := ih y h2 y (List.mem_cons_self ..)
      rcases List.mem_cons.mp hx with rfl | hx
      · have := h1 y (List.mem_cons_self ..)
        show x ≤ lastD y S
        omega
      · exact ih y h2 x hx
  obtain ⟨_, i2, i3⟩ := List.pairwise_append.mp G.inc
  intro x hx
  have h0 := le S s i2
  rcases List.mem_append.mp hx with h | h
  · have := i3 x h s (List.mem_cons_self ..)
    have := h0 s (List.mem_cons_self ..)
    omega
  · exact h0 x h
theorem gaps_all_dif {m : Int} {P S : List Int} {s : Int} (G : Good m (P ++ s :: S)) : gapsC m ((P ++ s :: S).getLast?.getD 0) (P ++ s :: S) = dif (lastD s S - m) (P ++ s :: S) := by
  rw [last_of]
  obtain ⟨l1, l2, l3⟩ := last_bd G
  have h : gapsC m (lastD s S) (P ++ s :: S) = gapsC m (lastD s S - m) (P ++ s :: S) := by
    cases e : P ++ s :: S with
    | nil => rfl
    | cons w W =>
      show ((w - lastD s S - 1) % m + 1) :: _ = ((w - (lastD s S - m) - 1) % m + 1) :: _
      have e2 : w - (lastD s S - m) - 1 = (w - lastD s S - 1) + m := by omega
      rw [e2, Int.add_emod_right]
  rw [h]
  refine gaps_dif m _ _ G.inc fun x hx => ?_
  have := G.lo x hx
  have := l3 x hx
  omega
/-- the row from its first begin on -/
def turned (m : Int) (P : List Int) (s : Int) (S : List Int) : List Int := s :: (S ++ sh m P)
def fin (b : Int) (C : List (Int × Int)) : Option (List (Int × Int)) := if C.any (fun p => decide (b ≤ p.2 - p.1)) then none else some (C.map fun p => (p.1, p.2 - p.1 + 1))
theorem turned_bd {m : Int} {P S : List Int} {s : Int} (g : Int) (G : Good m (P ++ s :: S)) : ∀ p ∈ chunks g (turned m P s S), s ≤ p.1 ∧ p.1 ≤ p.2 ∧ p.2 < s + m := by
  obtain ⟨i1, i2, i3⟩ := List.pairwise_append.mp G.inc
  obtain ⟨i4, i5⟩ := List.pairwise_cons.mp i2
  have hm : ∀ x ∈ P ++ s :: S, 0 ≤ x ∧ x < m := fun x hx => ⟨G.lo x hx, G.hi x hx⟩
  have hs := hm s (List.mem_append_right _ (List.mem_cons_self ..))
  refine go_bd g s (s + m) _ s s (Int.le_refl _) (Int.le_refl _) (by omega) (fun x hx => ?_) ?_
  · rcases List.mem_append.mp hx with h | h
    · have := hm x (List.mem_append_right _ (List.mem_cons_of_mem _ h))
      have := i4 x h
      omega
    · obtain ⟨y, hy, rfl⟩ := List.mem_map.mp h
      have := hm y (List.mem_append_left _ hy)
      have := i3 y hy s (List.mem_cons_self ..)
      omega
  · refine List.pairwise_append.mpr ⟨i5, ?_, fun a ha b hb => ?_⟩
    · exact List.pairwise_map.mpr (i1.imp fun h => by omega)
    · obtain ⟨y, hy, rfl⟩ := List.mem_map.mp hb
      have := hm a (List.mem_append_right _ (List.mem_cons_of_mem _ ha))
      have := hm y (List.mem_append_left _ hy)
      omega
theorem around_none {m b g : Int} {P S : List Int} {s : Int} (G : Good m (P ++ s :: S)) (h : NB g (dif (lastD s S - m) (P ++ s :: S))) : around m (P ++ s :: S) b g = none := by
  unfold around beginsC
  rw [gaps_all_dif G, bigs_none g _ 0 h, if_pos ⟨rfl, by simp⟩]
theorem around_some {m b g : Int} {P S : List Int} {s : Int} (G : Good m (P ++ s :: S)) (h1 : NB g (dif (lastD s S - m) P)) (h2 : g < s - lastD (lastD s S - m) P) :
    around m (P ++ s :: S) b g = fin b (chunks g (turned m P s S)) := by
  have hB : beginsC m g (P ++ s :: S) = P.length :: bigs g (P.length + 1) (dif s (S ++ sh m P)) := by
    unfold beginsC
    rw [gaps_all_dif G, dif_app, bigs_app, bigs_none g _ 0 h1, List.nil_append, dif_len, Nat.zero_add]
    show (if g < s - lastD (lastD s S - m) P then P.length :: bigs g (P.length + 1) (dif s S) else _) = _
    rw [if_pos h2, dif_app, bigs_app]
    have e : dif (lastD s S) (sh m P) = dif (lastD s S - m) P := by
      have := dif_sh m P (lastD s S - m)
      rw [Int.sub_add_cancel] at this
      exact this
    rw [e, bigs_none g _ _ h1, List.append_nil]
  have hF : foundC m (P ++ s :: S) (beginsC m g (P ++ s :: S)) = (chunks g (turned m P s S)).map fun p => (p.1, p.2 - p.1 + 1) := by
    have bdB := bigs_ge g (dif s (S ++ sh m P)) (P.length + 1)
    have bdW : ∀ j ∈ beginsC m g (P ++ s :: S), j < (P ++ s :: S).length := by
      intro j hj
      unfold beginsC at hj
      have := ((bigs_ge g _ 0).1 j hj).2
      rw [gaps_len] at this
      omega
    have idx := go_idx g (fun j => (P ++ s :: S ++ sh m P).getD j 0) (S ++ sh m P) (P.length + 1) P.length s s (by omega)
      (by simp [List.getD_eq_getElem?_getD])
      (by simp [List.getD_eq_getElem?_getD])
      (fun j y hj => by
        have e : P ++ s :: S ++ sh m P = (P ++ [s]) ++ (S ++ sh m P) := by simp
        have e2 : P.length + 1 = (P ++ [s]).length := by simp
        rw [e, e2, List.getD_eq_getElem?_getD, List.getElem?_append_right (by omega), Nat.add_sub_cancel_left, hj]
        rfl)
    have bd := turned_bd g G
    unfold chunks turned at bd ⊢
    simp only at bd ⊢
    rw [hB] at bdW ⊢
    generalize bigs g (P.length + 1) (dif s (S ++ sh m P)) = B at *
    have ez : foundC m (P ++ s :: S) (P.length :: B) = ((P.length :: B).zip (B ++ [P.length + 1 + (S ++ sh m P).length])).map fun p => ((P ++ s :: S).getD p.1 0, ((P ++ s :: S).getD ((p.2 - 1) % (P ++ s :: S).length) 0 - (P ++ s :: S).getD p.1 0) % m + 1) := by
      unfold foundC
      rw [List.drop_one, List.tail_cons]
      have : ([P.length].map fun b => (P ++ s :: S).length + b) = [P.length + 1 + (S ++ sh m P).length] := by
        unfold sh
        simp only [List.map_cons, List.map_nil, List.length_append, List.length_cons, List.length_map]
        congr 1
        omega
      rw [← this]
      rfl
    rw [ez, idx, List.map_map]
    refine List.map_congr_left fun q hq => ?_
    have inC : ((P ++ s :: S ++ sh m P).getD q.1 0, (P ++ s :: S ++ sh m P).getD (q.2 - 1) 0) ∈ go g s s (S ++ sh m P) := by
      rw [idx]
      exact List.mem_map.mpr ⟨q, hq, rfl⟩
    obtain ⟨c1, c2, c3⟩ := bd _ inC
    obtain ⟨z1, z2⟩ := List.of_mem_zip hq
    have y1 := bdW _ z1
    have y2 : q.2 ≤ (P ++ s :: S).length + P.length := by
      rcases List.mem_append.mp z2 with h | h
      · have := bdW _ (List.mem_cons_of_mem _ h); omega
      · rw [List.mem_singleton.mp h]
        unfold sh
        simp only [List.length_append, List.length_cons, List.length_map]
        omega
    have y3 : 1 ≤ q.2 := by
      rcases List.mem_append.mp z2 with h | h
      · have := (bdB.1 _ h).1; omega
      · rw [List.mem_singleton.mp h]; omega
    have eA : (P ++ s :: S ++ sh m P).getD q.1 0 = (P ++ s :: S).getD q.1 0 := by
      rw [List.getD_eq_getElem?_getD, List.getD_eq_getElem?_getD, List.getElem?_append_left y1]
    have eZ : ∃ k : Int, (P ++ s :: S ++ sh m P).getD (q.2 - 1) 0 = (P ++ s :: S).getD ((q.2 - 1) % (P ++ s :: S).length) 0 + m * k := by
      by_cases h : q.2 - 1 < (P ++ s :: S).length
      · refine ⟨0, ?_⟩
        rw [Nat.mod_eq_of_lt h, List.getD_eq_getElem?_getD, List.getD_eq_getElem?_getD, List.getElem?_append_left h]
        omega
      · refine ⟨1, ?_⟩
        have hl : (P ++ s :: S).length = P.length + (S.length + 1) := by simp
        have hj : q.2 - 1 - (P ++ s :: S).length < P.length := by omega
        have em : (q.2 - 1) % (P ++ s :: S).length = q.2 - 1 - (P ++ s :: S).length := by
          rw [Nat.mod_eq_sub_mod (by omega), Nat.mod_eq_of_lt (by omega)]
        rw [em, List.getD_eq_getElem?_getD, List.getD_eq_getElem?_getD, List.getElem?_append_right (by omega)]
        unfold sh
        rw [List.getElem?_map, List.getElem?_append_left hj, List.getElem?_eq_getElem hj]
        show P[_] + m = P[_] + m * 1
        rw [Int.mul_one]
    obtain ⟨k, eZ⟩ := eZ
    show ((P ++ s :: S).getD q.1 0, ((P ++ s :: S).getD ((q.2 - 1) % (P ++ s :: S).length) 0 - (P ++ s :: S).getD q.1 0) % m + 1) = ((P ++ s :: S ++ sh m P).getD q.1 0, (P ++ s :: S ++ sh m P).getD (q.2 - 1) 0 - (P ++ s :: S ++ sh m P).getD q.1 0 + 1)
    rw [eA] at c1 c2 c3 ⊢
    simp only at c1 c2 c3 ⊢
    congr 1
    have e3 : (P ++ s :: S).getD ((q.2 - 1) % (P ++ s :: S).length) 0 - (P ++ s :: S).getD q.1 0 = ((P ++ s :: S ++ sh m P).getD (q.2 - 1) 0 - (P ++ s :: S).getD q.1 0) + m * (-k) := by
      rw [eZ, Int.mul_neg]
      omega
    rw [e3, Int.add_mul_emod_self_left, Int.emod_eq_of_lt (by omega) (by omega)]
  unfold around
  rw [hF, if_neg (by rw [hB]; intro y; cases y.1)]
  unfold fin
  have ea : ((chunks g (turned m P s S)).map fun p => (p.1, p.2 - p.1 + 1)).any (fun p => decide (b < p.2)) = (chunks g (turned m P s S)).any fun p => decide (b ≤ p.2 - p.1) := by
    rw [List.any_map]
    congr 1
    funext p
    show decide (b < p.2 - p.1 + 1) = _
    exact decide_eq_decide.mpr (by omega)
  rw [ea]
end L79
namespace L79
theorem posn_sh (c : Int) : ∀ (bs : List Bool) (k : Int), posn (k + c) bs = sh c (posn k bs)
  | [], k => rfl
  | b :: bs, k => by
    have ih := posn_sh c bs (k + 1)
    have e : k + c + 1 = k + 1 + c := by omega
    rw [posn_cons, posn_cons, e, ih]
    split <;> rfl
theorem posn_app : ∀ (a b : List Bool) (k : Int), posn k (a ++ b) = posn k a ++ posn (k + a.length) b
  | [], b, k => by
    show posn k b = posn (k + ((0 : Nat) : Int)) b
    congr 1
    omega
  | x :: a, b, k => by
    have ih := posn_app a b (k + 1)
    have e : k + 1 + (a.length : Int) = k + ((x :: a).length : Nat) := by rw [List.length_cons]; omega
    rw [e] at ih
    rw [List.cons_append, posn_cons, posn_cons, ih]
    split <;> rfl
theorem posn_bd : ∀ (bs : List Bool) (k : Int), (posn k bs).Pairwise (· < ·) ∧ ∀ x ∈ posn k bs, k ≤ x ∧ x < k + bs.length
  | [], k => ⟨.nil, fun x hx => by cases hx⟩
  | b :: bs, k => by
    obtain ⟨h1, h2⟩ := posn_bd bs (k + 1)
    rw [posn_cons, List.length_cons]
    split
    · refine ⟨List.pairwise_cons.mpr ⟨fun x hx => by have := h2 x hx; omega, h1⟩, fun x hx => ?_⟩
      rcases List.mem_cons.mp hx with rfl | hx
      · omega
      · have := h2 x hx; omega
    · exact ⟨h1, fun x hx => by have := h2 x hx; omega⟩
theorem good_posn (hs : List Bool) : Good hs.length (posn 0 hs) := by
  obtain ⟨h1, h2⟩ := posn_bd hs 0
  exact ⟨h1, fun x hx => (h2 x hx).1, fun x hx => by have := (h2 x hx).2; omega⟩
def repW (m : Int) (W : List Int) : Nat → Int → List Int
  | 0, _ => []
  | o + 1, c => sh c W ++ repW m W o (c + m)
theorem posn_rep (hs : List Bool) : ∀ (o : Nat) (c : Int), posn c (List.replicate o hs).flatten = repW hs.length (posn 0 hs) o c
  | 0, c => rfl
  | o + 1, c => by
    have e := posn_sh c hs 0
    rw [Int.zero_add] at e
    rw [List.replicate_succ, List.flatten_cons, posn_app, posn_rep hs o, e]
    rfl
def reg (m : Int) (P : List Int) (s : Int) (S : List Int) : Nat → Int → List Int
  | 0, c => sh c (s :: S)
  | j + 1, c => sh c (turned m P s S) ++ reg m P s S j (c + m)
theorem rep_reg (m : Int) (P : List Int) (s : Int) (S : List Int) : ∀ (j : Nat) (c : Int), repW m (P ++ s :: S) (j + 1) c = sh c P ++ reg m P s S j c
  | 0, c => by
    show sh c (P ++ s :: S) ++ [] = sh c P ++ sh c (s :: S)
    rw [List.append_nil, sh_app]
  | j + 1, c => by
    show sh c (P ++ s :: S) ++ repW m (P ++ s :: S) (j + 1) (c + m) = sh c P ++ (sh c (turned m P s S) ++ reg m P s S j (c + m))
    rw [rep_reg m P s S j (c + m), sh_app]
    have e : sh c (turned m P s S) = sh c (s :: S) ++ sh (c + m) P := by
      have : turned m P s S = (s :: S) ++ sh m P := rfl
      rw [this, sh_app, sh_sh, Int.add_comm m c]
    rw [e]
    simp only [List.append_assoc]
theorem reg_head (m : Int) (P : List Int) (s : Int) (S : List Int) (j : Nat) (c : Int) : ∃ T, reg m P s S j c = (s + c) :: T := by
  cases j with
  | zero => exact ⟨_, rfl⟩
  | succ j => exact ⟨_, rfl⟩
def shP (c : Int) (p : Int × Int) : Int × Int := (p.1 + c, p.2 + c)
theorem chunks_sh (g c : Int) (X : List Int) : chunks g (sh c X) = (chunks g X).map (shP c) := by
  cases X with
  | nil => rfl
  | cons x X => exact go_sh g c X x x
theorem chunks_app (g y : Int) (Y : List Int) (x : Int) (X : List Int) (h : g < y - lastD x X) : chunks g ((x :: X) ++ y :: Y) = chunks g (x :: X) ++ chunks g (y :: Y) := go_split g y Y X x x h
theorem go_nb (g : Int) (f : Int) : ∀ (Y : List Int) (l : Int), NB g (dif l Y) → go g f l Y = [(f, lastD l Y)]
  | [], l, _ => rfl
  | y :: Y, l, h => by
    show (if g < y - l then (f, l) :: go g y y Y else go g f y Y) = [(f, lastD y Y)]
    rw [if_neg (h _ (List.mem_cons_self ..))]
    exact go_nb g f Y y fun x hx => h x (List.mem_cons_of_mem _ hx)
theorem last_turned (m : Int) (P : List Int) (s : Int) (S : List Int) : lastD s (S ++ sh m P) = lastD (lastD s S - m) P + m := by
  have := lastD_sh m P (lastD s S - m)
  rw [Int.sub_add_cancel] at this
  rw [lastD_app, this]
/-- bursts are not cut at the row's end -/
theorem chunks_reg {m g : Int} {P S : List Int} {s : Int} (h2 : g < s - lastD (lastD s S - m) P) (j : Nat) (c : Int) : chunks g (reg m P s S (j + 1) c) = (chunks g (turned m P s S)).map (shP c) ++ chunks g (reg m P s S j (c + m)) := by
  obtain ⟨T, hT⟩ := reg_head m P s S j (c + m)
  show chunks g (sh c (turned m P s S) ++ reg m P s S j (c + m)) = _
  rw [hT, ← chunks_sh]
  refine chunks_app g _ T (s + c) (sh c (S ++ sh m P)) ?_
  rw [lastD_sh, last_turned]
  omega
section
variable {m b g : Int} {P S : List Int} {s : Int}
abbrev fit (b : Int) : Int × Int → Bool := fun p => decide (b ≤ p.2 - p.1)
theorem fit_sh (b c : Int) (C : List (Int × Int)) : (C.map (shP c)).any (fit b) = C.any (fit b) := by
  rw [List.any_map]
  congr 1
  funext p
  show decide (b ≤ p.2 + c - (p.1 + c)) = decide (b ≤ p.2 - p.1)
  exact decide_eq_decide.mpr (by omega)
/-- what the chunks of the turned row and of its first part share -/
theorem same_ends (G : Good m (P ++ s :: S)) (h1 : NB g (dif (lastD s S - m) P)) : ∃ pre q, chunks g (s :: S) = pre ++ [(q, lastD s S)] ∧ chunks g (turned m P s S) = pre ++ [(q, lastD (lastD s S - m) P + m)] ∧ (0 ≤ q ∧ q < m) ∧
    lastD s S ≤ lastD (lastD s S - m) P + m ∧ ∀ p ∈ pre, 0 ≤ p.1 ∧ p.1 < m := by
  obtain ⟨pre, q, e1, e2, e3⟩ := go_ext g S s s
  have hd : dif (lastD s S) (sh m P) = dif (lastD s S - m) P := by
    have := dif_sh m P (lastD s S - m)
    rw [Int.sub_add_cancel] at this
    exact this
  have e4 := e3 (sh m P) (by rw [hd]; exact h1)
  rw [last_turned] at e4
  have hm : ∀ x, x = s ∨ x ∈ S → 0 ≤ x ∧ x < m := fun x hx => by
    have : x ∈ P ++ s :: S := by
      rcases hx with rfl | hx
      · exact List.mem_append_right _ (List.mem_cons_self ..)
      · exact List.mem_append_right _ (List.mem_cons_of_mem _ hx)
    exact ⟨G.lo x this, G.hi x this⟩
  refine ⟨pre, q, e1, e4, hm q e2, ?_, fun p hp => hm _ ?_⟩
  · obtain ⟨l1, l2, l3⟩ := last_bd G
    rcases lastD_mem P (lastD s S - m) with h | h
    · rw [h]; omega
    · have := G.lo _ (List.mem_append_left _ h); omega
  · have := go_fst g S s s p (by rw [e1]; exact List.mem_append_left _ hp)
    exact this
theorem any_front (G : Good m (P ++ s :: S)) (h1 : NB g (dif (lastD s S - m) P)) : (chunks g (s :: S)).any (fit b) = true → (chunks g (turned m P s S)).any (fit b) = true := by
  obtain ⟨pre, q, e1, e2, _, e3, _⟩ := same_ends G h1
  rw [e1, e2, List.any_append, List.any_append, Bool.or_eq_true, Bool.or_eq_true]
  rintro (h | h)
  · exact .inl h
  · refine .inr ?_
    have h : (decide (b ≤ lastD s S - q) || false) = true := h
    rw [Bool.or_false] at h
    have h := of_decide_eq_true h
    show (decide (b ≤ lastD (lastD s S - m) P + m - q) || false) = true
    rw [decide_eq_true (by omega)]; rfl
theorem any_back (G : Good m (P ++ s :: S)) (h1 : NB g (dif (lastD s S - m) P)) : (chunks g P).any (fit b) = true → (chunks g (turned m P s S)).any (fit b) = true := by
  obtain ⟨pre, q, e1, e2, e4, e3, _⟩ := same_ends G h1
  cases P with
  | nil => intro h; cases h
  | cons p P =>
    have nb : NB g (dif p P) := fun x hx => h1 x (List.mem_cons_of_mem _ hx)
    have ep : chunks g (p :: P) = [(p, lastD p P)] := go_nb g p P p nb
    rw [ep, e2, List.any_append, Bool.or_eq_true]
    intro h
    refine .inr ?_
    have h : (decide (b ≤ lastD p P - p) || false) = true := h
    rw [Bool.or_false] at h
    have h := of_decide_eq_true h
    have hp := G.lo p (List.mem_append_left _ (List.mem_cons_self ..))
    show (decide (b ≤ lastD p P + m - q) || false) = true
    rw [decide_eq_true (by omega)]; rfl
theorem reg_any (G : Good m (P ++ s :: S)) (h1 : NB g (dif (lastD s S - m) P)) (h2 : g < s - lastD (lastD s S - m) P) : ∀ (j : Nat) (c : Int), (chunks g (reg m P s S (j + 1) c)).any (fit b) = (chunks g (turned m P s S)).any (fit b)
  | 0, c => by
    rw [chunks_reg h2, List.any_append, fit_sh]
    have e : chunks g (reg m P s S 0 (c + m)) = (chunks g (s :: S)).map (shP (c + m)) := chunks_sh g (c + m) (s :: S)
    rw [e, fit_sh]
    cases h : (chunks g (s :: S)).any (fit b) with
    | false => rw [Bool.or_false]
    | true => rw [any_front G h1 h]; rfl
  | j + 1, c => by
    rw [chunks_reg h2, List.any_append, fit_sh, reg_any G h1 h2 j (c + m), Bool.or_self]
theorem reg_ge (G : Good m (P ++ s :: S)) (hm : 0 ≤ m) (h2 : g < s - lastD (lastD s S - m) P) : ∀ (j : Nat) (c : Int), ∀ p ∈ chunks g (reg m P s S j c), c ≤ p.1
  | 0, c, p, hp => by
    have e : chunks g (reg m P s S 0 c) = (chunks g (s :: S)).map (shP c) := chunks_sh g c (s :: S)
    rw [e] at hp
    obtain ⟨q, hq, rfl⟩ := List.mem_map.mp hp
    have := go_fst g S s s q hq
    have : 0 ≤ q.1 := by
      rcases this with h | h
      · rw [h]; exact G.lo s (List.mem_append_right _ (List.mem_cons_self ..))
      · exact G.lo _ (List.mem_append_right _ (List.mem_cons_of_mem _ h))
    show c ≤ q.1 + c
    omega
  | j + 1, c, p, hp => by
    rw [chunks_reg h2] at hp
    rcases List.mem_append.mp hp with h | h
    · obtain ⟨q, hq, rfl⟩ := List.mem_map.mp h
      have := (turned_bd g G q hq).1
      have := G.lo s (List.mem_append_right _ (List.mem_cons_self ..))
      show c ≤ q.1 + c
      omega
    · have := reg_ge G hm h2 j (c + m) p h
      omega
abbrev sel (m : Int) : Int × Int → Bool := fun p => decide (m ≤ p.1) && decide (p.1 < 2 * m)
theorem firsts (G : Good m (P ++ s :: S)) (h1 : NB g (dif (lastD s S - m) P)) : ∀ p ∈ chunks g (turned m P s S), 0 ≤ p.1 ∧ p.1 < m := by
  obtain ⟨pre, q, e1, e2, e4, e3, e5⟩ := same_ends G h1
  intro p hp
  rw [e2] at hp
  rcases List.mem_append.mp hp with h | h
  · exact e5 p h
  · rcases List.mem_singleton.mp h with rfl
    exact e4
theorem reg_sel (G : Good m (P ++ s :: S)) (hm : 0 < m) (h1 : NB g (dif (lastD s S - m) P)) (h2 : g < s - lastD (lastD s S - m) P) (j : Nat) : (chunks g (reg m P s S (j + 2) 0)).filter (sel m) = (chunks g (turned m P s S)).map (shP m) := by
  rw [chunks_reg h2, chunks_reg h2, List.filter_append, List.filter_append, Int.zero_add]
  have f := firsts G h1
  have e1 : ((chunks g (turned m P s S)).map (shP 0)).filter (sel m) = [] := by
    rw [List.filter_eq_nil_iff]
    intro p hp
    obtain ⟨q, hq, rfl⟩ := List.mem_map.mp hp
    have := f q hq
    show ¬ (decide (m ≤ q.1 + 0) && decide (q.1 + 0 < 2 * m)) = true
    rw [decide_eq_false (by omega)]
    exact Bool.false_ne_true
  have e2 : ((chunks g (turned m P s S)).map (shP m)).filter (sel m) = (chunks g (turned m P s S)).map (shP m) := by
    rw [List.filter_eq_self]
    intro p hp
    obtain ⟨q, hq, rfl⟩ := List.mem_map.mp hp
    have := f q hq
    show (decide (m ≤ q.1 + m) && decide (q.1 + m < 2 * m)) = true
    rw [decide_eq_true (by omega), decide_eq_true (by omega)]; rfl
  have e3 : (chunks g (reg m P s S j (m + m))).filter (sel m) = [] := by
    rw [List.filter_eq_nil_iff]
    intro p hp
    have := reg_ge G (by omega) h2 j (m + m) p hp
    show ¬ (decide (m ≤ p.1) && decide (p.1 < 2 * m)) = true
    rw [decide_eq_false (p := p.1 < 2 * m) (by omega), Bool.and_false]
    exact Bool.false_ne_true
  rw [e1, e2, e3, List.nil_append, List.append_nil]
end
end L79
namespace L79
theorem cases_row (m g : Int) (W : List Int) : W = [] ∨ (∃ w V, W = w :: V ∧ NB g (dif (lastD w V - m) (w :: V))) ∨ ∃ P s S, W = P ++ s :: S ∧ NB g (dif (lastD s S - m) P) ∧ g < s - lastD (lastD s S - m) P := by
  cases W with
  | nil => exact .inl rfl
  | cons w V =>
    rcases first_big g (w :: V) (lastD w V - m) with h | ⟨P, s, S, e, h1, h2⟩
    · exact .inr (.inl ⟨w, V, rfl, h⟩)
    · have el : lastD w V = lastD s S := by
        have a := last_of [] w V
        have b := last_of P s S
        rw [← e] at b
        exact a.symm.trans b
      rw [el] at h1 h2
      exact .inr (.inr ⟨P, s, S, e, h1, h2⟩)
theorem around_empty (m b g : Int) : around m [] b g = some [] := rfl
theorem repW_nil (m : Int) : ∀ (o : Nat) (c : Int), repW m [] o c = []
  | 0, _ => rfl
  | o + 1, c => by show [] ++ repW m [] o (c + m) = []; rw [repW_nil m o]; rfl
theorem repW_nb {m g : Int} {w : Int} {V : List Int} (h : NB g (dif (lastD w V - m) (w :: V))) : ∀ (o : Nat) (c : Int), NB g (dif (lastD w V - m + c) (repW m (w :: V) o c)) ∧ lastD (lastD w V - m + c) (repW m (w :: V) o c) = lastD w V - m + c + m * o
  | 0, c => ⟨(fun x hx => by cases hx), by show lastD w V - m + c = lastD w V - m + c + m * ((0 : Nat) : Int); rw [show ((0 : Nat) : Int) = 0 from rfl, Int.mul_zero, Int.add_zero]⟩
  | o + 1, c => by
    obtain ⟨i1, i2⟩ := repW_nb h o (c + m)
    have e1 : lastD (lastD w V - m + c) (sh c (w :: V)) = lastD w V + c := lastD_sh c V w
    have e2 : lastD w V + c = lastD w V - m + (c + m) := by omega
    constructor
    · show NB g (dif (lastD w V - m + c) (sh c (w :: V) ++ repW m (w :: V) o (c + m)))
      rw [dif_app, NB_app, dif_sh, e1, e2]
      exact ⟨h, i1⟩
    · show lastD (lastD w V - m + c) (sh c (w :: V) ++ repW m (w :: V) o (c + m)) = _
      rw [lastD_app, e1, e2, i2, show ((o + 1 : Nat) : Int) = (o : Int) + 1 from rfl, Int.mul_add, Int.mul_one]
      omega
/-- what the law expects is what the program tells -/
theorem due_around (hs : List Bool) (b g : Int) (hne : hs ≠ []) (hb : 1 ≤ b) (hg : 0 ≤ g) : due hs b g = around hs.length (posn 0 hs) b g := by
  have hl : 0 < hs.length := List.length_pos_iff.mpr hne
  have G := good_posn hs
  unfold due
  simp only
  rw [posn_rep, parted_chunks]
  have d0 : 0 ≤ (b + g) / (hs.length : Int) := Int.ediv_nonneg (by omega) (by omega)
  obtain ⟨j, hj⟩ : ∃ j : Nat, (oftenC hs.length b g).toNat = j + 2 + 1 + 1 := ⟨(oftenC hs.length b g).toNat - 4, by unfold oftenC; omega⟩
  have hjo : ((j + 2 + 1 + 1 : Nat) : Int) = 4 + (b + g) / (hs.length : Int) := by rw [← hj]; unfold oftenC; omega
  have big : b + g < (hs.length : Int) * ((b + g) / (hs.length : Int)) + hs.length := by
    have h1 := Int.mul_ediv_add_emod (b + g) hs.length
    have h2 := Int.emod_lt_of_pos (b + g) (show (0 : Int) < hs.length by omega)
    omega
  rw [hj]
  generalize posn 0 hs = W at *
  have hm : (0 : Int) < (hs.length : Int) := by omega
  generalize (hs.length : Int) = m at *
  rcases cases_row m g W with rfl | ⟨w, V, rfl, h⟩ | ⟨P, s, S, rfl, h1, h2⟩
  · rw [repW_nil, around_empty]
    rfl
  · have G1 : Good m ([] ++ w :: V) := G
    have an : around m (w :: V) b g = none := around_none (b := b) (P := []) G1 h
    rw [an]
    obtain ⟨l1, l2, l3⟩ := last_bd G1
    obtain ⟨i1, i2⟩ := repW_nb h (j + 2 + 1 + 1) 0
    have ew : repW m (w :: V) (j + 2 + 1 + 1) 0 = w :: (V ++ repW m (w :: V) (j + 2 + 1) (0 + m)) := by
      show sh 0 (w :: V) ++ repW m (w :: V) (j + 2 + 1) (0 + m) = _
      rw [sh_zero]
      rfl
    rw [ew] at i1 i2 ⊢
    generalize V ++ repW m (w :: V) (j + 2 + 1) (0 + m) = Y at *
    have ec : chunks g (w :: Y) = [(w, lastD w Y)] := go_nb g w Y w fun x hx => i1 x (List.mem_cons_of_mem _ hx)
    have i2 : lastD w Y = lastD w V - m + 0 + m * ((j + 2 + 1 + 1 : Nat) : Int) := i2
    rw [ec]
    have w0 := l3 w (List.mem_cons_self ..)
    rw [hjo, Int.mul_add] at i2
    have : b ≤ lastD w Y - w := by
      rw [i2]
      generalize m * ((b + g) / m) = z at *
      omega
    have ea : [(w, lastD w Y)].any (fun p => decide (b ≤ p.2 - p.1)) = true := by
      show (decide (b ≤ lastD w Y - w) || false) = true
      rw [decide_eq_true this]; rfl
    rw [if_pos ea]
  · rw [around_some G h1 h2, rep_reg, sh_zero]
    have ec : chunks g (P ++ reg m P s S (j + 2 + 1) 0) = chunks g P ++ chunks g (reg m P s S (j + 2 + 1) 0) := by
      cases P with
      | nil => rfl
      | cons p P =>
        obtain ⟨T, hT⟩ := reg_head m (p :: P) s S (j + 2 + 1) 0
        rw [hT]
        refine chunks_app g _ T p P ?_
        rw [Int.add_zero]
        exact h2
    rw [ec]
    have a1 : (chunks g P ++ chunks g (reg m P s S (j + 2 + 1) 0)).any (fit b) = (chunks g (turned m P s S)).any (fit b) := by
      rw [List.any_append, reg_any G h1 h2]
      cases h : (chunks g P).any (fit b) with
      | false => rfl
      | true => rw [any_back G h1 h]; rfl
    have a2 : (chunks g P ++ chunks g (reg m P s S (j + 2 + 1) 0)).filter (sel m) = (chunks g (turned m P s S)).map (shP m) := by
      have e : j + 2 + 1 = (j + 1) + 2 := by omega
      rw [List.filter_append, e, reg_sel G hm h1 h2]
      have : (chunks g P).filter (sel m) = [] := by
        rw [List.filter_eq_nil_iff]
        intro q hq
        have hq1 : q.1 ∈ P := by
          cases P with
          | nil => cases hq
          | cons p P =>
            rcases go_fst g P p p q hq with h | h
            · rw [h]; exact List.mem_cons_self ..
            · exact List.mem_cons_of_mem _ h
        have := G.hi _ (List.mem_append_left _ hq1)
        show ¬ (decide (m ≤ q.1) && decide (q.1 < 2 * m)) = true
        rw [decide_eq_false (by omega)]
        exact Bool.false_ne_true
      rw [this, List.nil_append]
    have a3 : ((chunks g (turned m P s S)).map (shP m)).map (fun p => (p.1 - m, p.2 - p.1 + 1)) = (chunks g (turned m P s S)).map fun p => (p.1, p.2 - p.1 + 1) := by
      rw [List.map_map]
      refine List.map_congr_left fun p _ => ?_
      show (p.1 + m - m, p.2 + m - (p.1 + m) + 1) = (p.1, p.2 - p.1 + 1)
      congr 1 <;> omega
    unfold fin
    show (if (chunks g P ++ chunks g (reg m P s S (j + 2 + 1) 0)).any (fit b) = true then none else some (((chunks g P ++ chunks g (reg m P s S (j + 2 + 1) 0)).filter (sel m)).map fun p => (p.1 - m, p.2 - p.1 + 1))) = _
    rw [a1, a2, a3]
/-- the bursts of the row behind -/
def later (m : Int) (ps : List (Int × Int)) : List (Int × Int) := ps.map fun p => (p.1 + m, p.2)
/-- two rows behind each other -/
theorem around_twice (hs : List Bool) (b g : Int) : around ((hs ++ hs).length : Nat) (posn 0 (hs ++ hs)) b g = (around hs.length (posn 0 hs) b g).map fun ps => ps ++ later hs.length ps := by
  have G := good_posn hs
  have G2 := good_posn (hs ++ hs)
  have e0 := posn_sh (hs.length : Int) hs 0
  rw [posn_app, e0] at G2 ⊢
  have em : (((hs ++ hs).length : Nat) : Int) = 2 * (hs.length : Int) := by rw [List.length_append]; omega
  rw [em] at G2 ⊢
  generalize posn 0 hs = W at *
  generalize (hs.length : Int) = m at *
  rcases cases_row m g W with rfl | ⟨w, V, rfl, h⟩ | ⟨P, s, S, rfl, h1, h2⟩
  · rfl
  · have el : lastD w (V ++ sh m (w :: V)) = lastD w V + m := by rw [lastD_app]; exact lastD_sh m V w
    have nb : NB g (dif (lastD w V + m - 2 * m) (w :: V ++ sh m (w :: V))) := by
      have e : lastD w V + m - 2 * m = lastD w V - m := by omega
      rw [e, dif_app, NB_app]
      refine ⟨h, ?_⟩
      show NB g (dif (lastD w V) (sh m (w :: V)))
      have := dif_sh m (w :: V) (lastD w V - m)
      rw [Int.sub_add_cancel] at this
      rw [this]
      exact h
    have a1 : around m (w :: V) b g = none := around_none (b := b) (P := []) (show Good m ([] ++ w :: V) from G) h
    have a2 : around (2 * m) (w :: (V ++ sh m (w :: V))) b g = none := around_none (b := b) (P := []) (show Good (2 * m) ([] ++ w :: (V ++ sh m (w :: V))) from G2) (by rw [el]; exact nb)
    rw [a1]
    exact a2
  · have eW : P ++ s :: S ++ sh m (P ++ s :: S) = P ++ s :: (S ++ sh m (P ++ s :: S)) := by simp
    have el : lastD s (S ++ sh m (P ++ s :: S)) = lastD s S + m := by
      rw [lastD_app, sh_app, lastD_app]
      exact lastD_sh m S s
    rw [eW] at G2 ⊢
    have e : lastD s S + m - 2 * m = lastD s S - m := by omega
    rw [around_some G h1 h2, around_some G2 (by rw [el, e]; exact h1) (by rw [el, e]; exact h2)]
    have et : turned (2 * m) P s (S ++ sh m (P ++ s :: S)) = turned m P s S ++ (s + m) :: sh m (S ++ sh m P) := by
      unfold turned
      rw [sh_app, sh_app, sh_sh, sh_cons]
      have : 2 * m = m + m := by omega
      rw [this]
      simp only [List.cons_append, List.append_assoc]
    have ec : chunks g (turned (2 * m) P s (S ++ sh m (P ++ s :: S))) = chunks g (turned m P s S) ++ (chunks g (turned m P s S)).map (shP m) := by
      rw [et, ← chunks_sh]
      refine chunks_app g (s + m) _ s (S ++ sh m P) ?_
      rw [last_turned]
      omega
    rw [ec]
    unfold fin
    have ea : (chunks g (turned m P s S) ++ (chunks g (turned m P s S)).map (shP m)).any (fit b) = (chunks g (turned m P s S)).any (fit b) := by
      rw [List.any_append, fit_sh, Bool.or_self]
    show (if (chunks g (turned m P s S) ++ (chunks g (turned m P s S)).map (shP m)).any (fit b) = true then none else _) = _
    rw [ea]
    split
    · rfl
    · show some _ = some (_ ++ later m _)
      unfold later
      rw [List.map_append, List.map_map, List.map_map]
      congr 2
      refine List.map_congr_left fun p _ => ?_
      show (p.1 + m, p.2 + m - (p.1 + m) + 1) = (p.1 + m, p.2 - p.1 + 1)
      congr 1
      omega
end L79
namespace L79
def Rot (m t : Int) (W U : List Int) : Prop := ∃ A Z, W = A ++ Z ∧ U = sh (-t) Z ++ sh (m - t) A
theorem Rot.back {m t : Int} {W U : List Int} (h : Rot m t W U) : Rot m (m - t) U W := by
  obtain ⟨A, Z, rfl, rfl⟩ := h
  refine ⟨sh (-t) Z, sh (m - t) A, rfl, ?_⟩
  rw [sh_sh, sh_sh]
  have e1 : m - t + -(m - t) = 0 := by omega
  have e2 : -t + (m - (m - t)) = 0 := by omega
  rw [e1, e2, sh_zero, sh_zero]
/-- a begin that need not be the first -/
theorem turn_dec {m t : Int} {P S : List Int} {s : Int} {U : List Int} (h : Rot m t (P ++ s :: S) U) : ∃ P1 s1 S1 c k, U = P1 ++ s1 :: S1 ∧ turned m P1 s1 S1 = sh c (turned m P s S) ∧ c = m * k - t := by
  obtain ⟨A, Z, e, rfl⟩ := h
  have one : ∀ Z1, P = A ++ Z1 → Z = Z1 ++ s :: S → ∃ P1 s1 S1 c k, sh (-t) Z ++ sh (m - t) A = P1 ++ s1 :: S1 ∧ turned m P1 s1 S1 = sh c (turned m P s S) ∧ c = m * k - t := by
    rintro Z1 rfl rfl
    refine ⟨sh (-t) Z1, s + -t, sh (-t) S ++ sh (m - t) A, -t, 0, ?_, ?_, by rw [Int.mul_zero]; omega⟩
    · rw [sh_app, sh_cons]
      simp only [List.append_assoc, List.cons_append]
    · unfold turned
      rw [sh_cons, sh_app, sh_app, sh_app, sh_sh, sh_sh, sh_sh]
      have e1 : m + -t = m - t := by omega
      have e2 : -t + m = m - t := by omega
      rw [e1, e2]
      simp only [List.append_assoc]
  rcases List.append_eq_append_iff.mp e with ⟨a, h1, h2⟩ | ⟨c, h1, h2⟩
  · cases a with
    | nil => exact one [] (by rw [h1, List.append_nil, List.append_nil]) (by rw [List.nil_append] at h2 ⊢; exact h2.symm)
    | cons x a =>
      rw [List.cons_append] at h2
      injection h2 with h3 h4
      subst h3 h4 h1
      refine ⟨sh (-t) Z ++ sh (m - t) P, s + (m - t), sh (m - t) a, m - t, 1, ?_, ?_, by rw [Int.mul_one]⟩
      · rw [sh_app, sh_cons]
        simp only [List.append_assoc]
      · unfold turned
        rw [sh_cons, sh_app, sh_app, sh_app, sh_sh, sh_sh, sh_sh]
        have e1 : -t + m = m - t := by omega
        have e2 : m - t + m = m + (m - t) := by omega
        rw [e1, e2]
        simp only [List.append_assoc]
  · exact one c h1 h2
def bigT (m g : Int) : List Int → Prop
  | [] => False
  | x :: T => g < x + m - lastD x T
theorem bigT_sh (m g c : Int) (X : List Int) : bigT m g (sh c X) ↔ bigT m g X := by
  cases X with
  | nil => exact Iff.rfl
  | cons x T =>
    show g < x + c + m - lastD (x + c) (sh c T) ↔ g < x + m - lastD x T
    rw [lastD_sh]
    omega
theorem bigT_of (m g : Int) (P : List Int) (s : Int) (S : List Int) : bigT m g (turned m P s S) ↔ g < s - lastD (lastD s S - m) P := by
  show g < s + m - lastD s (S ++ sh m P) ↔ _
  rw [last_turned]
  omega
theorem not_nb {g : Int} {P S : List Int} {s p : Int} (h : g < s - lastD p P) : ¬ NB g (dif p (P ++ s :: S)) := by
  rw [dif_app, NB_app]
  intro y
  exact y.2 (s - lastD p P) (List.mem_cons_self ..) h
/-- from any begin on the chunks are the same, but for where one starts -/
theorem any_begin {m g : Int} {P S : List Int} {s : Int} {W : List Int} (e : W = P ++ s :: S) (h : g < s - lastD (lastD s S - m) P) :
    ∃ Pc sc Sc C1 C2, W = Pc ++ sc :: Sc ∧ NB g (dif (lastD sc Sc - m) Pc) ∧ g < sc - lastD (lastD sc Sc - m) Pc ∧ chunks g (turned m Pc sc Sc) = C1 ++ C2 ∧ chunks g (turned m P s S) = C2 ++ C1.map (shP m) := by
  rcases cases_row m g W with rfl | ⟨w, V, rfl, nb⟩ | ⟨Pc, sc, Sc, rfl, h1, h2⟩
  · simp at e
  · exfalso
    have el : lastD w V = lastD s S := by
      have a := last_of [] w V
      have b := last_of P s S
      rw [← e] at b
      exact a.symm.trans b
    rw [el, e] at nb
    exact not_nb h nb
  · have el : lastD sc Sc = lastD s S := by
      have a := last_of Pc sc Sc
      have b := last_of P s S
      rw [← e] at b
      exact a.symm.trans b
    have same : Pc = P → sc :: Sc = s :: S → ∃ Pc' sc' Sc' C1 C2, Pc ++ sc :: Sc = Pc' ++ sc' :: Sc' ∧ NB g (dif (lastD sc' Sc' - m) Pc') ∧ g < sc' - lastD (lastD sc' Sc' - m) Pc' ∧ chunks g (turned m Pc' sc' Sc') = C1 ++ C2 ∧ chunks g (turned m P s S) = C2 ++ C1.map (shP m) := by
      intro y1 y2
      injection y2 with y3 y4
      subst y1 y3 y4
      exact ⟨Pc, sc, Sc, [], _, rfl, h1, h2, rfl, (List.append_nil _).symm⟩
    rcases List.append_eq_append_iff.mp e with ⟨a, e1, e2⟩ | ⟨a, e1, e2⟩
    · cases a with
      | nil => exact same (by rw [e1, List.append_nil]) (by rw [List.nil_append] at e2; exact e2)
      | cons x a =>
        rw [List.cons_append] at e2
        injection e2 with e3 e4
        subst e3 e4 e1
        refine ⟨Pc, sc, a ++ s :: S, chunks g (sc :: a), chunks g (s :: (S ++ sh m Pc)), rfl, h1, h2, ?_, ?_⟩
        · have et : turned m Pc sc (a ++ s :: S) = (sc :: a) ++ s :: (S ++ sh m Pc) := by
            unfold turned
            simp only [List.append_assoc, List.cons_append]
          rw [et]
          refine chunks_app g _ _ sc a ?_
          have : lastD (lastD s S - m) (Pc ++ sc :: a) = lastD sc a := by rw [lastD_app]; rfl
          rw [this] at h
          exact h
        · have et : turned m (Pc ++ sc :: a) s S = (s :: (S ++ sh m Pc)) ++ (sc + m) :: sh m a := by
            unfold turned
            rw [sh_app, sh_cons]
            simp only [List.append_assoc, List.cons_append]
          rw [et, ← chunks_sh]
          refine chunks_app g _ _ s (S ++ sh m Pc) ?_
          rw [last_turned, ← el]
          omega
    · cases a with
      | nil => exact same (by rw [e1, List.append_nil]) (by rw [List.nil_append] at e2; exact e2.symm)
      | cons x a =>
        exfalso
        rw [List.cons_append] at e2
        injection e2 with e3 e4
        subst e3 e1
        rw [el] at h1
        exact not_nb h h1
/-- the row begun elsewhere -/
theorem around_rot {m b g t : Int} {W U : List Int} (GW : Good m W) (GU : Good m U) (R : Rot m t W U) :
    (around m W b g = none ∧ around m U b g = none) ∨ ∃ ps qs, around m W b g = some ps ∧ around m U b g = some qs ∧ qs.length = ps.length ∧ ∀ p ∈ ps, ((p.1 - t) % m, p.2) ∈ qs := by
  rcases cases_row m g W with rfl | ⟨w, V, rfl, nb⟩ | ⟨P, s, S, rfl, h1, h2⟩
  · obtain ⟨A, Z, e, rfl⟩ := R
    obtain ⟨rfl, rfl⟩ := List.append_eq_nil_iff.mp e.symm
    exact .inr ⟨[], [], rfl, rfl, rfl, fun p hp => by cases hp⟩
  · left
    refine ⟨around_none (b := b) (P := []) (show Good m ([] ++ w :: V) from GW) nb, ?_⟩
    rcases cases_row m g U with rfl | ⟨u, Y, rfl, nu⟩ | ⟨P, s, S, rfl, h1, h2⟩
    · obtain ⟨A, Z, e, e2⟩ := R
      obtain ⟨y1, y2⟩ := List.append_eq_nil_iff.mp e2.symm
      have z1 : Z = [] := by cases Z with | nil => rfl | cons _ _ => cases y1
      have z2 : A = [] := by cases A with | nil => rfl | cons _ _ => cases y2
      subst z1 z2
      cases e
    · exact around_none (b := b) (P := []) (show Good m ([] ++ u :: Y) from GU) nu
    · exfalso
      obtain ⟨P1, s1, S1, c, k, e, et, _⟩ := turn_dec R.back
      have hb := (bigT_sh m g c _).mpr ((bigT_of m g P s S).mpr h2)
      rw [← et, bigT_of] at hb
      have el : lastD w V = lastD s1 S1 := by
        have a := last_of [] w V
        have b := last_of P1 s1 S1
        rw [← e] at b
        exact a.symm.trans b
      rw [el, e] at nb
      exact not_nb hb nb
  · obtain ⟨P1, s1, S1, c, k, e, et, ec⟩ := turn_dec R
    have hb := (bigT_sh m g c _).mpr ((bigT_of m g P s S).mpr h2)
    rw [← et, bigT_of] at hb
    obtain ⟨Pc, sc, Sc, C1, C2, eU, u1, u2, u3, u4⟩ := any_begin e hb
    rw [et, chunks_sh] at u4
    subst eU
    rw [around_some GW h1 h2, around_some GU u1 u2]
    have fs := firsts GU u1
    unfold fin
    have ea : (chunks g (turned m Pc sc Sc)).any (fit b) = (chunks g (turned m P s S)).any (fit b) := by
      rw [← fit_sh b c (chunks g (turned m P s S)), u4, u3, List.any_append, List.any_append, fit_sh, Bool.or_comm]
    show ((if (chunks g (turned m P s S)).any (fit b) = true then none else _) = none ∧ (if (chunks g (turned m Pc sc Sc)).any (fit b) = true then none else _) = none) ∨ ∃ ps qs, (if (chunks g (turned m P s S)).any (fit b) = true then none else _) = some ps ∧ (if (chunks g (turned m Pc sc Sc)).any (fit b) = true then none else _) = some qs ∧ _
    rw [ea]
    by_cases z : (chunks g (turned m P s S)).any (fit b) = true
    · left
      rw [if_pos z, if_pos z]
      exact ⟨rfl, rfl⟩
    · right
      rw [if_neg z, if_neg z]
      refine ⟨_, _, rfl, rfl, ?_, fun p hp => ?_⟩
      · rw [List.length_map, List.length_map, u3]
        have := congrArg List.length u4
        rw [List.length_map, List.length_append, List.length_map] at this
        rw [List.length_append]
        omega
      · obtain ⟨q, hq, rfl⟩ := List.mem_map.mp hp
        have hq2 : shP c q ∈ C2 ++ C1.map (shP m) := by rw [← u4]; exact List.mem_map.mpr ⟨q, hq, rfl⟩
        have modz : ∀ x : Int × Int, x ∈ chunks g (turned m Pc sc Sc) → ∀ j : Int, q.1 - t = x.1 + m * j → q.2 - q.1 = x.2 - x.1 → ((q.1 - t) % m, q.2 - q.1 + 1) ∈ (chunks g (turned m Pc sc Sc)).map fun p => (p.1, p.2 - p.1 + 1) := by
          intro x hx j y1 y2
          have f := fs x hx
          refine List.mem_map.mpr ⟨x, hx, ?_⟩
          rw [y1, y2, Int.add_mul_emod_self_left, Int.emod_eq_of_lt f.1 f.2]
        rcases List.mem_append.mp hq2 with h | h
        · refine modz (shP c q) (by rw [u3]; exact List.mem_append_right _ h) (-k) ?_ ?_
          · show q.1 - t = q.1 + c + m * (-k)
            rw [Int.mul_neg]; omega
          · show q.2 - q.1 = q.2 + c - (q.1 + c)
            omega
        · obtain ⟨r, hr, er⟩ := List.mem_map.mp h
          have e1 : r.1 + m = q.1 + c := congrArg Prod.fst er
          have e2 : r.2 + m = q.2 + c := congrArg Prod.snd er
          refine modz r (by rw [u3]; exact List.mem_append_left _ hr) (1 - k) ?_ (by omega)
          rw [Int.mul_sub, Int.mul_one]
          omega
theorem around_turn (hs : List Bool) (t : Nat) (ht : t ≤ hs.length) (b g : Int) :
    (around hs.length (posn 0 hs) b g = none ∧ around hs.length (posn 0 (hs.drop t ++ hs.take t)) b g = none) ∨
      ∃ ps qs, around hs.length (posn 0 hs) b g = some ps ∧ around hs.length (posn 0 (hs.drop t ++ hs.take t)) b g = some qs ∧ qs.length = ps.length ∧ ∀ p ∈ ps, ((p.1 - t) % (hs.length : Int), p.2) ∈ qs := by
  have GU := good_posn (hs.drop t ++ hs.take t)
  have el : (hs.drop t ++ hs.take t).length = hs.length := by rw [List.length_append, List.length_drop, List.length_take]; omega
  rw [el] at GU
  refine around_rot (good_posn hs) GU ⟨posn 0 (hs.take t), posn (t : Int) (hs.drop t), ?_, ?_⟩
  · have := posn_app (hs.take t) (hs.drop t) 0
    rw [List.take_append_drop] at this
    rw [this]
    congr 2
    rw [List.length_take]
    omega
  · rw [posn_app]
    have a1 := posn_sh (-(t : Int)) (hs.drop t) t
    have a2 := posn_sh ((hs.length : Int) - t) (hs.take t) 0
    rw [← a1, ← a2]
    congr 2
    · omega
    · rw [List.length_drop]
      omega
end L79
namespace L79
open PySem PySem.Spec PyProof.Rows L2 DL
/-! ### the text of a result -/
def okT (k : Nat) (x : Str) : Prop := PyData.strOk x = true ∧ x.length ≤ k
theorem okT_app {j k : Nat} {a b : Str} (h1 : okT j a) (h2 : okT k b) : okT (j + k) (a ++ b) := by
  refine ⟨?_, by rw [PySem.Str.length_append]; exact Nat.add_le_add h1.2 h2.2⟩
  have a1 := h1.1
  have b1 := h2.1
  unfold PyData.strOk at *
  rw [PySem.Str.cps_append, Array.all_append, a1, b1]; rfl
theorem okT_mono {j k : Nat} {a : Str} (h : okT j a) (l : j ≤ k) : okT k a := ⟨h.1, Nat.le_trans h.2 l⟩
theorem okT_join {k : Nat} : ∀ ts : List Str, (∀ t ∈ ts, okT k t) → okT (ts.length * (k + 2)) (Str.join ", " ts)
  | [], _ => ⟨by decide +kernel, Nat.zero_le _⟩
  | [x], h => okT_mono (h x (List.mem_cons_self ..)) (by rw [List.length_singleton]; omega)
  | x :: y :: r, h => by
    have ih := okT_join (y :: r) fun t ht => h t (List.mem_cons_of_mem _ ht)
    have hx := h x (List.mem_cons_self ..)
    have hc : okT 2 (", " : Str) := ⟨by decide +kernel, by decide +kernel⟩
    have := okT_app (okT_app hx hc) ih
    refine okT_mono this ?_
    rw [List.length_cons (a := x), Nat.add_mul]
    omega
theorem okT_tuple {k : Nat} (ts : List Str) (h : ∀ t ∈ ts, okT k t) : okT (1 + ts.length * (k + 2) + 2) (tupleText ts) := by
  unfold tupleText
  refine okT_app (okT_app ⟨by decide +kernel, by decide +kernel⟩ (okT_join ts h)) ?_
  split
  · exact ⟨by decide +kernel, by decide +kernel⟩
  · exact ⟨by decide +kernel, by decide +kernel⟩
theorem okT_small : ∀ i : Fin 24, (PyData.strOk (PyData.shown (.int ((i.val : Nat) : Int))) && decide ((PyData.shown (.int ((i.val : Nat) : Int))).length ≤ 2)) = true := by decide +kernel
theorem okT_int (i : Int) (h : 0 ≤ i ∧ i < 24) : okT 2 (PyData.shown (.int i)) := by
  obtain ⟨j, rfl⟩ := Int.eq_ofNat_of_zero_le h.1
  have := okT_small ⟨j, by omega⟩
  rw [Bool.and_eq_true] at this
  exact ⟨this.1, of_decide_eq_true this.2⟩
theorem small_log (i : Int) (h : 0 ≤ i ∧ i < 24) : i.natAbs.log2 < 1920 := by
  have : i.natAbs.log2 ≤ i.natAbs := Nat.log2_le_self _
  omega
def smallP (p : Int × Int) : Prop := (0 ≤ p.1 ∧ p.1 < 24) ∧ (0 ≤ p.2 ∧ p.2 < 24)
theorem okT_pair (p : Int × Int) (h : smallP p) : okT 11 (PyData.shown (pairD p).py) := by
  have e : PyData.shown (pairD p).py = tupleText [PyData.shown (.int p.1), PyData.shown (.int p.2)] := by
    unfold pairD
    simp only [D.py, D.pys, PyData.shown, PyData.shownAll]
  rw [e]
  refine okT_mono (okT_tuple (k := 2) _ fun t ht => ?_) (by simp)
  rcases List.mem_cons.mp ht with rfl | ht
  · exact okT_int _ h.1
  · rcases List.mem_cons.mp ht with rfl | ht
    · exact okT_int _ h.2
    · cases ht
theorem show_pair (p : Int × Int) (h : smallP p) : (pairD p).py.showable = true := by
  unfold pairD
  simp only [D.py, D.pys, PyData.showable, PyData.showableAll, Bool.and_true]
  rw [decide_eq_true (small_log _ h.1), decide_eq_true (small_log _ h.2)]; rfl
theorem shownAll_pairs : ∀ ps : List (Int × Int), (∀ p ∈ ps, smallP p) → (∀ t ∈ PyData.shownAll (D.pys (ps.map pairD)), okT 11 t) ∧ (PyData.shownAll (D.pys (ps.map pairD))).length = ps.length ∧ PyData.showableAll (D.pys (ps.map pairD)) = true
  | [], _ => ⟨(fun t ht => by cases ht), rfl, rfl⟩
  | p :: ps, h => by
    obtain ⟨h1, h2, h3⟩ := shownAll_pairs ps fun q hq => h q (List.mem_cons_of_mem _ hq)
    have hp := h p (List.mem_cons_self ..)
    rw [List.map_cons]
    simp only [D.pys, PyData.shownAll, PyData.showableAll]
    refine ⟨fun t ht => ?_, by rw [List.length_cons, List.length_cons, h2], by rw [show_pair p hp, h3]; rfl⟩
    rcases List.mem_cons.mp ht with rfl | ht
    · exact okT_pair p hp
    · exact h1 t ht
def smallR (o : Option (List (Int × Int))) : Prop := ∀ ps, o = some ps → ps.length ≤ 100 ∧ ∀ p ∈ ps, smallP p
theorem repr_ok (o : Option (List (Int × Int))) (h : smallR o) : D.pl 8 (resD o) ∧ (resD o).py.showable = true ∧ (resD o).py.shown.length ≤ 1000000 ∧ PyData.strOk (resD o).py.shown = true := by
  cases o with
  | none => exact ⟨by rw [resD, pl_non]; trivial, rfl, by decide +kernel, by decide +kernel⟩
  | some ps =>
    obtain ⟨h1, h2⟩ := h ps rfl
    obtain ⟨a, b, c⟩ := shownAll_pairs ps h2
    have t := okT_tuple _ a
    have e : (resD (some ps)).py.shown = tupleText (PyData.shownAll (D.pys (ps.map pairD))) := by
      unfold resD
      simp only [D.py, PyData.shown]
    have e2 : (resD (some ps)).py.showable = true := by
      unfold resD
      simp only [D.py, PyData.showable]
      exact c
    rw [e]
    rw [b] at t
    exact ⟨pl_maps (pl_pair 6) ps, e2, Nat.le_trans t.2 (by omega), t.1⟩
theorem eqv_pairs : ∀ ps : List (Int × Int), PyData.eqvAll (D.pys (ps.map pairD)) (D.pys (ps.map pairD)) = true
  | [] => rfl
  | p :: ps => by
    rw [List.map_cons]
    unfold pairD
    simp only [D.pys, D.py, PyData.eqvAll, PyData.eqv, beq_self_eq_true, Bool.true_and, Bool.and_true]
    exact eqv_pairs ps
theorem eqb_res (o : Option (List (Int × Int))) : D.eqb (resD o) (resD o) = true := by
  cases o with
  | none => rfl
  | some ps =>
    unfold D.eqb resD
    simp only [D.py, PyData.eqv]
    exact eqv_pairs ps
theorem eqb_lists (ps : List (Int × Int)) : D.eqb (.lst (ps.map pairD)) (.lst (ps.map pairD)) = true := by
  unfold D.eqb
  simp only [D.py, PyData.eqv]
  exact eqv_pairs ps
theorem eqb_str (x : Str) : D.eqb (.str x) (.str x) = true := by
  unfold D.eqb
  simp only [D.py, PyData.eqv, beq_self_eq_true]
theorem eqb_pair (p : Int × Int) : D.eqb (pairD p) (pairD p) = true := by
  unfold D.eqb pairD
  simp only [D.py, D.pys, PyData.eqv, PyData.eqvAll, beq_self_eq_true, Bool.and_true]
theorem isIn_pair {p : Int × Int} {ps : List (Int × Int)} (h : p ∈ ps) : D.isIn (pairD p) (ps.map pairD) = true := by
  unfold D.isIn
  rw [List.any_map, List.any_eq_true]
  exact ⟨p, h, eqb_pair p⟩
/-- what a result can hold -/
theorem around_small {m b g : Int} {W : List Int} {ps : List (Int × Int)} (G : Good m W) (hm : 0 < m ∧ m < 24) (h : around m W b g = some ps) : ps.length ≤ W.length ∧ ∀ p ∈ ps, smallP p := by
  unfold around at h
  split at h
  · cases h
  · split at h
    · cases h
    · cases h
      have lb : (beginsC m g W).length ≤ W.length := by
        unfold beginsC
        refine Nat.le_trans (bigs_len g _ 0) ?_
        rw [gaps_len]
        exact Nat.le_refl _
      refine ⟨?_, fun p hp => ?_⟩
      · unfold foundC
        rw [List.length_map, List.length_zip]
        exact Nat.le_trans (Nat.min_le_left _ _) lb
      · unfold foundC at hp
        obtain ⟨q, hq, rfl⟩ := List.mem_map.mp hp
        refine ⟨?_, ?_⟩
        · show 0 ≤ W.getD q.1 0 ∧ W.getD q.1 0 < 24
          rw [List.getD_eq_getElem?_getD]
          cases e : W[q.1]? with
          | none => exact ⟨Int.le_refl _, by decide⟩
          | some x =>
            have := List.mem_of_getElem? e
            have l := G.lo x this
            have u := G.hi x this
            exact ⟨l, by show x < 24; omega⟩
        · have l := Int.emod_nonneg (W.getD ((q.2 - 1) % W.length) 0 - W.getD q.1 0) (show m ≠ 0 by omega)
          have u := Int.emod_lt_of_pos (W.getD ((q.2 - 1) % W.length) 0 - W.getD q.1 0) hm.1
          show 0 ≤ (W.getD ((q.2 - 1) % W.length) 0 - W.getD q.1 0) % m + 1 ∧ (W.getD ((q.2 - 1) % W.length) 0 - W.getD q.1 0) % m + 1 < 24
          omega
end L79
namespace L79
open PySem PySem.Spec PyProof.Rows L2 DL
def backD : D → Option D := fun d => match d with
  | _ => none
def laterD (m : Int) : D → Option D := fun d => match d with
  | .tup [.int x, y] => some (.tup [.int (x + m), y])
  | _ => none
def movedD (m t : Int) : D → Option D := fun d => match d with
  | .tup [.int x, y] => some (.tup [.int ((x - t) % m), y])
  | _ => none
theorem later_all (m : Int) : ∀ ps : List (Int × Int), (ps.map pairD).filterMap (laterD m) = (later m ps).map pairD
  | [] => rfl
  | p :: ps => by
    rw [List.map_cons, List.filterMap_cons_some (show laterD m (pairD p) = some (pairD (p.1 + m, p.2)) from rfl), later_all m ps]
    rfl
def movedP (m t : Int) (ps : List (Int × Int)) : List (Int × Int) := ps.map fun p => ((p.1 - t) % m, p.2)
theorem moved_all (m t : Int) : ∀ ps : List (Int × Int), (ps.map pairD).filterMap (movedD m t) = (movedP m t ps).map pairD
  | [] => rfl
  | p :: ps => by
    rw [List.map_cons, List.filterMap_cons_some (show movedD m t (pairD p) = some (pairD ((p.1 - t) % m, p.2)) from rfl), moved_all m t ps]
    rfl
theorem none_all : ∀ ds : List D, ds.filterMap backD = []
  | [] => rfl
  | d :: ds => by rw [List.filterMap_cons_none (show backD d = none from rfl), none_all ds]
theorem t11 (E : DEnds) (cs : List Int) (m w b g o t : Int) (n : Nat) (rs : List (List Bool)) (ps qs ts ms : List (Int × Int)) (d2 : D) (h1 : qs.length = ms.length) (h2 : ∀ p ∈ ms, p ∈ qs) (h3 : ts = ps ++ later m ps) (hl : ps.length ≤ 1000 ∧ ms.length ≤ 1000) (q : E.rt (.bl true) n) :
    kr_law_one_right_11 E [.val (.pen cs), .val (.int m), .val (.int w), .val (.int b), .val (.int g), .val (.int o), .val (.lst (rs.map rowD)), .val (.tup (ps.map pairD)), .val d2, .val (.int t), .val (.tup (qs.map pairD)), .val (.tup (ts.map pairD)), .val (.lst (ms.map pairD)), .no, .no, .no, .no] n := by
  simp only [kr_law_one_right_11, kr_law_one_right_10, kSeq, kAsg, kRet, kIfS, kDrop, kNext, kNever, kOwnS, kApp, kSub, kPar, kAndV_e, kOrV_e, kNotV, kAndT, kOrT, kNotT, kTest_e, isB_bl, kBin, kUn, kChain_e, condV, kCall, kCons, kNil, kTup, kLst, kLstO, kOut, kCompO, kIter, kEnum, kZip, kRng1, DL.kV, kB, kC, kIf, kStar, kSl, kPart, kNoPart, kFn, kFnK, kIsi2, kFor, gN, gTupD, gsCons, gsNil, kYes, dNeg, dAdd, dSub, dMod, dDiv, dMul, dPow, dCmp, dInt, dEq, dNe, dIn, dNotIn, dIx, dIsN, bLen, bInt, bAbs, bTuple, bList, bAny, bAll, bIsi, startD, okW, wipeD, List.map_cons, List.map_nil, List.cons_append, List.nil_append, List.getElem?_cons_zero, List.getElem?_cons_succ, List.set_cons_zero, List.set_cons_succ, List.length_cons, List.length_nil, List.replicate_succ, List.replicate_zero, List.all_cons, List.all_nil, Bool.and_true, Bool.true_and, tyn_int, tyn_bl, tyn_non, tyn_tup, tyn_lst, kit_ii, kit_ib, kit_tt, kit_ll, kit_lt, kit_tl, flat_int, v_int, flat_row, pl_non, pl_bl, pl_int, pl_tup, pl_lst, eqb_int, eqb_nil, eqb_non, D.isN, ne_eq, not_false_eq_true, true_and, and_true, if_true, if_false, Bool.false_eq_true, reduceCtorEq, String.reduceEq, Bool.not_true, Bool.not_false, Bool.or_false, Bool.false_or, Bool.or_true, Bool.true_or, Nat.zero_add, Nat.reduceAdd, Nat.reduceLeDiff, Nat.reduceSub, Nat.reduceEqDiff, bRepr, List.append_nil]
  have e1 : (((qs.map pairD).length : Nat) : Int) = (((ms.map pairD).length : Nat) : Int) := by rw [List.length_map, List.length_map, h1]
  rw [if_neg (by rw [e1, beq_self_eq_true]; exact Bool.false_ne_true)]
  refine ⟨by rw [List.length_map]; omega, ?_⟩
  refine comps_fm backD _ _ (fun d hd R hR => ?_) ?_
  · obtain ⟨p, hp, rfl⟩ := List.mem_map.mp hd
    have hin := isIn_pair (h2 p hp)
    have hR : R none n := hR
    have fp : (pairD p).flat = false := rfl
    have pq := pl_maps (pl_pair 6) qs
    have pp : D.pl 8 (pairD p) := by rw [pl_pair]; trivial
    simp only [kg_law_one_right_6, kt_law_one_right_5, ke_law_one_right_7, fp, Bool.false_and, hin, kSeq, kAsg, kRet, kIfS, kDrop, kNext, kNever, kOwnS, kApp, kSub, kPar, kAndV_e, kOrV_e, kNotV, kAndT, kOrT, kNotT, kTest_e, isB_bl, kBin, kUn, kChain_e, condV, kCall, kCons, kNil, kTup, kLst, kLstO, kOut, kCompO, kIter, kEnum, kZip, kRng1, DL.kV, kB, kC, kIf, kStar, kSl, kPart, kNoPart, kFn, kFnK, kIsi2, kFor, gN, gTupD, gsCons, gsNil, kYes, dNeg, dAdd, dSub, dMod, dDiv, dMul, dPow, dCmp, dInt, dEq, dNe, dIn, dNotIn, dIx, dIsN, bLen, bInt, bAbs, bTuple, bList, bAny, bAll, bIsi, startD, okW, wipeD, List.map_cons, List.map_nil, List.cons_append, List.nil_append, List.getElem?_cons_zero, List.getElem?_cons_succ, List.set_cons_zero, List.set_cons_succ, List.length_cons, List.length_nil, List.replicate_succ, List.replicate_zero, List.all_cons, List.all_nil, Bool.and_true, Bool.true_and, tyn_int, tyn_bl, tyn_non, tyn_tup, tyn_lst, kit_ii, kit_ib, kit_tt, kit_ll, kit_lt, kit_tl, flat_int, v_int, flat_row, pl_non, pl_bl, pl_int, pl_tup, pl_lst, eqb_int, eqb_nil, eqb_non, D.isN, ne_eq, not_false_eq_true, true_and, and_true, if_true, if_false, Bool.false_eq_true, reduceCtorEq, String.reduceEq, Bool.not_true, Bool.not_false, Bool.or_false, Bool.false_or, Bool.or_true, Bool.true_or, Nat.zero_add, Nat.reduceAdd, Nat.reduceLeDiff, Nat.reduceSub, Nat.reduceEqDiff, bRepr, List.append_nil]
    exact ⟨pp, pq, hR⟩
  · rw [List.nil_append, none_all]
    refine ⟨(fun d hd => by cases hd), (fun d hd => by cases hd), ?_⟩
    rw [if_neg (by show ¬ (!true) = true; decide)]
    refine ⟨by rw [List.length_map]; omega, ?_⟩
    refine comps_fm (laterD m) _ _ (fun d hd R hR => ?_) ?_
    · obtain ⟨p, hp, rfl⟩ := List.mem_map.mp hd
      have hR : R (some (pairD (p.1 + m, p.2))) n := hR
      simp only [kg_law_one_right_8, ke_law_one_right_9, pairD, kSeq, kAsg, kRet, kIfS, kDrop, kNext, kNever, kOwnS, kApp, kSub, kPar, kAndV_e, kOrV_e, kNotV, kAndT, kOrT, kNotT, kTest_e, isB_bl, kBin, kUn, kChain_e, condV, kCall, kCons, kNil, kTup, kLst, kLstO, kOut, kCompO, kIter, kEnum, kZip, kRng1, DL.kV, kB, kC, kIf, kStar, kSl, kPart, kNoPart, kFn, kFnK, kIsi2, kFor, gN, gTupD, gsCons, gsNil, kYes, dNeg, dAdd, dSub, dMod, dDiv, dMul, dPow, dCmp, dInt, dEq, dNe, dIn, dNotIn, dIx, dIsN, bLen, bInt, bAbs, bTuple, bList, bAny, bAll, bIsi, startD, okW, wipeD, List.map_cons, List.map_nil, List.cons_append, List.nil_append, List.getElem?_cons_zero, List.getElem?_cons_succ, List.set_cons_zero, List.set_cons_succ, List.length_cons, List.length_nil, List.replicate_succ, List.replicate_zero, List.all_cons, List.all_nil, Bool.and_true, Bool.true_and, tyn_int, tyn_bl, tyn_non, tyn_tup, tyn_lst, kit_ii, kit_ib, kit_tt, kit_ll, kit_lt, kit_tl, flat_int, v_int, flat_row, pl_non, pl_bl, pl_int, pl_tup, pl_lst, eqb_int, eqb_nil, eqb_non, D.isN, ne_eq, not_false_eq_true, true_and, and_true, if_true, if_false, Bool.false_eq_true, reduceCtorEq, String.reduceEq, Bool.not_true, Bool.not_false, Bool.or_false, Bool.false_or, Bool.or_true, Bool.true_or, Nat.zero_add, Nat.reduceAdd, Nat.reduceLeDiff, Nat.reduceSub, Nat.reduceEqDiff, bRepr, List.append_nil]
      exact hR
    · rw [List.nil_append, later_all, ← List.map_append, ← h3]
      have ll : (later m ps).length = ps.length := List.length_map ..
      refine ⟨by rw [List.length_map, List.length_map, ll]; omega, pl_maps (pl_pair 6) _, pl_maps (pl_pair 6) _, ?_⟩
      rw [eqb_lists]
      exact q
theorem t12 (E : DEnds) (cs : List Int) (m w b g o t : Int) (n : Nat) (rs : List (List Bool)) (ps qs ts : List (Int × Int)) (d2 : D) (hm : 0 < m) (h1 : qs.length = ps.length) (h2 : ∀ p ∈ movedP m t ps, p ∈ qs) (h3 : ts = ps ++ later m ps) (hl : ps.length ≤ 1000) (q : E.rt (.bl true) n) :
    kr_law_one_right_12 E [.val (.pen cs), .val (.int m), .val (.int w), .val (.int b), .val (.int g), .val (.int o), .val (.lst (rs.map rowD)), .val (.tup (ps.map pairD)), .val d2, .val (.int t), .val (.tup (qs.map pairD)), .val (.tup (ts.map pairD)), .no, .no, .no, .no, .no] n := by
  simp only [kr_law_one_right_12, kSeq, kAsg, kRet, kIfS, kDrop, kNext, kNever, kOwnS, kApp, kSub, kPar, kAndV_e, kOrV_e, kNotV, kAndT, kOrT, kNotT, kTest_e, isB_bl, kBin, kUn, kChain_e, condV, kCall, kCons, kNil, kTup, kLst, kLstO, kOut, kCompO, kIter, kEnum, kZip, kRng1, DL.kV, kB, kC, kIf, kStar, kSl, kPart, kNoPart, kFn, kFnK, kIsi2, kFor, gN, gTupD, gsCons, gsNil, kYes, dNeg, dAdd, dSub, dMod, dDiv, dMul, dPow, dCmp, dInt, dEq, dNe, dIn, dNotIn, dIx, dIsN, bLen, bInt, bAbs, bTuple, bList, bAny, bAll, bIsi, startD, okW, wipeD, List.map_cons, List.map_nil, List.cons_append, List.nil_append, List.getElem?_cons_zero, List.getElem?_cons_succ, List.set_cons_zero, List.set_cons_succ, List.length_cons, List.length_nil, List.replicate_succ, List.replicate_zero, List.all_cons, List.all_nil, Bool.and_true, Bool.true_and, tyn_int, tyn_bl, tyn_non, tyn_tup, tyn_lst, kit_ii, kit_ib, kit_tt, kit_ll, kit_lt, kit_tl, flat_int, v_int, flat_row, pl_non, pl_bl, pl_int, pl_tup, pl_lst, eqb_int, eqb_nil, eqb_non, D.isN, ne_eq, not_false_eq_true, true_and, and_true, if_true, if_false, Bool.false_eq_true, reduceCtorEq, String.reduceEq, Bool.not_true, Bool.not_false, Bool.or_false, Bool.false_or, Bool.or_true, Bool.true_or, Nat.zero_add, Nat.reduceAdd, Nat.reduceLeDiff, Nat.reduceSub, Nat.reduceEqDiff, bRepr, List.append_nil]
  refine ⟨by rw [List.length_map]; omega, ?_⟩
  refine comps_fm (movedD m t) _ _ (fun d hd R hR => ?_) ?_
  · obtain ⟨p, hp, rfl⟩ := List.mem_map.mp hd
    have hR : R (some (pairD ((p.1 - t) % m, p.2))) n := hR
    simp only [kg_law_one_right_3, ke_law_one_right_4, pairD, kSeq, kAsg, kRet, kIfS, kDrop, kNext, kNever, kOwnS, kApp, kSub, kPar, kAndV_e, kOrV_e, kNotV, kAndT, kOrT, kNotT, kTest_e, isB_bl, kBin, kUn, kChain_e, condV, kCall, kCons, kNil, kTup, kLst, kLstO, kOut, kCompO, kIter, kEnum, kZip, kRng1, DL.kV, kB, kC, kIf, kStar, kSl, kPart, kNoPart, kFn, kFnK, kIsi2, kFor, gN, gTupD, gsCons, gsNil, kYes, dNeg, dAdd, dSub, dMod, dDiv, dMul, dPow, dCmp, dInt, dEq, dNe, dIn, dNotIn, dIx, dIsN, bLen, bInt, bAbs, bTuple, bList, bAny, bAll, bIsi, startD, okW, wipeD, List.map_cons, List.map_nil, List.cons_append, List.nil_append, List.getElem?_cons_zero, List.getElem?_cons_succ, List.set_cons_zero, List.set_cons_succ, List.length_cons, List.length_nil, List.replicate_succ, List.replicate_zero, List.all_cons, List.all_nil, Bool.and_true, Bool.true_and, tyn_int, tyn_bl, tyn_non, tyn_tup, tyn_lst, kit_ii, kit_ib, kit_tt, kit_ll, kit_lt, kit_tl, flat_int, v_int, flat_row, pl_non, pl_bl, pl_int, pl_tup, pl_lst, eqb_int, eqb_nil, eqb_non, D.isN, ne_eq, not_false_eq_true, true_and, and_true, if_true, if_false, Bool.false_eq_true, reduceCtorEq, String.reduceEq, Bool.not_true, Bool.not_false, Bool.or_false, Bool.false_or, Bool.or_true, Bool.true_or, Nat.zero_add, Nat.reduceAdd, Nat.reduceLeDiff, Nat.reduceSub, Nat.reduceEqDiff, bRepr, List.append_nil]
    exact ⟨hm, hR⟩
  · rw [List.nil_append, moved_all]
    have ml : (movedP m t ps).length = ps.length := List.length_map ..
    exact t11 E cs m w b g o t n rs ps qs ts _ d2 (by rw [ml, h1]) h2 h3 ⟨hl, by omega⟩ q
/-- from the three results on -/
theorem t14 (E : DEnds) (cs : List Int) (m w b g o t : Int) (n : Nat) (rs : List (List Bool)) (r1 r2 r3 : Option (List (Int × Int))) (d2 : D) (hm : 0 < m) (hs : ∀ ps, r1 = some ps → ps.length ≤ 1000)
    (h1 : (r1 = none ∧ r2 = none) ∨ ∃ ps qs, r1 = some ps ∧ r2 = some qs ∧ qs.length = ps.length ∧ ∀ p ∈ ps, ((p.1 - t) % m, p.2) ∈ qs) (h3 : r3 = r1.map fun ps => ps ++ later m ps) (q : E.rt (.bl true) n) :
    kr_law_one_right_14 E [.val (.pen cs), .val (.int m), .val (.int w), .val (.int b), .val (.int g), .val (.int o), .val (.lst (rs.map rowD)), .val (resD r1), .val d2, .val (.int t), .val (resD r2), .val (resD r3), .no, .no, .no, .no, .no] n := by
  subst h3
  rcases h1 with ⟨rfl, rfl⟩ | ⟨ps, qs, rfl, rfl, e1, e2⟩
  · simp only [kr_law_one_right_14, resD, Option.map_none, kSeq, kAsg, kRet, kIfS, kDrop, kNext, kNever, kOwnS, kApp, kSub, kPar, kAndV_e, kOrV_e, kNotV, kAndT, kOrT, kNotT, kTest_e, isB_bl, kBin, kUn, kChain_e, condV, kCall, kCons, kNil, kTup, kLst, kLstO, kOut, kCompO, kIter, kEnum, kZip, kRng1, DL.kV, kB, kC, kIf, kStar, kSl, kPart, kNoPart, kFn, kFnK, kIsi2, kFor, gN, gTupD, gsCons, gsNil, kYes, dNeg, dAdd, dSub, dMod, dDiv, dMul, dPow, dCmp, dInt, dEq, dNe, dIn, dNotIn, dIx, dIsN, bLen, bInt, bAbs, bTuple, bList, bAny, bAll, bIsi, startD, okW, wipeD, List.map_cons, List.map_nil, List.cons_append, List.nil_append, List.getElem?_cons_zero, List.getElem?_cons_succ, List.set_cons_zero, List.set_cons_succ, List.length_cons, List.length_nil, List.replicate_succ, List.replicate_zero, List.all_cons, List.all_nil, Bool.and_true, Bool.true_and, tyn_int, tyn_bl, tyn_non, tyn_tup, tyn_lst, kit_ii, kit_ib, kit_tt, kit_ll, kit_lt, kit_tl, flat_int, v_int, flat_row, pl_non, pl_bl, pl_int, pl_tup, pl_lst, eqb_int, eqb_nil, eqb_non, D.isN, ne_eq, not_false_eq_true, true_and, and_true, if_true, if_false, Bool.false_eq_true, reduceCtorEq, String.reduceEq, Bool.not_true, Bool.not_false, Bool.or_false, Bool.false_or, Bool.or_true, Bool.true_or, Nat.zero_add, Nat.reduceAdd, Nat.reduceLeDiff, Nat.reduceSub, Nat.reduceEqDiff, bRepr, List.append_nil]
    exact q
  · have z := t12 E cs m w b g o t n rs ps qs _ d2 hm e1 (fun p hp => by obtain ⟨x, hx, rfl⟩ := List.mem_map.mp hp; exact e2 x hx) rfl (hs ps rfl) q
    simp only [kr_law_one_right_14, kr_law_one_right_13, resD, Option.map_some, kSeq, kAsg, kRet, kIfS, kDrop, kNext, kNever, kOwnS, kApp, kSub, kPar, kAndV_e, kOrV_e, kNotV, kAndT, kOrT, kNotT, kTest_e, isB_bl, kBin, kUn, kChain_e, condV, kCall, kCons, kNil, kTup, kLst, kLstO, kOut, kCompO, kIter, kEnum, kZip, kRng1, DL.kV, kB, kC, kIf, kStar, kSl, kPart, kNoPart, kFn, kFnK, kIsi2, kFor, gN, gTupD, gsCons, gsNil, kYes, dNeg, dAdd, dSub, dMod, dDiv, dMul, dPow, dCmp, dInt, dEq, dNe, dIn, dNotIn, dIx, dIsN, bLen, bInt, bAbs, bTuple, bList, bAny, bAll, bIsi, startD, okW, wipeD, List.map_cons, List.map_nil, List.cons_append, List.nil_append, List.getElem?_cons_zero, List.getElem?_cons_succ, List.set_cons_zero, List.set_cons_succ, List.length_cons, List.length_nil, List.replicate_succ, List.replicate_zero, List.all_cons, List.all_nil, Bool.and_true, Bool.true_and, tyn_int, tyn_bl, tyn_non, tyn_tup, tyn_lst, kit_ii, kit_ib, kit_tt, kit_ll, kit_lt, kit_tl, flat_int, v_int, flat_row, pl_non, pl_bl, pl_int, pl_tup, pl_lst, eqb_int, eqb_nil, eqb_non, D.isN, ne_eq, not_false_eq_true, true_and, and_true, if_true, if_false, Bool.false_eq_true, reduceCtorEq, String.reduceEq, Bool.not_true, Bool.not_false, Bool.or_false, Bool.false_or, Bool.or_true, Bool.true_or, Nat.zero_add, Nat.reduceAdd, Nat.reduceLeDiff, Nat.reduceSub, Nat.reduceEqDiff, bRepr, List.append_nil]
    exact z
/-- what is known of the rows -/
structure Rws (m b g : Int) (rs : List (List Bool)) : Prop where
  m : m = rs.length
  ne : rs ≠ []
  le : rs.length ≤ 12
  row : ∀ r ∈ rs, r.length ≤ 2
  bg : 1 ≤ b ∧ b ≤ 8 ∧ 0 ≤ g ∧ g ≤ 24
theorem rows_ok {rs : List (List Bool)} {d : D} (h : d = .lst (rs.map rowD) ∨ d = .tup (rs.map rowD)) (hl : rs.length ≤ 24) (hr : ∀ r ∈ rs, r.length ≤ 2) : rowsIs rs d := ⟨h, by omega, fun r hx => by have := hr r hx; omega⟩
theorem t15 (E : DEnds) (cs : List Int) (m w b g o : Int) (n t : Nat) (rs : List (List Bool)) (d2 : D) (K : Rws m b g rs) (ht : t ≤ rs.length) (q : E.rt (.bl true) n) :
    kr_law_one_right_15 E [.val (.pen cs), .val (.int m), .val (.int w), .val (.int b), .val (.int g), .val (.int o), .val (.lst (rs.map rowD)), .val (resD (around rs.length (wrongs rs) b g)), .val d2, .val (.int t), .no, .no, .no, .no, .no, .no, .no] n := by
  have hl : 0 < rs.length := List.length_pos_iff.mpr K.ne
  have le := K.le
  have cut1 : DL.cutD (rs.map rowD) (some (t : Int)) none = (rs.drop t).map rowD := by
    show ((rs.map rowD).drop (min (t : Int).toNat (rs.map rowD).length)).take ((rs.map rowD).length - min (t : Int).toNat (rs.map rowD).length) = _
    rw [List.length_map, Int.toNat_natCast, Nat.min_eq_left ht, ← List.map_drop]
    exact List.take_of_length_le (by rw [List.length_map, List.length_drop]; omega)
  have cut2 : DL.cutD (rs.map rowD) none (some (t : Int)) = (rs.take t).map rowD := by
    show ((rs.map rowD).drop 0).take (min (t : Int).toNat (rs.map rowD).length - 0) = _
    rw [List.length_map, Int.toNat_natCast, Nat.min_eq_left ht, List.drop_zero, Nat.sub_zero, List.map_take]
  simp only [kr_law_one_right_15, c_bursts_around, kSeq, kAsg, kRet, kIfS, kDrop, kNext, kNever, kOwnS, kApp, kSub, kPar, kAndV_e, kOrV_e, kNotV, kAndT, kOrT, kNotT, kTest_e, isB_bl, kBin, kUn, kChain_e, condV, kCall, kCons, kNil, kTup, kLst, kLstO, kOut, kCompO, kIter, kEnum, kZip, kRng1, DL.kV, kB, kC, kIf, kStar, kSl, kPart, kNoPart, kFn, kFnK, kIsi2, kFor, gN, gTupD, gsCons, gsNil, kYes, dNeg, dAdd, dSub, dMod, dDiv, dMul, dPow, dCmp, dInt, dEq, dNe, dIn, dNotIn, dIx, dIsN, bLen, bInt, bAbs, bTuple, bList, bAny, bAll, bIsi, startD, okW, wipeD, List.map_cons, List.map_nil, List.cons_append, List.nil_append, List.getElem?_cons_zero, List.getElem?_cons_succ, List.set_cons_zero, List.set_cons_succ, List.length_cons, List.length_nil, List.replicate_succ, List.replicate_zero, List.all_cons, List.all_nil, Bool.and_true, Bool.true_and, tyn_int, tyn_bl, tyn_non, tyn_tup, tyn_lst, kit_ii, kit_ib, kit_tt, kit_ll, kit_lt, kit_tl, flat_int, v_int, flat_row, pl_non, pl_bl, pl_int, pl_tup, pl_lst, eqb_int, eqb_nil, eqb_non, D.isN, ne_eq, not_false_eq_true, true_and, and_true, if_true, if_false, Bool.false_eq_true, reduceCtorEq, String.reduceEq, Bool.not_true, Bool.not_false, Bool.or_false, Bool.false_or, Bool.or_true, Bool.true_or, Nat.zero_add, Nat.reduceAdd, Nat.reduceLeDiff, Nat.reduceSub, Nat.reduceEqDiff, bRepr, List.append_nil]
  rw [cut1, cut2, ← List.map_append]
  have rot : (rs.drop t ++ rs.take t).length = rs.length := by rw [List.length_append, List.length_drop, List.length_take]; omega
  refine ⟨by rw [List.length_map, List.length_map, List.length_drop, List.length_take]; omega, rs.drop t ++ rs.take t, _, b, g, rfl, rows_ok (.inl rfl) (by omega) (fun r hr => ?_), ?_, K.bg, by decide, by decide, by rw [List.length_map]; show rs.length * 2 ≤ _; omega, rs ++ rs, _, b, g, rfl, rows_ok (.inl ?_) (by rw [List.length_append]; omega) (fun r hr => ?_), ?_, K.bg, ?_⟩
  · rcases List.mem_append.mp hr with h | h
    · exact K.row r (List.mem_of_mem_drop h)
    · exact K.row r (List.mem_of_mem_take h)
  · intro e
    rw [e, List.length_nil] at rot
    omega
  · show D.lst (List.replicate 2 (rs.map rowD)).flatten = _
    simp
  · rcases List.mem_append.mp hr with h | h <;> exact K.row r h
  · intro e
    have := congrArg List.length e
    rw [List.length_append, List.length_nil] at this
    omega
  · have G := good_posn (rs.map hot)
    rw [List.length_map] at G
    have tw := around_twice (rs.map hot) b g
    have tn := around_turn (rs.map hot) t (by rw [List.length_map]; exact ht) b g
    rw [List.length_map, ← List.map_append, List.length_map] at tw
    rw [List.length_map, ← List.map_drop, ← List.map_take, ← List.map_append] at tn
    refine t14 E cs m w b g o t n rs (around rs.length (wrongs rs) b g) _ _ d2 (by rw [K.m]; omega) (fun ps e => ?_) ?_ ?_ q
    · have := (around_small G (by omega) e).1
      have l2 := posn_len (rs.map hot) 0
      rw [List.length_map] at l2
      omega
    · rw [rot, K.m]
      exact tn
    · rw [K.m]
      exact tw
theorem t16 (E : DEnds) (cs : List Int) (m w b g o : Int) (n N : Nat) (rs : List (List Bool)) (d2 : D) (K : Rws m b g rs) (hn : n + 1 ≤ N) (hN : N ≤ 90000) (q : ∀ n', n' ≤ N → E.rt (.bl true) n') :
    kr_law_one_right_16 E [.val (.pen cs), .val (.int m), .val (.int w), .val (.int b), .val (.int g), .val (.int o), .val (.lst (rs.map rowD)), .val (resD (around rs.length (wrongs rs) b g)), .val d2, .no, .no, .no, .no, .no, .no, .no, .no] n := by
  have hl : 0 < rs.length := List.length_pos_iff.mpr K.ne
  have le := K.le
  have hm := K.m
  simp only [kr_law_one_right_16, c_law_draw, kSeq, kAsg, kRet, kIfS, kDrop, kNext, kNever, kOwnS, kApp, kSub, kPar, kAndV_e, kOrV_e, kNotV, kAndT, kOrT, kNotT, kTest_e, isB_bl, kBin, kUn, kChain_e, condV, kCall, kCons, kNil, kTup, kLst, kLstO, kOut, kCompO, kIter, kEnum, kZip, kRng1, DL.kV, kB, kC, kIf, kStar, kSl, kPart, kNoPart, kFn, kFnK, kIsi2, kFor, gN, gTupD, gsCons, gsNil, kYes, dNeg, dAdd, dSub, dMod, dDiv, dMul, dPow, dCmp, dInt, dEq, dNe, dIn, dNotIn, dIx, dIsN, bLen, bInt, bAbs, bTuple, bList, bAny, bAll, bIsi, startD, okW, wipeD, List.map_cons, List.map_nil, List.cons_append, List.nil_append, List.getElem?_cons_zero, List.getElem?_cons_succ, List.set_cons_zero, List.set_cons_succ, List.length_cons, List.length_nil, List.replicate_succ, List.replicate_zero, List.all_cons, List.all_nil, Bool.and_true, Bool.true_and, tyn_int, tyn_bl, tyn_non, tyn_tup, tyn_lst, kit_ii, kit_ib, kit_tt, kit_ll, kit_lt, kit_tl, flat_int, v_int, flat_row, pl_non, pl_bl, pl_int, pl_tup, pl_lst, eqb_int, eqb_nil, eqb_non, D.isN, ne_eq, not_false_eq_true, true_and, and_true, if_true, if_false, Bool.false_eq_true, reduceCtorEq, String.reduceEq, Bool.not_true, Bool.not_false, Bool.or_false, Bool.false_or, Bool.or_true, Bool.true_or, Nat.zero_add, Nat.reduceAdd, Nat.reduceLeDiff, Nat.reduceSub, Nat.reduceEqDiff, bRepr, List.append_nil]
  refine ⟨cs, m, rfl, ⟨by omega, by omega⟩, by omega, fun d a c n' hn' => ?_⟩
  obtain ⟨t, rfl⟩ := Int.eq_ofNat_of_zero_le a
  exact t15 E cs m w b g o n' t rs d2 K (by omega) (q n' (by omega))
theorem t17 (E : DEnds) (cs : List Int) (m w b g o : Int) (n N : Nat) (rs : List (List Bool)) (K : Rws m b g rs) (hn : n + 1 ≤ N) (hN : N ≤ 90000) (q : ∀ n', n' ≤ N → E.rt (.bl true) n') :
    kr_law_one_right_17 E [.val (.pen cs), .val (.int m), .val (.int w), .val (.int b), .val (.int g), .val (.int o), .val (.lst (rs.map rowD)), .val (resD (around rs.length (wrongs rs) b g)), .val (resD (around rs.length (wrongs rs) b g)), .no, .no, .no, .no, .no, .no, .no, .no] n := by
  have hl : 0 < rs.length := List.length_pos_iff.mpr K.ne
  have le := K.le
  have G := good_posn (rs.map hot)
  rw [List.length_map] at G
  have l2 := posn_len (rs.map hot) 0
  rw [List.length_map] at l2
  have sm : smallR (around rs.length (wrongs rs) b g) := fun ps e => by
    obtain ⟨a1, a2⟩ := around_small G (by omega) e
    exact ⟨by omega, a2⟩
  obtain ⟨o1, o2, o3, o4⟩ := repr_ok _ sm
  have z := t16 E cs m w b g o n N rs (resD (around rs.length (wrongs rs) b g)) K hn hN q
  simp only [kr_law_one_right_17, c_bursts_around, kSeq, kAsg, kRet, kIfS, kDrop, kNext, kNever, kOwnS, kApp, kSub, kPar, kAndV_e, kOrV_e, kNotV, kAndT, kOrT, kNotT, kTest_e, isB_bl, kBin, kUn, kChain_e, condV, kCall, kCons, kNil, kTup, kLst, kLstO, kOut, kCompO, kIter, kEnum, kZip, kRng1, DL.kV, kB, kC, kIf, kStar, kSl, kPart, kNoPart, kFn, kFnK, kIsi2, kFor, gN, gTupD, gsCons, gsNil, kYes, dNeg, dAdd, dSub, dMod, dDiv, dMul, dPow, dCmp, dInt, dEq, dNe, dIn, dNotIn, dIx, dIsN, bLen, bInt, bAbs, bTuple, bList, bAny, bAll, bIsi, startD, okW, wipeD, List.map_cons, List.map_nil, List.cons_append, List.nil_append, List.getElem?_cons_zero, List.getElem?_cons_succ, List.set_cons_zero, List.set_cons_succ, List.length_cons, List.length_nil, List.replicate_succ, List.replicate_zero, List.all_cons, List.all_nil, Bool.and_true, Bool.true_and, tyn_int, tyn_bl, tyn_non, tyn_tup, tyn_lst, kit_ii, kit_ib, kit_tt, kit_ll, kit_lt, kit_tl, flat_int, v_int, flat_row, pl_non, pl_bl, pl_int, pl_tup, pl_lst, eqb_int, eqb_nil, eqb_non, D.isN, ne_eq, not_false_eq_true, true_and, and_true, if_true, if_false, Bool.false_eq_true, reduceCtorEq, String.reduceEq, Bool.not_true, Bool.not_false, Bool.or_false, Bool.false_or, Bool.or_true, Bool.true_or, Nat.zero_add, Nat.reduceAdd, Nat.reduceLeDiff, Nat.reduceSub, Nat.reduceEqDiff, bRepr, List.append_nil]
  refine ⟨o1, o2, o3, o1, o2, o3, o4, o4, ?_⟩
  rw [eqb_str, if_neg (by decide)]
  refine ⟨rs, .tup (rs.map rowD), b, g, rfl, rows_ok (.inr rfl) (by omega) K.row, K.ne, K.bg, o1, o1, ?_⟩
  rw [eqb_res, if_neg (by decide)]
  exact z
theorem t19 (E : DEnds) (cs : List Int) (m w b g o : Int) (n N : Nat) (rs : List (List Bool)) (K : Rws m b g rs) (hn : n + 1 ≤ N) (hN : N ≤ 90000) (q : ∀ n', n' ≤ N → E.rt (.bl true) n') :
    kr_law_one_right_19 E [.val (.pen cs), .val (.int m), .val (.int w), .val (.int b), .val (.int g), .val (.int o), .val (.lst (rs.map rowD)), .no, .no, .no, .no, .no, .no, .no, .no, .no, .no] n := by
  have hl : 0 < rs.length := List.length_pos_iff.mpr K.ne
  have le := K.le
  have z := t17 E cs m w b g o n N rs K hn hN q
  have du := due_around (rs.map hot) b g (by intro e; exact K.ne (List.map_eq_nil_iff.mp e)) K.bg.1 K.bg.2.2.1
  rw [List.length_map] at du
  simp only [kr_law_one_right_19, kr_law_one_right_18, c_law_due, c_bursts_around, kSeq, kAsg, kRet, kIfS, kDrop, kNext, kNever, kOwnS, kApp, kSub, kPar, kAndV_e, kOrV_e, kNotV, kAndT, kOrT, kNotT, kTest_e, isB_bl, kBin, kUn, kChain_e, condV, kCall, kCons, kNil, kTup, kLst, kLstO, kOut, kCompO, kIter, kEnum, kZip, kRng1, DL.kV, kB, kC, kIf, kStar, kSl, kPart, kNoPart, kFn, kFnK, kIsi2, kFor, gN, gTupD, gsCons, gsNil, kYes, dNeg, dAdd, dSub, dMod, dDiv, dMul, dPow, dCmp, dInt, dEq, dNe, dIn, dNotIn, dIx, dIsN, bLen, bInt, bAbs, bTuple, bList, bAny, bAll, bIsi, startD, okW, wipeD, List.map_cons, List.map_nil, List.cons_append, List.nil_append, List.getElem?_cons_zero, List.getElem?_cons_succ, List.set_cons_zero, List.set_cons_succ, List.length_cons, List.length_nil, List.replicate_succ, List.replicate_zero, List.all_cons, List.all_nil, Bool.and_true, Bool.true_and, tyn_int, tyn_bl, tyn_non, tyn_tup, tyn_lst, kit_ii, kit_ib, kit_tt, kit_ll, kit_lt, kit_tl, flat_int, v_int, flat_row, pl_non, pl_bl, pl_int, pl_tup, pl_lst, eqb_int, eqb_nil, eqb_non, D.isN, ne_eq, not_false_eq_true, true_and, and_true, if_true, if_false, Bool.false_eq_true, reduceCtorEq, String.reduceEq, Bool.not_true, Bool.not_false, Bool.or_false, Bool.false_or, Bool.or_true, Bool.true_or, Nat.zero_add, Nat.reduceAdd, Nat.reduceLeDiff, Nat.reduceSub, Nat.reduceEqDiff, bRepr, List.append_nil]
  refine ⟨rs, b, g, rfl, K.ne, K.le, K.bg, rs, _, b, g, rfl, rows_ok (.inl rfl) (by omega) K.row, K.ne, K.bg, ?_⟩
  rw [du]
  exact z
end L79
namespace L79
open PySem PySem.Spec PyProof.Rows L2 DL
theorem tstep (x : D) (cs : List Int) (m w b g o : Int) (n : Nat) (R : Option D → Nat → Prop) (hw : w = 1 ∨ w = 2) (ho : 0 < o ∧ o < 1073741824) (hn : n + 2 ≤ 90000) (h : ∀ (r : List Bool) (n' : Nat), r.length ≤ 2 → n' ≤ n + 2 → R (some (rowD r)) n') :
    kg_law_one_right_1 x [.val (.pen cs), .val (.int m), .val (.int w), .val (.int b), .val (.int g), .val (.int o), .no, .no, .no, .no, .no, .no, .no, .no, .no, .no, .no] fun S2 => wipeD S2 [13] = [.val (.pen cs), .val (.int m), .val (.int w), .val (.int b), .val (.int g), .val (.int o), .no, .no, .no, .no, .no, .no, .no, .no, .no, .no, .no] ∧
      kYes S2 n fun b S3 n3 => S3 = S2 ∧ if b = true then ke_law_one_right_2 S2 n3 fun y S4 n4 => S4 = S2 ∧ R (some y) n4 else R none n3 := by
  simp only [kg_law_one_right_1, ke_law_one_right_2, c_law_draw, c_law_pick, c_law_all, kSeq, kAsg, kRet, kIfS, kDrop, kNext, kNever, kOwnS, kApp, kSub, kPar, kAndV_e, kOrV_e, kNotV, kAndT, kOrT, kNotT, kTest_e, isB_bl, kBin, kUn, kChain_e, condV, kCall, kCons, kNil, kTup, kLst, kLstO, kOut, kCompO, kIter, kEnum, kZip, kRng1, DL.kV, kB, kC, kIf, kStar, kSl, kPart, kNoPart, kFn, kFnK, kIsi2, kFor, gN, gTupD, gsCons, gsNil, kYes, dNeg, dAdd, dSub, dMod, dDiv, dMul, dPow, dCmp, dInt, dEq, dNe, dIn, dNotIn, dIx, dIsN, bLen, bInt, bAbs, bTuple, bList, bAny, bAll, bIsi, startD, okW, wipeD, List.map_cons, List.map_nil, List.cons_append, List.nil_append, List.getElem?_cons_zero, List.getElem?_cons_succ, List.set_cons_zero, List.set_cons_succ, List.length_cons, List.length_nil, List.replicate_succ, List.replicate_zero, List.all_cons, List.all_nil, Bool.and_true, Bool.true_and, tyn_int, tyn_bl, tyn_non, tyn_tup, tyn_lst, kit_ii, kit_ib, kit_tt, kit_ll, kit_lt, kit_tl, flat_int, v_int, flat_row, pl_non, pl_bl, pl_int, pl_tup, pl_lst, eqb_int, eqb_nil, eqb_non, D.isN, ne_eq, not_false_eq_true, true_and, and_true, if_true, if_false, Bool.false_eq_true, reduceCtorEq, String.reduceEq, Bool.not_true, Bool.not_false, Bool.or_false, Bool.false_or, Bool.or_true, Bool.true_or, Nat.zero_add, Nat.reduceAdd, Nat.reduceLeDiff, Nat.reduceSub, Nat.reduceEqDiff, bRepr, List.append_nil]
  refine ⟨cs, o, rfl, ho, by omega, fun d a c n' hn' => ?_⟩
  split
  · have rows : ∀ k : Nat, (k = 1 ∨ k = 2) → (allRows k).map rowD ≠ [] ∧ ((allRows k).map rowD).length ≤ 1000 ∧ ∀ e ∈ (allRows k).map rowD, ∀ n2, n2 ≤ n' + 1 → R (some e) n2 := by
      intro k hk
      have len : ∀ r ∈ allRows k, r.length ≤ 2 := by rcases hk with rfl | rfl <;> decide
      refine ⟨by rcases hk with rfl | rfl <;> simp [allRows], by rcases hk with rfl | rfl <;> decide, fun e he n2 hn2 => ?_⟩
      obtain ⟨r, hr, rfl⟩ := List.mem_map.mp he
      exact h r n2 (len r hr) (by omega)
    obtain ⟨k, hk, ek⟩ : ∃ k : Nat, (k = 1 ∨ k = 2) ∧ w = k := by
      rcases hw with rfl | rfl
      · exact ⟨1, .inl rfl, rfl⟩
      · exact ⟨2, .inr rfl, rfl⟩
    obtain ⟨y1, y2, y3⟩ := rows k hk
    exact ⟨k, by rw [ek], by omega, cs, _, rfl, y1, y2, by omega, y3⟩
  · rcases hw with rfl | rfl
    · exact ⟨.inl rfl, h [false] n' (by decide) (by omega)⟩
    · exact ⟨.inr ⟨by decide, by decide⟩, h [false, false] n' (by decide) (by omega)⟩
theorem rows_comp (cs : List Int) (m w b g o : Int) (Q : List D → Nat → Prop) (hw : w = 1 ∨ w = 2) (ho : 0 < o ∧ o < 1073741824) : ∀ (ds : List D) (rs0 : List (List Bool)) (n : Nat), (∀ r ∈ rs0, r.length ≤ 2) → n + 2 * ds.length ≤ 80000 →
    (∀ (rs : List (List Bool)) (n' : Nat), rs.length = rs0.length + ds.length → (∀ r ∈ rs, r.length ≤ 2) → n' ≤ n + 2 * ds.length → Q (rs.map rowD) n') → kComps kg_law_one_right_1 kYes ke_law_one_right_2 [13] [.val (.pen cs), .val (.int m), .val (.int w), .val (.int b), .val (.int g), .val (.int o), .no, .no, .no, .no, .no, .no, .no, .no, .no, .no, .no] ds (rs0.map rowD) n Q
  | [], rs0, n, h0, hn, q => q rs0 n rfl h0 (Nat.le_refl _)
  | d :: ds, rs0, n, h0, hn, q => by
    rw [List.length_cons] at hn q
    refine tstep d cs m w b g o n (fun oy n' => match oy with | some y => kComps kg_law_one_right_1 kYes ke_law_one_right_2 [13] [.val (.pen cs), .val (.int m), .val (.int w), .val (.int b), .val (.int g), .val (.int o), .no, .no, .no, .no, .no, .no, .no, .no, .no, .no, .no] ds (rs0.map rowD ++ [y]) n' Q | none => kComps kg_law_one_right_1 kYes ke_law_one_right_2 [13] [.val (.pen cs), .val (.int m), .val (.int w), .val (.int b), .val (.int g), .val (.int o), .no, .no, .no, .no, .no, .no, .no, .no, .no, .no, .no] ds (rs0.map rowD) n' Q) hw ho (by omega) fun r n' hr hn' => ?_
    have z := rows_comp cs m w b g o Q hw ho ds (rs0 ++ [r]) n' (fun r' h' => by
      rcases List.mem_append.mp h' with y | y
      · exact h0 r' y
      · rw [List.mem_singleton.mp y]; exact hr) (by omega) (fun rs n2 e1 e2 e3 => q rs n2 (by rw [e1, List.length_append, List.length_singleton]; omega) e2 (by omega))
    rw [List.map_append] at z
    exact z
theorem t20 (E : DEnds) (cs : List Int) (m w b g o : Int) (n : Nat) (hm : 1 ≤ m ∧ m ≤ 12) (hw : w = 1 ∨ w = 2) (ho : 0 < o ∧ o < 1073741824) (hbg : 1 ≤ b ∧ b ≤ 8 ∧ 0 ≤ g ∧ g ≤ 24) (hn : n ≤ 20000) (q : ∀ n', n' ≤ n + 40 → E.rt (.bl true) n') :
    kr_law_one_right_20 E [.val (.pen cs), .val (.int m), .val (.int w), .val (.int b), .val (.int g), .val (.int o), .no, .no, .no, .no, .no, .no, .no, .no, .no, .no, .no] n := by
  simp only [kr_law_one_right_20, kSeq, kAsg, kRet, kIfS, kDrop, kNext, kNever, kOwnS, kApp, kSub, kPar, kAndV_e, kOrV_e, kNotV, kAndT, kOrT, kNotT, kTest_e, isB_bl, kBin, kUn, kChain_e, condV, kCall, kCons, kNil, kTup, kLst, kLstO, kOut, kCompO, kIter, kEnum, kZip, kRng1, DL.kV, kB, kC, kIf, kStar, kSl, kPart, kNoPart, kFn, kFnK, kIsi2, kFor, gN, gTupD, gsCons, gsNil, kYes, dNeg, dAdd, dSub, dMod, dDiv, dMul, dPow, dCmp, dInt, dEq, dNe, dIn, dNotIn, dIx, dIsN, bLen, bInt, bAbs, bTuple, bList, bAny, bAll, bIsi, startD, okW, wipeD, List.map_cons, List.map_nil, List.cons_append, List.nil_append, List.getElem?_cons_zero, List.getElem?_cons_succ, List.set_cons_zero, List.set_cons_succ, List.length_cons, List.length_nil, List.replicate_succ, List.replicate_zero, List.all_cons, List.all_nil, Bool.and_true, Bool.true_and, tyn_int, tyn_bl, tyn_non, tyn_tup, tyn_lst, kit_ii, kit_ib, kit_tt, kit_ll, kit_lt, kit_tl, flat_int, v_int, flat_row, pl_non, pl_bl, pl_int, pl_tup, pl_lst, eqb_int, eqb_nil, eqb_non, D.isN, ne_eq, not_false_eq_true, true_and, and_true, if_true, if_false, Bool.false_eq_true, reduceCtorEq, String.reduceEq, Bool.not_true, Bool.not_false, Bool.or_false, Bool.false_or, Bool.or_true, Bool.true_or, Nat.zero_add, Nat.reduceAdd, Nat.reduceLeDiff, Nat.reduceSub, Nat.reduceEqDiff, bRepr, List.append_nil]
  refine ⟨⟨by omega, by omega⟩, by rw [rngD_len]; omega, ?_⟩
  refine rows_comp cs m w b g o _ hw ho _ [] n (fun r hr => by cases hr) (by rw [rngD_len]; omega) fun rs n' e1 e2 e3 => ?_
  rw [rngD_len, List.length_nil, Nat.zero_add] at e1
  rw [rngD_len] at e3
  exact t19 E cs m w b g o n' (n + 40) rs ⟨by omega, (by intro e; rw [e, List.length_nil] at e1; omega), by omega, e2, hbg⟩ (by omega) (by omega) q
theorem t21 (E : DEnds) (cs : List Int) (m w b g : Int) (n : Nat) (hm : 1 ≤ m ∧ m ≤ 12) (hw : w = 1 ∨ w = 2) (hbg : 1 ≤ b ∧ b ≤ 8 ∧ 0 ≤ g ∧ g ≤ 24) (hn : n ≤ 19000) (q : ∀ n', n' ≤ n + 50 → E.rt (.bl true) n') :
    kr_law_one_right_21 E [.val (.pen cs), .val (.int m), .val (.int w), .val (.int b), .val (.int g), .no, .no, .no, .no, .no, .no, .no, .no, .no, .no, .no, .no] n := by
  simp only [kr_law_one_right_21, c_law_draw, kSeq, kAsg, kRet, kIfS, kDrop, kNext, kNever, kOwnS, kApp, kSub, kPar, kAndV_e, kOrV_e, kNotV, kAndT, kOrT, kNotT, kTest_e, isB_bl, kBin, kUn, kChain_e, condV, kCall, kCons, kNil, kTup, kLst, kLstO, kOut, kCompO, kIter, kEnum, kZip, kRng1, DL.kV, kB, kC, kIf, kStar, kSl, kPart, kNoPart, kFn, kFnK, kIsi2, kFor, gN, gTupD, gsCons, gsNil, kYes, dNeg, dAdd, dSub, dMod, dDiv, dMul, dPow, dCmp, dInt, dEq, dNe, dIn, dNotIn, dIx, dIsN, bLen, bInt, bAbs, bTuple, bList, bAny, bAll, bIsi, startD, okW, wipeD, List.map_cons, List.map_nil, List.cons_append, List.nil_append, List.getElem?_cons_zero, List.getElem?_cons_succ, List.set_cons_zero, List.set_cons_succ, List.length_cons, List.length_nil, List.replicate_succ, List.replicate_zero, List.all_cons, List.all_nil, Bool.and_true, Bool.true_and, tyn_int, tyn_bl, tyn_non, tyn_tup, tyn_lst, kit_ii, kit_ib, kit_tt, kit_ll, kit_lt, kit_tl, flat_int, v_int, flat_row, pl_non, pl_bl, pl_int, pl_tup, pl_lst, eqb_int, eqb_nil, eqb_non, D.isN, ne_eq, not_false_eq_true, true_and, and_true, if_true, if_false, Bool.false_eq_true, reduceCtorEq, String.reduceEq, Bool.not_true, Bool.not_false, Bool.or_false, Bool.false_or, Bool.or_true, Bool.true_or, Nat.zero_add, Nat.reduceAdd, Nat.reduceLeDiff, Nat.reduceSub, Nat.reduceEqDiff, bRepr, List.append_nil]
  refine ⟨cs, 4, rfl, ⟨by decide, by decide⟩, by omega, fun d a c n' hn' => ?_⟩
  exact t20 E cs m w b g (2 + d) n' hm hw ⟨by omega, by omega⟩ hbg (by omega) fun n2 h2 => q n2 (by omega)
theorem m_law_one_right : ∀ ds n Q, c_law_one_right ds n Q → kb_law_one_right ⟨fun _ n' => Q .non n', Q, fun _ _ => False, fun _ _ => False⟩ (startD ["pen", "many", "width", "burst", "guard", "often", "rows", "due", "told", "turn", "other", "twice", "moved", "step", "first", "length", "one"] ds) n := by
  rintro ds n Q ⟨cs, rfl, hn, q⟩
  simp only [kb_law_one_right, c_law_draw, c_law_pick, kSeq, kAsg, kRet, kIfS, kDrop, kNext, kNever, kOwnS, kApp, kSub, kPar, kAndV_e, kOrV_e, kNotV, kAndT, kOrT, kNotT, kTest_e, isB_bl, kBin, kUn, kChain_e, condV, kCall, kCons, kNil, kTup, kLst, kLstO, kOut, kCompO, kIter, kEnum, kZip, kRng1, DL.kV, kB, kC, kIf, kStar, kSl, kPart, kNoPart, kFn, kFnK, kIsi2, kFor, gN, gTupD, gsCons, gsNil, kYes, dNeg, dAdd, dSub, dMod, dDiv, dMul, dPow, dCmp, dInt, dEq, dNe, dIn, dNotIn, dIx, dIsN, bLen, bInt, bAbs, bTuple, bList, bAny, bAll, bIsi, startD, okW, wipeD, List.map_cons, List.map_nil, List.cons_append, List.nil_append, List.getElem?_cons_zero, List.getElem?_cons_succ, List.set_cons_zero, List.set_cons_succ, List.length_cons, List.length_nil, List.replicate_succ, List.replicate_zero, List.all_cons, List.all_nil, Bool.and_true, Bool.true_and, tyn_int, tyn_bl, tyn_non, tyn_tup, tyn_lst, kit_ii, kit_ib, kit_tt, kit_ll, kit_lt, kit_tl, flat_int, v_int, flat_row, pl_non, pl_bl, pl_int, pl_tup, pl_lst, eqb_int, eqb_nil, eqb_non, D.isN, ne_eq, not_false_eq_true, true_and, and_true, if_true, if_false, Bool.false_eq_true, reduceCtorEq, String.reduceEq, Bool.not_true, Bool.not_false, Bool.or_false, Bool.false_or, Bool.or_true, Bool.true_or, Nat.zero_add, Nat.reduceAdd, Nat.reduceLeDiff, Nat.reduceSub, Nat.reduceEqDiff, bRepr, List.append_nil]
  refine ⟨cs, 12, rfl, ⟨by decide, by decide⟩, by omega, fun d1 a1 b1 n1 h1 => ?_⟩
  refine ⟨cs, 2, rfl, ⟨by decide, by decide⟩, by omega, fun d2 a2 b2 n2 h2 => ?_⟩
  refine ⟨cs, 8, rfl, ⟨by decide, by decide⟩, by omega, fun d3 a3 b3 n3 h3 => ?_⟩
  refine ⟨cs, _, rfl, by simp, by decide, by omega, fun d4 h4 n4 hn4 => ?_⟩
  have g4 : ∃ g : Int, d4 = .int g ∧ 0 ≤ g ∧ g ≤ 24 := by
    simp only [List.mem_cons, List.not_mem_nil, or_false] at h4
    rcases h4 with rfl | rfl | rfl | rfl | rfl | rfl | rfl <;> exact ⟨_, rfl, by decide, by decide⟩
  obtain ⟨g, rfl, g1, g2⟩ := g4
  exact t21 _ cs (1 + d1) (1 + d2) (1 + d3) g n4 ⟨by omega, by omega⟩ (by omega) ⟨by omega, by omega, g1, g2⟩ (by omega) fun n' h' => q n' (by omega)
theorem lap_loop (E : DEnds) (cs : List Int) (s0 s3 : Sl) : ∀ (ds : List D) (s2 : Sl) (n : Nat), n + 100 * ds.length ≤ 10000 → (∀ s2 n', n' ≤ n + 100 * ds.length → E.nx [s0, .val (.pen cs), s2, s3] n') → kFors kg_law_1 kb_law_2 E ds [s0, .val (.pen cs), s2, s3] n
  | [], s2, n, hn, q => q s2 n (by omega)
  | d :: ds, s2, n, hn, q => by
    rw [List.length_cons] at hn q
    have ih := fun n' h1 h2 => lap_loop E cs s0 s3 ds (.val d) n' h1 h2
    rw [fors_cons]
    generalize kFors kg_law_1 kb_law_2 E ds = X at ih ⊢
    simp only [kg_law_1, kb_law_2, c_law_one_right, kSeq, kAsg, kRet, kIfS, kDrop, kNext, kNever, kOwnS, kApp, kSub, kPar, kAndV_e, kOrV_e, kNotV, kAndT, kOrT, kNotT, kTest_e, isB_bl, kBin, kUn, kChain_e, condV, kCall, kCons, kNil, kTup, kLst, kLstO, kOut, kCompO, kIter, kEnum, kZip, kRng1, DL.kV, kB, kC, kIf, kStar, kSl, kPart, kNoPart, kFn, kFnK, kIsi2, kFor, gN, gTupD, gsCons, gsNil, kYes, dNeg, dAdd, dSub, dMod, dDiv, dMul, dPow, dCmp, dInt, dEq, dNe, dIn, dNotIn, dIx, dIsN, bLen, bInt, bAbs, bTuple, bList, bAny, bAll, bIsi, startD, okW, wipeD, List.map_cons, List.map_nil, List.cons_append, List.nil_append, List.getElem?_cons_zero, List.getElem?_cons_succ, List.set_cons_zero, List.set_cons_succ, List.length_cons, List.length_nil, List.replicate_succ, List.replicate_zero, List.all_cons, List.all_nil, Bool.and_true, Bool.true_and, tyn_int, tyn_bl, tyn_non, tyn_tup, tyn_lst, kit_ii, kit_ib, kit_tt, kit_ll, kit_lt, kit_tl, flat_int, v_int, flat_row, pl_non, pl_bl, pl_int, pl_tup, pl_lst, eqb_int, eqb_nil, eqb_non, D.isN, ne_eq, not_false_eq_true, true_and, and_true, if_true, if_false, Bool.false_eq_true, reduceCtorEq, String.reduceEq, Bool.not_true, Bool.not_false, Bool.or_false, Bool.false_or, Bool.or_true, Bool.true_or, Nat.zero_add, Nat.reduceAdd, Nat.reduceLeDiff, Nat.reduceSub, Nat.reduceEqDiff, bRepr, List.append_nil]
    exact ⟨cs, rfl, by omega, fun n' h' => ih n' (by omega) fun s2 n2 h2 => q s2 n2 (by omega)⟩
theorem m_law : ∀ cs : List Int, kb_law ⟨fun _ _ => False, fun d _ => d = .bl true, fun _ _ => False, fun _ _ => False⟩ (.no :: .val (.pen cs) :: List.replicate 2 .no) 0 := by
  intro cs
  simp only [kb_law, kSeq, kAsg, kRet, kIfS, kDrop, kNext, kNever, kOwnS, kApp, kSub, kPar, kAndV_e, kOrV_e, kNotV, kAndT, kOrT, kNotT, kTest_e, isB_bl, kBin, kUn, kChain_e, condV, kCall, kCons, kNil, kTup, kLst, kLstO, kOut, kCompO, kIter, kEnum, kZip, kRng1, DL.kV, kB, kC, kIf, kStar, kSl, kPart, kNoPart, kFn, kFnK, kIsi2, kFor, gN, gTupD, gsCons, gsNil, kYes, dNeg, dAdd, dSub, dMod, dDiv, dMul, dPow, dCmp, dInt, dEq, dNe, dIn, dNotIn, dIx, dIsN, bLen, bInt, bAbs, bTuple, bList, bAny, bAll, bIsi, startD, okW, wipeD, List.map_cons, List.map_nil, List.cons_append, List.nil_append, List.getElem?_cons_zero, List.getElem?_cons_succ, List.set_cons_zero, List.set_cons_succ, List.length_cons, List.length_nil, List.replicate_succ, List.replicate_zero, List.all_cons, List.all_nil, Bool.and_true, Bool.true_and, tyn_int, tyn_bl, tyn_non, tyn_tup, tyn_lst, kit_ii, kit_ib, kit_tt, kit_ll, kit_lt, kit_tl, flat_int, v_int, flat_row, pl_non, pl_bl, pl_int, pl_tup, pl_lst, eqb_int, eqb_nil, eqb_non, D.isN, ne_eq, not_false_eq_true, true_and, and_true, if_true, if_false, Bool.false_eq_true, reduceCtorEq, String.reduceEq, Bool.not_true, Bool.not_false, Bool.or_false, Bool.false_or, Bool.or_true, Bool.true_or, Nat.zero_add, Nat.reduceAdd, Nat.reduceLeDiff, Nat.reduceSub, Nat.reduceEqDiff, bRepr, List.append_nil]
  refine ⟨by decide, ?_⟩
  refine lap_loop _ cs _ _ _ _ 0 (by rw [rngD_len]; decide) fun s2 n' h' => ?_
  have a1 : around (([[true], [false], [false], [true]] : List (List Bool)).length : Nat) (wrongs [[true], [false], [false], [true]]) 2 2 = some [(3, 2)] := by decide
  have a2 : around (([[true], [false], [false], [true]] : List (List Bool)).length : Nat) (wrongs [[true], [false], [false], [true]]) 1 2 = none := by decide
  have a3 : around (([[true], [false], [false], [true]] : List (List Bool)).length : Nat) (wrongs [[true], [false], [false], [true]]) 2 3 = none := by decide
  have a4 : around (([[true, true]] : List (List Bool)).length : Nat) (wrongs [[true, true]]) 8 0 = some [(0, 1)] := by decide
  have p7 : ∀ o, D.pl 7 (resD o) := fun o => by
    cases o with
    | none => rw [resD, pl_non]; trivial
    | some ps => exact pl_maps (pl_pair 5) ps
  have p8 : ∀ o, D.pl 8 (resD o) := fun o => by
    cases o with
    | none => rw [resD, pl_non]; trivial
    | some ps => exact pl_maps (pl_pair 6) ps
  have three : ∀ d ∈ [resD (some [(3, 2)]), resD none, resD none], D.pl 7 d := fun d hd => by
    simp only [List.mem_cons, List.not_mem_nil, or_false] at hd
    rcases hd with rfl | rfl | rfl
    · exact p7 _
    · exact p7 _
    · exact p7 _
  simp only [c_bursts_around, kSeq, kAsg, kRet, kIfS, kDrop, kNext, kNever, kOwnS, kApp, kSub, kPar, kAndV_e, kOrV_e, kNotV, kAndT, kOrT, kNotT, kTest_e, isB_bl, kBin, kUn, kChain_e, condV, kCall, kCons, kNil, kTup, kLst, kLstO, kOut, kCompO, kIter, kEnum, kZip, kRng1, DL.kV, kB, kC, kIf, kStar, kSl, kPart, kNoPart, kFn, kFnK, kIsi2, kFor, gN, gTupD, gsCons, gsNil, kYes, dNeg, dAdd, dSub, dMod, dDiv, dMul, dPow, dCmp, dInt, dEq, dNe, dIn, dNotIn, dIx, dIsN, bLen, bInt, bAbs, bTuple, bList, bAny, bAll, bIsi, startD, okW, wipeD, List.map_cons, List.map_nil, List.cons_append, List.nil_append, List.getElem?_cons_zero, List.getElem?_cons_succ, List.set_cons_zero, List.set_cons_succ, List.length_cons, List.length_nil, List.replicate_succ, List.replicate_zero, List.all_cons, List.all_nil, Bool.and_true, Bool.true_and, tyn_int, tyn_bl, tyn_non, tyn_tup, tyn_lst, kit_ii, kit_ib, kit_tt, kit_ll, kit_lt, kit_tl, flat_int, v_int, flat_row, pl_non, pl_bl, pl_int, pl_tup, pl_lst, eqb_int, eqb_nil, eqb_non, D.isN, ne_eq, not_false_eq_true, true_and, and_true, if_true, if_false, Bool.false_eq_true, reduceCtorEq, String.reduceEq, Bool.not_true, Bool.not_false, Bool.or_false, Bool.false_or, Bool.or_true, Bool.true_or, Nat.zero_add, Nat.reduceAdd, Nat.reduceLeDiff, Nat.reduceSub, Nat.reduceEqDiff, bRepr, List.append_nil]
  refine ⟨[[true], [false], [false], [true]], _, 2, 2, rfl, rows_ok (.inl rfl) (by decide) (by decide), by simp, by decide, [[true], [false], [false], [true]], _, 1, 2, rfl, rows_ok (.inl rfl) (by decide) (by decide), by simp, by decide, [[true], [false], [false], [true]], _, 2, 3, rfl, rows_ok (.inl rfl) (by decide) (by decide), by simp, by decide, ?_⟩
  rw [a1, a2, a3]
  refine ⟨three, three, ?_⟩
  rw [if_pos (show (D.lst [resD (some [(3, 2)]), resD none, resD none]).eqb (.lst [.tup [.tup [.int 3, .int 2]], .non, .non]) = true from rfl)]
  refine ⟨[[true, true]], _, 8, 0, rfl, rows_ok (.inl rfl) (by decide) (by decide), by simp, by decide, ?_⟩
  rw [a4]
  exact ⟨p8 _, p8 (some [(0, 1)]), congrArg D.bl (show (resD (some [(0, 1)])).eqb (.tup [.tup [.int 0, .int 1]]) = true from rfl)⟩
end L79
namespace L79
open PySem PySem.Spec PyProof.Rows L2 DL
def topS (i : Nat) : Stmt := PySem.Challenge.pw_spreadchecks_k79_bursts_of_closed_rows.main.body.getD i (.Pass ⟨0, 0, 0, 0⟩)
abbrev s_is_bit : Stmt := topS 5
theorem sc_is_bit : FnScope ["value"] ["value"] (defScope s_is_bit) := ⟨rfl, rfl, rfl, by decide +kernel, rfl, by decide +kernel, by decide +kernel⟩
abbrev s_is_bits : Stmt := topS 6
theorem sc_is_bits : FnScope ["value", "many", "part"] ["value", "many"] (defScope s_is_bits) := ⟨rfl, rfl, rfl, by decide +kernel, rfl, by decide +kernel, by decide +kernel⟩
abbrev s_is_between : Stmt := topS 8
theorem sc_is_between : FnScope ["value", "low", "high"] ["value", "low", "high"] (defScope s_is_between) := ⟨rfl, rfl, rfl, by decide +kernel, rfl, by decide +kernel, by decide +kernel⟩
abbrev s_need_bursts : Stmt := topS 12
theorem sc_need_bursts : FnScope ["burst", "guard"] ["burst", "guard"] (defScope s_need_bursts) := ⟨rfl, rfl, rfl, by decide +kernel, rfl, by decide +kernel, by decide +kernel⟩
abbrev s_need_steps : Stmt := topS 13
theorem sc_need_steps : FnScope ["rows", "at", "row"] ["rows"] (defScope s_need_steps) := ⟨rfl, rfl, rfl, by decide +kernel, rfl, by decide +kernel, by decide +kernel⟩
abbrev s_wrong_steps : Stmt := topS 14
theorem sc_wrong_steps : FnScope ["rows", "at", "row"] ["rows"] (defScope s_wrong_steps) := ⟨rfl, rfl, rfl, by decide +kernel, rfl, by decide +kernel, by decide +kernel⟩
abbrev s_bursts_around : Stmt := topS 15
theorem sc_bursts_around : FnScope ["rows", "burst", "guard", "wrong", "many", "gaps", "begins", "found", "spot", "later", "first", "last", "before", "at", "gap", "begin", "length"] ["rows", "burst", "guard"] (defScope s_bursts_around) := ⟨rfl, rfl, rfl, by decide +kernel, rfl, by decide +kernel, by decide +kernel⟩
abbrev s_law_pen : Stmt := topS 17
theorem sc_law_pen : FnScope ["script", "cell"] ["script"] (defScope s_law_pen) := ⟨rfl, rfl, rfl, by decide +kernel, rfl, by decide +kernel, by decide +kernel⟩
abbrev s_law_draw : Stmt := topS 18
theorem sc_law_draw : FnScope ["pen", "many", "rest", "turn", "cell", "mixed"] ["pen", "many"] (defScope s_law_draw) := ⟨rfl, rfl, rfl, by decide +kernel, rfl, by decide +kernel, by decide +kernel⟩
abbrev s_law_pick : Stmt := topS 19
theorem sc_law_pick : FnScope ["pen", "some"] ["pen", "some"] (defScope s_law_pick) := ⟨rfl, rfl, rfl, by decide +kernel, rfl, by decide +kernel, by decide +kernel⟩
abbrev s_law_all : Stmt := topS 20
theorem sc_law_all : FnScope ["many", "found", "turn", "longer", "bits"] ["many"] (defScope s_law_all) := ⟨rfl, rfl, rfl, by decide +kernel, rfl, by decide +kernel, by decide +kernel⟩
abbrev s_law_parted : Stmt := topS 21
theorem sc_law_parted : FnScope ["rows", "guard", "found", "at", "row"] ["rows", "guard"] (defScope s_law_parted) := ⟨rfl, rfl, rfl, by decide +kernel, rfl, by decide +kernel, by decide +kernel⟩
abbrev s_law_due : Stmt := topS 22
theorem sc_law_due : FnScope ["rows", "burst", "guard", "many", "often", "found", "first", "last"] ["rows", "burst", "guard"] (defScope s_law_due) := ⟨rfl, rfl, rfl, by decide +kernel, rfl, by decide +kernel, by decide +kernel⟩
abbrev s_law_one_right : Stmt := topS 23
theorem sc_law_one_right : FnScope ["pen", "many", "width", "burst", "guard", "often", "rows", "due", "told", "turn", "other", "twice", "moved", "step", "first", "length", "one"] ["pen"] (defScope s_law_one_right) := ⟨rfl, rfl, rfl, by decide +kernel, rfl, by decide +kernel, by decide +kernel⟩
abbrev s_law : Stmt := topS 24
theorem sc_law : FnScope ["script", "pen", "lap", "row"] ["script"] (defScope s_law) := ⟨rfl, rfl, rfl, by decide +kernel, rfl, by decide +kernel, by decide +kernel⟩
structure Adr where
  f_is_bit : Addr
  d_is_bit : FuncData
  f_is_bits : Addr
  d_is_bits : FuncData
  f_is_between : Addr
  d_is_between : FuncData
  f_need_bursts : Addr
  d_need_bursts : FuncData
  f_need_steps : Addr
  d_need_steps : FuncData
  f_wrong_steps : Addr
  d_wrong_steps : FuncData
  f_bursts_around : Addr
  d_bursts_around : FuncData
  f_law_pen : Addr
  d_law_pen : FuncData
  f_law_draw : Addr
  d_law_draw : FuncData
  f_law_pick : Addr
  d_law_pick : FuncData
  f_law_all : Addr
  d_law_all : FuncData
  f_law_parted : Addr
  d_law_parted : FuncData
  f_law_due : Addr
  d_law_due : FuncData
  f_law_one_right : Addr
  d_law_one_right : FuncData
  f_law : Addr
  d_law : FuncData
  t_MOST_BURST : Tok
  t_MOST_GUARD : Tok
structure Txt (K : PySem.W.Frag) (mg : Str → Option Value) (A : Adr) : Prop where
  z_abs : mg "abs" = none
  z_all : mg "all" = none
  z_any : mg "any" = none
  z_bool : mg "bool" = none
  z_enumerate : mg "enumerate" = none
  z_int : mg "int" = none
  z_isinstance : mg "isinstance" = none
  z_len : mg "len" = none
  z_list : mg "list" = none
  z_range : mg "range" = none
  z_repr : mg "repr" = none
  z_tuple : mg "tuple" = none
  z_zip : mg "zip" = none
  m_is_bit : mg "is_bit" = some (.ref A.f_is_bit)
  k_is_bit : PySem.W.keepIn K (.ref A.f_is_bit) = true
  F_is_bit : Fun K "is_bit" "is_bit" s_is_bit A.f_is_bit A.d_is_bit
  b_is_bit : Binds K A.d_is_bit ["value"] []
  m_is_bits : mg "is_bits" = some (.ref A.f_is_bits)
  k_is_bits : PySem.W.keepIn K (.ref A.f_is_bits) = true
  F_is_bits : Fun K "is_bits" "is_bits" s_is_bits A.f_is_bits A.d_is_bits
  b_is_bits : Binds K A.d_is_bits ["value", "many"] []
  m_is_between : mg "is_between" = some (.ref A.f_is_between)
  k_is_between : PySem.W.keepIn K (.ref A.f_is_between) = true
  F_is_between : Fun K "is_between" "is_between" s_is_between A.f_is_between A.d_is_between
  b_is_between : Binds K A.d_is_between ["value", "low", "high"] []
  m_need_bursts : mg "need_bursts" = some (.ref A.f_need_bursts)
  k_need_bursts : PySem.W.keepIn K (.ref A.f_need_bursts) = true
  F_need_bursts : Fun K "need_bursts" "need_bursts" s_need_bursts A.f_need_bursts A.d_need_bursts
  b_need_bursts : Binds K A.d_need_bursts ["burst", "guard"] []
  m_need_steps : mg "need_steps" = some (.ref A.f_need_steps)
  k_need_steps : PySem.W.keepIn K (.ref A.f_need_steps) = true
  F_need_steps : Fun K "need_steps" "need_steps" s_need_steps A.f_need_steps A.d_need_steps
  b_need_steps : Binds K A.d_need_steps ["rows"] []
  m_wrong_steps : mg "wrong_steps" = some (.ref A.f_wrong_steps)
  k_wrong_steps : PySem.W.keepIn K (.ref A.f_wrong_steps) = true
  F_wrong_steps : Fun K "wrong_steps" "wrong_steps" s_wrong_steps A.f_wrong_steps A.d_wrong_steps
  b_wrong_steps : Binds K A.d_wrong_steps ["rows"] []
  m_bursts_around : mg "bursts_around" = some (.ref A.f_bursts_around)
  k_bursts_around : PySem.W.keepIn K (.ref A.f_bursts_around) = true
  F_bursts_around : Fun K "bursts_around" "bursts_around" s_bursts_around A.f_bursts_around A.d_bursts_around
  b_bursts_around : Binds K A.d_bursts_around ["rows", "burst", "guard"] []
  m_law_pen : mg "_law_pen" = some (.ref A.f_law_pen)
  k_law_pen : PySem.W.keepIn K (.ref A.f_law_pen) = true
  F_law_pen : Fun K "_law_pen" "_law_pen" s_law_pen A.f_law_pen A.d_law_pen
  b_law_pen : Binds K A.d_law_pen ["script"] []
  m_law_draw : mg "_law_draw" = some (.ref A.f_law_draw)
  k_law_draw : PySem.W.keepIn K (.ref A.f_law_draw) = true
  F_law_draw : Fun K "_law_draw" "_law_draw" s_law_draw A.f_law_draw A.d_law_draw
  b_law_draw : Binds K A.d_law_draw ["pen", "many"] []
  m_law_pick : mg "_law_pick" = some (.ref A.f_law_pick)
  k_law_pick : PySem.W.keepIn K (.ref A.f_law_pick) = true
  F_law_pick : Fun K "_law_pick" "_law_pick" s_law_pick A.f_law_pick A.d_law_pick
  b_law_pick : Binds K A.d_law_pick ["pen", "some"] []
  m_law_all : mg "_law_all" = some (.ref A.f_law_all)
  k_law_all : PySem.W.keepIn K (.ref A.f_law_all) = true
  F_law_all : Fun K "_law_all" "_law_all" s_law_all A.f_law_all A.d_law_all
  b_law_all : Binds K A.d_law_all ["many"] []
  m_law_parted : mg "_law_parted" = some (.ref A.f_law_parted)
  k_law_parted : PySem.W.keepIn K (.ref A.f_law_parted) = true
  F_law_parted : Fun K "_law_parted" "_law_parted" s_law_parted A.f_law_parted A.d_law_parted
  b_law_parted : Binds K A.d_law_parted ["rows", "guard"] []
  m_law_due : mg "_law_due" = some (.ref A.f_law_due)
  k_law_due : PySem.W.keepIn K (.ref A.f_law_due) = true
  F_law_due : Fun K "_law_due" "_law_due" s_law_due A.f_law_due A.d_law_due
  b_law_due : Binds K A.d_law_due ["rows", "burst", "guard"] []
  m_law_one_right : mg "_law_one_right" = some (.ref A.f_law_one_right)
  k_law_one_right : PySem.W.keepIn K (.ref A.f_law_one_right) = true
  F_law_one_right : Fun K "_law_one_right" "_law_one_right" s_law_one_right A.f_law_one_right A.d_law_one_right
  b_law_one_right : Binds K A.d_law_one_right ["pen"] []
  m_law : mg "law" = some (.ref A.f_law)
  k_law : PySem.W.keepIn K (.ref A.f_law) = true
  F_law : Fun K "law" "law" s_law A.f_law A.d_law
  b_law : Binds K A.d_law ["script"] []
  kw_0 : KwB K A.d_bursts_around ["rows", "burst", "guard"] 0 ["guard", "burst", "rows"] [2, 1, 0]
  g_MOST_BURST : mg "MOST_BURST" = some (.int 8 A.t_MOST_BURST)
  g_MOST_GUARD : mg "MOST_GUARD" = some (.int 24 A.t_MOST_GUARD)
section
variable {P : Program} {w : World} {K : PySem.W.Frag} {mg : Str → Option Value} {base : Heap} {A : Adr}
theorem ok_is_bit (T : Txt K mg A) : FnG P w K mg base CX0 1 A.f_is_bit A.d_is_bit ["value"] (spD K c_is_bit) := by
  have S := sc_is_bit
  refine def_ok (k := 0) T.F_is_bit sc_is_bit l_is_bit (fun cdv A0 outer s H E st => ?_)
  exact ⟨_, kb_is_bit, (dss_one (by exact (ds_ret (by exact (de_and (by exact (de_blt call_isi d_isi T.z_isinstance (by exact (dab_cons (by exact (dbv 0 (pv 0))) (by exact (dab_cons (by exact (DE.b (by exact (de_cls T.z_int)))) dab_nil)))))) (by exact (de_and (by exact (de_not (by exact (de_blt call_isi d_isi T.z_isinstance (by exact (dab_cons (by exact (dbv 0 (pv 0))) (by exact (dab_cons (by exact (DE.b (by exact (de_cls T.z_bool)))) dab_nil)))))))) (by exact (de_one (by exact (de_cmp (o_in st.u65) d_in (by exact (dbv 0 (pv 0))) (by exact (DE.b (by exact (de_tup (by exact (da_cons de_int (by exact (da_cons de_int da_nil)))))))) (by rfl)))))))))))), m_is_bit⟩
theorem ok_is_bits (T : Txt K mg A) : FnG P w K mg base CX0 2 A.f_is_bits A.d_is_bits ["value", "many"] (spD K c_is_bits) := by
  have S := sc_is_bits
  refine def_ok (k := 1) T.F_is_bits sc_is_bits l_is_bits (fun cdv A0 outer s H E st => ?_)
  exact ⟨_, kb_is_bits, (dss_one (by exact (ds_ret (by exact (de_and (by exact (de_blt call_isi d_isi T.z_isinstance (by exact (dab_cons (by exact (dbv 0 (pv 0))) (by exact (dab_cons (by exact (DE.b (by exact (de_cls T.z_tuple)))) dab_nil)))))) (by exact (de_and (by exact (de_cmp (op_eqD st.u64) d_eq (by exact (DE.b (by exact (de_blt c_len d_len T.z_len (by exact (dab_cons (by exact (dbv 0 (pv 0))) dab_nil)))))) (by exact (dbv 1 (pv 1))) (nomark _))) (by exact (de_one (by exact (de_blt (cr_all rfl) d_all T.z_all (by exact (dab_cons (by exact (DE.b (by exact (DOw.e (by exact (dow_lc (own := [("part", 2)]) (by exact (dlc_mk (own := [("part", 2)]) S.nd (by exact (di_seq (by exact (dev 0 (pv 0))))) (blkOk_by (by change blkC ["value", "many", "part"] (defScope s_is_bits) _ _ = true; decide +kernel)) (by exact (dg_name (pg_name (i := 2) S.nd rfl (by first | exact Or.inl rfl | exact Or.inr rfl)))) dts_nil (by exact (de_fn (ok_is_bit T) st.blk T.m_is_bit T.k_is_bit T.b_is_bit (by exact (da_cons (by exact (dev 2 (pv 2))) da_nil)))) (fun _ _ _ _ _ => (by exact (dg_name (pg_name (i := 2) S.nd rfl (by first | exact Or.inl rfl | exact Or.inr rfl))))) (fun _ _ _ _ _ => dts_nil) (fun _ _ _ _ _ => (by exact (de_fn (ok_is_bit T) st.blk T.m_is_bit T.k_is_bit T.b_is_bit (by exact (da_cons (by exact (dev 2 (pv 2))) da_nil))))))))))))) dab_nil))))))))))))), m_is_bits⟩
theorem ok_is_between (T : Txt K mg A) : FnG P w K mg base CX0 1 A.f_is_between A.d_is_between ["value", "low", "high"] (spD K c_is_between) := by
  have S := sc_is_between
  refine def_ok (k := 0) T.F_is_between sc_is_between l_is_between (fun cdv A0 outer s H E st => ?_)
  exact ⟨_, kb_is_between, (dss_one (by exact (ds_ret (by exact (de_and (by exact (de_blt call_isi d_isi T.z_isinstance (by exact (dab_cons (by exact (dbv 0 (pv 0))) (by exact (dab_cons (by exact (DE.b (by exact (de_cls T.z_int)))) dab_nil)))))) (by exact (de_and (by exact (de_not (by exact (de_blt call_isi d_isi T.z_isinstance (by exact (dab_cons (by exact (dbv 0 (pv 0))) (by exact (dab_cons (by exact (DE.b (by exact (de_cls T.z_bool)))) dab_nil)))))))) (by exact (de_one (by exact (de_chain op_le d_cmp op_le d_cmp (by exact (dbv 1 (pv 1))) (by exact (dbv 0 (pv 0))) (by exact (dbv 2 (pv 2))) (fun a b c => pe_chain op_le op_le a b c)))))))))))), m_is_between⟩
theorem ok_need_bursts (T : Txt K mg A) : FnG P w K mg base CX0 2 A.f_need_bursts A.d_need_bursts ["burst", "guard"] (spD K c_need_bursts) := by
  have S := sc_need_bursts
  refine def_ok (k := 1) T.F_need_bursts sc_need_bursts l_need_bursts (fun cdv A0 outer s H E st => ?_)
  exact ⟨_, kb_need_bursts, (dss_cons (by exact (ds_if (by exact (dt_not (by exact (dt_val (by exact (de_fn (ok_is_between T) st T.m_is_between T.k_is_between T.b_is_between (by exact (da_cons (by exact (dev 0 (pv 0))) (by exact (da_cons de_int (by exact (da_cons (by exact (de_glob (v := .int 8) T.g_MOST_BURST ⟨_, rfl⟩ (fun _ _ => .int 8))) da_nil))))))))))))
    (by exact (dss_one ds_never))
    dss_nil))
    (by exact (dss_one (by exact (ds_if (by exact (dt_not (by exact (dt_val (by exact (de_fn (ok_is_between T) st T.m_is_between T.k_is_between T.b_is_between (by exact (da_cons (by exact (dev 1 (pv 1))) (by exact (da_cons de_int (by exact (da_cons (by exact (de_glob (v := .int 24) T.g_MOST_GUARD ⟨_, rfl⟩ (fun _ _ => .int 24))) da_nil))))))))))))
    (by exact (dss_one ds_never))
    dss_nil))))), m_need_bursts⟩
theorem ok_need_steps (T : Txt K mg A) : FnG P w K mg base CX0 3 A.f_need_steps A.d_need_steps ["rows"] (spD K c_need_steps) := by
  have S := sc_need_steps
  refine def_ok (k := 2) T.F_need_steps sc_need_steps l_need_steps (fun cdv A0 outer s H E st => ?_)
  exact ⟨_, kb_need_steps, (dss_cons (by exact (ds_if (by exact (dt_not (by exact (dt_val (by exact (de_isi2 T.z_isinstance (by exact (dbv 0 (pv 0))) (pe_bltn (by rfl) T.z_list (by decide +kernel) rfl) (pe_bltn (by rfl) T.z_tuple (by decide +kernel) rfl)))))))
    (by exact (dss_one ds_never))
    dss_nil))
    (by exact (dss_one (by exact (ds_for (by exact (di_enum T.z_enumerate (by exact (da_cons (by exact (dev 0 (pv 0))) da_nil)))) (by exact (dg_tup (m := 2) (by exact (dgs_cons (by exact (dg_name (pg_name (i := 1) S.nd rfl (by first | exact Or.inl rfl | exact Or.inr rfl)))) (by exact (dgs_cons (by exact (dg_name (pg_name (i := 2) S.nd rfl (by first | exact Or.inl rfl | exact Or.inr rfl)))) dgs_nil))))))
    (by exact (dss_one (by exact (ds_if (by exact (DW.t (by exact (dw_or (by exact (dt_not (by exact (dt_val (by exact (de_blt call_isi d_isi T.z_isinstance (by exact (dab_cons (by exact (dbv 2 (pv 2))) (by exact (dab_cons (by exact (DE.b (by exact (de_cls T.z_tuple)))) dab_nil)))))))))) (by exact (dw_or1 (by exact (dt_not (by exact (dt_val (by exact (de_fn (ok_is_bits T) st T.m_is_bits T.k_is_bits T.b_is_bits (by exact (da_cons (by exact (dev 2 (pv 2))) (by exact (da_cons (by exact (de_blt c_len d_len T.z_len (by exact (dab_cons (by exact (dbv 2 (pv 2))) dab_nil)))) da_nil))))))))))))))))
    (by exact (dss_one ds_never))
    dss_nil)))) (fun a b c => ps_for PassesOwn.never rfl a b c)))))), m_need_steps⟩
theorem ok_wrong_steps (T : Txt K mg A) : FnG P w K mg base CX0 1 A.f_wrong_steps A.d_wrong_steps ["rows"] (spD K c_wrong_steps) := by
  have S := sc_wrong_steps
  refine def_ok (k := 0) T.F_wrong_steps sc_wrong_steps l_wrong_steps (fun cdv A0 outer s H E st => ?_)
  exact ⟨_, kb_wrong_steps, (dss_one (by exact (ds_ret (by exact (DOw.e (by exact (dow_lc (own := [("at", 1), ("row", 2)]) (by exact (dlc_mk (own := [("at", 1), ("row", 2)]) S.nd (by exact (di_enum T.z_enumerate (by exact (da_cons (by exact (dev 0 (pv 0))) da_nil)))) (blkOk_by (by change blkC ["rows", "at", "row"] (defScope s_wrong_steps) _ _ = true; decide +kernel)) (by exact (dg_tup (m := 2) (by exact (dgs_cons (by exact (dg_name (pg_name (i := 1) S.nd rfl (by first | exact Or.inl rfl | exact Or.inr rfl)))) (by exact (dgs_cons (by exact (dg_name (pg_name (i := 2) S.nd rfl (by first | exact Or.inl rfl | exact Or.inr rfl)))) dgs_nil)))))) (by exact (dts_one (by exact (dt_cmp (o_in st.blk.u65) d_in (by exact (DE.b de_int)) (by exact (dbv 2 (pv 2))) (by rfl))))) (by exact (dev 1 (pv 1))) (fun _ _ _ _ _ => (by exact (dg_tup (m := 2) (by exact (dgs_cons (by exact (dg_name (pg_name (i := 1) S.nd rfl (by first | exact Or.inl rfl | exact Or.inr rfl)))) (by exact (dgs_cons (by exact (dg_name (pg_name (i := 2) S.nd rfl (by first | exact Or.inl rfl | exact Or.inr rfl)))) dgs_nil))))))) (fun _ _ _ _ _ => (by exact (dts_one (by exact (dt_cmp (o_in st.blk.u65) d_in (by exact (DE.b de_int)) (by exact (dbv 2 (pv 2))) (by rfl)))))) (fun _ _ _ _ _ => (by exact (dev 1 (pv 1))))))))))))), m_wrong_steps⟩
theorem ok_bursts_around (T : Txt K mg A) : FnG P w K mg base CX0 4 A.f_bursts_around A.d_bursts_around ["rows", "burst", "guard"] (spD K c_bursts_around) := by
  have S := sc_bursts_around
  refine def_ok (k := 3) T.F_bursts_around sc_bursts_around l_bursts_around (fun cdv A0 outer s H E st => ?_)
  exact ⟨_, kb_bursts_around, (dss_cons (by exact (ds_expr (by exact (de_fn (ok_need_bursts T) st T.m_need_bursts T.k_need_bursts T.b_need_bursts (by exact (da_cons (by exact (dev 1 (pv 1))) (by exact (da_cons (by exact (dev 2 (pv 2))) da_nil))))))))
    (by exact (dss_cons (by exact (ds_expr (by exact (de_fn (ok_need_steps T) st T.m_need_steps T.k_need_steps T.b_need_steps (by exact (da_cons (by exact (dev 0 (pv 0))) da_nil))))))
    (by exact (dss_cons (by exact (ds_if (by exact (dt_cmp (op_eqD st.u64) d_eq (by exact (DE.b (by exact (de_blt c_len d_len T.z_len (by exact (dab_cons (by exact (dbv 0 (pv 0))) dab_nil)))))) (by exact (DE.b de_int)) (nomark _)))
    (by exact (dss_one ds_never))
    dss_nil))
    (by exact (dss_cons (by exact (ds_asg (by exact (de_tup (by exact (da_cons (by exact (de_fn (ok_wrong_steps T) st T.m_wrong_steps T.k_wrong_steps T.b_wrong_steps (by exact (da_cons (by exact (dev 0 (pv 0))) da_nil)))) (by exact (da_cons (by exact (de_blt c_len d_len T.z_len (by exact (dab_cons (by exact (dbv 0 (pv 0))) dab_nil)))) da_nil)))))) (by exact (dg_tup (m := 2) (by exact (dgs_cons (by exact (dg_name (pg_name (i := 3) S.nd rfl (by first | exact Or.inl rfl | exact Or.inr rfl)))) (by exact (dgs_cons (by exact (dg_name (pg_name (i := 4) S.nd rfl (by first | exact Or.inl rfl | exact Or.inr rfl)))) dgs_nil))))))))
    (by exact (dss_cons (by exact (ds_lc (own := [("before", 12), ("at", 13)]) 5 (by exact (dlc_mk (own := [("before", 12), ("at", 13)]) S.nd (by exact (di_zip T.z_zip (by exact (da_cons (by exact (de_lst (by exact (da_star (by exact (DE.b (by exact (de_slice (by exact (dbv 3 (pv 3))) (by exact (do_some (by exact (de_un un_neg un_negD (by exact (DE.b de_int)))))) do_none)))) (by exact (da_star (by exact (dbv 3 (pv 3))) da_nil)))))) (by exact (da_cons (by exact (dev 3 (pv 3))) da_nil)))))) (blkOk_by (by change blkC ["rows", "burst", "guard", "wrong", "many", "gaps", "begins", "found", "spot", "later", "first", "last", "before", "at", "gap", "begin", "length"] (defScope s_bursts_around) _ _ = true; decide +kernel)) (by exact (dg_tup (m := 2) (by exact (dgs_cons (by exact (dg_name (pg_name (i := 12) S.nd rfl (by first | exact Or.inl rfl | exact Or.inr rfl)))) (by exact (dgs_cons (by exact (dg_name (pg_name (i := 13) S.nd rfl (by first | exact Or.inl rfl | exact Or.inr rfl)))) dgs_nil)))))) dts_nil (by exact (de_bin o_add d_add (by exact (DE.b (by exact (de_bin op_mod d_mod (by exact (DE.b (by exact (de_bin op_sub d_sub (by exact (DE.b (by exact (de_bin op_sub d_sub (by exact (dbv 13 (pv 13))) (by exact (dbv 12 (pv 12))))))) (by exact (DE.b de_int)))))) (by exact (dbv 4 (pv 4))))))) (by exact (DE.b de_int)))) (fun _ _ _ _ _ => (by exact (dg_tup (m := 2) (by exact (dgs_cons (by exact (dg_name (pg_name (i := 12) S.nd rfl (by first | exact Or.inl rfl | exact Or.inr rfl)))) (by exact (dgs_cons (by exact (dg_name (pg_name (i := 13) S.nd rfl (by first | exact Or.inl rfl | exact Or.inr rfl)))) dgs_nil))))))) (fun _ _ _ _ _ => dts_nil) (fun _ _ _ _ _ => (by exact (de_bin o_add d_add (by exact (DE.b (by exact (de_bin op_mod d_mod (by exact (DE.b (by exact (de_bin op_sub d_sub (by exact (DE.b (by exact (de_bin op_sub d_sub (by exact (dbv 13 (pv 13))) (by exact (dbv 12 (pv 12))))))) (by exact (DE.b de_int)))))) (by exact (dbv 4 (pv 4))))))) (by exact (DE.b de_int))))))) rfl rfl (sw_true rfl rfl rfl (by decide +kernel))))
    (by exact (dss_cons (by exact (ds_lc (own := [("spot", 8), ("gap", 14)]) 6 (by exact (dlc_mk (own := [("spot", 8), ("gap", 14)]) S.nd (by exact (di_enum T.z_enumerate (by exact (da_cons (by exact (dev 5 (pv 5))) da_nil)))) (blkOk_by (by change blkC ["rows", "burst", "guard", "wrong", "many", "gaps", "begins", "found", "spot", "later", "first", "last", "before", "at", "gap", "begin", "length"] (defScope s_bursts_around) _ _ = true; decide +kernel)) (by exact (dg_tup (m := 2) (by exact (dgs_cons (by exact (dg_name (pg_name (i := 8) S.nd rfl (by first | exact Or.inl rfl | exact Or.inr rfl)))) (by exact (dgs_cons (by exact (dg_name (pg_name (i := 14) S.nd rfl (by first | exact Or.inl rfl | exact Or.inr rfl)))) dgs_nil)))))) (by exact (dts_one (by exact (dt_cmp op_gt d_cmp (by exact (dbv 14 (pv 14))) (by exact (dbv 2 (pv 2))) (nomark _))))) (by exact (dev 8 (pv 8))) (fun _ _ _ _ _ => (by exact (dg_tup (m := 2) (by exact (dgs_cons (by exact (dg_name (pg_name (i := 8) S.nd rfl (by first | exact Or.inl rfl | exact Or.inr rfl)))) (by exact (dgs_cons (by exact (dg_name (pg_name (i := 14) S.nd rfl (by first | exact Or.inl rfl | exact Or.inr rfl)))) dgs_nil))))))) (fun _ _ _ _ _ => (by exact (dts_one (by exact (dt_cmp op_gt d_cmp (by exact (dbv 14 (pv 14))) (by exact (dbv 2 (pv 2))) (nomark _)))))) (fun _ _ _ _ _ => (by exact (dev 8 (pv 8)))))) rfl rfl (sw_true rfl rfl rfl (by decide +kernel))))
    (by exact (dss_cons (by exact (ds_if (by exact (DW.t (by exact (dw_and (by exact (dt_cmp (op_eqD st.u64) d_eq (by exact (dbv 6 (pv 6))) (by exact (DE.b (by exact (de_lst da_nil)))) (nomark _))) (by exact (dw_and1 (by exact (dt_cmp (op_neD st.u64) d_ne (by exact (dbv 3 (pv 3))) (by exact (DE.b (by exact (de_lst da_nil)))) (nomark _)))))))))
    (by exact (dss_one (by exact (ds_ret de_non))))
    dss_nil))
    (by exact (dss_cons (by exact (ds_own 7 (by exact (dow_lst da_nil)) (fun h => ps_set (i := 7) S.nd rfl (by first | exact Or.inl rfl | exact Or.inr rfl) h)))
    (by exact (dss_cons (by exact (ds_for (by exact (di_zip T.z_zip (by exact (da_cons (by exact (dev 6 (pv 6))) (by exact (da_cons (by exact (de_lst (by exact (da_star (by exact (DE.b (by exact (de_slice (by exact (dbv 6 (pv 6))) (by exact (do_some de_int)) do_none)))) (by exact (da_star (by exact (DE.b (by exact (DOw.e (by exact (dow_lc (own := [("begin", 15)]) (by exact (dlc_mk (own := [("begin", 15)]) S.nd (by exact (di_seq (by exact (de_slice (by exact (dbv 6 (pv 6))) do_none (by exact (do_some de_int)))))) (blkOk_by (by change blkC ["rows", "burst", "guard", "wrong", "many", "gaps", "begins", "found", "spot", "later", "first", "last", "before", "at", "gap", "begin", "length"] (defScope s_bursts_around) _ _ = true; decide +kernel)) (by exact (dg_name (pg_name (i := 15) S.nd rfl (by first | exact Or.inl rfl | exact Or.inr rfl)))) dts_nil (by exact (de_bin o_add d_add (by exact (DE.b (by exact (de_blt c_len d_len T.z_len (by exact (dab_cons (by exact (dbv 3 (pv 3))) dab_nil)))))) (by exact (dbv 15 (pv 15))))) (fun _ _ _ _ _ => (by exact (dg_name (pg_name (i := 15) S.nd rfl (by first | exact Or.inl rfl | exact Or.inr rfl))))) (fun _ _ _ _ _ => dts_nil) (fun _ _ _ _ _ => (by exact (de_bin o_add d_add (by exact (DE.b (by exact (de_blt c_len d_len T.z_len (by exact (dab_cons (by exact (dbv 3 (pv 3))) dab_nil)))))) (by exact (dbv 15 (pv 15)))))))))))))) da_nil)))))) da_nil)))))) (by exact (dg_tup (m := 2) (by exact (dgs_cons (by exact (dg_name (pg_name (i := 8) S.nd rfl (by first | exact Or.inl rfl | exact Or.inr rfl)))) (by exact (dgs_cons (by exact (dg_name (pg_name (i := 9) S.nd rfl (by first | exact Or.inl rfl | exact Or.inr rfl)))) dgs_nil))))))
    (by exact (dss_cons (by exact (ds_par (by exact (da_cons (by exact (de_ix (by exact (dbv 3 (pv 3))) (by exact (dbv 8 (pv 8))))) (by exact (da_cons (by exact (de_ix (by exact (dbv 3 (pv 3))) (by exact (DE.b (by exact (de_bin op_mod d_mod (by exact (DE.b (by exact (de_bin op_sub d_sub (by exact (dbv 9 (pv 9))) (by exact (DE.b de_int)))))) (by exact (DE.b (by exact (de_blt c_len d_len T.z_len (by exact (dab_cons (by exact (dbv 3 (pv 3))) dab_nil)))))))))))) da_nil)))) (fun h => ps_par (i := 10) (j := 11) rfl S.nd rfl rfl (by decide) rfl rfl h (by rfl))))
    (by exact (dss_one (by exact (ds_app 7 (by exact (de_tup (by exact (da_cons (by exact (dev 10 (pv 10))) (by exact (da_cons (by exact (de_bin o_add d_add (by exact (DE.b (by exact (de_bin op_mod d_mod (by exact (DE.b (by exact (de_bin op_sub d_sub (by exact (dbv 11 (pv 11))) (by exact (dbv 10 (pv 10))))))) (by exact (dbv 4 (pv 4))))))) (by exact (DE.b de_int)))) da_nil)))))) (fun a => ps_expr (pe_bm PySem.F.plainAttrs_list PySem.F.slot_list_append PySem.F.type_list_append mt_append (pv 7) (pa_cons a pa_nil))))))))) (fun a b c => ps_for PassesOwn.never rfl a b c)))
    (by exact (dss_one (by exact (ds_ret (by exact (de_if (by exact (dt_val (by exact (de_blt (cr_any rfl) d_any T.z_any (by exact (dab_cons (by exact (DE.b (by exact (DOw.e (by exact (dow_lc (own := [("first", 10), ("length", 16)]) (by exact (dlc_mk (own := [("first", 10), ("length", 16)]) S.nd (by exact (di_seq (by exact (dev 7 (pv 7))))) (blkOk_by (by change blkC ["rows", "burst", "guard", "wrong", "many", "gaps", "begins", "found", "spot", "later", "first", "last", "before", "at", "gap", "begin", "length"] (defScope s_bursts_around) _ _ = true; decide +kernel)) (by exact (dg_tup (m := 2) (by exact (dgs_cons (by exact (dg_name (pg_name (i := 10) S.nd rfl (by first | exact Or.inl rfl | exact Or.inr rfl)))) (by exact (dgs_cons (by exact (dg_name (pg_name (i := 16) S.nd rfl (by first | exact Or.inl rfl | exact Or.inr rfl)))) dgs_nil)))))) dts_nil (by exact (de_cmp op_gt d_cmp (by exact (dbv 16 (pv 16))) (by exact (dbv 1 (pv 1))) (nomark _))) (fun _ _ _ _ _ => (by exact (dg_tup (m := 2) (by exact (dgs_cons (by exact (dg_name (pg_name (i := 10) S.nd rfl (by first | exact Or.inl rfl | exact Or.inr rfl)))) (by exact (dgs_cons (by exact (dg_name (pg_name (i := 16) S.nd rfl (by first | exact Or.inl rfl | exact Or.inr rfl)))) dgs_nil))))))) (fun _ _ _ _ _ => dts_nil) (fun _ _ _ _ _ => (by exact (de_cmp op_gt d_cmp (by exact (dbv 16 (pv 16))) (by exact (dbv 1 (pv 1))) (nomark _)))))))))))) dab_nil)))))) de_non (by exact (de_bty call_tuple_of d_tuple T.z_tuple (by exact (dab_cons (by exact (dbv 7 (pv 7))) dab_nil))))))))))))))))))))))))))), m_bursts_around⟩
theorem ok_law_pen (T : Txt K mg A) : FnG P w K mg base CX0 1 A.f_law_pen A.d_law_pen ["script"] (spPen K) := by
  have S := sc_law_pen
  refine pen_ok T.F_law_pen sc_law_pen rfl (fun cdv A0 outer s H E st => ?_)
  exact pss_one (ps_ret (pe_lst (pa_cons (pe_lc rfl S.nd (pi_seq (pe_slice sl_list (pv 0) po_none (po_some pe_int))) (blkOk_by (by change blkC ["script", "cell"] (defScope s_law_pen) _ _ = true; decide +kernel)) (own := [("cell", 1)]) (fun _ _ _ _ _ => pg_name (i := 1) S.nd rfl (by first | exact Or.inl rfl | exact Or.inr rfl)) (fun _ _ _ _ _ => pts_nil) (fun _ _ _ _ _ => pe_callTy call_int1 (by exact rfl) T.z_int (by decide +kernel) (pa_cons (pv 1) pa_nil)) (fun _ => rfl)) (pa_cons pe_int (pa_cons pe_int pa_nil)))))
theorem ok_law_draw (T : Txt K mg A) : FnG P w K mg base CX0 1 A.f_law_draw A.d_law_draw ["pen", "many"] (spD K c_law_draw) := by
  have S := sc_law_draw
  refine def_ok (k := 0) T.F_law_draw sc_law_draw l_law_draw (fun cdv A0 outer s H E st => ?_)
  exact ⟨_, kb_law_draw, (dss_cons (by exact (ds_if (by exact (dt_cmp op_gt d_cmp (by exact (DE.b (by exact (de_pen2 0 (pv 0))))) (by exact (DE.b de_int)) (nomark _)))
    (by exact (dss_cons (by exact (ds_set 2 (by exact (de_bty call_int1 d_toInt T.z_int (by exact (dab_cons (by exact (DE.b (by exact (de_pen2 0 (pv 0))))) dab_nil)))) (fun h => ps_set (i := 2) S.nd rfl (by first | exact Or.inl rfl | exact Or.inr rfl) h)))
    (by exact (dss_cons (by exact (ds_ink2 0 (by exact (de_bin op_fdiv d_div (by exact (dbv 2 (pv 2))) (by exact (dbv 1 (pv 1))))) (fun a => ps_asg a (pg_sub (pv 0) pe_int set_list))))
    (by exact (dss_one (by exact (ds_ret (by exact (de_bin op_mod d_mod (by exact (DE.b (by exact (de_bty call_int1 d_toInt T.z_int (by exact (dab_cons (by exact (dbv 2 (pv 2))) dab_nil)))))) (by exact (dbv 1 (pv 1)))))))))))))
    dss_nil))
    (by exact (dss_cons (by exact (ds_set 3 (by exact (de_pen1 0 (pv 0))) (fun h => ps_set (i := 3) S.nd rfl (by first | exact Or.inl rfl | exact Or.inr rfl) h)))
    (by exact (dss_cons (by exact (ds_ink1 0 (by exact (de_bin o_add d_add (by exact (dbv 3 (pv 3))) (by exact (DE.b de_int)))) (fun a => ps_asg a (pg_sub (pv 0) pe_int set_list))))
    (by exact (dss_cons (by exact (ds_set 4 (by exact (de_bin o_add d_add (by exact (DE.b (by exact (de_bin o_mul d_mul (by exact (DE.b de_int)) (by exact (dbv 3 (pv 3))))))) (by exact (DE.b de_int)))) (fun h => ps_set (i := 4) S.nd rfl (by first | exact Or.inl rfl | exact Or.inr rfl) h)))
    (by exact (dss_cons (by exact (ds_if (by exact (dt_cmp (op_neD st.u64) d_ne (by exact (DE.b (by exact (de_pen0 0 (pv 0))))) (by exact (DE.b (by exact (de_lst da_nil)))) (nomark _)))
    (by exact (dss_one (by exact (ds_set 4 (by exact (de_ix (by exact (DE.b (by exact (de_pen0 0 (pv 0))))) (by exact (DE.b (by exact (de_bin op_mod d_mod (by exact (DE.b (by exact (de_bty call_int1 d_toInt T.z_int (by exact (dab_cons (by exact (dbv 3 (pv 3))) dab_nil)))))) (by exact (DE.b (by exact (de_blt c_len d_len T.z_len (by exact (dab_cons (by exact (DE.b (by exact (de_pen0 0 (pv 0))))) dab_nil)))))))))))) (fun h => ps_set (i := 4) S.nd rfl (by first | exact Or.inl rfl | exact Or.inr rfl) h)))))
    dss_nil))
    (by exact (dss_cons (by exact (ds_if (by exact (DW.t (by exact (dw_and (by exact (dt_cmp op_lt d_cmp (by exact (dbv 3 (pv 3))) (by exact (DE.b (by exact (de_blt c_len d_len T.z_len (by exact (dab_cons (by exact (DE.b (by exact (de_pen0 0 (pv 0))))) dab_nil)))))) (nomark _))) (by exact (dw_and1 (by exact (dt_cmp op_ge d_cmp (by exact (DE.b (by exact (de_blt call_abs d_abs T.z_abs (by exact (dab_cons (by exact (dbv 4 (pv 4))) dab_nil)))))) (by exact (DE.b (by exact (de_bin op_pow d_pow (by exact (DE.b de_int)) (by exact (DE.b de_int)))))) (nomark _)))))))))
    (by exact (dss_cons (by exact (ds_set 2 (by exact (de_bin o_add d_add (by exact (DE.b (by exact (de_bin o_mul d_mul (by exact (DE.b de_int)) (by exact (DE.b (by exact (de_bin op_sub d_sub (by exact (DE.b (by exact (de_blt call_abs d_abs T.z_abs (by exact (dab_cons (by exact (dbv 4 (pv 4))) dab_nil)))))) (by exact (DE.b (by exact (de_bin op_pow d_pow (by exact (DE.b de_int)) (by exact (DE.b de_int)))))))))))))) (by exact (DE.b (by exact (de_bty call_int1 d_toInt T.z_int (by exact (dab_cons (by exact (DE.b (by exact (de_cmp op_lt d_cmp (by exact (dbv 4 (pv 4))) (by exact (DE.b de_int)) (nomark _))))) dab_nil)))))))) (fun h => ps_set (i := 2) S.nd rfl (by first | exact Or.inl rfl | exact Or.inr rfl) h)))
    (by exact (dss_cons (by exact (ds_ink2 0 (by exact (de_bin op_fdiv d_div (by exact (DE.b (by exact (de_bty call_int1 d_toInt T.z_int (by exact (dab_cons (by exact (dbv 2 (pv 2))) dab_nil)))))) (by exact (dbv 1 (pv 1))))) (fun a => ps_asg a (pg_sub (pv 0) pe_int set_list))))
    (by exact (dss_one (by exact (ds_ret (by exact (de_bin op_mod d_mod (by exact (DE.b (by exact (de_bty call_int1 d_toInt T.z_int (by exact (dab_cons (by exact (dbv 2 (pv 2))) dab_nil)))))) (by exact (dbv 1 (pv 1)))))))))))))
    dss_nil))
    (by exact (dss_cons (by exact (ds_set 5 (by exact (de_bin op_mod d_mod (by exact (DE.b (by exact (de_bty call_int1 d_toInt T.z_int (by exact (dab_cons (by exact (DE.b (by exact (de_bin op_pow d_pow (by exact (DE.b (by exact (de_bin o_add d_add (by exact (DE.b (by exact (de_bin o_add d_add (by exact (DE.b (by exact (de_bin op_mod d_mod (by exact (DE.b (by exact (de_bty call_int1 d_toInt T.z_int (by exact (dab_cons (by exact (dbv 4 (pv 4))) dab_nil)))))) (by exact (DE.b de_int)))))) (by exact (DE.b (by exact (de_bin o_mul d_mul (by exact (DE.b de_int)) (by exact (dbv 3 (pv 3))))))))))) (by exact (DE.b de_int)))))) (by exact (DE.b de_int)))))) dab_nil)))))) (by exact (DE.b de_int)))) (fun h => ps_set (i := 5) S.nd rfl (by first | exact Or.inl rfl | exact Or.inr rfl) h)))
    (by exact (dss_cons (by exact (ds_set 5 (by exact (de_bin op_mod d_mod (by exact (DE.b (by exact (de_bty call_int1 d_toInt T.z_int (by exact (dab_cons (by exact (DE.b (by exact (de_bin op_pow d_pow (by exact (DE.b (by exact (de_bin o_add d_add (by exact (DE.b (by exact (de_bin o_add d_add (by exact (DE.b (by exact (de_bin o_mul d_mul (by exact (dbv 5 (pv 5))) (by exact (DE.b (by exact (de_bin o_add d_add (by exact (DE.b (by exact (de_bin o_mul d_mul (by exact (DE.b de_int)) (by exact (dbv 3 (pv 3))))))) (by exact (DE.b de_int)))))))))) (by exact (DE.b (by exact (de_bin o_mul d_mul (by exact (DE.b (by exact (de_bin o_mul d_mul (by exact (DE.b de_int)) (by exact (dbv 3 (pv 3))))))) (by exact (dbv 3 (pv 3))))))))))) (by exact (DE.b de_int)))))) (by exact (DE.b de_int)))))) dab_nil)))))) (by exact (DE.b de_int)))) (fun h => ps_set (i := 5) S.nd rfl (by first | exact Or.inl rfl | exact Or.inr rfl) h)))
    (by exact (dss_one (by exact (ds_ret (by exact (de_bin op_mod d_mod (by exact (DE.b (by exact (de_bty call_int1 d_toInt T.z_int (by exact (dab_cons (by exact (DE.b (by exact (de_bin op_fdiv d_div (by exact (dbv 5 (pv 5))) (by exact (DE.b de_int)))))) dab_nil)))))) (by exact (dbv 1 (pv 1)))))))))))))))))))))))), m_law_draw⟩
theorem ok_law_pick (T : Txt K mg A) : FnG P w K mg base CX0 2 A.f_law_pick A.d_law_pick ["pen", "some"] (spD K c_law_pick) := by
  have S := sc_law_pick
  refine def_ok (k := 1) T.F_law_pick sc_law_pick l_law_pick (fun cdv A0 outer s H E st => ?_)
  exact ⟨_, kb_law_pick, (dss_one (by exact (ds_ret (by exact (de_ix (by exact (dbv 1 (pv 1))) (by exact (DE.b (by exact (de_fn (ok_law_draw T) st T.m_law_draw T.k_law_draw T.b_law_draw (by exact (da_cons (by exact (dev 0 (pv 0))) (by exact (da_cons (by exact (de_blt c_len d_len T.z_len (by exact (dab_cons (by exact (dbv 1 (pv 1))) dab_nil)))) da_nil))))))))))))), m_law_pick⟩
theorem ok_law_all (T : Txt K mg A) : FnG P w K mg base CX0 1 A.f_law_all A.d_law_all ["many"] (spD K c_law_all) := by
  have S := sc_law_all
  refine def_ok (k := 0) T.F_law_all sc_law_all l_law_all (fun cdv A0 outer s H E st => ?_)
  exact ⟨_, kb_law_all, (dss_cons (by exact (ds_set 1 (by exact (de_lst (by exact (da_cons (by exact (de_tup da_nil)) da_nil)))) (fun h => ps_set (i := 1) S.nd rfl (by first | exact Or.inl rfl | exact Or.inr rfl) h)))
    (by exact (dss_cons (by exact (ds_for (by exact (di_rng1 T.z_range (by exact (da_cons (by exact (dev 0 (pv 0))) da_nil)))) (by exact (dg_name (pg_name (i := 2) S.nd rfl (by first | exact Or.inl rfl | exact Or.inr rfl))))
    (by exact (dss_cons (by exact (ds_set 3 (by exact (de_lst da_nil)) (fun h => ps_set (i := 3) S.nd rfl (by first | exact Or.inl rfl | exact Or.inr rfl) h)))
    (by exact (dss_cons (by exact (ds_for (by exact (di_seq (by exact (dev 1 (pv 1))))) (by exact (dg_name (pg_name (i := 4) S.nd rfl (by first | exact Or.inl rfl | exact Or.inr rfl))))
    (by exact (dss_one (by exact (ds_set 3 (by exact (de_bin o_add d_add (by exact (dbv 3 (pv 3))) (by exact (DE.b (by exact (de_lst (by exact (da_cons (by exact (de_bin o_add d_add (by exact (dbv 4 (pv 4))) (by exact (DE.b (by exact (de_tup (by exact (da_cons de_int da_nil)))))))) (by exact (da_cons (by exact (de_bin o_add d_add (by exact (dbv 4 (pv 4))) (by exact (DE.b (by exact (de_tup (by exact (da_cons de_int da_nil)))))))) da_nil)))))))))) (fun h => ps_set (i := 3) S.nd rfl (by first | exact Or.inl rfl | exact Or.inr rfl) h))))) (fun a b c => ps_for PassesOwn.never rfl a b c)))
    (by exact (dss_one (by exact (ds_set 1 (by exact (dev 3 (pv 3))) (fun h => ps_set (i := 1) S.nd rfl (by first | exact Or.inl rfl | exact Or.inr rfl) h))))))))) (fun a b c => ps_for PassesOwn.never rfl a b c)))
    (by exact (dss_one (by exact (ds_ret (by exact (dev 1 (pv 1)))))))))), m_law_all⟩
theorem ok_law_parted (T : Txt K mg A) : FnG P w K mg base CX0 1 A.f_law_parted A.d_law_parted ["rows", "guard"] (spD K c_law_parted) := by
  have S := sc_law_parted
  refine def_ok (k := 0) T.F_law_parted sc_law_parted l_law_parted (fun cdv A0 outer s H E st => ?_)
  exact ⟨_, kb_law_parted, (dss_cons (by exact (ds_own 2 (by exact (dow_lst da_nil)) (fun h => ps_set (i := 2) S.nd rfl (by first | exact Or.inl rfl | exact Or.inr rfl) h)))
    (by exact (dss_cons (by exact (ds_for (by exact (di_enum T.z_enumerate (by exact (da_cons (by exact (dev 0 (pv 0))) da_nil)))) (by exact (dg_tup (m := 2) (by exact (dgs_cons (by exact (dg_name (pg_name (i := 3) S.nd rfl (by first | exact Or.inl rfl | exact Or.inr rfl)))) (by exact (dgs_cons (by exact (dg_name (pg_name (i := 4) S.nd rfl (by first | exact Or.inl rfl | exact Or.inr rfl)))) dgs_nil))))))
    (by exact (dss_one (by exact (ds_if (by exact (dt_cmp (o_in st.u65) d_in (by exact (DE.b de_int)) (by exact (dbv 4 (pv 4))) (by rfl)))
    (by exact (dss_one (by exact (ds_if (by exact (DW.t (by exact (dw_and (by exact (dt_cmp (op_neD st.u64) d_ne (by exact (dbv 2 (pv 2))) (by exact (DE.b (by exact (de_lst da_nil)))) (nomark _))) (by exact (dw_and1 (by exact (dt_cmp op_lt d_cmp (by exact (DE.b (by exact (de_bin op_sub d_sub (by exact (DE.b (by exact (de_bin op_sub d_sub (by exact (dbv 3 (pv 3))) (by exact (DE.b (by exact (de_ix (by exact (DE.b (by exact (de_ix (by exact (dbv 2 (pv 2))) (by exact (DE.b (by exact (de_un un_neg un_negD (by exact (DE.b de_int)))))))))) (by exact (DE.b de_int)))))))))) (by exact (DE.b de_int)))))) (by exact (dbv 1 (pv 1))) (nomark _)))))))))
    (by exact (dss_one (by exact (ds_sub 2 (by exact (de_tup (by exact (da_cons (by exact (de_ix (by exact (DE.b (by exact (de_ix (by exact (dbv 2 (pv 2))) (by exact (DE.b (by exact (de_un un_neg un_negD (by exact (DE.b de_int)))))))))) (by exact (DE.b de_int)))) (by exact (da_cons (by exact (dev 3 (pv 3))) da_nil)))))) (by exact (de_un un_neg un_negD (by exact (DE.b de_int)))) (fun a b => ps_asg a (pg_sub (pv 2) b set_list))))))
    (by exact (dss_one (by exact (ds_app 2 (by exact (de_tup (by exact (da_cons (by exact (dev 3 (pv 3))) (by exact (da_cons (by exact (dev 3 (pv 3))) da_nil)))))) (fun a => ps_expr (pe_bm PySem.F.plainAttrs_list PySem.F.slot_list_append PySem.F.type_list_append mt_append (pv 2) (pa_cons a pa_nil)))))))))))
    dss_nil)))) (fun a b c => ps_for PassesOwn.never rfl a b c)))
    (by exact (dss_one (by exact (ds_ret (by exact (dev 2 (pv 2)))))))))), m_law_parted⟩
theorem ok_law_due (T : Txt K mg A) : FnG P w K mg base CX0 2 A.f_law_due A.d_law_due ["rows", "burst", "guard"] (spD K c_law_due) := by
  have S := sc_law_due
  refine def_ok (k := 1) T.F_law_due sc_law_due l_law_due (fun cdv A0 outer s H E st => ?_)
  exact ⟨_, kb_law_due, (dss_cons (by exact (ds_set 3 (by exact (de_blt c_len d_len T.z_len (by exact (dab_cons (by exact (dbv 0 (pv 0))) dab_nil)))) (fun h => ps_set (i := 3) S.nd rfl (by first | exact Or.inl rfl | exact Or.inr rfl) h)))
    (by exact (dss_cons (by exact (ds_set 4 (by exact (de_bin o_add d_add (by exact (DE.b de_int)) (by exact (DE.b (by exact (de_bin op_fdiv d_div (by exact (DE.b (by exact (de_bin o_add d_add (by exact (dbv 1 (pv 1))) (by exact (dbv 2 (pv 2))))))) (by exact (dbv 3 (pv 3))))))))) (fun h => ps_set (i := 4) S.nd rfl (by first | exact Or.inl rfl | exact Or.inr rfl) h)))
    (by exact (dss_cons (by exact (ds_set 5 (by exact (de_fn (ok_law_parted T) st T.m_law_parted T.k_law_parted T.b_law_parted (by exact (da_cons (by exact (de_bin o_mul d_mul (by exact (dbv 0 (pv 0))) (by exact (dbv 4 (pv 4))))) (by exact (da_cons (by exact (dev 2 (pv 2))) da_nil)))))) (fun h => ps_set (i := 5) S.nd rfl (by first | exact Or.inl rfl | exact Or.inr rfl) h)))
    (by exact (dss_cons (by exact (ds_if (by exact (dt_cmp (op_neD st.u64) d_ne (by exact (DE.b (by exact (DOw.e (by exact (dow_lc (own := [("first", 6), ("last", 7)]) (by exact (dlc_mk (own := [("first", 6), ("last", 7)]) S.nd (by exact (di_seq (by exact (dev 5 (pv 5))))) (blkOk_by (by change blkC ["rows", "burst", "guard", "many", "often", "found", "first", "last"] (defScope s_law_due) _ _ = true; decide +kernel)) (by exact (dg_tup (m := 2) (by exact (dgs_cons (by exact (dg_name (pg_name (i := 6) S.nd rfl (by first | exact Or.inl rfl | exact Or.inr rfl)))) (by exact (dgs_cons (by exact (dg_name (pg_name (i := 7) S.nd rfl (by first | exact Or.inl rfl | exact Or.inr rfl)))) dgs_nil)))))) (by exact (dts_one (by exact (dt_cmp op_ge d_cmp (by exact (DE.b (by exact (de_bin op_sub d_sub (by exact (dbv 7 (pv 7))) (by exact (dbv 6 (pv 6))))))) (by exact (dbv 1 (pv 1))) (nomark _))))) de_int (fun _ _ _ _ _ => (by exact (dg_tup (m := 2) (by exact (dgs_cons (by exact (dg_name (pg_name (i := 6) S.nd rfl (by first | exact Or.inl rfl | exact Or.inr rfl)))) (by exact (dgs_cons (by exact (dg_name (pg_name (i := 7) S.nd rfl (by first | exact Or.inl rfl | exact Or.inr rfl)))) dgs_nil))))))) (fun _ _ _ _ _ => (by exact (dts_one (by exact (dt_cmp op_ge d_cmp (by exact (DE.b (by exact (de_bin op_sub d_sub (by exact (dbv 7 (pv 7))) (by exact (dbv 6 (pv 6))))))) (by exact (dbv 1 (pv 1))) (nomark _)))))) (fun _ _ _ _ _ => de_int))))))))) (by exact (DE.b (by exact (de_lst da_nil)))) (nomark _)))
    (by exact (dss_one (by exact (ds_ret de_non))))
    dss_nil))
    (by exact (dss_one (by exact (ds_ret (by exact (de_bty call_tuple_of d_tuple T.z_tuple (by exact (dab_cons (by exact (DE.b (by exact (DOw.e (by exact (dow_lc (own := [("first", 6), ("last", 7)]) (by exact (dlc_mk (own := [("first", 6), ("last", 7)]) S.nd (by exact (di_seq (by exact (dev 5 (pv 5))))) (blkOk_by (by change blkC ["rows", "burst", "guard", "many", "often", "found", "first", "last"] (defScope s_law_due) _ _ = true; decide +kernel)) (by exact (dg_tup (m := 2) (by exact (dgs_cons (by exact (dg_name (pg_name (i := 6) S.nd rfl (by first | exact Or.inl rfl | exact Or.inr rfl)))) (by exact (dgs_cons (by exact (dg_name (pg_name (i := 7) S.nd rfl (by first | exact Or.inl rfl | exact Or.inr rfl)))) dgs_nil)))))) (by exact (dts_one (by exact (dt_chain op_le d_cmp op_lt d_cmp (by exact (dbv 3 (pv 3))) (by exact (dbv 6 (pv 6))) (by exact (DE.b (by exact (de_bin o_mul d_mul (by exact (DE.b de_int)) (by exact (dbv 3 (pv 3))))))) (fun a b c => pt_chain op_le op_lt a b c))))) (by exact (de_tup (by exact (da_cons (by exact (de_bin op_sub d_sub (by exact (dbv 6 (pv 6))) (by exact (dbv 3 (pv 3))))) (by exact (da_cons (by exact (de_bin o_add d_add (by exact (DE.b (by exact (de_bin op_sub d_sub (by exact (dbv 7 (pv 7))) (by exact (dbv 6 (pv 6))))))) (by exact (DE.b de_int)))) da_nil)))))) (fun _ _ _ _ _ => (by exact (dg_tup (m := 2) (by exact (dgs_cons (by exact (dg_name (pg_name (i := 6) S.nd rfl (by first | exact Or.inl rfl | exact Or.inr rfl)))) (by exact (dgs_cons (by exact (dg_name (pg_name (i := 7) S.nd rfl (by first | exact Or.inl rfl | exact Or.inr rfl)))) dgs_nil))))))) (fun _ _ _ _ _ => (by exact (dts_one (by exact (dt_chain op_le d_cmp op_lt d_cmp (by exact (dbv 3 (pv 3))) (by exact (dbv 6 (pv 6))) (by exact (DE.b (by exact (de_bin o_mul d_mul (by exact (DE.b de_int)) (by exact (dbv 3 (pv 3))))))) (fun a b c => pt_chain op_le op_lt a b c)))))) (fun _ _ _ _ _ => (by exact (de_tup (by exact (da_cons (by exact (de_bin op_sub d_sub (by exact (dbv 6 (pv 6))) (by exact (dbv 3 (pv 3))))) (by exact (da_cons (by exact (de_bin o_add d_add (by exact (DE.b (by exact (de_bin op_sub d_sub (by exact (dbv 7 (pv 7))) (by exact (dbv 6 (pv 6))))))) (by exact (DE.b de_int)))) da_nil))))))))))))))) dab_nil))))))))))))))), m_law_due⟩
theorem ok_law_one_right (T : Txt K mg A) : FnG P w K mg base CX0 5 A.f_law_one_right A.d_law_one_right ["pen"] (spD K c_law_one_right) := by
  have S := sc_law_one_right
  refine def_ok (k := 4) T.F_law_one_right sc_law_one_right l_law_one_right (fun cdv A0 outer s H E st => ?_)
  exact ⟨_, kb_law_one_right, (dss_cons (by exact (ds_asg (by exact (de_tup (by exact (da_cons (by exact (de_bin o_add d_add (by exact (DE.b de_int)) (by exact (DE.b (by exact (de_fn (ok_law_draw T) st T.m_law_draw T.k_law_draw T.b_law_draw (by exact (da_cons (by exact (dev 0 (pv 0))) (by exact (da_cons de_int da_nil)))))))))) (by exact (da_cons (by exact (de_bin o_add d_add (by exact (DE.b de_int)) (by exact (DE.b (by exact (de_fn (ok_law_draw T) st T.m_law_draw T.k_law_draw T.b_law_draw (by exact (da_cons (by exact (dev 0 (pv 0))) (by exact (da_cons de_int da_nil)))))))))) (by exact (da_cons (by exact (de_bin o_add d_add (by exact (DE.b de_int)) (by exact (DE.b (by exact (de_fn (ok_law_draw T) st T.m_law_draw T.k_law_draw T.b_law_draw (by exact (da_cons (by exact (dev 0 (pv 0))) (by exact (da_cons de_int da_nil)))))))))) (by exact (da_cons (by exact (de_fn (ok_law_pick T) st T.m_law_pick T.k_law_pick T.b_law_pick (by exact (da_cons (by exact (dev 0 (pv 0))) (by exact (da_cons (by exact (de_lst (by exact (da_cons de_int (by exact (da_cons de_int (by exact (da_cons de_int (by exact (da_cons de_int (by exact (da_cons de_int (by exact (da_cons de_int (by exact (da_cons de_int da_nil)))))))))))))))) da_nil)))))) da_nil)))))))))) (by exact (dg_tup (m := 4) (by exact (dgs_cons (by exact (dg_name (pg_name (i := 1) S.nd rfl (by first | exact Or.inl rfl | exact Or.inr rfl)))) (by exact (dgs_cons (by exact (dg_name (pg_name (i := 2) S.nd rfl (by first | exact Or.inl rfl | exact Or.inr rfl)))) (by exact (dgs_cons (by exact (dg_name (pg_name (i := 3) S.nd rfl (by first | exact Or.inl rfl | exact Or.inr rfl)))) (by exact (dgs_cons (by exact (dg_name (pg_name (i := 4) S.nd rfl (by first | exact Or.inl rfl | exact Or.inr rfl)))) dgs_nil))))))))))))
    (by exact (dss_cons (by exact (ds_set 5 (by exact (de_bin o_add d_add (by exact (DE.b de_int)) (by exact (DE.b (by exact (de_fn (ok_law_draw T) st T.m_law_draw T.k_law_draw T.b_law_draw (by exact (da_cons (by exact (dev 0 (pv 0))) (by exact (da_cons de_int da_nil)))))))))) (fun h => ps_set (i := 5) S.nd rfl (by first | exact Or.inl rfl | exact Or.inr rfl) h)))
    (by exact (dss_cons (by exact (ds_lc (own := [("step", 13)]) 6 (by exact (dlc_mk (own := [("step", 13)]) S.nd (by exact (di_rng1 T.z_range (by exact (da_cons (by exact (dev 1 (pv 1))) da_nil)))) (blkOk_by (by change blkC ["pen", "many", "width", "burst", "guard", "often", "rows", "due", "told", "turn", "other", "twice", "moved", "step", "first", "length", "one"] (defScope s_law_one_right) _ _ = true; decide +kernel)) (by exact (dg_name (pg_name (i := 13) S.nd rfl (by first | exact Or.inl rfl | exact Or.inr rfl)))) dts_nil (by exact (de_if (by exact (dt_cmp (op_eqD st.blk.u64) d_eq (by exact (DE.b (by exact (de_fn (ok_law_draw T) st.blk T.m_law_draw T.k_law_draw T.b_law_draw (by exact (da_cons (by exact (dev 0 (pv 0))) (by exact (da_cons (by exact (dev 5 (pv 5))) da_nil)))))))) (by exact (DE.b de_int)) (nomark _))) (by exact (de_fn (ok_law_pick T) st.blk T.m_law_pick T.k_law_pick T.b_law_pick (by exact (da_cons (by exact (dev 0 (pv 0))) (by exact (da_cons (by exact (de_fn (ok_law_all T) st.blk T.m_law_all T.k_law_all T.b_law_all (by exact (da_cons (by exact (dev 2 (pv 2))) da_nil)))) da_nil)))))) (by exact (de_bin o_mul d_mul (by exact (DE.b (by exact (de_tup (by exact (da_cons de_int da_nil)))))) (by exact (dbv 2 (pv 2))))))) (fun _ _ _ _ _ => (by exact (dg_name (pg_name (i := 13) S.nd rfl (by first | exact Or.inl rfl | exact Or.inr rfl))))) (fun _ _ _ _ _ => dts_nil) (fun _ _ _ _ _ => (by exact (de_if (by exact (dt_cmp (op_eqD st.blk.u64) d_eq (by exact (DE.b (by exact (de_fn (ok_law_draw T) st.blk T.m_law_draw T.k_law_draw T.b_law_draw (by exact (da_cons (by exact (dev 0 (pv 0))) (by exact (da_cons (by exact (dev 5 (pv 5))) da_nil)))))))) (by exact (DE.b de_int)) (nomark _))) (by exact (de_fn (ok_law_pick T) st.blk T.m_law_pick T.k_law_pick T.b_law_pick (by exact (da_cons (by exact (dev 0 (pv 0))) (by exact (da_cons (by exact (de_fn (ok_law_all T) st.blk T.m_law_all T.k_law_all T.b_law_all (by exact (da_cons (by exact (dev 2 (pv 2))) da_nil)))) da_nil)))))) (by exact (de_bin o_mul d_mul (by exact (DE.b (by exact (de_tup (by exact (da_cons de_int da_nil)))))) (by exact (dbv 2 (pv 2)))))))))) rfl rfl (sw_true rfl rfl rfl (by decide +kernel))))
    (by exact (dss_cons (by exact (ds_set 7 (by exact (de_fn (ok_law_due T) st T.m_law_due T.k_law_due T.b_law_due (by exact (da_cons (by exact (dev 6 (pv 6))) (by exact (da_cons (by exact (dev 3 (pv 3))) (by exact (da_cons (by exact (dev 4 (pv 4))) da_nil)))))))) (fun h => ps_set (i := 7) S.nd rfl (by first | exact Or.inl rfl | exact Or.inr rfl) h)))
    (by exact (dss_cons (by exact (ds_set 8 (by exact (de_fn (ok_bursts_around T) st T.m_bursts_around T.k_bursts_around T.b_bursts_around (by exact (da_cons (by exact (de_bty call_list_of d_list T.z_list (by exact (dab_cons (by exact (dbv 6 (pv 6))) dab_nil)))) (by exact (da_cons (by exact (dev 3 (pv 3))) (by exact (da_cons (by exact (dev 4 (pv 4))) da_nil)))))))) (fun h => ps_set (i := 8) S.nd rfl (by first | exact Or.inl rfl | exact Or.inr rfl) h)))
    (by exact (dss_cons (by exact (ds_if (by exact (DW.t (by exact (dw_or (by exact (dt_cmp (op_neD st.u64) d_ne (by exact (DE.b (by exact (de_blt (call_reprD st.gd st.u64) d_repr T.z_repr (by exact (dab_cons (by exact (dbv 8 (pv 8))) dab_nil)))))) (by exact (DE.b (by exact (de_blt (call_reprD st.gd st.u64) d_repr T.z_repr (by exact (dab_cons (by exact (dbv 7 (pv 7))) dab_nil)))))) (nomark _))) (by exact (dw_or1 (by exact (dt_cmp (op_neD st.u64) d_ne (by exact (DE.b (by exact (de_kw0 (ok_bursts_around T) st T.m_bursts_around T.k_bursts_around T.kw_0 (by exact (dk_cons (by exact (dev 4 (pv 4))) (by exact (dk_cons (by exact (dev 3 (pv 3))) (by exact (dk_cons (by exact (de_bty call_tuple_of d_tuple T.z_tuple (by exact (dab_cons (by exact (dbv 6 (pv 6))) dab_nil)))) dk_nil)))))))))) (by exact (dbv 8 (pv 8))) (nomark _)))))))))
    (by exact (dss_one (by exact (ds_ret de_bl))))
    dss_nil))
    (by exact (dss_cons (by exact (ds_set 9 (by exact (de_fn (ok_law_draw T) st T.m_law_draw T.k_law_draw T.b_law_draw (by exact (da_cons (by exact (dev 0 (pv 0))) (by exact (da_cons (by exact (dev 1 (pv 1))) da_nil)))))) (fun h => ps_set (i := 9) S.nd rfl (by first | exact Or.inl rfl | exact Or.inr rfl) h)))
    (by exact (dss_cons (by exact (ds_asg (by exact (de_tup (by exact (da_cons (by exact (de_fn (ok_bursts_around T) st T.m_bursts_around T.k_bursts_around T.b_bursts_around (by exact (da_cons (by exact (de_bin o_add d_add (by exact (DE.b (by exact (de_slice (by exact (dbv 6 (pv 6))) (by exact (do_some (by exact (dev 9 (pv 9))))) do_none)))) (by exact (DE.b (by exact (de_slice (by exact (dbv 6 (pv 6))) do_none (by exact (do_some (by exact (dev 9 (pv 9))))))))))) (by exact (da_cons (by exact (dev 3 (pv 3))) (by exact (da_cons (by exact (dev 4 (pv 4))) da_nil)))))))) (by exact (da_cons (by exact (de_fn (ok_bursts_around T) st T.m_bursts_around T.k_bursts_around T.b_bursts_around (by exact (da_cons (by exact (de_bin o_mul d_mul (by exact (dbv 6 (pv 6))) (by exact (DE.b de_int)))) (by exact (da_cons (by exact (dev 3 (pv 3))) (by exact (da_cons (by exact (dev 4 (pv 4))) da_nil)))))))) da_nil)))))) (by exact (dg_tup (m := 2) (by exact (dgs_cons (by exact (dg_name (pg_name (i := 10) S.nd rfl (by first | exact Or.inl rfl | exact Or.inr rfl)))) (by exact (dgs_cons (by exact (dg_name (pg_name (i := 11) S.nd rfl (by first | exact Or.inl rfl | exact Or.inr rfl)))) dgs_nil))))))))
    (by exact (dss_cons (by exact (ds_if (by exact (dt_cmp op_isN d_isN (by exact (dbv 7 (pv 7))) (by exact (DE.b de_non)) (nomark _)))
    (by exact (dss_one (by exact (ds_ret (by exact (de_and (by exact (de_cmp op_isN d_isN (by exact (dbv 10 (pv 10))) (by exact (DE.b de_non)) (nomark _))) (by exact (de_one (by exact (de_cmp op_isN d_isN (by exact (dbv 11 (pv 11))) (by exact (DE.b de_non)) (nomark _)))))))))))
    dss_nil))
    (by exact (dss_cons (by exact (ds_if (by exact (DW.t (by exact (dw_or (by exact (dt_cmp op_isN d_isN (by exact (dbv 10 (pv 10))) (by exact (DE.b de_non)) (nomark _))) (by exact (dw_or1 (by exact (dt_cmp op_isN d_isN (by exact (dbv 11 (pv 11))) (by exact (DE.b de_non)) (nomark _)))))))))
    (by exact (dss_one (by exact (ds_ret de_bl))))
    dss_nil))
    (by exact (dss_cons (by exact (ds_lc (own := [("first", 14), ("length", 15)]) 12 (by exact (dlc_mk (own := [("first", 14), ("length", 15)]) S.nd (by exact (di_seq (by exact (dev 7 (pv 7))))) (blkOk_by (by change blkC ["pen", "many", "width", "burst", "guard", "often", "rows", "due", "told", "turn", "other", "twice", "moved", "step", "first", "length", "one"] (defScope s_law_one_right) _ _ = true; decide +kernel)) (by exact (dg_tup (m := 2) (by exact (dgs_cons (by exact (dg_name (pg_name (i := 14) S.nd rfl (by first | exact Or.inl rfl | exact Or.inr rfl)))) (by exact (dgs_cons (by exact (dg_name (pg_name (i := 15) S.nd rfl (by first | exact Or.inl rfl | exact Or.inr rfl)))) dgs_nil)))))) dts_nil (by exact (de_tup (by exact (da_cons (by exact (de_bin op_mod d_mod (by exact (DE.b (by exact (de_bty call_int1 d_toInt T.z_int (by exact (dab_cons (by exact (DE.b (by exact (de_bin op_sub d_sub (by exact (dbv 14 (pv 14))) (by exact (dbv 9 (pv 9))))))) dab_nil)))))) (by exact (dbv 1 (pv 1))))) (by exact (da_cons (by exact (dev 15 (pv 15))) da_nil)))))) (fun _ _ _ _ _ => (by exact (dg_tup (m := 2) (by exact (dgs_cons (by exact (dg_name (pg_name (i := 14) S.nd rfl (by first | exact Or.inl rfl | exact Or.inr rfl)))) (by exact (dgs_cons (by exact (dg_name (pg_name (i := 15) S.nd rfl (by first | exact Or.inl rfl | exact Or.inr rfl)))) dgs_nil))))))) (fun _ _ _ _ _ => dts_nil) (fun _ _ _ _ _ => (by exact (de_tup (by exact (da_cons (by exact (de_bin op_mod d_mod (by exact (DE.b (by exact (de_bty call_int1 d_toInt T.z_int (by exact (dab_cons (by exact (DE.b (by exact (de_bin op_sub d_sub (by exact (dbv 14 (pv 14))) (by exact (dbv 9 (pv 9))))))) dab_nil)))))) (by exact (dbv 1 (pv 1))))) (by exact (da_cons (by exact (dev 15 (pv 15))) da_nil))))))))) rfl rfl (sw_true rfl rfl rfl (by decide +kernel))))
    (by exact (dss_cons (by exact (ds_if (by exact (DW.t (by exact (dw_or (by exact (dt_cmp (op_neD st.u64) d_ne (by exact (DE.b (by exact (de_blt c_len d_len T.z_len (by exact (dab_cons (by exact (dbv 10 (pv 10))) dab_nil)))))) (by exact (DE.b (by exact (de_blt c_len d_len T.z_len (by exact (dab_cons (by exact (dbv 12 (pv 12))) dab_nil)))))) (nomark _))) (by exact (dw_or1 (by exact (dt_cmp (op_neD st.u64) d_ne (by exact (DE.b (by exact (DOw.e (by exact (dow_lc (own := [("one", 16)]) (by exact (dlc_mk (own := [("one", 16)]) S.nd (by exact (di_seq (by exact (dev 12 (pv 12))))) (blkOk_by (by change blkC ["pen", "many", "width", "burst", "guard", "often", "rows", "due", "told", "turn", "other", "twice", "moved", "step", "first", "length", "one"] (defScope s_law_one_right) _ _ = true; decide +kernel)) (by exact (dg_name (pg_name (i := 16) S.nd rfl (by first | exact Or.inl rfl | exact Or.inr rfl)))) (by exact (dts_one (by exact (dt_cmp (o_notIn st.blk.u65) d_notIn (by exact (dbv 16 (pv 16))) (by exact (dbv 10 (pv 10))) (by rfl))))) (by exact (dev 16 (pv 16))) (fun _ _ _ _ _ => (by exact (dg_name (pg_name (i := 16) S.nd rfl (by first | exact Or.inl rfl | exact Or.inr rfl))))) (fun _ _ _ _ _ => (by exact (dts_one (by exact (dt_cmp (o_notIn st.blk.u65) d_notIn (by exact (dbv 16 (pv 16))) (by exact (dbv 10 (pv 10))) (by rfl)))))) (fun _ _ _ _ _ => (by exact (dev 16 (pv 16)))))))))))) (by exact (DE.b (by exact (de_lst da_nil)))) (nomark _)))))))))
    (by exact (dss_one (by exact (ds_ret de_bl))))
    dss_nil))
    (by exact (dss_one (by exact (ds_ret (by exact (de_cmp (op_eqD st.u64) d_eq (by exact (DE.b (by exact (de_bty call_list_of d_list T.z_list (by exact (dab_cons (by exact (dbv 11 (pv 11))) dab_nil)))))) (by exact (DE.b (by exact (de_bin o_add d_add (by exact (DE.b (by exact (de_bty call_list_of d_list T.z_list (by exact (dab_cons (by exact (dbv 7 (pv 7))) dab_nil)))))) (by exact (DE.b (by exact (DOw.e (by exact (dow_lc (own := [("first", 14), ("length", 15)]) (by exact (dlc_mk (own := [("first", 14), ("length", 15)]) S.nd (by exact (di_seq (by exact (dev 7 (pv 7))))) (blkOk_by (by change blkC ["pen", "many", "width", "burst", "guard", "often", "rows", "due", "told", "turn", "other", "twice", "moved", "step", "first", "length", "one"] (defScope s_law_one_right) _ _ = true; decide +kernel)) (by exact (dg_tup (m := 2) (by exact (dgs_cons (by exact (dg_name (pg_name (i := 14) S.nd rfl (by first | exact Or.inl rfl | exact Or.inr rfl)))) (by exact (dgs_cons (by exact (dg_name (pg_name (i := 15) S.nd rfl (by first | exact Or.inl rfl | exact Or.inr rfl)))) dgs_nil)))))) dts_nil (by exact (de_tup (by exact (da_cons (by exact (de_bin o_add d_add (by exact (dbv 14 (pv 14))) (by exact (dbv 1 (pv 1))))) (by exact (da_cons (by exact (dev 15 (pv 15))) da_nil)))))) (fun _ _ _ _ _ => (by exact (dg_tup (m := 2) (by exact (dgs_cons (by exact (dg_name (pg_name (i := 14) S.nd rfl (by first | exact Or.inl rfl | exact Or.inr rfl)))) (by exact (dgs_cons (by exact (dg_name (pg_name (i := 15) S.nd rfl (by first | exact Or.inl rfl | exact Or.inr rfl)))) dgs_nil))))))) (fun _ _ _ _ _ => dts_nil) (fun _ _ _ _ _ => (by exact (de_tup (by exact (da_cons (by exact (de_bin o_add d_add (by exact (dbv 14 (pv 14))) (by exact (dbv 1 (pv 1))))) (by exact (da_cons (by exact (dev 15 (pv 15))) da_nil))))))))))))))))))) (nomark _)))))))))))))))))))))))))))))), m_law_one_right⟩
theorem ok_law (T : Txt K mg A) : FnG P w K mg base CX0 6 A.f_law A.d_law ["script"] (spLaw K) := by
  have S := sc_law
  refine law_ok (k := 5) T.F_law sc_law 2 rfl (fun cdv A0 outer s H E st => ?_)
  exact ⟨_, _, kb_law, fun h => pss_cons (by exact (ps_set (i := 1) S.nd rfl (by first | exact Or.inl rfl | exact Or.inr rfl) (pe_callG (ok_law_pen T) (st.room.mono (by decide)) st.gd (by exact rfl) T.m_law_pen T.k_law_pen T.b_law_pen .nil pass0 (pa_cons (pv 0) pa_nil)))) h, by exact (dss_cons (by exact (ds_for (by exact (di_rng1 T.z_range (by exact (da_cons de_int da_nil)))) (by exact (dg_name (pg_name (i := 2) S.nd rfl (by first | exact Or.inl rfl | exact Or.inr rfl))))
    (by exact (dss_one (by exact (ds_if (by exact (dt_not (by exact (dt_val (by exact (de_fn (ok_law_one_right T) st T.m_law_one_right T.k_law_one_right T.b_law_one_right (by exact (da_cons (by exact (dev 1 (pv 1))) da_nil))))))))
    (by exact (dss_one (by exact (ds_ret de_bl))))
    dss_nil)))) (fun a b c => ps_for PassesOwn.never rfl a b c)))
    (by exact (dss_cons (by exact (ds_set 3 (by exact (de_lst (by exact (da_cons (by exact (de_tup (by exact (da_cons de_int da_nil)))) (by exact (da_cons (by exact (de_tup (by exact (da_cons de_int da_nil)))) (by exact (da_cons (by exact (de_tup (by exact (da_cons de_int da_nil)))) (by exact (da_cons (by exact (de_tup (by exact (da_cons de_int da_nil)))) da_nil)))))))))) (fun h => ps_set (i := 3) S.nd rfl (by first | exact Or.inl rfl | exact Or.inr rfl) h)))
    (by exact (dss_one (by exact (ds_ret (by exact (de_and (by exact (de_cmp (op_eqD st.u64) d_eq (by exact (DE.b (by exact (de_lst (by exact (da_cons (by exact (de_fn (ok_bursts_around T) st T.m_bursts_around T.k_bursts_around T.b_bursts_around (by exact (da_cons (by exact (dev 3 (pv 3))) (by exact (da_cons de_int (by exact (da_cons de_int da_nil)))))))) (by exact (da_cons (by exact (de_fn (ok_bursts_around T) st T.m_bursts_around T.k_bursts_around T.b_bursts_around (by exact (da_cons (by exact (dev 3 (pv 3))) (by exact (da_cons de_int (by exact (da_cons de_int da_nil)))))))) (by exact (da_cons (by exact (de_fn (ok_bursts_around T) st T.m_bursts_around T.k_bursts_around T.b_bursts_around (by exact (da_cons (by exact (dev 3 (pv 3))) (by exact (da_cons de_int (by exact (da_cons de_int da_nil)))))))) da_nil)))))))))) (by exact (DE.b (by exact (de_lst (by exact (da_cons (by exact (de_tup (by exact (da_cons (by exact (de_tup (by exact (da_cons de_int (by exact (da_cons de_int da_nil)))))) da_nil)))) (by exact (da_cons de_non (by exact (da_cons de_non da_nil)))))))))) (nomark _))) (by exact (de_one (by exact (de_cmp (op_eqD st.u64) d_eq (by exact (DE.b (by exact (de_fn (ok_bursts_around T) st T.m_bursts_around T.k_bursts_around T.b_bursts_around (by exact (da_cons (by exact (de_lst (by exact (da_cons (by exact (de_tup (by exact (da_cons de_int (by exact (da_cons de_int da_nil)))))) da_nil)))) (by exact (da_cons de_int (by exact (da_cons de_int da_nil)))))))))) (by exact (DE.b (by exact (de_tup (by exact (da_cons (by exact (de_tup (by exact (da_cons de_int (by exact (da_cons de_int da_nil)))))) da_nil)))))) (nomark _)))))))))))))), m_law⟩
end
theorem all_mk {P : Program} {w : World} {K : PySem.W.Frag} {h : Heap} {mg : Str → Option Value} {fa : Addr} (X : K.In h) (G : h.Ns mainGlobals mg) (hfa : mg "law" = some (.ref fa))
    {od1 an1 : Option Addr} {sl1 : Array (Option Value)} {oc1 kV1 dc1 pm1 cd1 ct1 : Value} {f1 : Addr}
    (a1 : PySem.W.nsIn K mainGlobals "is_bit" = some (some (.ref f1))) (l1 : K.lookup f1 = some ⟨oc1, od1, .func (PySem.W.fnOf "is_bit" "is_bit" (defArgs s_is_bit) (defBody s_is_bit) (defScope s_is_bit) .none kV1 dc1 pm1 an1 cd1 ct1), sl1⟩) (c1 : PySem.W.codeIn K cd1 "is_bit" = true) (k1 : PySem.W.keepIn K (.ref f1) = true)
    {od2 an2 : Option Addr} {sl2 : Array (Option Value)} {oc2 kV2 dc2 pm2 cd2 ct2 : Value} {f2 : Addr}
    (a2 : PySem.W.nsIn K mainGlobals "is_bits" = some (some (.ref f2))) (l2 : K.lookup f2 = some ⟨oc2, od2, .func (PySem.W.fnOf "is_bits" "is_bits" (defArgs s_is_bits) (defBody s_is_bits) (defScope s_is_bits) .none kV2 dc2 pm2 an2 cd2 ct2), sl2⟩) (c2 : PySem.W.codeIn K cd2 "is_bits" = true) (k2 : PySem.W.keepIn K (.ref f2) = true)
    {od3 an3 : Option Addr} {sl3 : Array (Option Value)} {oc3 kV3 dc3 pm3 cd3 ct3 : Value} {f3 : Addr}
    (a3 : PySem.W.nsIn K mainGlobals "is_between" = some (some (.ref f3))) (l3 : K.lookup f3 = some ⟨oc3, od3, .func (PySem.W.fnOf "is_between" "is_between" (defArgs s_is_between) (defBody s_is_between) (defScope s_is_between) .none kV3 dc3 pm3 an3 cd3 ct3), sl3⟩) (c3 : PySem.W.codeIn K cd3 "is_between" = true) (k3 : PySem.W.keepIn K (.ref f3) = true)
    {od4 an4 : Option Addr} {sl4 : Array (Option Value)} {oc4 kV4 dc4 pm4 cd4 ct4 : Value} {f4 : Addr}
    (a4 : PySem.W.nsIn K mainGlobals "need_bursts" = some (some (.ref f4))) (l4 : K.lookup f4 = some ⟨oc4, od4, .func (PySem.W.fnOf "need_bursts" "need_bursts" (defArgs s_need_bursts) (defBody s_need_bursts) (defScope s_need_bursts) .none kV4 dc4 pm4 an4 cd4 ct4), sl4⟩) (c4 : PySem.W.codeIn K cd4 "need_bursts" = true) (k4 : PySem.W.keepIn K (.ref f4) = true)
    {od5 an5 : Option Addr} {sl5 : Array (Option Value)} {oc5 kV5 dc5 pm5 cd5 ct5 : Value} {f5 : Addr}
    (a5 : PySem.W.nsIn K mainGlobals "need_steps" = some (some (.ref f5))) (l5 : K.lookup f5 = some ⟨oc5, od5, .func (PySem.W.fnOf "need_steps" "need_steps" (defArgs s_need_steps) (defBody s_need_steps) (defScope s_need_steps) .none kV5 dc5 pm5 an5 cd5 ct5), sl5⟩) (c5 : PySem.W.codeIn K cd5 "need_steps" = true) (k5 : PySem.W.keepIn K (.ref f5) = true)
    {od6 an6 : Option Addr} {sl6 : Array (Option Value)} {oc6 kV6 dc6 pm6 cd6 ct6 : Value} {f6 : Addr}
    (a6 : PySem.W.nsIn K mainGlobals "wrong_steps" = some (some (.ref f6))) (l6 : K.lookup f6 = some ⟨oc6, od6, .func (PySem.W.fnOf "wrong_steps" "wrong_steps" (defArgs s_wrong_steps) (defBody s_wrong_steps) (defScope s_wrong_steps) .none kV6 dc6 pm6 an6 cd6 ct6), sl6⟩) (c6 : PySem.W.codeIn K cd6 "wrong_steps" = true) (k6 : PySem.W.keepIn K (.ref f6) = true)
    {od7 an7 : Option Addr} {sl7 : Array (Option Value)} {oc7 kV7 dc7 pm7 cd7 ct7 : Value} {f7 : Addr}
    (a7 : PySem.W.nsIn K mainGlobals "bursts_around" = some (some (.ref f7))) (l7 : K.lookup f7 = some ⟨oc7, od7, .func (PySem.W.fnOf "bursts_around" "bursts_around" (defArgs s_bursts_around) (defBody s_bursts_around) (defScope s_bursts_around) .none kV7 dc7 pm7 an7 cd7 ct7), sl7⟩) (c7 : PySem.W.codeIn K cd7 "bursts_around" = true) (k7 : PySem.W.keepIn K (.ref f7) = true)
    {od8 an8 : Option Addr} {sl8 : Array (Option Value)} {oc8 kV8 dc8 pm8 cd8 ct8 : Value} {f8 : Addr}
    (a8 : PySem.W.nsIn K mainGlobals "_law_pen" = some (some (.ref f8))) (l8 : K.lookup f8 = some ⟨oc8, od8, .func (PySem.W.fnOf "_law_pen" "_law_pen" (defArgs s_law_pen) (defBody s_law_pen) (defScope s_law_pen) .none kV8 dc8 pm8 an8 cd8 ct8), sl8⟩) (c8 : PySem.W.codeIn K cd8 "_law_pen" = true) (k8 : PySem.W.keepIn K (.ref f8) = true)
    {od9 an9 : Option Addr} {sl9 : Array (Option Value)} {oc9 kV9 dc9 pm9 cd9 ct9 : Value} {f9 : Addr}
    (a9 : PySem.W.nsIn K mainGlobals "_law_draw" = some (some (.ref f9))) (l9 : K.lookup f9 = some ⟨oc9, od9, .func (PySem.W.fnOf "_law_draw" "_law_draw" (defArgs s_law_draw) (defBody s_law_draw) (defScope s_law_draw) .none kV9 dc9 pm9 an9 cd9 ct9), sl9⟩) (c9 : PySem.W.codeIn K cd9 "_law_draw" = true) (k9 : PySem.W.keepIn K (.ref f9) = true)
    {od10 an10 : Option Addr} {sl10 : Array (Option Value)} {oc10 kV10 dc10 pm10 cd10 ct10 : Value} {f10 : Addr}
    (a10 : PySem.W.nsIn K mainGlobals "_law_pick" = some (some (.ref f10))) (l10 : K.lookup f10 = some ⟨oc10, od10, .func (PySem.W.fnOf "_law_pick" "_law_pick" (defArgs s_law_pick) (defBody s_law_pick) (defScope s_law_pick) .none kV10 dc10 pm10 an10 cd10 ct10), sl10⟩) (c10 : PySem.W.codeIn K cd10 "_law_pick" = true) (k10 : PySem.W.keepIn K (.ref f10) = true)
    {od11 an11 : Option Addr} {sl11 : Array (Option Value)} {oc11 kV11 dc11 pm11 cd11 ct11 : Value} {f11 : Addr}
    (a11 : PySem.W.nsIn K mainGlobals "_law_all" = some (some (.ref f11))) (l11 : K.lookup f11 = some ⟨oc11, od11, .func (PySem.W.fnOf "_law_all" "_law_all" (defArgs s_law_all) (defBody s_law_all) (defScope s_law_all) .none kV11 dc11 pm11 an11 cd11 ct11), sl11⟩) (c11 : PySem.W.codeIn K cd11 "_law_all" = true) (k11 : PySem.W.keepIn K (.ref f11) = true)
    {od12 an12 : Option Addr} {sl12 : Array (Option Value)} {oc12 kV12 dc12 pm12 cd12 ct12 : Value} {f12 : Addr}
    (a12 : PySem.W.nsIn K mainGlobals "_law_parted" = some (some (.ref f12))) (l12 : K.lookup f12 = some ⟨oc12, od12, .func (PySem.W.fnOf "_law_parted" "_law_parted" (defArgs s_law_parted) (defBody s_law_parted) (defScope s_law_parted) .none kV12 dc12 pm12 an12 cd12 ct12), sl12⟩) (c12 : PySem.W.codeIn K cd12 "_law_parted" = true) (k12 : PySem.W.keepIn K (.ref f12) = true)
    {od13 an13 : Option Addr} {sl13 : Array (Option Value)} {oc13 kV13 dc13 pm13 cd13 ct13 : Value} {f13 : Addr}
    (a13 : PySem.W.nsIn K mainGlobals "_law_due" = some (some (.ref f13))) (l13 : K.lookup f13 = some ⟨oc13, od13, .func (PySem.W.fnOf "_law_due" "_law_due" (defArgs s_law_due) (defBody s_law_due) (defScope s_law_due) .none kV13 dc13 pm13 an13 cd13 ct13), sl13⟩) (c13 : PySem.W.codeIn K cd13 "_law_due" = true) (k13 : PySem.W.keepIn K (.ref f13) = true)
    {od14 an14 : Option Addr} {sl14 : Array (Option Value)} {oc14 kV14 dc14 pm14 cd14 ct14 : Value} {f14 : Addr}
    (a14 : PySem.W.nsIn K mainGlobals "_law_one_right" = some (some (.ref f14))) (l14 : K.lookup f14 = some ⟨oc14, od14, .func (PySem.W.fnOf "_law_one_right" "_law_one_right" (defArgs s_law_one_right) (defBody s_law_one_right) (defScope s_law_one_right) .none kV14 dc14 pm14 an14 cd14 ct14), sl14⟩) (c14 : PySem.W.codeIn K cd14 "_law_one_right" = true) (k14 : PySem.W.keepIn K (.ref f14) = true)
    {od15 an15 : Option Addr} {sl15 : Array (Option Value)} {oc15 kV15 dc15 pm15 cd15 ct15 : Value} {f15 : Addr}
    (a15 : PySem.W.nsIn K mainGlobals "law" = some (some (.ref f15))) (l15 : K.lookup f15 = some ⟨oc15, od15, .func (PySem.W.fnOf "law" "law" (defArgs s_law) (defBody s_law) (defScope s_law) .none kV15 dc15 pm15 an15 cd15 ct15), sl15⟩) (c15 : PySem.W.codeIn K cd15 "law" = true) (k15 : PySem.W.keepIn K (.ref f15) = true)
    (z_abs : PySem.W.nsIn K mainGlobals "abs" = some none)
    (z_all : PySem.W.nsIn K mainGlobals "all" = some none)
    (z_any : PySem.W.nsIn K mainGlobals "any" = some none)
    (z_bool : PySem.W.nsIn K mainGlobals "bool" = some none)
    (z_enumerate : PySem.W.nsIn K mainGlobals "enumerate" = some none)
    (z_int : PySem.W.nsIn K mainGlobals "int" = some none)
    (z_isinstance : PySem.W.nsIn K mainGlobals "isinstance" = some none)
    (z_len : PySem.W.nsIn K mainGlobals "len" = some none)
    (z_list : PySem.W.nsIn K mainGlobals "list" = some none)
    (z_range : PySem.W.nsIn K mainGlobals "range" = some none)
    (z_repr : PySem.W.nsIn K mainGlobals "repr" = some none)
    (z_tuple : PySem.W.nsIn K mainGlobals "tuple" = some none)
    (z_zip : PySem.W.nsIn K mainGlobals "zip" = some none)
    {t_MOST_BURST : Tok} (g_MOST_BURST : PySem.W.nsIn K mainGlobals "MOST_BURST" = some (some (.int 8 t_MOST_BURST)))
    {t_MOST_GUARD : Tok} (g_MOST_GUARD : PySem.W.nsIn K mainGlobals "MOST_GUARD" = some (some (.int 24 t_MOST_GUARD))) :
    ∃ fd : FuncData, (∀ (s : Shared) (v : Value), BindsTo s fd ⟨[v], []⟩ [("script", v)]) ∧ ∀ base : Heap, K.In base → base.Ns mainGlobals mg → FnG P w K mg base CX0 6 fa fd ["script"] (spLaw K) := by
  have e := hfa.symm.trans (PySem.W.mg_of X G a15)
  cases e
  have F1 := fun_mk (st := s_is_bit) l1 c1 k1
  have b1 := F1.binds (ps := ["value"]) fun _ _ _ _ _ _ us hl => match us, hl with | [_], _ => rfl
  have F2 := fun_mk (st := s_is_bits) l2 c2 k2
  have b2 := F2.binds (ps := ["value", "many"]) fun _ _ _ _ _ _ us hl => match us, hl with | [_, _], _ => rfl
  have F3 := fun_mk (st := s_is_between) l3 c3 k3
  have b3 := F3.binds (ps := ["value", "low", "high"]) fun _ _ _ _ _ _ us hl => match us, hl with | [_, _, _], _ => rfl
  have F4 := fun_mk (st := s_need_bursts) l4 c4 k4
  have b4 := F4.binds (ps := ["burst", "guard"]) fun _ _ _ _ _ _ us hl => match us, hl with | [_, _], _ => rfl
  have F5 := fun_mk (st := s_need_steps) l5 c5 k5
  have b5 := F5.binds (ps := ["rows"]) fun _ _ _ _ _ _ us hl => match us, hl with | [_], _ => rfl
  have F6 := fun_mk (st := s_wrong_steps) l6 c6 k6
  have b6 := F6.binds (ps := ["rows"]) fun _ _ _ _ _ _ us hl => match us, hl with | [_], _ => rfl
  have F7 := fun_mk (st := s_bursts_around) l7 c7 k7
  have b7 := F7.binds (ps := ["rows", "burst", "guard"]) fun _ _ _ _ _ _ us hl => match us, hl with | [_, _, _], _ => rfl
  have F8 := fun_mk (st := s_law_pen) l8 c8 k8
  have b8 := F8.binds (ps := ["script"]) fun _ _ _ _ _ _ us hl => match us, hl with | [_], _ => rfl
  have F9 := fun_mk (st := s_law_draw) l9 c9 k9
  have b9 := F9.binds (ps := ["pen", "many"]) fun _ _ _ _ _ _ us hl => match us, hl with | [_, _], _ => rfl
  have F10 := fun_mk (st := s_law_pick) l10 c10 k10
  have b10 := F10.binds (ps := ["pen", "some"]) fun _ _ _ _ _ _ us hl => match us, hl with | [_, _], _ => rfl
  have F11 := fun_mk (st := s_law_all) l11 c11 k11
  have b11 := F11.binds (ps := ["many"]) fun _ _ _ _ _ _ us hl => match us, hl with | [_], _ => rfl
  have F12 := fun_mk (st := s_law_parted) l12 c12 k12
  have b12 := F12.binds (ps := ["rows", "guard"]) fun _ _ _ _ _ _ us hl => match us, hl with | [_, _], _ => rfl
  have F13 := fun_mk (st := s_law_due) l13 c13 k13
  have b13 := F13.binds (ps := ["rows", "burst", "guard"]) fun _ _ _ _ _ _ us hl => match us, hl with | [_, _, _], _ => rfl
  have F14 := fun_mk (st := s_law_one_right) l14 c14 k14
  have b14 := F14.binds (ps := ["pen"]) fun _ _ _ _ _ _ us hl => match us, hl with | [_], _ => rfl
  have F15 := fun_mk (st := s_law) l15 c15 k15
  have b15 := F15.binds (ps := ["script"]) fun _ _ _ _ _ _ us hl => match us, hl with | [_], _ => rfl
  have kw0 : KwB K _ ["rows", "burst", "guard"] 0 ["guard", "burst", "rows"] [2, 1, 0] := kwb_mk F7 fun _ _ _ _ _ _ us ws h1 h2 => match us, ws, h1, h2 with | [], [_, _, _], _, _ => rfl
  have T : Txt K mg ⟨f1, PySem.W.fnOf "is_bit" "is_bit" (defArgs s_is_bit) (defBody s_is_bit) (defScope s_is_bit) .none kV1 dc1 pm1 an1 cd1 ct1, f2, PySem.W.fnOf "is_bits" "is_bits" (defArgs s_is_bits) (defBody s_is_bits) (defScope s_is_bits) .none kV2 dc2 pm2 an2 cd2 ct2, f3, PySem.W.fnOf "is_between" "is_between" (defArgs s_is_between) (defBody s_is_between) (defScope s_is_between) .none kV3 dc3 pm3 an3 cd3 ct3, f4, PySem.W.fnOf "need_bursts" "need_bursts" (defArgs s_need_bursts) (defBody s_need_bursts) (defScope s_need_bursts) .none kV4 dc4 pm4 an4 cd4 ct4, f5, PySem.W.fnOf "need_steps" "need_steps" (defArgs s_need_steps) (defBody s_need_steps) (defScope s_need_steps) .none kV5 dc5 pm5 an5 cd5 ct5, f6, PySem.W.fnOf "wrong_steps" "wrong_steps" (defArgs s_wrong_steps) (defBody s_wrong_steps) (defScope s_wrong_steps) .none kV6 dc6 pm6 an6 cd6 ct6, f7, PySem.W.fnOf "bursts_around" "bursts_around" (defArgs s_bursts_around) (defBody s_bursts_around) (defScope s_bursts_around) .none kV7 dc7 pm7 an7 cd7 ct7, f8, PySem.W.fnOf "_law_pen" "_law_pen" (defArgs s_law_pen) (defBody s_law_pen) (defScope s_law_pen) .none kV8 dc8 pm8 an8 cd8 ct8, f9, PySem.W.fnOf "_law_draw" "_law_draw" (defArgs s_law_draw) (defBody s_law_draw) (defScope s_law_draw) .none kV9 dc9 pm9 an9 cd9 ct9, f10, PySem.W.fnOf "_law_pick" "_law_pick" (defArgs s_law_pick) (defBody s_law_pick) (defScope s_law_pick) .none kV10 dc10 pm10 an10 cd10 ct10, f11, PySem.W.fnOf "_law_all" "_law_all" (defArgs s_law_all) (defBody s_law_all) (defScope s_law_all) .none kV11 dc11 pm11 an11 cd11 ct11, f12, PySem.W.fnOf "_law_parted" "_law_parted" (defArgs s_law_parted) (defBody s_law_parted) (defScope s_law_parted) .none kV12 dc12 pm12 an12 cd12 ct12, f13, PySem.W.fnOf "_law_due" "_law_due" (defArgs s_law_due) (defBody s_law_due) (defScope s_law_due) .none kV13 dc13 pm13 an13 cd13 ct13, f14, PySem.W.fnOf "_law_one_right" "_law_one_right" (defArgs s_law_one_right) (defBody s_law_one_right) (defScope s_law_one_right) .none kV14 dc14 pm14 an14 cd14 ct14, fa, PySem.W.fnOf "law" "law" (defArgs s_law) (defBody s_law) (defScope s_law) .none kV15 dc15 pm15 an15 cd15 ct15, t_MOST_BURST, t_MOST_GUARD⟩ := ⟨PySem.W.mg_none_of X G z_abs, PySem.W.mg_none_of X G z_all, PySem.W.mg_none_of X G z_any, PySem.W.mg_none_of X G z_bool, PySem.W.mg_none_of X G z_enumerate, PySem.W.mg_none_of X G z_int, PySem.W.mg_none_of X G z_isinstance, PySem.W.mg_none_of X G z_len, PySem.W.mg_none_of X G z_list, PySem.W.mg_none_of X G z_range, PySem.W.mg_none_of X G z_repr, PySem.W.mg_none_of X G z_tuple, PySem.W.mg_none_of X G z_zip, PySem.W.mg_of X G a1, k1, F1, b1, PySem.W.mg_of X G a2, k2, F2, b2, PySem.W.mg_of X G a3, k3, F3, b3, PySem.W.mg_of X G a4, k4, F4, b4, PySem.W.mg_of X G a5, k5, F5, b5, PySem.W.mg_of X G a6, k6, F6, b6, PySem.W.mg_of X G a7, k7, F7, b7, PySem.W.mg_of X G a8, k8, F8, b8, PySem.W.mg_of X G a9, k9, F9, b9, PySem.W.mg_of X G a10, k10, F10, b10, PySem.W.mg_of X G a11, k11, F11, b11, PySem.W.mg_of X G a12, k12, F12, b12, PySem.W.mg_of X G a13, k13, F13, b13, PySem.W.mg_of X G a14, k14, F14, b14, PySem.W.mg_of X G a15, k15, F15, b15, kw0, PySem.W.mg_of X G g_MOST_BURST, PySem.W.mg_of X G g_MOST_GUARD⟩
  exact ⟨PySem.W.fnOf "law" "law" (defArgs s_law) (defBody s_law) (defScope s_law) .none kV15 dc15 pm15 an15 cd15 ct15, fun s v => .of_eq rfl, fun base _ _ => ok_law T⟩
end L79
open PySem PySem.W PyProof.Rows
set_option maxHeartbeats 0 in
theorem PySem.Challenge.cw_spreadchecks_k79_bursts_of_closed_rows_holds : PySem.Challenge.rw_spreadchecks_k79_bursts_of_closed_rows.Holds := by
  w_on; o_law; k_head; (case hw => w_witness2)
  k_fill
  refine DL.walk_ofG (l := PySem.Challenge.rw_spreadchecks_k79_bursts_of_closed_rows) (k := 6) rfl rfl ⟨rfl, by decide, by decide⟩ (fun w h Y => PySem.W.kIn_of Y) ?F
  case F =>
    intro w mg fa h KX G hmg
    refine' L79.all_mk KX G hmg ?a1 ?l1 ?c1 ?k1 ?a2 ?l2 ?c2 ?k2 ?a3 ?l3 ?c3 ?k3 ?a4 ?l4 ?c4 ?k4 ?a5 ?l5 ?c5 ?k5 ?a6 ?l6 ?c6 ?k6 ?a7 ?l7 ?c7 ?k7 ?a8 ?l8 ?c8 ?k8 ?a9 ?l9 ?c9 ?k9 ?a10 ?l10 ?c10 ?k10 ?a11 ?l11 ?c11 ?k11 ?a12 ?l12 ?c12 ?k12 ?a13 ?l13 ?c13 ?k13 ?a14 ?l14 ?c14 ?k14 ?a15 ?l15 ?c15 ?k15 ?z_abs ?z_all ?z_any ?z_bool ?z_enumerate ?z_int ?z_isinstance ?z_len ?z_list ?z_range ?z_repr ?z_tuple ?z_zip ?g_MOST_BURST ?g_MOST_GUARD
    (case a1 => k_is); (case l1 => k_is); (case c1 => k_is); (case k1 => k_is); (case a2 => k_is); (case l2 => k_is); (case c2 => k_is); (case k2 => k_is); (case a3 => k_is); (case l3 => k_is); (case c3 => k_is); (case k3 => k_is); (case a4 => k_is); (case l4 => k_is); (case c4 => k_is); (case k4 => k_is); (case a5 => k_is); (case l5 => k_is); (case c5 => k_is); (case k5 => k_is); (case a6 => k_is); (case l6 => k_is); (case c6 => k_is); (case k6 => k_is); (case a7 => k_is); (case l7 => k_is); (case c7 => k_is); (case k7 => k_is); (case a8 => k_is); (case l8 => k_is); (case c8 => k_is); (case k8 => k_is); (case a9 => k_is); (case l9 => k_is); (case c9 => k_is); (case k9 => k_is); (case a10 => k_is); (case l10 => k_is); (case c10 => k_is); (case k10 => k_is); (case a11 => k_is); (case l11 => k_is); (case c11 => k_is); (case k11 => k_is); (case a12 => k_is); (case l12 => k_is); (case c12 => k_is); (case k12 => k_is); (case a13 => k_is); (case l13 => k_is); (case c13 => k_is); (case k13 => k_is); (case a14 => k_is); (case l14 => k_is); (case c14 => k_is); (case k14 => k_is); (case a15 => k_is); (case l15 => k_is); (case c15 => k_is); (case k15 => k_is); (case z_abs => k_is); (case z_all => k_is); (case z_any => k_is); (case z_bool => k_is); (case z_enumerate => k_is); (case z_int => k_is); (case z_isinstance => k_is); (case z_len => k_is); (case z_list => k_is); (case z_range => k_is); (case z_repr => k_is); (case z_tuple => k_is); (case z_zip => k_is); (case g_MOST_BURST => k_is); (case g_MOST_GUARD => k_is)
