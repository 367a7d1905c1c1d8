import PyProof.Rows.All
import Wide.All
import OpenK.AllK
import Wide.FinOn
import HandS.ForMost
import HandS.Walk
import HandS.Star
import HandS.TupMul
import HandS.TupAny
import HandS.IsInst
import HandS.Deep
import HandS.RaiseMore
import PyProof.ReprRoads
import KE.GoesMore
import HandS.Style
import HandS.ClsMeth
import HandS.MethStar
import KE.KOpsOwn
import KE.KCallOwn
import PyProof.InstNe
import HandS.SlotsOwn
import HandS.Wide
import HandS.IterVal
import HandS.Text
import HandS.OwnIter
import PySem.Challenge.RW_spreadchecks_k54_amounts_reckoned_with
set_option Elab.async false
set_option linter.all false
set_option maxRecDepth 100000
set_option maxHeartbeats 4000000
/-! The data layer: what a def does, told over plain data. -/
namespace DL
open PySem PySem.Spec PyProof.Rows L2
abbrev St := L2.St
/-- plain data -/
inductive D where
  | non | bl (b : Bool) | int (i : Int) | str (s : Str) | tup (ds : List D) | lst (ds : List D)
  | ty (n : String) | ref (a : Addr) | ins (C : Addr) (fs : List (Str × D)) | pen (cs : List Int)
/-- the draws' pen: where it stands, its cells -/
abbrev Pn := Addr × List Int
def pad (p : Option Pn) : Option Addr := p.map (·.1)
def pcs (p : Option Pn) : List Int := match p with
  | some q => q.2
  | none => []
mutual
inductive Rep (K : PySem.W.Frag) (pa : Option Pn) (F : Hp) : V → D → Prop
  | non : Rep K pa F .non .non
  | bl (b : Bool) : Rep K pa F (.bl b) (.bl b)
  | int (i : Int) : Rep K pa F (.int i) (.int i)
  | str (x : Str) : Rep K pa F (.str x) (.str x)
  | ty (n : String) : Rep K pa F (.ty n) (.ty n)
  | ref (a : Addr) : Rep K pa F (.ref a) (.ref a)
  | tup {a : Addr} {vs : List V} {ds : List D} : SqT K F a vs → Reps K pa F vs ds → Rep K pa F (.ref a) (.tup ds)
  | lst {a : Addr} {vs : List V} {ds : List D} : F a = some (.lst vs) → Reps K pa F vs ds → Rep K pa F (.ref a) (.lst ds)
  | ins {a C dx : Addr} {fs : List (Str × V)} {gs : List (Str × D)} : F a = some (.ins C dx fs) → F dx = some (.own a) → Repf K pa F fs gs → Rep K pa F (.ref a) (.ins C gs)
  | pen {a : Addr} {cs : List Int} : pa = some (a, cs) → Rep K pa F (.ref a) (.pen cs)
inductive Reps (K : PySem.W.Frag) (pa : Option Pn) (F : Hp) : List V → List D → Prop
  | nil : Reps K pa F [] []
  | cons {v : V} {vs : List V} {d : D} {ds : List D} : Rep K pa F v d → Reps K pa F vs ds → Reps K pa F (v :: vs) (d :: ds)
inductive Repf (K : PySem.W.Frag) (pa : Option Pn) (F : Hp) : List (Str × V) → List (Str × D) → Prop
  | nil : Repf K pa F [] []
  | cons {x : Str} {v : V} {vs : List (Str × V)} {d : D} {ds : List (Str × D)} : Rep K pa F v d → Repf K pa F vs ds → Repf K pa F ((x, v) :: vs) ((x, d) :: ds)
end
theorem same_sqT {K : PySem.W.Frag} {H H' : Hp} {a : Addr} {xs : List V} (e : Same H H') (h : SqT K H a xs) : SqT K H' a xs := by
  rcases h with (h | ⟨o, h⟩) | h
  · exact .inl (.inl (e _ _ h))
  · exact .inl (.inr ⟨o, e _ _ h⟩)
  · exact .inr h
section
variable {K : PySem.W.Frag} {pa : Option Pn} {F F' : Hp}
mutual
theorem Rep.mono (e : Same F F') : ∀ {v : V} {d : D}, Rep K pa F v d → Rep K pa F' v d
  | _, _, .non => .non
  | _, _, .bl b => .bl b
  | _, _, .int i => .int i
  | _, _, .str x => .str x
  | _, _, .ty n => .ty n
  | _, _, .ref a => .ref a
  | _, _, .tup h r => .tup (same_sqT e h) (Reps.mono e r)
  | _, _, .lst h r => .lst (e _ _ h) (Reps.mono e r)
  | _, _, .ins h1 h2 r => .ins (e _ _ h1) (e _ _ h2) (Repf.mono e r)
  | _, _, .pen h => .pen h
theorem Reps.mono (e : Same F F') : ∀ {vs : List V} {ds : List D}, Reps K pa F vs ds → Reps K pa F' vs ds
  | _, _, .nil => .nil
  | _, _, .cons h r => .cons (Rep.mono e h) (Reps.mono e r)
theorem Repf.mono (e : Same F F') : ∀ {vs : List (Str × V)} {ds : List (Str × D)}, Repf K pa F vs ds → Repf K pa F' vs ds
  | _, _, .nil => .nil
  | _, _, .cons h r => .cons (Rep.mono e h) (Repf.mono e r)
end
theorem Reps.length : ∀ {vs : List V} {ds : List D}, Reps K pa F vs ds → vs.length = ds.length
  | _, _, .nil => rfl
  | _, _, .cons _ r => by rw [List.length_cons, List.length_cons, Reps.length r]
theorem Reps.append : ∀ {vs ws : List V} {ds es : List D}, Reps K pa F vs ds → Reps K pa F ws es → Reps K pa F (vs ++ ws) (ds ++ es)
  | _, _, _, _, .nil, s => s
  | _, _, _, _, .cons h r, s => .cons h (Reps.append r s)
theorem Reps.get : ∀ {vs : List V} {ds : List D} {i : Nat} {v : V}, Reps K pa F vs ds → vs[i]? = some v → ∃ d, ds[i]? = some d ∧ Rep K pa F v d
  | _, _, _, _, .nil, e => by simp at e
  | _, _, 0, _, .cons h _, e => by simp at e; subst e; exact ⟨_, rfl, h⟩
  | _, _, i + 1, v, .cons _ r, e => by
    obtain ⟨d, h1, h2⟩ := Reps.get (i := i) (v := v) r (by simpa using e)
    exact ⟨d, by simpa using h1, h2⟩
theorem Reps.getD : ∀ {vs : List V} {ds : List D} {i : Nat} {d : D}, Reps K pa F vs ds → ds[i]? = some d → ∃ v, vs[i]? = some v ∧ Rep K pa F v d
  | _, _, _, _, .nil, e => by simp at e
  | _, _, 0, _, .cons h _, e => by simp at e; subst e; exact ⟨_, rfl, h⟩
  | _, _, i + 1, v, .cons _ r, e => by
    obtain ⟨d, h1, h2⟩ := Reps.getD (i := i) (d := v) r (by simpa using e)
    exact ⟨d, by simpa using h1, h2⟩
theorem Reps.take : ∀ {vs : List V} {ds : List D} (n : Nat), Reps K pa F vs ds → Reps K pa F (vs.take n) (ds.take n)
  | _, _, 0, _ => .nil
  | _, _, _ + 1, .nil => .nil
  | _, _, n + 1, .cons h r => .cons h (Reps.take n r)
theorem Reps.drop : ∀ {vs : List V} {ds : List D} (n : Nat), Reps K pa F vs ds → Reps K pa F (vs.drop n) (ds.drop n)
  | _, _, 0, r => r
  | _, _, _ + 1, .nil => .nil
  | _, _, n + 1, .cons _ r => Reps.drop n r
theorem Reps.set {v : V} {d : D} (h : Rep K pa F v d) : ∀ {vs : List V} {ds : List D} (i : Nat), Reps K pa F vs ds → Reps K pa F (vs.set i v) (ds.set i d)
  | _, _, _, .nil => .nil
  | _, _, 0, .cons _ r => .cons h r
  | _, _, i + 1, .cons q r => .cons q (Reps.set h i r)
theorem Reps.rep : ∀ {vs : List V} {ds : List D} (n : Nat), Reps K pa F vs ds → Reps K pa F (List.replicate n vs).flatten (List.replicate n ds).flatten
  | _, _, 0, _ => .nil
  | _, _, n + 1, r => by
    rw [List.replicate_succ, List.replicate_succ, List.flatten_cons, List.flatten_cons]
    exact Reps.append r (Reps.rep n r)
theorem Reps.ints (l : List Int) : Reps K pa F (l.map V.int) (l.map D.int) := by
  induction l with
  | nil => exact .nil
  | cons i r ih => exact .cons (.int i) ih
end
/-- where a def runs: the written part, the draws' pen, what stood frozen and what stood at its begin -/
structure Wd where
  K : PySem.W.Frag
  pa : Option Pn
  F0 : Hp
  H0 : Hp
/-- the pen as it stands: cells, how many were begun (at most n), what is left -/
def PenOk (W : Wd) (F H : Hp) (n : Nat) : Prop :=
  ∀ p, pad W.pa = some p → F p = none ∧ ∃ (ca : Addr) (turn rst : Int), H p = some (.lst [.ref ca, .int turn, .int rst]) ∧ F ca = some (.lst ((pcs W.pa).map V.int)) ∧ 0 ≤ turn ∧ turn ≤ (n : Int) ∧ 0 ≤ rst
structure Wok (W : Wd) (F H : Hp) (n : Nat) : Prop where
  sub : Same F H
  pen : PenOk W F H n
  old : ∀ a o, W.H0 a = some o → pad W.pa ≠ some a → H a = some o
  oldp : ∀ p, pad W.pa = some p → H p ≠ none
  f0 : Same W.F0 F
  nf : ∀ a o, F a = some o → W.F0 a = some o ∨ W.H0 a = none
theorem Wok.fresh {W : Wd} {F H : Hp} {n : Nat} (w : Wok W F H n) {p : Addr} (h : H p = none) : F p = none ∧ W.H0 p = none ∧ pad W.pa ≠ some p := by
  have hp : pad W.pa ≠ some p := fun e => w.oldp p e h
  refine ⟨?_, ?_, hp⟩
  · cases q : F p with
    | none => rfl
    | some o => rw [w.sub _ _ q] at h; cases h
  · cases q : W.H0 p with
    | none => rfl
    | some o => rw [w.old _ _ q hp] at h; cases h
/-- a slot of a def -/
inductive Sl where
  | no | val (d : D) | own (ds : List D) | obj (x C : Addr) (gs : List (Str × D))
/-- the own lists' addresses -/
def OwnA (S : List Sl) (σ : St) (a : Addr) : Prop := ∃ (i : Nat) (ds : List D), S[i]? = some (Sl.own ds) ∧ σ[i]? = some (some (V.ref a))
/-- between two places in one def: the frozen part grows (by new objects and by own lists that are given up), all that is tracked but the pen is kept -/
structure Grow (W : Wd) (S : List Sl) (σ : St) (F H F' H' : Hp) (S' : List Sl) : Prop where
  f : Same F F'
  h : ∀ a o, H a = some o → pad W.pa ≠ some a → H' a = some o
  hn : ∀ a, H' a = none → H a = none
  nf : ∀ a o, F' a = some o → F a = some o ∨ H a = none ∨ OwnA S σ a
  os : ∀ a, OwnA S' σ a → OwnA S σ a
theorem Grow.refl {W : Wd} {S : List Sl} {σ : St} {F H : Hp} : Grow W S σ F H F H S := ⟨Same.refl _, fun _ _ h _ => h, fun _ h => h, fun _ _ h => .inl h, fun _ h => h⟩
theorem Grow.trans {W : Wd} {S S1 S2 : List Sl} {σ : St} {F H F1 H1 F2 H2 : Hp} (a : Grow W S σ F H F1 H1 S1) (b : Grow W S1 σ F1 H1 F2 H2 S2) : Grow W S σ F H F2 H2 S2 :=
  ⟨a.f.trans b.f, fun c o h p => b.h c o (a.h c o h p) p, fun c h => a.hn c (b.hn c h), fun c o h => by
    rcases b.nf c o h with z | z | z
    · exact a.nf c o z
    · exact .inr (.inl (a.hn c z))
    · exact .inr (.inr (a.os c z)), fun c h => a.os c (b.os c h)⟩
/-- new objects alone: frozen ones among them -/
structure New (W : Wd) (F H F' H' : Hp) : Prop where
  f : Same F F'
  h : Same H H'
  sub : Same F' H'
  nw : ∀ a o, F' a = some o → F a = some o ∨ H a = none
theorem New.refl {W : Wd} {F H : Hp} (h : Same F H) : New W F H F H := ⟨Same.refl _, Same.refl _, h, fun _ _ h => .inl h⟩
theorem New.grow {W : Wd} {S : List Sl} {σ : St} {F H F' H' : Hp} (a : New W F H F' H') : Grow W S σ F H F' H' S := by
  refine ⟨a.f, fun c o h _ => a.h c o h, fun c h => ?_, fun c o h => ?_, fun _ h => h⟩
  · cases q : H c with
    | none => rfl
    | some u => rw [a.h _ _ q] at h; cases h
  · rcases a.nw c o h with z | z
    · exact .inl z
    · exact .inr (.inl z)
theorem New.wok {W : Wd} {F H F' H' : Hp} {n : Nat} (a : New W F H F' H') (w : Wok W F H n) : Wok W F' H' n where
  sub := a.sub
  pen := fun p e => by
    obtain ⟨h1, ca, turn, rst, h2, h3, h4⟩ := w.pen p e
    refine ⟨?_, ca, turn, rst, a.h _ _ h2, a.f _ _ h3, h4⟩
    cases q : F' p with
    | none => rfl
    | some o =>
      rcases a.nw _ _ q with z | z
      · rw [h1] at z; cases z
      · rw [h2] at z; cases z
  old := fun c o h p => a.h _ _ (w.old c o h p)
  oldp := fun p e q => by
    cases z : H p with
    | none => exact w.oldp p e z
    | some o => rw [a.h _ _ z] at q; cases q
  f0 := w.f0.trans a.f
  nf := fun c o h => by
    rcases a.nw _ _ h with z | z
    · exact w.nf _ _ z
    · exact .inr (w.fresh z).2.1
theorem New.trans {W : Wd} {F H F1 H1 F2 H2 : Hp} (a : New W F H F1 H1) (b : New W F1 H1 F2 H2) : New W F H F2 H2 :=
  ⟨a.f.trans b.f, a.h.trans b.h, b.sub, fun c o h => by
    rcases b.nw _ _ h with z | z
    · exact a.nw _ _ z
    · refine .inr ?_
      cases q : H c with
      | none => rfl
      | some u => rw [a.h _ _ q] at z; cases z⟩
theorem same_new {H : Hp} {p : Addr} {o : HO} (h : H p = none) : Same H (upd H p o) := fun b x e => by
  rw [upd_ne (ne_of_none e h)]; exact e
/-- a new object, frozen at once -/
theorem New.one {W : Wd} {F H : Hp} {n : Nat} (w : Wok W F H n) {p : Addr} (h : H p = none) (o : HO) : New W F H (upd F p o) (upd H p o) := by
  have hF := (w.fresh h).1
  refine ⟨same_new hF, same_new h, fun a u e => ?_, fun a u e => ?_⟩
  · by_cases q : a = p
    · subst q; rw [upd_same] at e ⊢; exact e
    · rw [upd_ne q] at e ⊢; exact w.sub _ _ e
  · by_cases q : a = p
    · subst q; exact .inr h
    · rw [upd_ne q] at e; exact .inl e
/-- a new object, not frozen -/
theorem New.free {W : Wd} {F H : Hp} {n : Nat} (w : Wok W F H n) {p : Addr} (h : H p = none) (o : HO) : New W F H F (upd H p o) :=
  ⟨Same.refl _, same_new h, w.sub.trans (same_new h), fun _ _ e => .inl e⟩
def SlOk (W : Wd) (F H : Hp) : Sl → Option V → Prop
  | .no, _ => True
  | .val d, some v => Rep W.K W.pa F v d
  | .val _, none => False
  | .own ds, some (.ref p) => F p = none ∧ W.H0 p = none ∧ pad W.pa ≠ some p ∧ ∃ vs, H p = some (.lst vs) ∧ Reps W.K W.pa F vs ds
  | .own _, _ => False
  | .obj x C gs, some (.ref p) => p = x ∧ F p = none ∧ W.H0 p = none ∧ pad W.pa ≠ some p ∧ ∃ dx fs, H p = some (.ins C dx fs) ∧ F dx = none ∧ W.H0 dx = none ∧ pad W.pa ≠ some dx ∧ H dx = some (.own p) ∧ Repf W.K W.pa F fs gs
  | .obj _ _ _, _ => False
/-- an instance that is being made stays as it is where lists alone are touched -/
theorem SlOk.obj_keep {W : Wd} {F F' H H' : Hp} {x C : Addr} {gs : List (Str × D)} {v : Option V} (h : SlOk W F H (.obj x C gs) v) (f : Same F F') (hF : ∀ a o, H a = some o → (∀ vs, o ≠ .lst vs) → F a = none → W.H0 a = none → F' a = none)
    (hH : ∀ a o, H a = some o → (∀ vs, o ≠ .lst vs) → pad W.pa ≠ some a → H' a = some o) : SlOk W F' H' (.obj x C gs) v := by
  cases v with
  | none => exact h.elim
  | some v =>
    cases v with
    | ref p =>
      obtain ⟨k0, k1, k2, k3, dx, fs, k4, k5, k6, k7, k8, k9⟩ := h
      exact ⟨k0, hF _ _ k4 (fun vs z => by cases z) k1 k2, k2, k3, dx, fs, hH _ _ k4 (fun vs z => by cases z) k3, hF _ _ k8 (fun vs z => by cases z) k5 k6, k6, k7, hH _ _ k8 (fun vs z => by cases z) k7, Repf.mono f k9⟩
    | _ => exact h.elim
structure Abs (W : Wd) (F : Hp) (n : Nat) (S : List Sl) (σ : St) (H : Hp) : Prop where
  w : Wok W F H n
  len : S.length = σ.length
  sl : ∀ (i : Nat) (s : Sl) (v : Option V), S[i]? = some s → σ[i]? = some v → SlOk W F H s v
  di : ∀ (i j : Nat) (p : Addr) (ds es : List D), S[i]? = some (.own ds) → S[j]? = some (.own es) → σ[i]? = some (some (.ref p)) → σ[j]? = some (some (.ref p)) → i = j
section
variable {W : Wd} {F F' H H' : Hp} {n n' : Nat} {S : List Sl} {σ : St}
theorem SlOk.grow {S1 S2 : List Sl} {σ1 : St} {s : Sl} {v : Option V} (h : SlOk W F H s v) (g : Grow W S1 σ1 F H F' H' S2) (nw : ∀ p o, H p = some o → F p = none → W.H0 p = none → F' p = none) : SlOk W F' H' s v := by
  cases s with
  | no => trivial
  | val d =>
    cases v with
    | none => exact h.elim
    | some v => exact Rep.mono g.f h
  | own ds =>
    cases v with
    | none => exact h.elim
    | some v =>
      cases v with
      | ref p =>
        obtain ⟨h1, h2, h3, vs, h4, h5⟩ := h
        exact ⟨nw p _ h4 h1 h2, h2, h3, vs, g.h _ _ h4 h3, Reps.mono g.f h5⟩
      | _ => exact h.elim
  | obj x C gs => exact h.obj_keep g.f (fun a o e _ z z0 => nw a o e z z0) (fun a o e _ z => g.h a o e z)
theorem Abs.new (A : Abs W F n S σ H) (g : New W F H F' H') : Abs W F' n S σ H' :=
  ⟨g.wok A.w, A.len, fun i s v e1 e2 => (A.sl i s v e1 e2).grow (S1 := S) (σ1 := σ) (S2 := S) g.grow (fun p vs h1 h2 h3 => by
    cases q : F' p with
    | none => rfl
    | some o =>
      rcases g.nw _ _ q with z | z
      · rw [h2] at z; cases z
      · rw [h1] at z; cases z), A.di⟩
end
/-- a value that is read at once: frozen, or an own list as it stands -/
def RB (W : Wd) (F H : Hp) (v : V) (d : D) : Prop :=
  Rep W.K W.pa F v d ∨ ∃ p vs ds, v = .ref p ∧ d = .lst ds ∧ pad W.pa ≠ some p ∧ H p = some (.lst vs) ∧ Reps W.K W.pa F vs ds
theorem RB.grow {W : Wd} {S1 S2 : List Sl} {σ1 : St} {F H F' H' : Hp} {v : V} {d : D} (h : RB W F H v d) (g : Grow W S1 σ1 F H F' H' S2) : RB W F' H' v d := by
  rcases h with h | ⟨p, vs, ds, e1, e2, e3, e4, e5⟩
  · exact .inl (Rep.mono g.f h)
  · exact .inr ⟨p, vs, ds, e1, e2, e3, g.h _ _ e4 e3, Reps.mono g.f e5⟩
theorem RB.new {W : Wd} {F H F' H' : Hp} {v : V} {d : D} (h : RB W F H v d) (g : New W F H F' H') : RB W F' H' v d := h.grow (S1 := []) (S2 := []) (σ1 := []) g.grow
section
variable {W : Wd} {F H : Hp} {n : Nat} {v : V} {ds : List D}
theorem RB.lst (w : Same F H) (h : RB W F H v (.lst ds)) : ∃ p vs, v = .ref p ∧ H p = some (.lst vs) ∧ Reps W.K W.pa F vs ds := by
  rcases h with h | ⟨p, vs, es, e1, e2, e3, e4, e5⟩
  · cases h with
    | lst q r => exact ⟨_, _, rfl, w _ _ q, r⟩
  · cases e2
    exact ⟨p, vs, e1, e4, e5⟩
theorem RB.tup (w : Same F H) (h : RB W F H v (.tup ds)) : ∃ p vs, v = .ref p ∧ SqT W.K H p vs ∧ SqT W.K F p vs ∧ Reps W.K W.pa F vs ds := by
  rcases h with h | ⟨p, vs, es, e1, e2, e3, e4, e5⟩
  · cases h with
    | tup q r => exact ⟨_, _, rfl, same_sqT w q, q, r⟩
  · cases e2
theorem RB.int {i : Int} (h : RB W F H v (.int i)) : v = .int i := by
  rcases h with h | ⟨p, vs, es, e1, e2, e3, e4, e5⟩
  · cases h; rfl
  · cases e2
theorem RB.bl {i : Bool} (h : RB W F H v (.bl i)) : v = .bl i := by
  rcases h with h | ⟨p, vs, es, e1, e2, e3, e4, e5⟩
  · cases h; rfl
  · cases e2
theorem RB.str {i : Str} (h : RB W F H v (.str i)) : v = .str i := by
  rcases h with h | ⟨p, vs, es, e1, e2, e3, e4, e5⟩
  · cases h; rfl
  · cases e2
theorem RB.non (h : RB W F H v .non) : v = .non := by
  rcases h with h | ⟨p, vs, es, e1, e2, e3, e4, e5⟩
  · cases h; rfl
  · cases e2
end
theorem far_lst {H : Hp} {p : Addr} {vs : List V} (h4 : H p = some (.lst vs)) : ∀ a o, H a = some o → (∀ vs, o ≠ .lst vs) → a ≠ p := fun a o h n e => by subst e; rw [h4] at h; cases h; exact n _ rfl
/-! ### the judgements over data -/
abbrev KE := List Sl → Nat → (D → List Sl → Nat → Prop) → Prop
abbrev KA := List Sl → Nat → (List D → List Sl → Nat → Prop) → Prop
abbrev KT := List Sl → Nat → (Bool → List Sl → Nat → Prop) → Prop
/-- what a reading t answers when data answer k -/
abbrev SpE (K : PySem.W.Frag) (t : TE) (k : KE) : Prop :=
  ∀ (W : Wd) (F : Hp) (n : Nat) (S : List Sl) (σ : St) (H : Hp) (Q : D → List Sl → Nat → Prop) (R : VK), W.K = K → Abs W F n S σ H → k S n Q →
    (∀ v H' F' n' S' d, Grow W S σ F H F' H' S' → Abs W F' n' S' σ H' → Rep W.K W.pa F' v d → Q d S' n' → R v H') → t σ H R
abbrev SpB (K : PySem.W.Frag) (t : TE) (k : KE) : Prop :=
  ∀ (W : Wd) (F : Hp) (n : Nat) (S : List Sl) (σ : St) (H : Hp) (Q : D → List Sl → Nat → Prop) (R : VK), W.K = K → Abs W F n S σ H → k S n Q →
    (∀ v H' F' n' S' d, Grow W S σ F H F' H' S' → Abs W F' n' S' σ H' → RB W F' H' v d → Q d S' n' → R v H') → t σ H R
abbrev SpA (K : PySem.W.Frag) (t : TA) (k : KA) : Prop :=
  ∀ (W : Wd) (F : Hp) (n : Nat) (S : List Sl) (σ : St) (H : Hp) (Q : List D → List Sl → Nat → Prop) (R : List V → Hp → Prop), W.K = K → Abs W F n S σ H → k S n Q →
    (∀ vs H' F' n' S' ds, Grow W S σ F H F' H' S' → Abs W F' n' S' σ H' → Reps W.K W.pa F' vs ds → Q ds S' n' → R vs H') → t σ H R
abbrev SpT (K : PySem.W.Frag) (t : TT) (k : KT) : Prop :=
  ∀ (W : Wd) (F : Hp) (n : Nat) (S : List Sl) (σ : St) (H : Hp) (Q : Bool → List Sl → Nat → Prop) (R : Bool → Hp → Prop), W.K = K → Abs W F n S σ H → k S n Q →
    (∀ b H' F' n' S', Grow W S σ F H F' H' S' → Abs W F' n' S' σ H' → Q b S' n' → R b H') → t σ H R
structure DE (X : Cx) (e : Expr) (t : TE) (k : KE) : Prop where
  pe : PE X e t
  ok : SpE X.K t k
structure DB (X : Cx) (e : Expr) (t : TE) (k : KE) : Prop where
  pe : PE X e t
  ok : SpB X.K t k
structure DA (X : Cx) (es : List Expr) (t : TA) (k : KA) : Prop where
  pe : PA X es t
  ok : SpA X.K t k
structure DT (X : Cx) (e : Expr) (t : TT) (k : KT) : Prop where
  pe : PT X e t
  ok : SpT X.K t k
structure DW (X : Cx) (e : Expr) (t : TT) (k : KT) : Prop where
  pe : PW X e t
  ok : SpT X.K t k
end DL
namespace DL
open PySem PySem.Spec PyProof.Rows L2
/-! ### names, constants -/
/-- either kind of slot, read at once -/
def kB (i : Nat) : KE := fun S n Q => match S[i]? with
  | some (.val d) => Q d S n
  | some (.own ds) => Q (.lst ds) S n
  | _ => False
/-- either kind of slot; an own list is frozen -/
def kV (i : Nat) : KE := fun S n Q => match S[i]? with
  | some (.val d) => Q d S n
  | some (.own ds) => Q (.lst ds) (S.set i (.val (.lst ds))) n
  | _ => False
def kC (d : D) : KE := fun S n Q => Q d S n
theorem slot_of {W : Wd} {F H : Hp} {n : Nat} {S : List Sl} {σ : St} (A : Abs W F n S σ H) {i : Nat} {s : Sl} (h : S[i]? = some s) : ∃ v, σ[i]? = some v ∧ SlOk W F H s v := by
  have hi : i < S.length := (List.getElem?_eq_some_iff.mp h).1
  have hj : i < σ.length := by rw [← A.len]; exact hi
  exact ⟨σ[i], List.getElem?_eq_getElem hj, A.sl i s _ h (List.getElem?_eq_getElem hj)⟩
/-- freezing an own list -/
theorem Abs.freeze {W : Wd} {F H : Hp} {n : Nat} {S : List Sl} {σ : St} (A : Abs W F n S σ H) {i : Nat} {p : Addr} {vs : List V} {ds : List D} (e : S[i]? = some (.own ds)) (e2 : σ[i]? = some (some (.ref p)))
    (h1 : F p = none) (h2 : W.H0 p = none) (h3 : pad W.pa ≠ some p) (h4 : H p = some (.lst vs)) (h5 : Reps W.K W.pa F vs ds) :
    Abs W (upd F p (.lst vs)) n (S.set i (.val (.lst ds))) σ H ∧ Rep W.K W.pa (upd F p (.lst vs)) (.ref p) (.lst ds) := by
  have sm : Same F (upd F p (.lst vs)) := same_new h1
  have rp : Rep W.K W.pa (upd F p (.lst vs)) (.ref p) (.lst ds) := .lst upd_same (Reps.mono sm h5)
  refine ⟨⟨⟨fun a u z => ?_, fun q z => ?_, A.w.old, A.w.oldp, A.w.f0.trans sm, fun a u z => ?_⟩, by rw [List.length_set]; exact A.len, fun j s v z1 z2 => ?_, fun j k q es fs z1 z2 z3 z4 => ?_⟩, rp⟩
  · by_cases y : a = p
    · subst y; rw [upd_same] at z; rw [h4]; exact z
    · rw [upd_ne y] at z; exact A.w.sub _ _ z
  · obtain ⟨y1, ca, turn, rst, y2, y3, y4⟩ := A.w.pen q z
    refine ⟨?_, ca, turn, rst, y2, sm _ _ y3, y4⟩
    have nq : q ≠ p := by
      intro y
      rw [y] at z
      exact h3 z
    rw [upd_ne nq]
    exact y1
  · by_cases y : a = p
    · subst y; exact .inr h2
    · rw [upd_ne y] at z; exact A.w.nf _ _ z
  · by_cases y : j = i
    · subst y
      have hj : j < S.length := (List.getElem?_eq_some_iff.mp e).1
      rw [List.getElem?_set_self hj] at z1
      cases z1
      rw [e2] at z2
      cases z2
      exact rp
    · rw [List.getElem?_set_ne (Ne.symm y)] at z1
      have ok := A.sl j s v z1 z2
      cases s with
      | no => trivial
      | val d =>
        cases v with
        | none => exact ok.elim
        | some v => exact Rep.mono sm ok
      | own es =>
        cases v with
        | none => exact ok.elim
        | some v =>
          cases v with
          | ref q =>
            obtain ⟨k1, k2, k3, ws, k4, k5⟩ := ok
            have nq : q ≠ p := fun x => y (A.di j i p es ds z1 e (x ▸ z2) e2)
            exact ⟨by rw [upd_ne nq]; exact k1, k2, k3, ws, k4, Reps.mono sm k5⟩
          | _ => exact ok.elim
      | obj x C gs => exact SlOk.obj_keep ok sm (fun a o e n z _ => by rw [upd_ne (far_lst h4 a o e n)]; exact z) (fun _ _ e _ _ => e)
  · have hi : i < S.length := (List.getElem?_eq_some_iff.mp e).1
    have nj : j ≠ i := fun y => by subst y; rw [List.getElem?_set_self hi] at z1; cases z1
    have nk : k ≠ i := fun y => by subst y; rw [List.getElem?_set_self hi] at z2; cases z2
    rw [List.getElem?_set_ne (Ne.symm nj)] at z1
    rw [List.getElem?_set_ne (Ne.symm nk)] at z2
    exact A.di j k q es fs z1 z2 z3 z4
theorem Abs.freezeG {W : Wd} {F H : Hp} {n : Nat} {S : List Sl} {σ : St} (A : Abs W F n S σ H) {i : Nat} {p : Addr} {vs : List V} {ds : List D} (e : S[i]? = some (.own ds)) (e2 : σ[i]? = some (some (.ref p)))
    (h4 : H p = some (.lst vs)) : Grow W S σ F H (upd F p (.lst vs)) H (S.set i (.val (.lst ds))) := by
  refine ⟨?_, fun _ _ h _ => h, fun _ h => h, fun a o z => ?_, fun a ⟨j, es, z1, z2⟩ => ?_⟩
  · obtain ⟨v, h1, h2⟩ := slot_of A e
    rw [e2] at h1
    cases h1
    exact same_new h2.1
  · by_cases y : a = p
    · subst y; exact .inr (.inr ⟨i, ds, e, e2⟩)
    · rw [upd_ne y] at z; exact .inl z
  · have hi : i < S.length := (List.getElem?_eq_some_iff.mp e).1
    by_cases y : j = i
    · subst y; rw [List.getElem?_set_self hi] at z1; cases z1
    · rw [List.getElem?_set_ne (Ne.symm y)] at z1
      exact ⟨j, es, z1, z2⟩
section
variable {X : Cx}
theorem SpE.b {K : PySem.W.Frag} {t : TE} {k : KE} (h : SpE K t k) : SpB K t k := fun W F n S σ H Q R hK A q r => h W F n S σ H Q R hK A q fun v H' F' n' S' d g a b c => r v H' F' n' S' d g a (.inl b) c
theorem DE.b {e : Expr} {t : TE} {k : KE} (h : DE X e t k) : DB X e t k := ⟨h.pe, h.ok.b⟩
theorem dbv (i : Nat) {x : Str} {pos : Pos} (h : PE X (.Name x pos) (tVar i) := by exact pv i) : DB X (.Name x pos) (tVar i) (kB i) := by
  refine ⟨h, fun W F n S σ H Q R hK A q r => ?_⟩
  unfold kB at q
  cases e : S[i]? with
  | none => rw [e] at q; exact q.elim
  | some s =>
    rw [e] at q
    cases s with
    | no => exact q.elim
    | val d =>
      obtain ⟨v, e2, ok⟩ := slot_of A e
      cases v with
      | none => exact ok.elim
      | some v => exact ⟨v, e2, r v H F n S d .refl A (.inl ok) q⟩
    | own ds =>
      obtain ⟨v, e2, ok⟩ := slot_of A e
      cases v with
      | none => exact ok.elim
      | some v =>
        cases v with
        | ref p =>
          obtain ⟨h1, h2, h3, vs, h4, h5⟩ := ok
          exact ⟨_, e2, r _ H F n S _ .refl A (.inr ⟨p, vs, ds, rfl, rfl, h3, h4, h5⟩) q⟩
        | _ => exact ok.elim
    | obj _ _ _ => exact q.elim
theorem dev (i : Nat) {x : Str} {pos : Pos} (h : PE X (.Name x pos) (tVar i) := by exact pv i) : DE X (.Name x pos) (tVar i) (kV i) := by
  refine ⟨h, fun W F n S σ H Q R hK A q r => ?_⟩
  unfold kV at q
  cases e : S[i]? with
  | none => rw [e] at q; exact q.elim
  | some s =>
    rw [e] at q
    cases s with
    | no => exact q.elim
    | val d =>
      obtain ⟨v, e2, ok⟩ := slot_of A e
      cases v with
      | none => exact ok.elim
      | some v => exact ⟨v, e2, r v H F n S d .refl A ok q⟩
    | own ds =>
      obtain ⟨v, e2, ok⟩ := slot_of A e
      cases v with
      | none => exact ok.elim
      | some v =>
        cases v with
        | ref p =>
          obtain ⟨h1, h2, h3, vs, h4, h5⟩ := ok
          obtain ⟨k2, k3⟩ := A.freeze e e2 h1 h2 h3 h4 h5
          exact ⟨_, e2, r _ H _ n _ _ (A.freezeG e e2 h4) k2 k3 q⟩
        | _ => exact ok.elim
    | obj _ _ _ => exact q.elim
theorem de_c {e : Expr} {v : V} {d : D} (h : PE X e (tC v)) (hr : ∀ pa F, Rep X.K pa F v d) : DE X e (tC v) (kC d) :=
  ⟨h, fun W F n S σ H Q R hK A q r => r v H F n S d .refl A (hK ▸ hr W.pa F) q⟩
theorem de_int {i : Int} {j : Nat} {pos : Pos} : DE X (.Constant (.int i) j pos) (tC (.int i)) (kC (.int i)) := de_c pe_int fun _ _ => .int i
theorem de_bl {i : Bool} {j : Nat} {pos : Pos} : DE X (.Constant (.bool i) j pos) (tC (.bl i)) (kC (.bl i)) := de_c pe_bl fun _ _ => .bl i
theorem de_non {j : Nat} {pos : Pos} : DE X (.Constant .none j pos) (tC .non) (kC .non) := de_c pe_non fun _ _ => .non
theorem de_str {i : Str} {j : Nat} {pos : Pos} : DE X (.Constant (.str i) j pos) (tC (.str i)) (kC (.str i)) := de_c pe_str fun _ _ => .str i
/-- a built-in class as a value -/
theorem de_cls {x : Str} {T : String} {pos : Pos} (hm : X.mg x = none) (hg : Gl X x := by exact rfl) (hv : bootBuiltins x = some (.type T) := by decide +kernel) (hn : x ≠ "__name__" := by decide) (hd : (x == ("__debug__" : Str)) = false := by decide) :
    DE X (.Name x pos) (tC (.ty T)) (kC (.ty T)) := de_c (pe_bltn hg hm hv rfl hn hd) fun _ _ => .ty T
/-- a module's constant -/
theorem de_glob {x : Str} {v : V} {u : Value} {d : D} {pos : Pos} (hm : X.mg x = some u) (r : RelV v u) (hr : ∀ pa F, Rep X.K pa F v d) (hg : Gl X x := by exact rfl) (hd : (x == ("__debug__" : Str)) = false := by decide) : DE X (.Name x pos) (tC v) (kC d) :=
  de_c (pe_glob hg hm r hd) hr
/-! ### operators by values -/
abbrev D2 := D → D → (D → Prop) → Prop
abbrev D1 := D → (D → Prop) → Prop
def DOp (X : Cx) (r : R2) (op : D2) : Prop :=
  ∀ (W : Wd) (F H : Hp) (n : Nat) (x y : V) (a b : D) (Q : D → Prop) (R : VK), W.K = X.K → Wok W F H n → RB W F H x a → RB W F H y b → op a b Q →
    (∀ v F' H' d, New W F H F' H' → Rep W.K W.pa F' v d → Q d → R v H') → r x y H R
def kBin (op : D2) (ka kb : KE) : KE := fun S n Q => ka S n fun x S1 n1 => kb S1 n1 fun y S2 n2 => op x y fun d => Q d S2 n2
theorem bin_ok {r : R2} {op : D2} {ta tb : TE} {ka kb : KE} (hd : DOp X r op) (ha : SpB X.K ta ka) (hb : SpB X.K tb kb) : SpE X.K (tOp r ta tb) (kBin op ka kb) := by
  intro W F n S σ H Q R hK A q fin
  refine ha W F n S σ H _ _ hK A q fun x H1 F1 n1 S1 d1 g1 A1 r1 q1 => ?_
  refine hb W F1 n1 S1 σ H1 _ _ hK A1 q1 fun y H2 F2 n2 S2 d2 g2 A2 r2 q2 => ?_
  refine hd W F2 H2 n2 x y d1 d2 _ _ hK A2.w (r1.grow g2) r2 q2 fun v F3 H3 d g3 r3 q3 => ?_
  exact fin v H3 F3 n2 S2 d ((g1.trans g2).trans g3.grow) (A2.new g3) r3 q3
section
variable {a b c : Expr} {ta tb tc : TE} {ka kb kc : KE} {r r' : R2} {dop dop' : D2} {pos : Pos}
theorem de_bin {op : Operator} (ho : OpR X (binaryOp op) r) (hd : DOp X r dop) (ha : DB X a ta ka) (hb : DB X b tb kb) : DE X (.BinOp a op b pos) (tOp r ta tb) (kBin dop ka kb) := ⟨pe_op ho ha.pe hb.pe, bin_ok hd ha.ok hb.ok⟩
theorem de_cmp {op : CmpOp} (ho : OpR X (compareOp op) r) (hd : DOp X r dop) (ha : DB X a ta ka) (hb : DB X b tb kb) (hm : behindInMarks op b = false) : DE X (.Compare a [op] [b] pos) (tOp r ta tb) (kBin dop ka kb) := ⟨pe_cmpR ho ha.pe hb.pe hm, bin_ok hd ha.ok hb.ok⟩
/-- a value that is a bool, as a test -/
def kTest (k : KE) : KT := fun S n Q => k S n fun d S' n' => match d with
  | .bl c => Q c S' n'
  | _ => False
theorem test_ok {t : TE} {k : KE} (h : SpE X.K t k) : SpT X.K (fun σ H Q => t σ H fun x H1 => ∃ c, x = .bl c ∧ Q c H1) (kTest k) := by
  intro W F n S σ H Q R hK A q fin
  refine h W F n S σ H _ _ hK A q fun v H' F' n' S' d g A r q => ?_
  cases d with
  | bl c => cases r; exact ⟨c, rfl, fin c H' F' n' S' g A q⟩
  | _ => exact q.elim
theorem dt_cmp {op : CmpOp} (ho : OpR X (compareOp op) r) (hd : DOp X r dop) (ha : DB X a ta ka) (hb : DB X b tb kb) (hm : behindInMarks op b = false) : DT X (.Compare a [op] [b] pos) (tTest (tOp r ta tb)) (kTest (kBin dop ka kb)) :=
  ⟨pt_cmpR ho ha.pe hb.pe hm, test_ok (bin_ok hd ha.ok hb.ok)⟩
theorem dt_val {e : Expr} {t : TE} {k : KE} (h : DE X e t k) (he : ∀ whole, isTrue e X.env whole = (do let v ← whole; standAt e.pos; holding [v] (truthy v)) := by intro _; rfl) : DT X e (tB t) (kTest k) :=
  ⟨pt_val h.pe he, test_ok h.ok⟩
/-- a < b < c -/
def kChain (op op' : D2) (ka kb kc : KE) : KE := fun S n Q => ka S n fun x S1 n1 => kb S1 n1 fun y S2 n2 => op x y fun d => match d with
  | .bl true => kc S2 n2 fun z S3 n3 => op' y z fun d' => Q d' S3 n3
  | .bl false => Q (.bl false) S2 n2
  | _ => False
theorem chain_ok {op op' : D2} (hd : DOp X r op) (hd' : DOp X r' op') (ha : SpB X.K ta ka) (hb : SpB X.K tb kb) (hc : SpB X.K tc kc) : SpE X.K (tChain r r' ta tb tc) (kChain op op' ka kb kc) := by
  intro W F n S σ H Q R hK A q fin
  refine ha W F n S σ H _ _ hK A q fun x H1 F1 n1 S1 d1 g1 A1 r1 q1 => ?_
  refine hb W F1 n1 S1 σ H1 _ _ hK A1 q1 fun y H2 F2 n2 S2 d2 g2 A2 r2 q2 => ?_
  refine hd W F2 H2 n2 x y d1 d2 _ _ hK A2.w (r1.grow g2) r2 q2 fun v F3 H3 d g3 r3 q3 => ?_
  cases d with
  | bl k =>
    cases r3
    refine ⟨k, rfl, ?_⟩
    cases k with
    | true =>
      refine iteT ?_
      refine hc W F3 n2 S2 σ H3 _ _ hK (A2.new g3) q3 fun z H4 F4 n4 S4 d4 g4 A4 r4 q4 => ?_
      refine hd' W F4 H4 n4 y z d2 d4 _ _ hK A4.w ((r2.new g3).grow g4) r4 q4 fun v F5 H5 d g5 r5 q5 => ?_
      exact fin v H5 F5 n4 S4 d ((((g1.trans g2).trans g3.grow).trans g4).trans g5.grow) (A4.new g5) r5 q5
    | false =>
      refine iteF ?_
      exact fin _ H3 F3 n2 S2 _ ((g1.trans g2).trans g3.grow) (A2.new g3) (.bl false) q3
  | _ => exact q3.elim
theorem de_chain {op op' : CmpOp} (ho : OpR X (compareOp op) r) (hd : DOp X r dop) (ho' : OpR X (compareOp op') r') (hd' : DOp X r' dop') (ha : DB X a ta ka) (hb : DB X b tb kb) (hc : DB X c tc kc)
    (hp : PE X a ta → PE X b tb → PE X c tc → PE X (.Compare a [op, op'] [b, c] pos) (tChain r r' ta tb tc)) : DE X (.Compare a [op, op'] [b, c] pos) (tChain r r' ta tb tc) (kChain dop dop' ka kb kc) :=
  ⟨hp ha.pe hb.pe hc.pe, chain_ok hd hd' ha.ok hb.ok hc.ok⟩
theorem dt_chain {op op' : CmpOp} (ho : OpR X (compareOp op) r) (hd : DOp X r dop) (ho' : OpR X (compareOp op') r') (hd' : DOp X r' dop') (ha : DB X a ta ka) (hb : DB X b tb kb) (hc : DB X c tc kc)
    (hp : PE X a ta → PE X b tb → PE X c tc → PT X (.Compare a [op, op'] [b, c] pos) (tTest (tChain r r' ta tb tc))) : DT X (.Compare a [op, op'] [b, c] pos) (tTest (tChain r r' ta tb tc)) (kTest (kChain dop dop' ka kb kc)) :=
  ⟨hp ha.pe hb.pe hc.pe, test_ok (chain_ok hd hd' ha.ok hb.ok hc.ok)⟩
/-! ### unary -/
def DUn (X : Cx) (r : V → Hp → VK → Prop) (op : D1) : Prop :=
  ∀ (W : Wd) (F H : Hp) (n : Nat) (x : V) (a : D) (Q : D → Prop) (R : VK), W.K = X.K → Wok W F H n → RB W F H x a → op a Q →
    (∀ v F' H' d, New W F H F' H' → Rep W.K W.pa F' v d → Q d → R v H') → r x H R
def kUn (op : D1) (ka : KE) : KE := fun S n Q => ka S n fun x S1 n1 => op x fun d => Q d S1 n1
theorem de_un {op : UnaryOp} {r : V → Hp → VK → Prop} {dop : D1} (ho : UnR X (unaryOp op) r) (hd : DUn X r dop) (ha : DB X a ta ka) : DE X (.UnaryOp op a pos) (tUn r ta) (kUn dop ka) := by
  refine ⟨pe_un ho ha.pe, fun W F n S σ H Q R hK A q fin => ?_⟩
  refine ha.ok W F n S σ H _ _ hK A q fun x H1 F1 n1 S1 d1 g1 A1 r1 q1 => ?_
  refine hd W F1 H1 n1 x d1 _ _ hK A1.w r1 q1 fun v F3 H3 d g3 r3 q3 => ?_
  exact fin v H3 F3 n1 S1 d (g1.trans g3.grow) (A1.new g3) r3 q3
def dNeg : D1 := fun a Q => match a with
  | .int i => Q (.int (-i))
  | _ => False
theorem un_negD : DUn X (rU fun i => .int (-i)) dNeg := by
  intro W F H n x a Q R hK w ra q fin
  cases a with
  | int i => exact ⟨i, ra.int, fin _ F H _ (New.refl w.sub) (.int _) q⟩
  | _ => exact q.elim
end
/-! ### and, or, not, if -/
def kAndT (ka kb : KT) : KT := fun S n Q => ka S n fun c S1 n1 => if c = true then kb S1 n1 Q else Q false S1 n1
def kOrT (ka kb : KT) : KT := fun S n Q => ka S n fun c S1 n1 => if c = true then Q true S1 n1 else kb S1 n1 Q
def kNotT (ka : KT) : KT := fun S n Q => ka S n fun c S1 n1 => Q (!c) S1 n1
theorem DW.t {e : Expr} {t : TT} {k : KT} (h : DW X e t k) : DT X e t k := ⟨h.pe.pt, h.ok⟩
section
variable {a b : Expr} {rest : List Expr} {pos : Pos} {ta tb : TT} {ka kb kc : KT}
theorem dw_and1 (h : DT X a ta ka) : DW X (.BoolOp .And [a] pos) ta ka := ⟨pw_and1 h.pe, h.ok⟩
theorem dw_or1 (h : DT X a ta ka) : DW X (.BoolOp .Or [a] pos) ta ka := ⟨pw_or1 h.pe, h.ok⟩
theorem dw_and (h : DT X a ta ka) (h2 : DW X (.BoolOp .And (b :: rest) pos) tb kb) : DW X (.BoolOp .And (a :: b :: rest) pos) (tAnd ta tb) (kAndT ka kb) := by
  refine ⟨pw_and h.pe h2.pe, fun W F n S σ H Q R hK A q fin => ?_⟩
  refine h.ok W F n S σ H _ _ hK A q fun c H1 F1 n1 S1 g1 A1 q1 => ?_
  cases c with
  | true => exact iteT (h2.ok W F1 n1 S1 σ H1 _ _ hK A1 (by simpa using q1) fun c' H2 F2 n2 S2 g2 A2 q2 => fin c' H2 F2 n2 S2 (g1.trans g2) A2 q2)
  | false => exact iteF (fin false H1 F1 n1 S1 g1 A1 (by simpa using q1))
theorem dw_or (h : DT X a ta ka) (h2 : DW X (.BoolOp .Or (b :: rest) pos) tb kb) : DW X (.BoolOp .Or (a :: b :: rest) pos) (tOr ta tb) (kOrT ka kb) := by
  refine ⟨pw_or h.pe h2.pe, fun W F n S σ H Q R hK A q fin => ?_⟩
  refine h.ok W F n S σ H _ _ hK A q fun c H1 F1 n1 S1 g1 A1 q1 => ?_
  cases c with
  | false => exact iteF (h2.ok W F1 n1 S1 σ H1 _ _ hK A1 (by simpa using q1) fun c' H2 F2 n2 S2 g2 A2 q2 => fin c' H2 F2 n2 S2 (g1.trans g2) A2 q2)
  | true => exact iteT (fin true H1 F1 n1 S1 g1 A1 (by simpa using q1))
theorem dt_not (h : DT X a ta ka) : DT X (.UnaryOp .Not a pos) (tNot ta) (kNotT ka) := by
  refine ⟨pt_not h.pe, fun W F n S σ H Q R hK A q fin => ?_⟩
  exact h.ok W F n S σ H _ _ hK A q fun c H1 F1 n1 S1 g1 A1 q1 => fin _ H1 F1 n1 S1 g1 A1 q1
end
def kIf (kt : KT) (k1 k2 : KE) : KE := fun S n Q => kt S n fun c S1 n1 => if c = true then k1 S1 n1 Q else k2 S1 n1 Q
section
variable {a b c e : Expr} {rest es : List Expr} {pos : Pos} {tt : TT} {t1 t2 t : TE} {kt : KT} {k1 k2 k : KE} {ts : TA} {ks : KA}
theorem de_if (h : DT X c tt kt) (h1 : DE X a t1 k1) (h2 : DE X b t2 k2) : DE X (.IfExp c a b pos) (tIf tt t1 t2) (kIf kt k1 k2) := by
  refine ⟨pe_ifExp h.pe h1.pe h2.pe, fun W F n S σ H Q R hK A q fin => ?_⟩
  refine h.ok W F n S σ H _ _ hK A q fun c H1 F1 n1 S1 g1 A1 q1 => ?_
  cases c with
  | true => exact iteT (h1.ok W F1 n1 S1 σ H1 _ _ hK A1 (by simpa using q1) fun v H2 F2 n2 S2 d g2 A2 r q2 => fin v H2 F2 n2 S2 d (g1.trans g2) A2 r q2)
  | false => exact iteF (h2.ok W F1 n1 S1 σ H1 _ _ hK A1 (by simpa using q1) fun v H2 F2 n2 S2 d g2 A2 r q2 => fin v H2 F2 n2 S2 d (g1.trans g2) A2 r q2)
/-- as values, all bools -/
def kAndV (k1 k2 : KE) : KE := fun S n Q => k1 S n fun d S1 n1 => match d with
  | .bl true => k2 S1 n1 Q
  | .bl false => Q (.bl false) S1 n1
  | _ => False
def kOrV (k1 k2 : KE) : KE := fun S n Q => k1 S n fun d S1 n1 => match d with
  | .bl true => Q (.bl true) S1 n1
  | .bl false => k2 S1 n1 Q
  | _ => False
def kNotV (k1 : KE) : KE := fun S n Q => k1 S n fun d S1 n1 => match d with
  | .bl c => Q (.bl (!c)) S1 n1
  | _ => False
theorem de_one {op : BoolOp} (h : DE X a t1 k1) : DE X (.BoolOp op [a] pos) t1 k1 := ⟨pe_one h.pe, h.ok⟩
theorem de_and (h : DE X a t1 k1) (h2 : DE X (.BoolOp .And (b :: rest) pos) t2 k2) : DE X (.BoolOp .And (a :: b :: rest) pos) (tAndV t1 t2) (kAndV k1 k2) := by
  refine ⟨pe_and h.pe h2.pe, fun W F n S σ H Q R hK A q fin => ?_⟩
  refine h.ok W F n S σ H _ _ hK A q fun v H1 F1 n1 S1 d g1 A1 r q1 => ?_
  cases d with
  | bl c =>
    cases r
    refine ⟨c, rfl, ?_⟩
    cases c with
    | true => exact iteT (h2.ok W F1 n1 S1 σ H1 _ _ hK A1 q1 fun v H2 F2 n2 S2 d g2 A2 r q2 => fin v H2 F2 n2 S2 d (g1.trans g2) A2 r q2)
    | false => exact iteF (fin _ H1 F1 n1 S1 _ g1 A1 (.bl false) q1)
  | _ => exact q1.elim
theorem de_or (h : DE X a t1 k1) (h2 : DE X (.BoolOp .Or (b :: rest) pos) t2 k2) : DE X (.BoolOp .Or (a :: b :: rest) pos) (tOrV t1 t2) (kOrV k1 k2) := by
  refine ⟨pe_or h.pe h2.pe, fun W F n S σ H Q R hK A q fin => ?_⟩
  refine h.ok W F n S σ H _ _ hK A q fun v H1 F1 n1 S1 d g1 A1 r q1 => ?_
  cases d with
  | bl c =>
    cases r
    refine ⟨c, rfl, ?_⟩
    cases c with
    | false => exact iteF (h2.ok W F1 n1 S1 σ H1 _ _ hK A1 q1 fun v H2 F2 n2 S2 d g2 A2 r q2 => fin v H2 F2 n2 S2 d (g1.trans g2) A2 r q2)
    | true => exact iteT (fin _ H1 F1 n1 S1 _ g1 A1 (.bl true) q1)
  | _ => exact q1.elim
theorem de_not (h : DE X a t1 k1) : DE X (.UnaryOp .Not a pos) (tNotV t1) (kNotV k1) := by
  refine ⟨pe_not h.pe, fun W F n S σ H Q R hK A q fin => ?_⟩
  refine h.ok W F n S σ H _ _ hK A q fun v H1 F1 n1 S1 d g1 A1 r q1 => ?_
  cases d with
  | bl c => cases r; exact ⟨c, rfl, fin _ H1 F1 n1 S1 _ g1 A1 (.bl _) q1⟩
  | _ => exact q1.elim
/-! ### displays, arguments -/
def kNil : KA := fun S n Q => Q [] S n
def kCons (k : KE) (ks : KA) : KA := fun S n Q => k S n fun d S1 n1 => ks S1 n1 fun ds S2 n2 => Q (d :: ds) S2 n2
/-- *e in a display -/
def kStar (k : KE) (ks : KA) : KA := fun S n Q => k S n fun d S1 n1 => match d with
  | .lst xs => ks S1 n1 fun ds S2 n2 => Q (xs ++ ds) S2 n2
  | .tup xs => ks S1 n1 fun ds S2 n2 => Q (xs ++ ds) S2 n2
  | _ => False
theorem da_nil : DA X [] tNil kNil := ⟨pa_nil, fun W F n S σ H Q R hK A q fin => fin [] H F n S [] .refl A .nil q⟩
theorem da_cons (h : DE X e t k) (hs : DA X es ts ks) (hst : starEach (e :: es) X.env = (false, eval e X.env) :: starEach es X.env := by rfl) : DA X (e :: es) (tCons t ts) (kCons k ks) := by
  refine ⟨pa_cons h.pe hs.pe hst, fun W F n S σ H Q R hK A q fin => ?_⟩
  refine h.ok W F n S σ H _ _ hK A q fun v H1 F1 n1 S1 d g1 A1 r q1 => ?_
  refine hs.ok W F1 n1 S1 σ H1 _ _ hK A1 q1 fun vs H2 F2 n2 S2 ds g2 A2 r2 q2 => ?_
  exact fin _ H2 F2 n2 S2 _ (g1.trans g2) A2 (.cons (Rep.mono g2.f r) r2) q2
theorem da_star {p : Pos} (h : DB X e t k) (hs : DA X es ts ks) (hst : starEach (.Starred e p :: es) X.env = (true, eval e X.env) :: starEach es X.env := by rfl) : DA X (.Starred e p :: es) (StX.tStar X.K t ts) (kStar k ks) := by
  refine ⟨StX.pa_star h.pe hs.pe hst, fun W F n S σ H Q R hK A q fin => ?_⟩
  refine h.ok W F n S σ H _ _ hK A q fun v H1 F1 n1 S1 d g1 A1 r q1 => ?_
  cases d with
  | lst xs =>
    obtain ⟨p, vs, rfl, h1, h2⟩ := r.lst A1.w.sub
    refine ⟨p, vs, rfl, .inr (SqL.of h1), ?_⟩
    refine hs.ok W F1 n1 S1 σ H1 _ _ hK A1 q1 fun vs H2 F2 n2 S2 ds g2 A2 r2 q2 => ?_
    exact fin _ H2 F2 n2 S2 _ (g1.trans g2) A2 (Reps.append (Reps.mono g2.f h2) r2) q2
  | tup xs =>
    obtain ⟨p, vs, rfl, h1, _, h2⟩ := r.tup A1.w.sub
    refine ⟨p, vs, rfl, .inl (hK ▸ h1), ?_⟩
    refine hs.ok W F1 n1 S1 σ H1 _ _ hK A1 q1 fun vs H2 F2 n2 S2 ds g2 A2 r2 q2 => ?_
    exact fin _ H2 F2 n2 S2 _ (g1.trans g2) A2 (Reps.append (Reps.mono g2.f h2) r2) q2
  | _ => exact q1.elim
theorem big_ok {n : Nat} (h : n ≤ 1000000) : n ≤ sizeLine := Nat.le_trans h (by decide)
theorem big_lt {n : Nat} (h : n ≤ 1000000) : n < sizeLine := Nat.lt_of_le_of_lt h (by decide)
def kTup (ks : KA) : KE := fun S n Q => ks S n fun ds S1 n1 => ds.length ≤ 1000000 ∧ Q (.tup ds) S1 n1
def kLst (ks : KA) : KE := fun S n Q => ks S n fun ds S1 n1 => ds.length ≤ 1000000 ∧ Q (.lst ds) S1 n1
theorem new_tup {W : Wd} {F H : Hp} {n : Nat} (w : Wok W F H n) {p : Addr} (hp : H p = none) {vs : List V} {ds : List D} (r : Reps W.K W.pa F vs ds) :
    New W F H (upd F p (.tup vs)) (upd H p (.tup vs)) ∧ Rep W.K W.pa (upd F p (.tup vs)) (.ref p) (.tup ds) :=
  ⟨New.one w hp _, .tup (SqT.of upd_same) (Reps.mono (same_new (w.fresh hp).1) r)⟩
theorem new_lst {W : Wd} {F H : Hp} {n : Nat} (w : Wok W F H n) {p : Addr} (hp : H p = none) {vs : List V} {ds : List D} (r : Reps W.K W.pa F vs ds) :
    New W F H (upd F p (.lst vs)) (upd H p (.lst vs)) ∧ Rep W.K W.pa (upd F p (.lst vs)) (.ref p) (.lst ds) :=
  ⟨New.one w hp _, .lst upd_same (Reps.mono (same_new (w.fresh hp).1) r)⟩
theorem de_tup {x1 : Nat} (h : DA X es ts ks) : DE X (.Tuple es x1 pos) (tTup ts) (kTup ks) := by
  refine ⟨pe_tup h.pe, fun W F n S σ H Q R hK A q fin => ?_⟩
  refine h.ok W F n S σ H _ _ hK A q fun vs H1 F1 n1 S1 ds g1 A1 r q1 => ?_
  refine ⟨by rw [r.length]; exact big_ok q1.1, fun p hp => ?_⟩
  obtain ⟨g, r'⟩ := new_tup A1.w hp r
  exact fin _ _ _ n1 S1 _ (g1.trans g.grow) (A1.new g) r' q1.2
theorem de_lst (h : DA X es ts ks) : DE X (.List es pos) (tLst ts) (kLst ks) := by
  refine ⟨pe_lst h.pe, fun W F n S σ H Q R hK A q fin => ?_⟩
  refine h.ok W F n S σ H _ _ hK A q fun vs H1 F1 n1 S1 ds g1 A1 r q1 => ?_
  refine ⟨by rw [r.length]; exact big_ok q1.1, fun p hp => ?_⟩
  obtain ⟨g, r'⟩ := new_lst A1.w hp r
  exact fin _ _ _ n1 S1 _ (g1.trans g.grow) (A1.new g) r' q1.2
end
end
end DL
namespace DL
open PySem PySem.Spec PyProof.Rows L2
theorem tup_once (p0 : Addr) (its : Array Value) (dd : Option Addr) (nn : Nat) (ss : Array (Option Value)) (tk0 : Tok) :
    Meets (Builtin.«tuple.__mul__» ⟨[.ref p0, .int 1 tk0], []⟩) (fun _ R s => s.heap.get? p0 = some { cls := .type "tuple", dict := dd, data := .seq its nn, slots := ss } ∧ R (.ok (.ret (Value.ref p0))) s) :=
  .of_wp fun prog w A R s h => by
    obtain ⟨h1, g1, d1, t1, o1⟩ := s
    obtain ⟨hl, h⟩ := h
    have f1 := AutoSeq1.idx_int
    wp_walk using wpAny_loadPart' hl
    exact ⟨_, rfl, h⟩
/-- tuple * 1 is the tuple itself -/
def rOnce (K : PySem.W.Frag) : R2 := fun x y H Q => ∃ l xs, x = .ref l ∧ y = .int 1 ∧ SqT K H l xs ∧ Q (.ref l) H
theorem op_once {X : Cx} : OpR X (binaryOp .Mult) (rOnce X.K) := by
  intro pins s σ H x y v u Q I rx ry h
  obtain ⟨l, xs, rfl, rfl, hT, q⟩ := h
  cases rx
  obtain ⟨t, rfl⟩ := ry
  obtain ⟨its, r, ⟨⟨cls, dd, data, sl⟩, ho, hc, n, hd⟩, _⟩ := I.tuple hT
  simp only at hc hd
  subst hc hd
  refine wpAny_binaryOp_repeat_ref (T := "tuple") (U := "int") (by decide) ⟨_, ho, rfl⟩ (fun s' => typeIs_int s' 1 t) noFill_tuple_mul F.fills_int_mul F.slot_int_rmul repeat_tuple F.slot_int_index.lookup
    (call_meets F.slot_int_rmul (typeIs_int s 1 t) F.entry_int_rmul (F.args_int_rmul_2 _ _) (int_rmul_tuple 1 t l its.toArray n dd sl)
      ⟨ho, rfl, ⟨_, ho, rfl⟩, call_meets F.slot_tuple_mul ⟨_, ho, rfl⟩ F.entry_tuple_mul (F.args_tuple_mul_2 _ _) (tup_once l its.toArray dd n sl t) ⟨ho, ?_⟩⟩)
  exact ⟨.ref l, H, I, rfl, q⟩
end DL
namespace DL
open PySem PySem.Spec PyProof.Rows L2
/-! ### tuple * 0 -/
theorem tup_none (p0 : Addr) (its : Array Value) (ne : its.isEmpty = false) (dd : Option Addr) (nn : Nat) (ss : Array (Option Value)) (tk0 : Tok) :
    Meets (Builtin.«tuple.__mul__» ⟨[.ref p0, .int 0 tk0], []⟩) (fun _ R s => s.heap.get? p0 = some { cls := .type "tuple", dict := dd, data := .seq its nn, slots := ss } ∧
      R (.ok (.ret (Value.ref s.heap.objs.size))) { s with heap := s.heap.push { cls := Value.type "tuple", data := Data.seq #[] }, toks := s.toks }) :=
  .of_wp fun prog w A R s h => by
    obtain ⟨h1, g1, d1, t1, o1⟩ := s
    obtain ⟨hl, h⟩ := h
    have f1 := AutoSeq1.idx_int
    wp_walk using wpAny_loadPart' hl
    exact ⟨_, rfl, h⟩
def rNoneT (K : PySem.W.Frag) : R2 := fun x y H Q => ∃ l xs, x = .ref l ∧ y = .int 0 ∧ SqT K H l xs ∧ xs ≠ [] ∧ ∀ p, H p = none → Q (.ref p) (upd H p (.tup []))
theorem op_noneT {X : Cx} : OpR X (binaryOp .Mult) (rNoneT X.K) := by
  intro pins s σ H x y v u Q I rx ry h
  obtain ⟨l, xs, rfl, rfl, hT, hne, q⟩ := h
  cases rx
  obtain ⟨t, rfl⟩ := ry
  obtain ⟨its, r, ⟨⟨cls, dd, data, sl⟩, ho, hc, n, hd⟩, _⟩ := I.tuple hT
  simp only at hc hd
  subst hc hd
  have he : its.toArray.isEmpty = false := by
    cases its with
    | nil =>
      cases r
      exact absurd rfl hne
    | cons a b => rfl
  refine wpAny_binaryOp_repeat_ref (T := "tuple") (U := "int") (by decide) ⟨_, ho, rfl⟩ (fun s' => typeIs_int s' 0 t) noFill_tuple_mul F.fills_int_mul F.slot_int_rmul repeat_tuple F.slot_int_index.lookup
    (call_meets F.slot_int_rmul (typeIs_int s 0 t) F.entry_int_rmul (F.args_int_rmul_2 _ _) (int_rmul_tuple 0 t l its.toArray n dd sl)
      ⟨ho, rfl, ⟨_, ho, rfl⟩, call_meets F.slot_tuple_mul ⟨_, ho, rfl⟩ F.entry_tuple_mul (F.args_tuple_mul_2 _ _) (tup_none l its.toArray he dd n sl t) ⟨ho, ?_⟩⟩)
  exact ⟨.ref s.heap.objs.size, _, I.laid (t' := s.toks) (o := .tup []) (fun b ob q => Heap.get?_push_of_some _ q) (Nat.le_refl _) ⟨Nat.zero_le _, [], .nil, IsTup.new _ _⟩, rfl, q _ (I.hok.fresh (Nat.le_refl _))⟩
end DL
namespace DL
open PySem PySem.Spec PyProof.Rows L2
section
variable {X : Cx}
/-! ### the operators -/
def dAdd : D2 := fun a b Q => match a, b with
  | .int i, .int j => Q (.int (i + j))
  | .str x, .str y => x.length + y.length ≤ 1000000 ∧ Q (.str (x ++ y))
  | .lst x, .lst y => x.length + y.length ≤ 1000000 ∧ Q (.lst (x ++ y))
  | .tup x, .tup y => x.length + y.length ≤ 1000000 ∧ Q (.tup (x ++ y))
  | _, _ => False
def rAddA (K : PySem.W.Frag) : R2 := fun x y H Q => (rI0 fun i j => .int (i + j)) x y H Q ∨ (∃ i j, x = .str i ∧ y = .str j ∧ i.length + j.length ≤ sizeLine ∧ Q (.str (i ++ j)) H) ∨ rCat x y H Q ∨ rCatA K x y H Q
theorem o_add : OpR X (binaryOp .Add) (rAddA X.K) := op_add.or (op_add_str.or (op_cat.or op_catA))
theorem d_add : DOp X (rAddA X.K) dAdd := by
  intro W F H n x y a b Q R hK w ra rb q fin
  cases a <;> cases b <;> try exact False.elim q
  case int.int i j => exact .inl ⟨i, j, ra.int, rb.int, fin _ F H _ (New.refl w.sub) (.int _) q⟩
  case str.str i j => exact .inr (.inl ⟨i, j, ra.str, rb.str, big_ok q.1, fin _ F H _ (New.refl w.sub) (.str _) q.2⟩)
  case lst.lst xs ys =>
    obtain ⟨p, vs, rfl, h1, h2⟩ := ra.lst w.sub
    obtain ⟨p', vs', rfl, h1', h2'⟩ := rb.lst w.sub
    refine .inr (.inr (.inl ⟨p, p', vs, vs', rfl, rfl, h1, h1', by rw [h2.length, h2'.length]; exact big_ok q.1, fun c hc => ?_⟩))
    obtain ⟨g, r⟩ := new_lst w hc (Reps.append h2 h2')
    exact fin _ _ _ _ g r q.2
  case tup.tup xs ys =>
    obtain ⟨p, vs, rfl, h1, h0, h2⟩ := ra.tup w.sub
    obtain ⟨p', vs', rfl, h1', h0', h2'⟩ := rb.tup w.sub
    refine .inr (.inr (.inr ⟨p, p', vs, vs', rfl, rfl, hK ▸ h1, hK ▸ h1', by rw [h2.length, h2'.length]; exact big_ok q.1, fun e => ?_, fun _ e => ?_, fun _ _ c hc => ?_⟩))
    · subst e
      cases h2
      exact fin _ F H _ (New.refl w.sub) (.tup h0' h2') q.2
    · subst e
      cases h2'
      have q2 := q.2
      rw [List.append_nil] at q2
      exact fin _ F H _ (New.refl w.sub) (.tup h0 h2) q2
    · obtain ⟨g, r⟩ := new_tup w hc (Reps.append h2 h2')
      exact fin _ _ _ _ g r q.2
def dInt (f : Int → Int → Int) (C : Int → Int → Prop) : D2 := fun a b Q => match a, b with
  | .int i, .int j => C i j ∧ Q (.int (f i j))
  | _, _ => False
theorem d_int {C : Int → Int → Prop} {f : Int → Int → Int} : DOp X (rI C fun i j => .int (f i j)) (dInt f C) := by
  intro W F H n x y a b Q R hK w ra rb q fin
  cases a <;> cases b <;> try exact False.elim q
  case int.int i j => exact ⟨i, j, ra.int, rb.int, q.1, fin _ F H _ (New.refl w.sub) (.int _) q.2⟩
theorem d_int0 {f : Int → Int → Int} : DOp X (rI0 fun i j => .int (f i j)) (dInt f fun _ _ => True) := by
  intro W F H n x y a b Q R hK w ra rb q fin
  cases a <;> cases b <;> try exact False.elim q
  case int.int i j => exact ⟨i, j, ra.int, rb.int, fin _ F H _ (New.refl w.sub) (.int _) q.2⟩
def dSub : D2 := dInt (fun i j => i - j) fun _ _ => True
theorem d_sub : DOp X (rI0 fun i j => .int (i - j)) dSub := d_int0
def dMod : D2 := dInt (fun i j => i % j) fun _ j => 0 < j
theorem d_mod : DOp X (rI (fun _ j => 0 < j) fun i j => .int (i % j)) dMod := d_int
def dDiv : D2 := dInt (fun i j => i / j) CDiv
theorem d_div : DOp X (rI CDiv fun i j => .int (i / j)) dDiv := d_int
def dPow : D2 := dInt (fun i j => i ^ j.toNat) CPow
theorem d_pow : DOp X (rI CPow fun i j => .int (i ^ j.toNat)) dPow := d_int
/-- tuple * 1, 0 and less -/
def dMul : D2 := fun a b Q => match a, b with
  | .int i, .int j => CMul i j ∧ Q (.int (i * j))
  | .lst x, .int j => j ≤ 1000000 ∧ -1000000 ≤ j ∧ x.length * j.toNat ≤ 1000000 ∧ Q (.lst (List.replicate j.toNat x).flatten)
  | .tup x, .int j => (j = 1 ∨ (2 ≤ j ∧ j ≤ 1000 ∧ x.length ≤ 1000 ∧ x ≠ []) ∨ (j = 0 ∧ x ≠ [])) ∧ Q (.tup (List.replicate j.toNat x).flatten)
  | _, _ => False
def rMulA (K : PySem.W.Frag) : R2 := fun x y H Q => rI CMul (fun i j => .int (i * j)) x y H Q ∨ rRep x y H Q ∨ rRepT K x y H Q ∨ rOnce K x y H Q ∨ rNoneT K x y H Q
theorem o_mul : OpR X (binaryOp .Mult) (rMulA X.K) := op_mul.or (op_rep.or (op_repT.or (op_once.or op_noneT)))
theorem d_mul : DOp X (rMulA X.K) dMul := by
  intro W F H n x y a b Q R hK w ra rb q fin
  cases a <;> cases b <;> try exact False.elim q
  case int.int i j => exact .inl ⟨i, j, ra.int, rb.int, q.1, fin _ F H _ (New.refl w.sub) (.int _) q.2⟩
  case lst.int xs j =>
    obtain ⟨p, vs, rfl, h1, h2⟩ := ra.lst w.sub
    obtain ⟨q1, q2, q3, q4⟩ := q
    refine .inr (.inl ⟨p, j, vs, rfl, rb.int, h1, by omega, by omega, by rw [h2.length]; exact big_ok q3, fun c hc => ?_⟩)
    obtain ⟨g, r⟩ := new_lst w hc (Reps.rep j.toNat h2)
    exact fin _ _ _ _ g r q4
  case tup.int xs j =>
    obtain ⟨p, vs, rfl, h1, h0, h2⟩ := ra.tup w.sub
    obtain ⟨q1 | ⟨q1, q2, q3, q4⟩ | ⟨q1, q2⟩, q5⟩ := q
    · subst q1
      refine .inr (.inr (.inr (.inl ⟨p, vs, rfl, rb.int, hK ▸ h1, fin _ F H _ (New.refl w.sub) (.tup h0 h2) ?_⟩)))
      have e : (List.replicate (1 : Int).toNat xs).flatten = xs := by simp
      rw [e] at q5; exact q5
    · refine .inr (.inr (.inl ⟨p, j, vs, rfl, rb.int, hK ▸ h1, fun e => ?_, q1, q2, by rw [h2.length]; exact q3, fun c hc => ?_⟩))
      · subst e; cases h2; exact q4 rfl
      · obtain ⟨g, r⟩ := new_tup w hc (Reps.rep j.toNat h2)
        exact fin _ _ _ _ g r q5
    · subst q1
      refine .inr (.inr (.inr (.inr ⟨p, vs, rfl, rb.int, hK ▸ h1, fun e => ?_, fun c hc => ?_⟩)))
      · subst e; cases h2; exact q2 rfl
      · obtain ⟨g, r⟩ := new_tup w hc (Reps.nil (K := W.K) (pa := W.pa) (F := F))
        exact fin _ _ _ _ g r q5
def dCmp (f : Int → Int → Bool) : D2 := fun a b Q => match a, b with
  | .int i, .int j => Q (.bl (f i j))
  | _, _ => False
theorem d_cmp {f : Int → Int → Bool} : DOp X (rI0 fun i j => .bl (f i j)) (dCmp f) := by
  intro W F H n x y a b Q R hK w ra rb q fin
  cases a <;> cases b <;> try exact False.elim q
  case int.int i j => exact ⟨i, j, ra.int, rb.int, fin _ F H _ (New.refl w.sub) (.bl _) q⟩
abbrev dLt : D2 := dCmp fun i j => decide (i < j)
abbrev dLe : D2 := dCmp fun i j => decide (i ≤ j)
abbrev dGt : D2 := dCmp fun i j => decide (j < i)
abbrev dGe : D2 := dCmp fun i j => decide (j ≤ i)
/-- is None -/
def D.isN : D → Bool
  | .non => true
  | _ => false
def dIsN : D2 := fun a b Q => match b with
  | .non => Q (.bl a.isN)
  | _ => False
def dNotN : D2 := fun a b Q => match b with
  | .non => Q (.bl (!a.isN))
  | _ => False
theorem RB.nonb {W : Wd} {F H : Hp} {x : V} {a : D} (r : RB W F H x a) : decide (x = V.non) = a.isN := by
  rcases r with h | ⟨p, vs, es, e1, e2, e3, e4, e5⟩
  · cases h <;> rfl
  · subst e1 e2; rfl
theorem d_isN : DOp X (fun x y H Q => y = .non ∧ Q (.bl (decide (x = .non))) H) dIsN := by
  intro W F H n x y a b Q R hK w ra rb q fin
  cases b <;> try exact False.elim q
  refine ⟨rb.non, fin _ F H _ (New.refl w.sub) (.bl _) ?_⟩
  rw [ra.nonb]; exact q
theorem d_notN : DOp X (fun x y H Q => y = .non ∧ Q (.bl (!decide (x = .non))) H) dNotN := by
  intro W F H n x y a b Q R hK w ra rb q fin
  cases b <;> try exact False.elim q
  refine ⟨rb.non, fin _ F H _ (New.refl w.sub) (.bl _) ?_⟩
  rw [ra.nonb]; exact q
/-! ### == of plain data -/
mutual
def D.py : D → PyData
  | .non => .none
  | .bl b => .bool b
  | .int i => .int i
  | .str x => .str x
  | .tup ds => .tuple (D.pys ds)
  | .lst ds => .list (D.pys ds)
  | _ => .none
def D.pys : List D → List PyData
  | [] => []
  | d :: ds => D.py d :: D.pys ds
end
/-- plain to the depth k -/
def D.pl : Nat → D → Prop
  | _, .non => True
  | _, .bl _ => True
  | _, .int _ => True
  | _, .str x => PyData.strOk x = true
  | k + 1, .tup ds => ∀ d ∈ ds, D.pl k d
  | k + 1, .lst ds => ∀ d ∈ ds, D.pl k d
  | _, _ => False
theorem pl_dep : ∀ (k : Nat) (d : D), D.pl k d → d.py.canLay0 = true ∧ d.py.depth ≤ k := by
  intro k
  induction k with
  | zero =>
    intro d h
    cases d <;> first | exact False.elim h | (simp [D.py, PyData.canLay0, PyData.depth]; done) | (simp [D.py, PyData.canLay0, PyData.depth]; exact h)
  | succ k ih =>
    have all : ∀ ds : List D, (∀ d ∈ ds, D.pl k d) → PyData.canLayAll0 (D.pys ds) = true ∧ PyData.depthAll (D.pys ds) ≤ k := by
      intro ds
      induction ds with
      | nil => intro _; simp [D.pys, PyData.canLayAll0, PyData.depthAll]
      | cons d ds ih2 =>
        intro h
        have h1 := ih d (h d (List.mem_cons_self ..))
        have h2 := ih2 fun e he => h e (List.mem_cons_of_mem _ he)
        simp only [D.pys, PyData.canLayAll0, PyData.depthAll, h1.1, h2.1, Bool.and_self, true_and]
        omega
    intro d h
    cases d with
    | tup ds => obtain ⟨h1, h2⟩ := all ds h; simp only [D.py, PyData.canLay0, PyData.depth]; exact ⟨h1, by omega⟩
    | lst ds => obtain ⟨h1, h2⟩ := all ds h; simp only [D.py, PyData.canLay0, PyData.depth]; exact ⟨h1, by omega⟩
    | str x => simp [D.py, PyData.canLay0, PyData.depth]; exact h
    | non => simp [D.py, PyData.canLay0, PyData.depth]
    | bl _ => simp [D.py, PyData.canLay0, PyData.depth]
    | int _ => simp [D.py, PyData.canLay0, PyData.depth]
    | _ => exact False.elim h
theorem pl_shaped {k : Nat} {d : D} (hk : k ≤ 64) (h : D.pl k d) : SeqAt.shaped d.py = true := by
  obtain ⟨h1, h2⟩ := pl_dep k d h
  unfold SeqAt.shaped
  rw [h1, Bool.true_and]
  exact decide_eq_true (by omega)
section
variable {K : PySem.W.Frag} {pa : Option Pn} {F H : Hp}
theorem rep_dp (w : Same F H) : ∀ (k : Nat) (v : V) (d : D), D.pl k d → Rep K pa F v d → Dp K H v d.py := by
  intro k
  induction k with
  | zero =>
    intro v d h r
    cases d <;> first | exact False.elim h | (cases r; simp only [D.py]; constructor)
  | succ k ih =>
    have all : ∀ (ds : List D) (vs : List V), (∀ d ∈ ds, D.pl k d) → Reps K pa F vs ds → DpAll K H vs (D.pys ds) := by
      intro ds
      induction ds with
      | nil => intro vs _ r; cases r; exact .nil
      | cons d ds ih2 =>
        intro vs h r
        cases r with
        | cons r1 r2 => exact .cons (ih _ d (h d (List.mem_cons_self ..)) r1) (ih2 _ (fun e he => h e (List.mem_cons_of_mem _ he)) r2)
    intro v d h r
    cases d with
    | tup ds => cases r with | tup q r => simp only [D.py]; exact .tup (same_sqT w q) (all ds _ h r)
    | lst ds => cases r with | lst q r => simp only [D.py]; exact .lst (SqL.of (w _ _ q)) (all ds _ h r)
    | str x => cases r; simp only [D.py]; constructor
    | non => cases r; simp only [D.py]; constructor
    | bl _ => cases r; simp only [D.py]; constructor
    | int _ => cases r; simp only [D.py]; constructor
    | _ => exact False.elim h
theorem reps_dp (w : Same F H) {k : Nat} : ∀ (ds : List D) (vs : List V), (∀ d ∈ ds, D.pl k d) → Reps K pa F vs ds → DpAll K H vs (D.pys ds) := by
  intro ds
  induction ds with
  | nil => intro vs _ r; cases r; exact .nil
  | cons d ds ih2 =>
    intro vs h r
    cases r with
    | cons r1 r2 => exact .cons (rep_dp w k _ d (h d (List.mem_cons_self ..)) r1) (ih2 _ (fun e he => h e (List.mem_cons_of_mem _ he)) r2)
theorem rb_dp {W : Wd} (w : Same F H) {k : Nat} {v : V} {d : D} (h : D.pl k d) (r : RB W F H v d) : Dp W.K H v d.py := by
  rcases r with r | ⟨p, vs, ds, rfl, rfl, _, h4, h5⟩
  · exact rep_dp w k v d h r
  · cases k with
    | zero => exact False.elim h
    | succ k => simp only [D.py]; exact .lst (SqL.of h4) (reps_dp w ds vs h h5)
end
def D.eqb (a b : D) : Bool := PyData.eqv a.py b.py
def dEq : D2 := fun a b Q => D.pl 8 a ∧ D.pl 8 b ∧ Q (.bl (D.eqb a b))
def dNe : D2 := fun a b Q => D.pl 8 a ∧ D.pl 8 b ∧ Q (.bl (!D.eqb a b))
theorem d_eq : DOp X (rEqD X.K) dEq := by
  intro W F H n x y a b Q R hK w ra rb q fin
  exact ⟨_, _, hK ▸ rb_dp w.sub q.1 ra, hK ▸ rb_dp w.sub q.2.1 rb, pl_shaped (by decide) q.1, pl_shaped (by decide) q.2.1, fin _ F H _ (New.refl w.sub) (.bl _) q.2.2⟩
theorem d_ne : DOp X (rNeD X.K) dNe := by
  intro W F H n x y a b Q R hK w ra rb q fin
  exact ⟨_, _, hK ▸ rb_dp w.sub q.1 ra, hK ▸ rb_dp w.sub q.2.1 rb, pl_shaped (by decide) q.1, pl_shaped (by decide) q.2.1, fin _ F H _ (New.refl w.sub) (.bl _) q.2.2⟩
/-- x in a list, in a tuple -/
def rInT (K : PySem.W.Frag) : R2 := fun x y H Q => ∃ d ds, Dp K H x d ∧ Dp K H y (.tuple ds) ∧ SeqAt.shaped d = true ∧ SeqAt.shaped (.tuple ds) = true ∧ Q (.bl (ds.any fun z => PyData.eqv z d)) H
def rNotInT (K : PySem.W.Frag) : R2 := fun x y H Q => ∃ d ds, Dp K H x d ∧ Dp K H y (.tuple ds) ∧ SeqAt.shaped d = true ∧ SeqAt.shaped (.tuple ds) = true ∧ Q (.bl (!ds.any fun z => PyData.eqv z d)) H
theorem o_inT (hu : X.A.units + 65 < cLine) : OpR X (compareOp .In) (rInT X.K) := by
  rintro pins s σ H x y v u Q I rx ry ⟨d, ds, hd, he, sd, se, q⟩
  obtain ⟨as, r1⟩ := Dp.reads I d x v hd rx
  obtain ⟨bs, r2⟩ := Dp.reads I (.tuple ds) y u he ry
  exact SeqAt.in_tuple_reads r2 r1 (SeqAt.canLay_of_shaped se) (SeqAt.canLay_of_shaped sd) (room_in_shaped sd hu) ⟨.bl _, H, I, rfl, q⟩
theorem o_notInT (hu : X.A.units + 65 < cLine) : OpR X (compareOp .NotIn) (rNotInT X.K) := by
  rintro pins s σ H x y v u Q I rx ry ⟨d, ds, hd, he, sd, se, q⟩
  obtain ⟨as, r1⟩ := Dp.reads I d x v hd rx
  obtain ⟨bs, r2⟩ := Dp.reads I (.tuple ds) y u he ry
  exact SeqAt.notIn_tuple_reads r2 r1 (SeqAt.canLay_of_shaped se) (SeqAt.canLay_of_shaped sd) (room_in_shaped sd hu) ⟨.bl _, H, I, rfl, q⟩
def rInA (K : PySem.W.Frag) : R2 := fun x y H Q => rInD K x y H Q ∨ rIn K false x y H Q ∨ rInT K x y H Q
def rNotInA (K : PySem.W.Frag) : R2 := fun x y H Q => rNotInD K x y H Q ∨ rIn K true x y H Q ∨ rNotInT K x y H Q
theorem o_in (hu : X.A.units + 65 < cLine) : OpR X (compareOp .In) (rInA X.K) := (op_inD hu).or (op_in_seq.or (o_inT hu))
theorem o_notIn (hu : X.A.units + 65 < cLine) : OpR X (compareOp .NotIn) (rNotInA X.K) := (op_notInD hu).or (op_notIn_seq.or (o_notInT hu))
/-- data that are compared at once -/
def D.flat : D → Bool
  | .non => true
  | .bl _ => true
  | .int _ => true
  | .str _ => true
  | _ => false
def D.v : D → V
  | .non => .non
  | .bl b => .bl b
  | .int i => .int i
  | .str x => .str x
  | _ => .non
theorem flat_v {W : Wd} {F H : Hp} {x : V} {a : D} (r : RB W F H x a) (h : a.flat = true) : x = a.v ∧ flatV x = true := by
  rcases r with h' | ⟨p, vs, es, e1, e2, e3, e4, e5⟩
  · cases h' <;> first | exact ⟨rfl, rfl⟩ | cases h
  · subst e2; cases h
theorem flats_v {K : PySem.W.Frag} {pa : Option Pn} {F : Hp} : ∀ {vs : List V} {ds : List D}, Reps K pa F vs ds → ds.all D.flat = true → vs = ds.map D.v ∧ vs.all flatV = true
  | _, _, .nil, _ => ⟨rfl, rfl⟩
  | _, _, .cons h r, e => by
    rw [List.all_cons, Bool.and_eq_true] at e
    obtain ⟨e1, e2⟩ := flats_v r e.2
    obtain ⟨e3, e4⟩ := flat_v (W := ⟨K, pa, F, F⟩) (H := F) (.inl h) e.1
    exact ⟨by rw [e1, e3, List.map_cons], by rw [List.all_cons, e4, e2]; rfl⟩
def D.isIn (a : D) (ds : List D) : Bool := ds.any fun z => D.eqb z a
def dIn : D2 := fun a b Q => match b with
  | .lst ds => D.pl 8 a ∧ D.pl 8 (.lst ds) ∧ Q (.bl (D.isIn a ds))
  | .tup ds => if (a.flat && ds.all D.flat) = true then Q (.bl (inV a.v (ds.map D.v))) else D.pl 8 a ∧ D.pl 8 (.tup ds) ∧ Q (.bl (D.isIn a ds))
  | _ => False
def dNotIn : D2 := fun a b Q => match b with
  | .lst ds => D.pl 8 a ∧ D.pl 8 (.lst ds) ∧ Q (.bl (!D.isIn a ds))
  | .tup ds => if (a.flat && ds.all D.flat) = true then Q (.bl (!inV a.v (ds.map D.v))) else D.pl 8 a ∧ D.pl 8 (.tup ds) ∧ Q (.bl (!D.isIn a ds))
  | _ => False
theorem any_pys (a : D) : ∀ ds : List D, ((D.pys ds).any fun z => PyData.eqv z a.py) = D.isIn a ds
  | [] => rfl
  | d :: ds => by
    have h := any_pys a ds
    unfold D.isIn at h ⊢
    simp only [D.pys, List.any_cons, h]
    rfl
theorem d_in : DOp X (rInA X.K) dIn := by
  intro W F H n x y a b Q R hK w ra rb q fin
  cases b <;> try exact False.elim q
  case lst ds =>
    have hb : Dp X.K H y (D.lst ds).py := hK ▸ rb_dp w.sub q.2.1 rb
    have sb : SeqAt.shaped (D.lst ds).py = true := pl_shaped (by decide) q.2.1
    simp only [D.py] at hb sb
    refine .inl ⟨_, _, hK ▸ rb_dp w.sub q.1 ra, hb, pl_shaped (by decide) q.1, sb, fin _ F H _ (New.refl w.sub) (.bl _) ?_⟩
    rw [any_pys]; exact q.2.2
  case tup ds =>
    have q : if (a.flat && ds.all D.flat) = true then Q (.bl (inV a.v (ds.map D.v))) else D.pl 8 a ∧ D.pl 8 (.tup ds) ∧ Q (.bl (D.isIn a ds)) := q
    by_cases z : (a.flat && ds.all D.flat) = true
    · rw [if_pos z] at q
      rw [Bool.and_eq_true] at z
      obtain ⟨p, vs, rfl, h1, _, h2⟩ := rb.tup w.sub
      obtain ⟨e1, e2⟩ := flat_v ra z.1
      obtain ⟨e3, e4⟩ := flats_v h2 z.2
      refine .inr (.inl ⟨p, vs, rfl, .inr (hK ▸ h1), e2, e4, fin _ F H _ (New.refl w.sub) (.bl _) ?_⟩)
      rw [e1, e3]; exact q
    · rw [if_neg z] at q
      have hb : Dp X.K H y (D.tup ds).py := hK ▸ rb_dp w.sub q.2.1 rb
      have sb : SeqAt.shaped (D.tup ds).py = true := pl_shaped (by decide) q.2.1
      simp only [D.py] at hb sb
      refine .inr (.inr ⟨_, _, hK ▸ rb_dp w.sub q.1 ra, hb, pl_shaped (by decide) q.1, sb, fin _ F H _ (New.refl w.sub) (.bl _) ?_⟩)
      rw [any_pys]; exact q.2.2
theorem d_notIn : DOp X (rNotInA X.K) dNotIn := by
  intro W F H n x y a b Q R hK w ra rb q fin
  cases b <;> try exact False.elim q
  case lst ds =>
    have hb : Dp X.K H y (D.lst ds).py := hK ▸ rb_dp w.sub q.2.1 rb
    have sb : SeqAt.shaped (D.lst ds).py = true := pl_shaped (by decide) q.2.1
    simp only [D.py] at hb sb
    refine .inl ⟨_, _, hK ▸ rb_dp w.sub q.1 ra, hb, pl_shaped (by decide) q.1, sb, fin _ F H _ (New.refl w.sub) (.bl _) ?_⟩
    rw [any_pys]; exact q.2.2
  case tup ds =>
    have q : if (a.flat && ds.all D.flat) = true then Q (.bl (!inV a.v (ds.map D.v))) else D.pl 8 a ∧ D.pl 8 (.tup ds) ∧ Q (.bl (!D.isIn a ds)) := q
    by_cases z : (a.flat && ds.all D.flat) = true
    · rw [if_pos z] at q
      rw [Bool.and_eq_true] at z
      obtain ⟨p, vs, rfl, h1, _, h2⟩ := rb.tup w.sub
      obtain ⟨e1, e2⟩ := flat_v ra z.1
      obtain ⟨e3, e4⟩ := flats_v h2 z.2
      refine .inr (.inl ⟨p, vs, rfl, .inr (hK ▸ h1), e2, e4, fin _ F H _ (New.refl w.sub) (.bl _) ?_⟩)
      rw [e1, e3]; exact q
    · rw [if_neg z] at q
      have hb : Dp X.K H y (D.tup ds).py := hK ▸ rb_dp w.sub q.2.1 rb
      have sb : SeqAt.shaped (D.tup ds).py = true := pl_shaped (by decide) q.2.1
      simp only [D.py] at hb sb
      refine .inr (.inr ⟨_, _, hK ▸ rb_dp w.sub q.1 ra, hb, pl_shaped (by decide) q.1, sb, fin _ F H _ (New.refl w.sub) (.bl _) ?_⟩)
      rw [any_pys]; exact q.2.2
/-! ### subscripts, slices -/
def dIx : D2 := fun a b Q => match a, b with
  | .lst ds, .int i => match atI ds i with
    | some d => Q d
    | none => False
  | .tup ds, .int i => match atI ds i with
    | some d => Q d
    | none => False
  | .str z, .int i => z.length ≤ 1000000 ∧ match atI z.cps.toList i with
    | some c => Q (.str ⟨#[c]⟩)
    | none => False
  | _, _ => False
theorem reps_atI {K : PySem.W.Frag} {pa : Option Pn} {F : Hp} {vs : List V} {ds : List D} {i : Int} {d : D} (r : Reps K pa F vs ds) (h : atI ds i = some d) : ∃ v, atI vs i = some v ∧ Rep K pa F v d := by
  unfold atI at h ⊢
  rw [r.length]
  cases e : ixN ds.length i with
  | none => rw [e] at h; cases h
  | some j => rw [e] at h; exact r.getD h
theorem d_ix : DOp X (rIx X.K) dIx := by
  intro W F H n x y a b Q R hK w ra rb q fin
  cases a <;> cases b <;> try exact False.elim q
  case lst.int ds i =>
    obtain ⟨p, vs, rfl, h1, h2⟩ := ra.lst w.sub
    have q : (match atI ds i with | some d => Q d | none => False) := q
    cases e : atI ds i with
    | none => rw [e] at q; exact q.elim
    | some d =>
      rw [e] at q
      obtain ⟨v, hv, r⟩ := reps_atI h2 e
      exact .inl ⟨p, vs, i, v, rfl, rb.int, SqL.of h1, hv, fin _ F H _ (New.refl w.sub) r q⟩
  case tup.int ds i =>
    obtain ⟨p, vs, rfl, h1, _, h2⟩ := ra.tup w.sub
    have q : (match atI ds i with | some d => Q d | none => False) := q
    cases e : atI ds i with
    | none => rw [e] at q; exact q.elim
    | some d =>
      rw [e] at q
      obtain ⟨v, hv, r⟩ := reps_atI h2 e
      exact .inr (.inl ⟨p, vs, i, v, rfl, rb.int, hK ▸ h1, hv, fin _ F H _ (New.refl w.sub) r q⟩)
  case str.int z i =>
    obtain ⟨q1, q⟩ := q
    cases e : atI z.cps.toList i with
    | none => rw [e] at q; exact q.elim
    | some c =>
      rw [e] at q
      exact .inr (.inr ⟨z, i, c, ra.str, rb.int, big_ok q1, e, fin _ F H _ (New.refl w.sub) (.str _) q⟩)
theorem de_ix {a b : Expr} {ta tb : TE} {ka kb : KE} {pos : Pos} (ha : DB X a ta ka) (hb : DB X b tb kb) (hs : PlainIx b := by intro _ _; rfl) : DE X (.Subscript a b pos) (tOp (rIx X.K) ta tb) (kBin dIx ka kb) :=
  ⟨pe_ix ix_seq ha.pe hb.pe hs, bin_ok d_ix ha.ok hb.ok⟩
/-- a slice of a list of data -/
def cutD {α : Type} (xs : List α) (lo hi : Option Int) : List α := (xs.drop (HT.sIx xs.length 0 lo)).take (HT.sIx xs.length xs.length hi - HT.sIx xs.length 0 lo)
abbrev KO := List Sl → Nat → (Option Int → List Sl → Nat → Prop) → Prop
structure DO (X : Cx) (e : Option Expr) (t : TO) (k : KO) : Prop where
  pe : PO X e t
  ok : ∀ (W : Wd) (F : Hp) (n : Nat) (S : List Sl) (σ : St) (H : Hp) (Q : Option Int → List Sl → Nat → Prop) (R : Option Int → Hp → Prop), W.K = X.K → Abs W F n S σ H → k S n Q →
    (∀ o H' F' n' S', Grow W S σ F H F' H' S' → Abs W F' n' S' σ H' → Q o S' n' → R o H') → t σ H R
def kNoPart : KO := fun S n Q => Q none S n
def kPart (k : KE) : KO := fun S n Q => k S n fun d S1 n1 => match d with
  | .int i => Q (some i) S1 n1
  | _ => False
theorem do_none : DO X none tNoPart kNoPart := ⟨po_none, fun W F n S σ H Q R hK A q fin => fin none H F n S .refl A q⟩
theorem do_some {e : Expr} {t : TE} {k : KE} (h : DE X e t k) : DO X (some e) (tPart t) (kPart k) := by
  refine ⟨po_some h.pe, fun W F n S σ H Q R hK A q fin => ?_⟩
  refine h.ok W F n S σ H _ _ hK A q fun v H1 F1 n1 S1 d g A1 r q1 => ?_
  cases d <;> try exact False.elim q1
  case int i => cases r; exact ⟨i, rfl, fin _ H1 F1 n1 S1 g A1 q1⟩
def kSl (k : KE) (kl kh : KO) : KE := fun S n Q => k S n fun d S1 n1 => kl S1 n1 fun l S2 n2 => kh S2 n2 fun h S3 n3 => match d with
  | .lst ds => Q (.lst (cutD ds l h)) S3 n3
  | .tup ds => Q (.tup (cutD ds l h)) S3 n3
  | _ => False
def rSlBoth (K : PySem.W.Frag) : V → Option Int → Option Int → Hp → VK → Prop := fun x lo hi H Q => rSlL K x lo hi H Q ∨ rSlA K x lo hi H Q
theorem reps_cut {K : PySem.W.Frag} {pa : Option Pn} {F : Hp} {vs : List V} {ds : List D} (r : Reps K pa F vs ds) (lo hi : Option Int) : Reps K pa F (cutV vs lo hi) (cutD ds lo hi) := by
  unfold cutV cutD
  rw [r.length]
  exact Reps.take _ (Reps.drop _ r)
theorem de_slice {e : Expr} {lo hi : Option Expr} {t : TE} {tl th : TO} {k : KE} {kl kh : KO} {pos p2 : Pos} (he : DB X e t k) (hl : DO X lo tl kl) (hh : DO X hi th kh) : DE X (.Subscript e (.Slice lo hi none p2) pos) (tSl (rSlBoth X.K) t tl th) (kSl k kl kh) := by
  refine ⟨pe_slice (sl_list.or sl_tupA) he.pe hl.pe hh.pe, fun W F n S σ H Q R hK A q fin => ?_⟩
  refine he.ok W F n S σ H _ _ hK A q fun v H1 F1 n1 S1 d g1 A1 r1 q1 => ?_
  refine hl.ok W F1 n1 S1 σ H1 _ _ hK A1 q1 fun l H2 F2 n2 S2 g2 A2 q2 => ?_
  refine hh.ok W F2 n2 S2 σ H2 _ _ hK A2 q2 fun h H3 F3 n3 S3 g3 A3 q3 => ?_
  have r3 := (r1.grow g2).grow g3
  cases d <;> try exact False.elim q3
  case lst ds =>
    obtain ⟨p, vs, rfl, h1, h2⟩ := r3.lst A3.w.sub
    refine .inl ⟨p, vs, rfl, SqL.of h1, fun c hc => ?_⟩
    obtain ⟨g, r⟩ := new_lst A3.w hc (reps_cut h2 l h)
    exact fin _ _ _ n3 S3 _ (((g1.trans g2).trans g3).trans g.grow) (A3.new g) r q3
  case tup ds =>
    obtain ⟨p, vs, rfl, h1, h0, h2⟩ := r3.tup A3.w.sub
    refine .inr ⟨p, vs, rfl, hK ▸ h1, fun hw => ?_, fun _ c hc => ?_⟩
    · have e : cutD ds l h = ds := by
        unfold cutD
        rw [← h2.length, hw.1, hw.2, Nat.sub_zero, List.drop_zero, h2.length, List.take_length]
      have q3 : Q (.tup (cutD ds l h)) S3 n3 := q3
      rw [e] at q3
      exact fin _ H3 F3 n3 S3 _ ((g1.trans g2).trans g3) A3 (.tup h0 h2) q3
    · obtain ⟨g, r⟩ := new_tup A3.w hc (reps_cut h2 l h)
      exact fin _ _ _ n3 S3 _ (((g1.trans g2).trans g3).trans g.grow) (A3.new g) r q3
end
end DL
namespace DL
open PySem PySem.Spec PyProof.Rows L2
section
variable {X : Cx}
/-! ### built-ins by their names -/
inductive RBs (W : Wd) (F H : Hp) : List V → List D → Prop
  | nil : RBs W F H [] []
  | cons {v : V} {vs : List V} {d : D} {ds : List D} : RB W F H v d → RBs W F H vs ds → RBs W F H (v :: vs) (d :: ds)
structure DAb (X : Cx) (es : List Expr) (t : TA) (k : KA) : Prop where
  pe : PA X es t
  ok : ∀ (W : Wd) (F : Hp) (n : Nat) (S : List Sl) (σ : St) (H : Hp) (Q : List D → List Sl → Nat → Prop) (R : List V → Hp → Prop), W.K = X.K → Abs W F n S σ H → k S n Q →
    (∀ vs H' F' n' S' ds, Grow W S σ F H F' H' S' → Abs W F' n' S' σ H' → RBs W F' H' vs ds → Q ds S' n' → R vs H') → t σ H R
theorem dab_nil : DAb X [] tNil kNil := ⟨pa_nil, fun W F n S σ H Q R hK A q fin => fin [] H F n S [] .refl A .nil q⟩
theorem dab_cons {e : Expr} {es : List Expr} {t : TE} {ts : TA} {k : KE} {ks : KA} (h : DB X e t k) (hs : DAb X es ts ks) (hst : starEach (e :: es) X.env = (false, eval e X.env) :: starEach es X.env := by rfl) : DAb X (e :: es) (tCons t ts) (kCons k ks) := by
  refine ⟨pa_cons h.pe hs.pe hst, fun W F n S σ H Q R hK A q fin => ?_⟩
  refine h.ok W F n S σ H _ _ hK A q fun v H1 F1 n1 S1 d g1 A1 r q1 => ?_
  refine hs.ok W F1 n1 S1 σ H1 _ _ hK A1 q1 fun vs H2 F2 n2 S2 ds g2 A2 r2 q2 => ?_
  exact fin _ H2 F2 n2 S2 _ (g1.trans g2) A2 (.cons (r.grow g2) r2) q2
/-- a built-in by values -/
def DCall (X : Cx) (r : List V → Hp → VK → Prop) (op : List D → (D → Prop) → Prop) : Prop :=
  ∀ (W : Wd) (F H : Hp) (n : Nat) (vs : List V) (ds : List D) (Q : D → Prop) (R : VK), W.K = X.K → Wok W F H n → RBs W F H vs ds → op ds Q →
    (∀ v F' H' d, New W F H F' H' → Rep W.K W.pa F' v d → Q d → R v H') → r vs H R
def kCall (op : List D → (D → Prop) → Prop) (ks : KA) : KE := fun S n Q => ks S n fun ds S1 n1 => op ds fun d => Q d S1 n1
theorem de_of {r : List V → Hp → VK → Prop} {op : List D → (D → Prop) → Prop} {e : Expr} {es : List Expr} {t : TA} {ks : KA} (hd : DCall X r op) (h : DAb X es t ks) (hp : PA X es t → PE X e (tCB r t)) : DE X e (tCB r t) (kCall op ks) := by
  refine ⟨hp h.pe, fun W F n S σ H Q R hK A q fin => ?_⟩
  refine h.ok W F n S σ H _ _ hK A q fun vs H1 F1 n1 S1 ds g1 A1 r1 q1 => ?_
  refine hd W F1 H1 n1 vs ds _ _ hK A1.w r1 q1 fun v F3 H3 d g3 r3 q3 => ?_
  exact fin v H3 F3 n1 S1 d (g1.trans g3.grow) (A1.new g3) r3 q3
/-- by the built-in's name -/
theorem de_blt {r : List V → Hp → VK → Prop} {op : List D → (D → Prop) → Prop} {x : Str} {id : String} {e : Expr} {es : List Expr} {t : TA} {ks : KA} {p pos : Pos} (hc : CallR X (.builtin id) r) (hd : DCall X r op) (hm : X.mg x = none) (h : DAb X (e :: es) t ks)
    (hp : CallR X (.builtin id) r → X.mg x = none → PA X (e :: es) t → PE X (.Call (.Name x p) (e :: es) [] pos) (tCB r t) := by intro a b c; exact pe_callB a (by exact rfl) b (by decide +kernel) c) : DE X (.Call (.Name x p) (e :: es) [] pos) (tCB r t) (kCall op ks) := de_of hd h (hp hc hm)
theorem de_bty {r : List V → Hp → VK → Prop} {op : List D → (D → Prop) → Prop} {x : Str} {T : String} {e : Expr} {es : List Expr} {t : TA} {ks : KA} {p pos : Pos} (hc : CallR X (.type T) r) (hd : DCall X r op) (hm : X.mg x = none) (h : DAb X (e :: es) t ks)
    (hp : CallR X (.type T) r → X.mg x = none → PA X (e :: es) t → PE X (.Call (.Name x p) (e :: es) [] pos) (tCB r t) := by intro a b c; exact pe_callTy a (by exact rfl) b (by decide +kernel) c) : DE X (.Call (.Name x p) (e :: es) [] pos) (tCB r t) (kCall op ks) := de_of hd h (hp hc hm)
theorem callR_or {f : Value} {r r' : List V → Hp → VK → Prop} (h : CallR X f r) (h' : CallR X f r') : CallR X f (fun xs H Q => r xs H Q ∨ r' xs H Q) := by
  intro pins s σ H xs us Q I rv q
  rcases q with q | q
  · exact h pins s σ H xs us Q I rv q
  · exact h' pins s σ H xs us Q I rv q
def bLen : List D → (D → Prop) → Prop := fun ds Q => match ds with
  | [.lst xs] => Q (.int xs.length)
  | [.tup xs] => Q (.int xs.length)
  | [.str x] => x.length ≤ 1000000 ∧ Q (.int x.length)
  | _ => False
def rLenA (K : PySem.W.Frag) : List V → Hp → VK → Prop := fun xs H Q => (∃ p ys, xs = [V.ref p] ∧ (SqL K H p ys ∨ SqT K H p ys) ∧ Q (.int ys.length) H) ∨ (∃ x n, xs = [x] ∧ LenV K x H n ∧ Q (.int n) H)
theorem c_len : CallR X (.builtin "len") (rLenA X.K) := callR_or call_len_seq call_len
theorem d_len : DCall X (rLenA X.K) bLen := by
  intro W F H n vs ds Q R hK w r q fin
  cases r with
  | nil => exact False.elim q
  | cons r1 r2 =>
    rename_i v vs d ds
    cases r2 with
    | cons _ _ => cases d <;> exact False.elim q
    | nil =>
      cases d <;> try exact False.elim q
      case lst xs =>
        obtain ⟨p, ws, rfl, h1, h2⟩ := r1.lst w.sub
        exact .inl ⟨p, ws, rfl, .inl (SqL.of h1), fin _ F H _ (New.refl w.sub) (.int _) (by rw [h2.length]; exact q)⟩
      case tup xs =>
        obtain ⟨p, ws, rfl, h1, _, h2⟩ := r1.tup w.sub
        exact .inl ⟨p, ws, rfl, .inr (hK ▸ h1), fin _ F H _ (New.refl w.sub) (.int _) (by rw [h2.length]; exact q)⟩
      case str x =>
        refine .inr ⟨v, x.length, rfl, ?_, fin _ F H _ (New.refl w.sub) (.int _) q.2⟩
        rw [r1.str]
        exact ⟨big_ok q.1, rfl⟩
def bInt : List D → (D → Prop) → Prop := fun ds Q => match ds with
  | [.int i] => Q (.int i)
  | [.bl b] => Q (.int (if b then 1 else 0))
  | _ => False
theorem rb1 {W : Wd} {F H : Hp} {vs : List V} {d : D} (r : RBs W F H vs [d]) : ∃ v, vs = [v] ∧ RB W F H v d := by
  cases r with
  | cons r1 r2 => cases r2; exact ⟨_, rfl, r1⟩
theorem rb2 {W : Wd} {F H : Hp} {vs : List V} {d e : D} (r : RBs W F H vs [d, e]) : ∃ v u, vs = [v, u] ∧ RB W F H v d ∧ RB W F H u e := by
  cases r with
  | cons r1 r2 =>
    obtain ⟨u, rfl, h⟩ := rb1 r2
    exact ⟨_, _, rfl, r1, h⟩
theorem d_toInt : DCall X (fun xs H Q => (∃ i, xs = [.int i] ∧ Q (.int i) H) ∨ ∃ k, xs = [.bl k] ∧ Q (.int (if k then 1 else 0)) H) bInt := by
  intro W F H n vs ds Q R hK w r q fin
  match ds, r, q with
  | [.int i], r, q =>
    obtain ⟨v, rfl, rx⟩ := rb1 r
    exact .inl ⟨i, by rw [rx.int], fin _ F H _ (New.refl w.sub) (.int _) q⟩
  | [.bl b], r, q =>
    obtain ⟨v, rfl, rx⟩ := rb1 r
    exact .inr ⟨b, by rw [rx.bl], fin _ F H _ (New.refl w.sub) (.int _) q⟩
def bAbs : List D → (D → Prop) → Prop := fun ds Q => match ds with
  | [.int i] => Q (.int (if i < 0 then -i else i))
  | _ => False
theorem d_abs : DCall X (fun xs H Q => ∃ i, xs = [.int i] ∧ Q (.int (if i < 0 then -i else i)) H) bAbs := by
  intro W F H n vs ds Q R hK w r q fin
  match ds, r, q with
  | [.int i], r, q =>
    obtain ⟨v, rfl, rx⟩ := rb1 r
    exact ⟨i, by rw [rx.int], fin _ F H _ (New.refl w.sub) (.int _) q⟩
def bTuple : List D → (D → Prop) → Prop := fun ds Q => match ds with
  | [.lst xs] => Q (.tup xs)
  | [.tup xs] => Q (.tup xs)
  | _ => False
theorem d_tuple : DCall X (fun xs H Q => ∃ p ys, xs = [.ref p] ∧ ((SqL X.K H p ys ∧ ∀ l, H l = none → Q (.ref l) (upd H l (.tup ys))) ∨ (SqT X.K H p ys ∧ Q (.ref p) H))) bTuple := by
  intro W F H n vs ds Q R hK w r q fin
  match ds, r, q with
  | [.lst xs], r, q =>
    obtain ⟨v, rfl, rx⟩ := rb1 r
    obtain ⟨p, ws, rfl, h1, h2⟩ := rx.lst w.sub
    refine ⟨p, ws, rfl, .inl ⟨SqL.of h1, fun c hc => ?_⟩⟩
    obtain ⟨g, r⟩ := new_tup w hc h2
    exact fin _ _ _ _ g r q
  | [.tup xs], r, q =>
    obtain ⟨v, rfl, rx⟩ := rb1 r
    obtain ⟨p, ws, rfl, h1, h0, h2⟩ := rx.tup w.sub
    exact ⟨p, ws, rfl, .inr ⟨hK ▸ h1, fin _ F H _ (New.refl w.sub) (.tup h0 h2) q⟩⟩
def bList : List D → (D → Prop) → Prop := fun ds Q => match ds with
  | [.lst xs] => Q (.lst xs)
  | [.tup xs] => Q (.lst xs)
  | _ => False
theorem d_list : DCall X (fun xs H Q => ∃ p ys, xs = [.ref p] ∧ (SqL X.K H p ys ∨ SqT X.K H p ys) ∧ ∀ l, H l = none → Q (.ref l) (upd H l (.lst ys))) bList := by
  intro W F H n vs ds Q R hK w r q fin
  match ds, r, q with
  | [.lst xs], r, q =>
    obtain ⟨v, rfl, rx⟩ := rb1 r
    obtain ⟨p, ws, rfl, h1, h2⟩ := rx.lst w.sub
    refine ⟨p, ws, rfl, .inl (SqL.of h1), fun c hc => ?_⟩
    obtain ⟨g, r⟩ := new_lst w hc h2
    exact fin _ _ _ _ g r q
  | [.tup xs], r, q =>
    obtain ⟨v, rfl, rx⟩ := rb1 r
    obtain ⟨p, ws, rfl, h1, h0, h2⟩ := rx.tup w.sub
    refine ⟨p, ws, rfl, .inr (hK ▸ h1), fun c hc => ?_⟩
    obtain ⟨g, r⟩ := new_lst w hc h2
    exact fin _ _ _ _ g r q
/-- bools, ints of a list of data -/
def D.bls : List D → Option (List Bool)
  | [] => some []
  | .bl b :: ds => match D.bls ds with
    | some bs => some (b :: bs)
    | none => none
  | _ => none
def D.ints : List D → Option (List Int)
  | [] => some []
  | .int b :: ds => match D.ints ds with
    | some bs => some (b :: bs)
    | none => none
  | _ => none
theorem bls_v {K : PySem.W.Frag} {pa : Option Pn} {F : Hp} : ∀ {vs : List V} {ds : List D} {bs : List Bool}, Reps K pa F vs ds → D.bls ds = some bs → vs = bs.map V.bl
  | _, [], bs, .nil, e => by cases e; rfl
  | _, d :: ds, bs, .cons h r, e => by
    cases d <;> try (simp [D.bls] at e; done)
    case bl b =>
      unfold D.bls at e
      cases q : D.bls ds with
      | none => rw [q] at e; cases e
      | some cs =>
        rw [q] at e
        cases e
        cases h
        rw [bls_v r q, List.map_cons]
theorem ints_v {K : PySem.W.Frag} {pa : Option Pn} {F : Hp} : ∀ {vs : List V} {ds : List D} {bs : List Int}, Reps K pa F vs ds → D.ints ds = some bs → vs = bs.map V.int
  | _, [], bs, .nil, e => by cases e; rfl
  | _, d :: ds, bs, .cons h r, e => by
    cases d <;> try (simp [D.ints] at e; done)
    case int b =>
      unfold D.ints at e
      cases q : D.ints ds with
      | none => rw [q] at e; cases e
      | some cs =>
        rw [q] at e
        cases e
        cases h
        rw [ints_v r q, List.map_cons]
theorem bls_map : ∀ bs : List Bool, D.bls (bs.map D.bl) = some bs
  | [] => rfl
  | b :: bs => by rw [List.map_cons]; unfold D.bls; rw [bls_map bs]
theorem ints_map : ∀ bs : List Int, D.ints (bs.map D.int) = some bs
  | [] => rfl
  | b :: bs => by rw [List.map_cons]; unfold D.ints; rw [ints_map bs]
def bAny : List D → (D → Prop) → Prop := fun ds Q => match ds with
  | [.lst xs] => match D.bls xs with
    | some bs => Q (.bl (bs.any id))
    | none => False
  | _ => False
def bAll : List D → (D → Prop) → Prop := fun ds Q => match ds with
  | [.lst xs] => match D.bls xs with
    | some bs => Q (.bl (bs.all id))
    | none => False
  | _ => False
def bSum : List D → (D → Prop) → Prop := fun ds Q => match ds with
  | [.lst xs] => match D.ints xs with
    | some bs => Q (.int bs.sum)
    | none => False
  | _ => False
theorem d_any : DCall X (rAny X.K) bAny := by
  intro W F H n vs ds Q R hK w r q fin
  match ds, r, q with
  | [.lst xs], r, q =>
    obtain ⟨v, rfl, rx⟩ := rb1 r
    obtain ⟨p, ws, rfl, h1, h2⟩ := rx.lst w.sub
    have q : (match D.bls xs with | some bs => Q (.bl (bs.any id)) | none => False) := q
    cases e : D.bls xs with
    | none => rw [e] at q; exact q.elim
    | some bs =>
      rw [e] at q
      exact ⟨p, bs, rfl, by rw [← bls_v h2 e]; exact SqL.of h1, fin _ F H _ (New.refl w.sub) (.bl _) q⟩
theorem d_all : DCall X (rAll X.K) bAll := by
  intro W F H n vs ds Q R hK w r q fin
  match ds, r, q with
  | [.lst xs], r, q =>
    obtain ⟨v, rfl, rx⟩ := rb1 r
    obtain ⟨p, ws, rfl, h1, h2⟩ := rx.lst w.sub
    have q : (match D.bls xs with | some bs => Q (.bl (bs.all id)) | none => False) := q
    cases e : D.bls xs with
    | none => rw [e] at q; exact q.elim
    | some bs =>
      rw [e] at q
      exact ⟨p, bs, rfl, by rw [← bls_v h2 e]; exact SqL.of h1, fin _ F H _ (New.refl w.sub) (.bl _) q⟩
theorem d_sum : DCall X (rSum X.K) bSum := by
  intro W F H n vs ds Q R hK w r q fin
  match ds, r, q with
  | [.lst xs], r, q =>
    obtain ⟨v, rfl, rx⟩ := rb1 r
    obtain ⟨p, ws, rfl, h1, h2⟩ := rx.lst w.sub
    have q : (match D.ints xs with | some bs => Q (.int bs.sum) | none => False) := q
    cases e : D.ints xs with
    | none => rw [e] at q; exact q.elim
    | some bs =>
      rw [e] at q
      exact ⟨p, bs, rfl, by rw [← ints_v h2 e]; exact SqL.of h1, fin _ F H _ (New.refl w.sub) (.int _) q⟩
/-! ### isinstance -/
def D.tyn : D → String
  | .non => "NoneType"
  | .bl _ => "bool"
  | .int _ => "int"
  | .str _ => "str"
  | .tup _ => "tuple"
  | .lst _ => "list"
  | _ => ""
theorem rb_ty {W : Wd} {F H : Hp} {x : V} {a : D} (w : Same F H) (r : RB W F H x a) (h : a.tyn ≠ "") : TyX W.K H x (.type a.tyn) := by
  rcases r with r | ⟨p, vs, ds, rfl, rfl, _, h4, _⟩
  · cases r with
    | non => exact .base .non
    | bl b => exact .base (.bl b)
    | int b => exact .base (.int b)
    | str b => exact .base (.str b)
    | tup q r =>
      rcases same_sqT w q with (q | ⟨o, q⟩) | ⟨o, its, k, q1, q2, q3⟩
      · exact .base (.tup q)
      · exact .fTuple q
      · exact .kTuple q1 q2
    | lst q r => exact .base (.lst (w _ _ q))
    | ty n => exact (h rfl).elim
    | ref a => exact (h rfl).elim
    | ins _ _ _ => exact (h rfl).elim
    | pen _ => exact (h rfl).elim
  · exact .base (.lst h4)
/-- isinstance(x, T), T a built-in class -/
def bIsi : List D → (D → Prop) → Prop := fun ds Q => match ds with
  | [a, .ty T] => a.tyn ≠ "" ∧ match kitB a.tyn T with
    | some b => Q (.bl b)
    | none => False
  | _ => False
theorem d_isi : DCall X (rIsi X.K) bIsi := by
  intro W F H n vs ds Q R hK w r q fin
  match ds, r, q with
  | [a, .ty T], r, q =>
    obtain ⟨v, u, rfl, r1, r2⟩ := rb2 r
    obtain ⟨q1, q⟩ := q
    have hu : u = .ty T := by
      rcases r2 with r2 | ⟨p, vs, es, e1, e2, e3, e4, e5⟩
      · cases r2; rfl
      · cases e2
    cases e : kitB a.tyn T with
    | none => rw [e] at q; exact q.elim
    | some b =>
      rw [e] at q
      exact ⟨v, u, _, _, b, rfl, hu ▸ .ty T, hK ▸ rb_ty w.sub r1 q1, kit_ty e, fin _ F H _ (New.refl w.sub) (.bl _) q⟩
/-- the same by a display of two classes -/
def kIsi2 (k : KE) (T U : String) : KE := fun S n Q => k S n fun a S1 n1 => a.tyn ≠ "" ∧ match kitB a.tyn T, kitB a.tyn U with
  | some b, some c => Q (.bl (b || c)) S1 n1
  | _, _ => False
theorem de_isi2 {e e1 e2 : Expr} {T U : String} {t : TE} {k : KE} {kk : Nat} {p tpos pos : Pos} (hm : X.mg "isinstance" = none) (h : DB X e t k) (h1 : PE X e1 (tC (.ty T))) (h2 : PE X e2 (tC (.ty U)))
    (hs : starEach [e, .Tuple [e1, e2] kk tpos] X.env = (false, eval e X.env) :: starEach [.Tuple [e1, e2] kk tpos] X.env := by rfl)
    (hs1 : starEach [e1, e2] X.env = (false, eval e1 X.env) :: starEach [e2] X.env := by rfl) (hs2 : starEach [e2] X.env = (false, eval e2 X.env) :: starEach [] X.env := by rfl)
    (hp : ∀ {t}, X.mg "isinstance" = none → PA X [e, .Tuple [e1, e2] kk tpos] t → PE X (.Call (.Name "isinstance" p) [e, .Tuple [e1, e2] kk tpos] [] pos) (tCB (rIsiT X.K) t) := by intro _ b c; exact pe_callB call_isiT (by exact rfl) b (by decide +kernel) c) :
    DE X (.Call (.Name "isinstance" p) [e, .Tuple [e1, e2] kk tpos] [] pos) (tCB (rIsiT X.K) (tCons t (tCons (tTup (tCons (tC (.ty T)) (tCons (tC (.ty U)) tNil))) tNil))) (kIsi2 k T U) := by
  refine ⟨hp hm (pa_cons h.pe (pa_cons (pe_tup (pa_cons h1 (pa_cons h2 pa_nil hs2) hs1)) pa_nil) hs), fun W F n S σ H Q R hK A q fin => ?_⟩
  refine h.ok W F n S σ H _ _ hK A q fun v H1 F1 n1 S1 a g1 A1 r1 q1 => ?_
  refine ⟨by show 2 ≤ sizeLine; decide, fun c hc => ?_⟩
  have g := New.free A1.w hc (.tup [.ty T, .ty U])
  obtain ⟨q1, q2⟩ := q1
  cases e1 : kitB a.tyn T with
  | none => rw [e1] at q2; exact q2.elim
  | some b =>
    cases e2 : kitB a.tyn U with
    | none => rw [e1, e2] at q2; exact q2.elim
    | some d =>
      rw [e1, e2] at q2
      refine ⟨v, c, _, _, [.type T, .type U], b || d, rfl, upd_same, .cons (.ty T) (.cons (.ty U) .nil), hK ▸ rb_ty g.sub (r1.new g) q1, ?_, fin _ _ F1 n1 S1 _ (g1.trans g.grow) (A1.new g) (.bl _) q2⟩
      refine kitAny_cons (kit_ty e1) (fun hb => ?_) (fun hb => by rw [hb]; rfl)
      refine kitAny_cons (kit_ty e2) (fun hd => ?_) (fun hd => by rw [hd, Bool.or_true])
      rw [hb, hd]
      exact kitAny_nil
/-! ### repr -/
def bRepr : List D → (D → Prop) → Prop := fun ds Q => match ds with
  | [a] => D.pl 8 a ∧ a.py.showable = true ∧ a.py.shown.length ≤ 1000000 ∧ Q (.str a.py.shown)
  | _ => False
def rReprD (K : PySem.W.Frag) : List V → Hp → VK → Prop := fun xs H Q => ∃ x d, xs = [x] ∧ Dp K H x d ∧ d.showable = true ∧ SeqAt.shaped d = true ∧ d.depth ≤ 8 ∧ d.shown.length ≤ 1000000 ∧ Q (.str d.shown) H
end
end DL
namespace DL
open PySem PySem.Spec PyProof.Rows L2
/-! ### enumerate of a tuple -/
def enObj (it : Addr) : Obj := { cls := .type "enumerate", data := .fields #[.none, .bool false, .ref it, rawInt 0, .none, .none] }
def tiObj (l : Addr) : Obj := { cls := .type "tuple_iterator", data := .fields #[.ref l, .int 0 0] }
open AutoSeq1 (wpAny_loadPart') in
theorem enum_new_tup (l : Addr) (items : Array Value) :
    Meets (Builtin.«enumerate.__new__» ⟨[.type "enumerate", .ref l], []⟩) (fun _ R s => s.heap.IsTuple l items ∧
      R (.ok (.ret (.ref (s.heap.push (tiObj l)).objs.size))) { s with heap := (s.heap.push (tiObj l)).push (enObj s.heap.objs.size) }) :=
  .of_wp fun prog w A R s h => by
    obtain ⟨hp, g, d, tk, os⟩ := s
    obtain ⟨h1, h⟩ := h
    have hsub := sub_enumerate
    have q1 : ∀ {A' : Around} {E : Value → Shared → Prop} {Q : Value → Shared → Prop}, Q (.ref hp.objs.size) ⟨hp.push (tiObj l), g, d, tk, os⟩ → wpAny (model prog w) A' (pyIter (.ref l)) Q E ⟨hp, g, d, tk, os⟩ :=
      fun q => wpAny_pyIter_tuple h1 q
    wp_walk using q1
    refine wpAny_stack_any fun st => wpAny_pure ?_
    split
    · rename_i c _ _ _ _ _
      cases (c == Value.type "enumerate") <;> (wp_walk using q1; exact ⟨_, rfl, h⟩)
    · wp_walk using q1
      exact ⟨_, rfl, h⟩
theorem call_enum_tup {prog : Program} {w : World} {A : Around} {E : Value → Shared → Prop} {s : Shared} {l : Addr} {items : Array Value} {Q : Value → Shared → Prop} (hL : s.heap.IsTuple l items)
    (h : ∀ h', IsEnum h' (s.heap.objs.size + 1) s.heap.objs.size 0 .none → h'.IsTupleIter s.heap.objs.size l 0 → (∀ b o, s.heap.get? b = some o → h'.get? b = some o) → Q (.ref (s.heap.objs.size + 1)) { s with heap := h' }) :
    wpAny (model prog w) A (call (.type "enumerate") [.ref l]) Q E s := by
  refine callType_new F.called_enumerate (by decide) (F.typeCall_enumerate_1 _) (F.newCall_enumerate_1 _) (fun obj => F.args_object_init_2 obj _) F.entry_enumerate_new (enum_new_tup l items) ⟨hL, ?_⟩
  have hz : (s.heap.push (tiObj l)).objs.size = s.heap.objs.size + 1 := Heap.size_push ..
  show _ ∧ _
  rw [hz]
  have he : IsEnum ((s.heap.push (tiObj l)).push (enObj s.heap.objs.size)) (s.heap.objs.size + 1) s.heap.objs.size 0 .none := by
    have k := Heap.get?_push_size (s.heap.push (tiObj l)) (o := enObj s.heap.objs.size) rfl
    rw [hz] at k
    exact k
  exact ⟨⟨_, he, rfl⟩, h _ he ⟨_, Heap.get?_push_of_some _ (Heap.get?_push_size _ rfl), rfl, rfl⟩ fun b o x => Heap.get?_push_of_some _ (Heap.get?_push_of_some _ x)⟩
/-- the tuple at a, each item in a new pair -/
def Itet (K : PySem.W.Frag) (a : Addr) : It where
  go := fun i H => ∃ (xs : List V) (x : V), SqT K H a xs ∧ xs[i]? = some x
  yld := fun i H v H' => ∃ T x, v = .ref T ∧ H T = none ∧ H' = upd H T (.tup [.int (i : Nat), x]) ∧ ∀ xs, SqT K H a xs → xs[i]? = some x
  stop := fun i H => ∃ xs : List V, SqT K H a xs ∧ xs.length = i
theorem turn_enumT {P : Program} {w : World} {K : PySem.W.Frag} {elts : List Expr} {kk : Nat} {tpos : Pos} (a e it : Addr) (hne : e ≠ it) (hae : e ≠ a) (hai : a ≠ it) :
    Turn P w K (.Tuple elts kk tpos) (Itet K a) [e, it] e (fun i h => (∃ old, IsEnum h e it ((i : Nat) : Int) old) ∧ h.IsTupleIter it a i) where
  mem := List.mem_cons_self ..
  obj := fun i h ⟨⟨old, he⟩, o, ho, hc, hd⟩ b hb => by
    rcases List.mem_cons.mp hb with z | hb
    · subst z; exact ⟨_, he, fun v q => nomatch q⟩
    · have z : b = it := List.mem_singleton.mp hb
      subst z; exact ⟨o, ho, fun v q => by rw [hd] at q; cases q⟩
  keep := fun i h h' ⟨⟨old, he⟩, hi⟩ k => ⟨⟨old, k e (List.mem_cons_self ..) _ he⟩, hi.at fun o q => k it (List.mem_cons_of_mem _ (List.mem_cons_self ..)) o q⟩
  item := by
    intro X hP hw hK hc i pins s σ H E I hf st hg
    subst hP hw hK
    obtain ⟨⟨old, he⟩, hit⟩ := st
    obtain ⟨xs, x, hq, hx⟩ := hg
    obtain ⟨its, rv, p, hz⟩ := I.tuple hq
    obtain ⟨u, hu, ru⟩ := rv.get hx
    have hel : e < s.heap.objs.size := Heap.lt_size he
    have hil : it < s.heap.objs.size := by obtain ⟨_, q, _⟩ := hit; exact Heap.lt_size q
    have dr := Draws.tuple (prog := X.prog) (w := X.w) (A := X.A.in1) (I.ok.hd hc) it a hai its.toArray
    have hlt : i < its.toArray.size := by
      have := (List.getElem?_eq_some_iff.mp hu).1
      simpa using this
    have hef : e ∉ [it, a] := by simp [hne, hae]
    refine wpAny_pyNext_enum_itemD dr he ⟨hit, p⟩ hlt hne hef fun y h' tk hy ho hst hT hsz hk => ?_
    have ey : u = y := by
      have h1 : its.toArray[i]? = some y := hy
      have h2 : its.toArray[i]? = some u := by simpa using hu
      exact Option.some.inj (h2.symm.trans h1)
    subst ey
    refine ⟨_, rfl, wpAny_letOwnedTupleGo_enum (s := { s with heap := h', toks := tk + 1 }) ho fun h'' he' sb => ?_⟩
    have hT2 : h''.get? s.heap.objs.size = some { cls := .type "tuple", data := .seq #[.int i tk, u] } := (sb.2 _ (Nat.ne_of_gt hel)).trans hT
    have new : ObjOk X.prog X.w (upd H s.heap.objs.size (.tup [.int (i : Nat), x])) h'' s.heap.objs.size (.tup [.int (i : Nat), x]) := by
      refine ⟨?_, [.int i tk, u], .cons ⟨tk, rfl⟩ (.cons ru .nil), _, hT2, rfl, _, rfl⟩
      show 2 ≤ sizeLine
      decide
    have I1 : Inv X pins σ (upd H s.heap.objs.size (.tup [.int (i : Nat), x])) { s with heap := h'', toks := tk + 1 } := by
      refine I.turnedNew (ch := [e, it]) (fun b ob hb q => ?_) hf (Nat.le_refl _) new
      have n1 : b ≠ e := fun z => hb (z ▸ List.mem_cons_self ..)
      have n2 : b ≠ it := fun z => hb (z ▸ List.mem_cons_of_mem _ (List.mem_cons_self ..))
      exact (sb.2 b n1).trans (hk b ob n1 n2 q)
    have fr : H s.heap.objs.size = none := I.hok.fresh (Nat.le_refl _)
    refine ⟨.ref s.heap.objs.size, _, I1, rfl, ⟨_, x, rfl, fr, rfl, fun ys hy => ?_⟩, ⟨⟨u, ?_⟩, hst.1.at fun o q => (sb.2 it (Ne.symm hne)).trans q⟩, fun b hb => ?_⟩
    · rw [I.tuple_inj hy hq]; exact hx
    · have e1 : ((i + 1 : Nat) : Int) = (i : Int) + 1 := by omega
      rw [e1]
      exact he'
    · have hb' : b < s.heap.objs.size := by
        rcases List.mem_cons.mp hb with z | hb
        · rw [z]; exact hel
        · rw [List.mem_singleton.mp hb]; exact hil
      rw [upd_ne (Nat.ne_of_lt hb')]
      exact (hf b hb).1
  done := by
    intro X hP hw hK hc i pins s σ H E I hf st hg
    subst hP hw hK
    obtain ⟨⟨old, he⟩, hit⟩ := st
    obtain ⟨xs, hq, hx⟩ := hg
    obtain ⟨its, rv, p, hz⟩ := I.tuple hq
    obtain ⟨f0, f1, f2, f3, f4, f5⟩ := hf it (List.mem_cons_of_mem _ (List.mem_cons_self ..))
    have dr := Draws.tuple (prog := X.prog) (w := X.w) (A := X.A.in1) (I.ok.hd hc) it a hai its.toArray
    have hl : i = its.toArray.size := by
      have e := rv.length
      rw [List.size_toArray]
      omega
    subst hl
    exact wpAny_pyNext_enum_endD dr he ⟨hit, p⟩ fun h' eb => ⟨rfl, I.turned (t' := s.toks) (fun b o hb q => eb b o hb q) f0 f1 f3 f4 f5⟩
  self := fun A i s Q E ⟨⟨_, he⟩, _⟩ h => wpAny_pyIter_enum he h
def iEnumT (K : PySem.W.Frag) (ta : TA) : TI := fun σ H R => ta σ H fun vs H1 => ∃ a xs, vs = [.ref a] ∧ ((SqL K H1 a xs ∧ R (Ite K a) H1) ∨ (SqT K H1 a xs ∧ R (Itet K a) H1))
theorem pi_enumA {X : Cx} {e : Expr} {ta : TA} {p pos tpos : Pos} {elts : List Expr} {kk : Nat} (hg : Gl X "enumerate") (hm : X.mg "enumerate" = none) (ha : PA X [e] ta) (hs : starEach [e] X.env = [(false, eval e X.env)] := by rfl) :
    PI X (.Tuple elts kk tpos) (.Call (.Name "enumerate" p) [e] [] pos) (iEnumT X.K ta) := by
  refine ⟨fun pins s σ H R I h => ?_⟩
  refine Call_ (ld_blt I hg hm boot_enumerate (PyProof.Rows.callWith_type1 (thn (ha.run pos pins s σ H _ I h) fun us s1 ⟨vs, H1, I1, r1, q1⟩ => ?_) hs rfl))
  obtain ⟨a, xs, ex, hq⟩ := q1
  subst ex
  have two : ∀ b ∈ [s1.heap.objs.size + 1, s1.heap.objs.size], FpOk X pins H1 b := fun b hb => by
    have hle : s1.heap.objs.size ≤ b := by
      rcases List.mem_cons.mp hb with z | hb
      · omega
      · rw [List.mem_singleton.mp hb]; exact Nat.le_refl _
    exact I1.fpOk hle (I1.hok.fresh hle)
  cases r1 with
  | cons r rr =>
    cases rr
    cases r
    rcases hq with ⟨hq, q⟩ | ⟨hq, q⟩
    · obtain ⟨its, rv, pl, hz⟩ := I1.list hq
      refine call_enumerate_list pl.isList fun h' he hit hsz hk => wpAny_pyIter_enum he ?_
      have I2 : Inv X pins σ H1 { s1 with heap := h' } := I1.kept (t' := s1.toks) hk
      exact ⟨s1.heap.objs.size + 1, _, _, _, H1, rfl, I2, turn_enum a (s1.heap.objs.size + 1) s1.heap.objs.size, ⟨⟨.none, he⟩, hit, Nat.succ_ne_self _⟩, two, q⟩
    · obtain ⟨its, rv, pl, hz⟩ := I1.tuple hq
      have hal : a < s1.heap.objs.size := pl.lt
      refine call_enum_tup pl fun h' he hit hk => wpAny_pyIter_enum he ?_
      have I2 : Inv X pins σ H1 { s1 with heap := h' } := I1.kept (t' := s1.toks) hk
      exact ⟨s1.heap.objs.size + 1, _, _, _, H1, rfl, I2, turn_enumT a (s1.heap.objs.size + 1) s1.heap.objs.size (Nat.succ_ne_self _) (Nat.ne_of_gt (Nat.lt_succ_of_lt hal)) (Nat.ne_of_lt hal), ⟨⟨.none, he⟩, hit⟩, two, q⟩
/-! ### repr of data -/
theorem call_reprD {X : Cx} (hg : X.A.guards = some []) (hu : X.A.units + 64 < cLine) : CallR X (.builtin "repr") (rReprD X.K) := by
  intro pins s σ H xs us Q I r h
  obtain ⟨x, d, rfl, hd, sh, sp, dep, len, q⟩ := h
  obtain ⟨u, rfl, ru⟩ := vals1 r
  obtain ⟨as, hr⟩ := Dp.reads I d x u hd ru
  have nd : d.hasDict = false := PyData.hasDict_of_canLay d (SeqAt.canLay_of_shaped sp)
  have obj : ∀ a, u = .ref a → wpAny (model X.prog X.w) X.A (call (.builtin "repr") [u]) (EP X pins σ Q) X.xe s := fun a e => by
    subst e
    exact repr_of_reads' hr sh (PyData.noDict_hsm nd) hg (by omega) (fun _ _ h => h) (fun h' t tk hk => ⟨.str _, H, I.kept hk, ⟨_, rfl⟩, q⟩) (big_ok len)
  cases hd with
  | non =>
    cases ru
    refine PySem.P.repr_of_none ⟨.str _, H, I.tok _, ⟨_, rfl⟩, ?_⟩
    simp only [PyData.shown] at q
    exact q
  | bl b =>
    cases ru
    refine PySem.P.repr_of_bool ⟨.str _, H, I.tok _, ⟨_, rfl⟩, ?_⟩
    simp only [PyData.shown] at q
    exact q
  | int i =>
    obtain ⟨t, rfl⟩ := ru
    simp only [PyData.showable, decide_eq_true_eq] at sh
    refine PySem.P.repr_of_int sh ⟨.str _, H, I.tok _, ⟨_, rfl⟩, ?_⟩
    simp only [PyData.shown] at q
    exact q
  | str x =>
    obtain ⟨t, rfl⟩ := ru
    simp only [PyData.shown] at q len
    exact PySem.P.repr_of_str ⟨.str _, H, I.tok _, ⟨_, rfl⟩, q⟩ (big_ok len)
  | lst _ _ => exact obj _ ru
  | tup _ _ => exact obj _ ru
theorem d_repr {X : Cx} : DCall X (rReprD X.K) bRepr := by
  intro W F H n vs ds Q R hK w r q fin
  match ds, r, q with
  | [a], r, q =>
    obtain ⟨v, rfl, rx⟩ := rb1 r
    obtain ⟨q1, q2, q3, q4⟩ := q
    exact ⟨v, _, rfl, hK ▸ rb_dp w.sub q1 rx, q2, pl_shaped (by decide) q1, (pl_dep 8 a q1).2, q3, fin _ F H _ (New.refl w.sub) (.str _) q4⟩
end DL
namespace DL
open PySem PySem.Spec PyProof.Rows L2
/-! ### what is walked -/
structure WalkD (W : Wd) (F : Hp) (J : It) (ds : List D) : Prop where
  goes : ∀ F' H n i, Same F F' → Wok W F' H n → i < ds.length → J.go i H
  stops : ∀ F' H n, Same F F' → Wok W F' H n → J.stop ds.length H
  yields : ∀ F' H n i x H', Same F F' → Wok W F' H n → i < ds.length → J.yld i H x H' → ∃ F'' d, ds[i]? = some d ∧ New W F' H F'' H' ∧ Rep W.K W.pa F'' x d
/-- from the layer's own walks -/
theorem WalkD.of {W : Wd} {F : Hp} {J : It} {ds : List D} {m : Nat} {G : Hp → Prop} {Y : Nat → Hp → V → Hp → Prop} (w : Walk J m G Y) (hm : ds.length = m) (hG : ∀ F' H n, Same F F' → Wok W F' H n → G H)
    (hY : ∀ F' H n i x H', Same F F' → Wok W F' H n → i < m → Y i H x H' → ∃ F'' d, ds[i]? = some d ∧ New W F' H F'' H' ∧ Rep W.K W.pa F'' x d) : WalkD W F J ds := by
  subst hm
  exact ⟨fun F' H n i e k hi => w.goes i H hi (hG F' H n e k), fun F' H n e k => w.stops H (hG F' H n e k), fun F' H n i x H' e k hi y => hY F' H n i x H' e k hi (w.yields i H x H' hi (hG F' H n e k) y)⟩
section
variable {W : Wd} {F : Hp} {a b : Addr} {vs ws : List V} {ds es : List D}
theorem at_yes {W : Wd} {F' H : Hp} {n : Nat} {vs : List V} {ds : List D} {x : V} {H' : Hp} {i : Nat} (r : Reps W.K W.pa F' vs ds) (k : Wok W F' H n) (y : YAt vs i H x H') : ∃ F'' d, ds[i]? = some d ∧ New W F' H F'' H' ∧ Rep W.K W.pa F'' x d := by
  obtain ⟨e, hx⟩ := y
  subst e
  obtain ⟨d, h1, h2⟩ := r.get hx
  exact ⟨F', d, h1, New.refl k.sub, h2⟩
theorem wd_list (h : F a = some (.lst vs)) (r : Reps W.K W.pa F vs ds) : WalkD W F (Itl W.K a) ds :=
  WalkD.of walk_list r.length.symm (fun F' H n e k => SqL.of (k.sub _ _ (e _ _ h))) fun F' H n i x H' e k _ y => at_yes (Reps.mono e r) k y
theorem wd_tup (h : SqT W.K F a vs) (r : Reps W.K W.pa F vs ds) : WalkD W F (Itt W.K a) ds :=
  WalkD.of walk_tup r.length.symm (fun F' H n e k => same_sqT (e.trans k.sub) h) fun F' H n i x H' e k _ y => at_yes (Reps.mono e r) k y
/-- lo, lo + 1, .. -/
def rngD : Int → Nat → List D
  | _, 0 => []
  | lo, n + 1 => .int lo :: rngD (lo + 1) n
theorem rngD_len : ∀ (n : Nat) (lo : Int), (rngD lo n).length = n
  | 0, _ => rfl
  | n + 1, lo => by unfold rngD; rw [List.length_cons, rngD_len n]
theorem rngD_get : ∀ (n : Nat) (lo : Int) (i : Nat), i < n → (rngD lo n)[i]? = some (.int (lo + i))
  | 0, _, _, h => absurd h (Nat.not_lt_zero _)
  | n + 1, lo, 0, _ => by unfold rngD; simp
  | n + 1, lo, i + 1, h => by
    unfold rngD
    rw [List.getElem?_cons_succ, rngD_get n (lo + 1) i (Nat.lt_of_succ_lt_succ h)]
    have e : lo + 1 + (i : Int) = lo + ((i + 1 : Nat) : Int) := by omega
    rw [e]
theorem wd_range {lo : Int} {n : Nat} : WalkD W F (Itr lo n) (rngD lo n) :=
  WalkD.of walk_range (rngD_len n lo) (fun _ _ _ _ _ => trivial) fun F' H k i x H' e w hi y => by
    obtain ⟨e1, e2⟩ := y
    subst e1 e2
    exact ⟨F', _, rngD_get n lo i hi, New.refl w.sub, .int _⟩
/-- the pairs of enumerate, of zip -/
def enumD : Nat → List D → List D
  | _, [] => []
  | k, d :: ds => .tup [.int (k : Nat), d] :: enumD (k + 1) ds
def zipD : List D → List D → List D
  | d :: ds, e :: es => .tup [d, e] :: zipD ds es
  | _, _ => []
theorem enumD_len : ∀ (ds : List D) (k : Nat), (enumD k ds).length = ds.length
  | [], _ => rfl
  | d :: ds, k => by unfold enumD; rw [List.length_cons, enumD_len ds, List.length_cons]
theorem enumD_get : ∀ (ds : List D) (k i : Nat) (d : D), ds[i]? = some d → (enumD k ds)[i]? = some (.tup [.int ((k + i : Nat) : Int), d])
  | [], _, _, _, h => by simp at h
  | d :: ds, k, 0, e, h => by
    unfold enumD
    have h : some d = some e := by simpa using h
    cases h
    rfl
  | d :: ds, k, i + 1, e, h => by
    unfold enumD
    rw [List.getElem?_cons_succ, enumD_get ds (k + 1) i e (by simpa using h)]
    have e2 : k + 1 + i = k + (i + 1) := by omega
    rw [e2]
theorem zipD_len : ∀ (ds es : List D), (zipD ds es).length = min ds.length es.length
  | [], _ => by unfold zipD; simp
  | d :: ds, [] => by unfold zipD; simp
  | d :: ds, e :: es => by unfold zipD; rw [List.length_cons, zipD_len ds es, List.length_cons, List.length_cons]; omega
theorem zipD_get : ∀ (ds es : List D) (i : Nat) (d e : D), ds[i]? = some d → es[i]? = some e → (zipD ds es)[i]? = some (.tup [d, e])
  | [], _, _, _, _, h, _ => by simp at h
  | _ :: _, [], _, _, _, _, h => by simp at h
  | a :: ds, b :: es, 0, d, e, h1, h2 => by
    unfold zipD
    have h1 : some a = some d := by simpa using h1
    have h2 : some b = some e := by simpa using h2
    cases h1
    cases h2
    rfl
  | a :: ds, b :: es, i + 1, d, e, h1, h2 => by
    unfold zipD
    rw [List.getElem?_cons_succ]
    exact zipD_get ds es i d e (by simpa using h1) (by simpa using h2)
theorem pair_yes {F' H : Hp} {n : Nat} {T : Addr} {x y : V} {d e : D} (k : Wok W F' H n) (hT : H T = none) (h1 : Rep W.K W.pa F' x d) (h2 : Rep W.K W.pa F' y e) :
    ∃ F'' f, some (D.tup [d, e]) = some f ∧ New W F' H F'' (upd H T (.tup [x, y])) ∧ Rep W.K W.pa F'' (.ref T) f := by
  obtain ⟨g, r⟩ := new_tup k hT (.cons h1 (.cons h2 .nil))
  exact ⟨_, _, rfl, g, r⟩
theorem wd_enum (h : F a = some (.lst vs)) (r : Reps W.K W.pa F vs ds) : WalkD W F (Ite W.K a) (enumD 0 ds) :=
  WalkD.of walk_enum (by rw [enumD_len]; exact r.length.symm) (fun F' H n e k => SqL.of (k.sub _ _ (e _ _ h))) fun F' H n i v H' e k hi y => by
    obtain ⟨T, x, y, rfl, hT, rfl, hx, hy⟩ := y
    cases hx
    obtain ⟨d, h1, h2⟩ := (Reps.mono e r).get hy
    rw [enumD_get ds 0 i d h1, Nat.zero_add]
    exact pair_yes k hT (.int _) h2
theorem wd_enumT (h : SqT W.K F a vs) (r : Reps W.K W.pa F vs ds) : WalkD W F (Itet W.K a) (enumD 0 ds) := by
  refine ⟨fun F' H n i e k hi => ?_, fun F' H n e k => ⟨vs, same_sqT (e.trans k.sub) h, by rw [enumD_len]; exact r.length⟩, fun F' H n i v H' e k hi y => ?_⟩
  · rw [enumD_len, ← r.length] at hi
    exact ⟨vs, vs[i], same_sqT (e.trans k.sub) h, List.getElem?_eq_getElem hi⟩
  · obtain ⟨T, x, rfl, hT, rfl, hx⟩ := y
    obtain ⟨d, h1, h2⟩ := (Reps.mono e r).get (hx vs (same_sqT (e.trans k.sub) h))
    rw [enumD_get ds 0 i d h1, Nat.zero_add]
    exact pair_yes k hT (.int _) h2
theorem wd_zip (h : F a = some (.lst vs)) (r : Reps W.K W.pa F vs ds) (h' : F b = some (.lst ws)) (r' : Reps W.K W.pa F ws es) : WalkD W F (Itz W.K a b) (zipD ds es) :=
  WalkD.of (walk_zip rfl) (by rw [zipD_len, r.length, r'.length]) (fun F' H n e k => ⟨SqL.of (k.sub _ _ (e _ _ h)), SqL.of (k.sub _ _ (e _ _ h'))⟩) fun F' H n i v H' e k hi y => by
    obtain ⟨T, x, y, rfl, hT, rfl, hx, hy⟩ := y
    obtain ⟨d, h1, h2⟩ := (Reps.mono e r).get hx
    obtain ⟨d', h1', h2'⟩ := (Reps.mono e r').get hy
    rw [zipD_get ds es i d d' h1 h1']
    exact pair_yes k hT h2 h2'
end
structure DI (X : Cx) (tg iter : Expr) (wi : TI) (k : KA) : Prop where
  pe : PI X tg iter wi
  ok : ∀ (W : Wd) (F : Hp) (n : Nat) (S : List Sl) (σ : St) (H : Hp) (Q : List D → List Sl → Nat → Prop) (R : It → Hp → Prop), W.K = X.K → Abs W F n S σ H → k S n Q →
    (∀ J H' F' n' S' ds, Grow W S σ F H F' H' S' → Abs W F' n' S' σ H' → WalkD W F' J ds → Q ds S' n' → R J H') → wi σ H R
section
variable {X : Cx} {tg e e2 : Expr} {t : TE} {ts : TA} {k : KE} {ks : KA} {p pos tpos : Pos} {elts : List Expr} {kk : Nat}
/-- a list or a tuple -/
def iSeq (K : PySem.W.Frag) (tl : TE) : TI := fun σ H R => tl σ H fun x H1 => ∃ a, x = .ref a ∧ ((∃ xs, SqL K H1 a xs) ∧ R (Itl K a) H1 ∨ (∃ xs, SqT K H1 a xs) ∧ R (Itt K a) H1)
theorem pi_seq {tl : TE} (hl : PE X e tl) : PI X tg e (iSeq X.K tl) := by
  refine ⟨fun pins s σ H R I h => ?_⟩
  refine thn (hl.run pins s σ H _ I h) fun v s1 ⟨x, H1, I1, r1, q1⟩ => ?_
  obtain ⟨a, e, q⟩ := q1
  subst e
  cases r1
  have fr : ∀ b ∈ [s1.heap.objs.size], FpOk X pins H1 b := fun b hb => by
    have e : b = s1.heap.objs.size := List.mem_singleton.mp hb
    subst e
    exact I1.fpOk (Nat.le_refl _) (I1.hok.fresh (Nat.le_refl _))
  rcases q with ⟨⟨xs, hq⟩, q⟩ | ⟨⟨xs, hq⟩, q⟩
  · obtain ⟨its, rv, pl, hz⟩ := I1.list hq
    exact wpAny_pyIter_list pl.isList ⟨s1.heap.objs.size, _, _, _, H1, rfl, I1.kept (t' := s1.toks) fun b o e => Heap.get?_push_of_some _ e, turn_list a _, ⟨_, Heap.get?_push_size _ rfl, rfl, rfl⟩, fr, q⟩
  · obtain ⟨its, rv, pl, hz⟩ := I1.tuple hq
    exact wpAny_pyIter_tuple pl ⟨s1.heap.objs.size, _, _, _, H1, rfl, I1.kept (t' := s1.toks) fun b o e => Heap.get?_push_of_some _ e, turn_tuple a _, ⟨_, Heap.get?_push_size _ rfl, rfl, rfl⟩, fr, q⟩
def kIter (k : KE) : KA := fun S n Q => k S n fun d S1 n1 => match d with
  | .lst ds => Q ds S1 n1
  | .tup ds => Q ds S1 n1
  | _ => False
theorem di_seq (h : DE X e t k) : DI X tg e (iSeq X.K t) (kIter k) := by
  refine ⟨pi_seq h.pe, fun W F n S σ H Q R hK A q fin => ?_⟩
  refine h.ok W F n S σ H _ _ hK A q fun v H1 F1 n1 S1 d g1 A1 r q1 => ?_
  cases d <;> try exact False.elim q1
  case lst ds =>
    cases r with
    | lst h r => exact ⟨_, rfl, .inl ⟨⟨_, SqL.of (A1.w.sub _ _ h)⟩, hK ▸ fin _ H1 F1 n1 S1 ds g1 A1 (wd_list h r) q1⟩⟩
  case tup ds =>
    cases r with
    | tup h r => exact ⟨_, rfl, .inr ⟨⟨_, hK ▸ same_sqT A1.w.sub h⟩, hK ▸ fin _ H1 F1 n1 S1 ds g1 A1 (wd_tup h r) q1⟩⟩
def kRng1 (ks : KA) : KA := fun S n Q => ks S n fun ds S1 n1 => match ds with
  | [.int j] => (-1000000 ≤ j ∧ j ≤ 1000000) ∧ Q (rngD 0 j.toNat) S1 n1
  | _ => False
def kRng2 (ks : KA) : KA := fun S n Q => ks S n fun ds S1 n1 => match ds with
  | [.int i, .int j] => (-1000000 ≤ i ∧ i ≤ 1000000 ∧ -1000000 ≤ j ∧ j ≤ 1000000) ∧ Q (rngD i (j - i).toNat) S1 n1
  | _ => False
theorem di_rng1 (hm : X.mg "range" = none) (h : DA X [e] ts ks) (hg : Gl X "range" := by exact rfl) (hs : starEach [e] X.env = [(false, eval e X.env)] := by rfl) : DI X tg (.Call (.Name "range" p) [e] [] pos) (iRng1 ts) (kRng1 ks) := by
  refine ⟨pi_range1 hg hm h.pe hs, fun W F n S σ H Q R hK A q fin => ?_⟩
  refine h.ok W F n S σ H _ _ hK A q fun vs H1 F1 n1 S1 ds g1 A1 r q1 => ?_
  match ds, r, q1 with
  | [.int j], .cons (.int _) .nil, q1 => exact ⟨j, rfl, by omega, by omega, fin _ H1 F1 n1 S1 _ g1 A1 wd_range q1.2⟩
theorem di_rng2 (hm : X.mg "range" = none) (h : DA X [e, e2] ts ks) (hg : Gl X "range" := by exact rfl) (hs : starEach [e, e2] X.env = [(false, eval e X.env), (false, eval e2 X.env)] := by rfl) (hs2 : starEach [e2] X.env = [(false, eval e2 X.env)] := by rfl) :
    DI X tg (.Call (.Name "range" p) [e, e2] [] pos) (iRng2 ts) (kRng2 ks) := by
  refine ⟨pi_range2 hg hm h.pe hs hs2, fun W F n S σ H Q R hK A q fin => ?_⟩
  refine h.ok W F n S σ H _ _ hK A q fun vs H1 F1 n1 S1 ds g1 A1 r q1 => ?_
  match ds, r, q1 with
  | [.int i, .int j], .cons (.int _) (.cons (.int _) .nil), q1 => exact ⟨i, j, rfl, ⟨by omega, by omega, by omega, by omega⟩, fin _ H1 F1 n1 S1 _ g1 A1 wd_range q1.2⟩
def kEnum (ks : KA) : KA := fun S n Q => ks S n fun ds S1 n1 => match ds with
  | [.lst xs] => Q (enumD 0 xs) S1 n1
  | [.tup xs] => Q (enumD 0 xs) S1 n1
  | _ => False
theorem di_enum (hm : X.mg "enumerate" = none) (h : DA X [e] ts ks) (hg : Gl X "enumerate" := by exact rfl) (hs : starEach [e] X.env = [(false, eval e X.env)] := by rfl) : DI X (.Tuple elts kk tpos) (.Call (.Name "enumerate" p) [e] [] pos) (iEnumT X.K ts) (kEnum ks) := by
  refine ⟨pi_enumA hg hm h.pe hs, fun W F n S σ H Q R hK A q fin => ?_⟩
  refine h.ok W F n S σ H _ _ hK A q fun vs H1 F1 n1 S1 ds g1 A1 r q1 => ?_
  match ds, r, q1 with
  | [.lst xs], .cons (.lst h r) .nil, q1 => exact ⟨_, _, rfl, .inl ⟨SqL.of (A1.w.sub _ _ h), hK ▸ fin _ H1 F1 n1 S1 _ g1 A1 (wd_enum h r) q1⟩⟩
  | [.tup xs], .cons (.tup h r) .nil, q1 => exact ⟨_, _, rfl, .inr ⟨hK ▸ same_sqT A1.w.sub h, hK ▸ fin _ H1 F1 n1 S1 _ g1 A1 (wd_enumT h r) q1⟩⟩
def kZip (ks : KA) : KA := fun S n Q => ks S n fun ds S1 n1 => match ds with
  | [.lst xs, .lst ys] => Q (zipD xs ys) S1 n1
  | _ => False
theorem di_zip (hm : X.mg "zip" = none) (h : DA X [e, e2] ts ks) (hg : Gl X "zip" := by exact rfl) (hs : starEach [e, e2] X.env = (false, eval e X.env) :: starEach [e2] X.env := by rfl) (hpl : (backTo pos (starEach [e2] X.env)).any (·.1) = false := by rfl) :
    DI X (.Tuple elts kk tpos) (.Call (.Name "zip" p) [e, e2] [] pos) (iZip X.K ts) (kZip ks) := by
  refine ⟨pi_zip hg hm h.pe hs hpl, fun W F n S σ H Q R hK A q fin => ?_⟩
  refine h.ok W F n S σ H _ _ hK A q fun vs H1 F1 n1 S1 ds g1 A1 r q1 => ?_
  match ds, r, q1 with
  | [.lst xs, .lst ys], .cons (.lst h r) (.cons (.lst h' r') .nil), q1 =>
    exact ⟨_, _, _, _, rfl, SqL.of (A1.w.sub _ _ h), SqL.of (A1.w.sub _ _ h'), hK ▸ fin _ H1 F1 n1 S1 _ g1 A1 (wd_zip h r h' r') q1⟩
end
/-! ### targets -/
abbrev KG := D → List Sl → (List Sl → Prop) → Prop
abbrev KGs := List D → List Sl → (List Sl → Prop) → Prop
/-- the slots at sl alone may change -/
structure DG (X : Cx) (tg : Expr) (g : TG) (sl : List Nat) (kg : KG) : Prop where
  pe : PG X tg g
  ok : ∀ (W : Wd) (F : Hp) (n : Nat) (S : List Sl) (σ : St) (H : Hp) (v : V) (d : D) (Q : List Sl → Prop) (R : St → Hp → Prop), W.K = X.K → Abs W F n S σ H → Rep W.K W.pa F v d → kg d S Q →
    (∀ σ' S', Abs W F n S' σ' H → (∀ i, i ∉ sl → σ'[i]? = σ[i]? ∧ S'[i]? = S[i]?) → (∀ i ds, S'[i]? = some (.own ds) → S[i]? = some (.own ds) ∧ i ∉ sl) → Q S' → R σ' H) → g v σ H R
structure DGs (X : Cx) (tgs : List Expr) (g : TGs) (sl : List Nat) (kg : KGs) : Prop where
  pe : PGs X tgs g
  ok : ∀ (W : Wd) (F : Hp) (n : Nat) (S : List Sl) (σ : St) (H : Hp) (vs : List V) (ds : List D) (Q : List Sl → Prop) (R : St → Hp → Prop), W.K = X.K → Abs W F n S σ H → Reps W.K W.pa F vs ds → kg ds S Q →
    (∀ σ' S', Abs W F n S' σ' H → (∀ i, i ∉ sl → σ'[i]? = σ[i]? ∧ S'[i]? = S[i]?) → (∀ i ds, S'[i]? = some (.own ds) → S[i]? = some (.own ds) ∧ i ∉ sl) → Q S' → R σ' H) → g vs σ H R
section
variable {W : Wd} {F H : Hp} {n : Nat} {S : List Sl} {σ : St}
theorem Abs.set (A : Abs W F n S σ H) {v : V} {d : D} (r : Rep W.K W.pa F v d) (i : Nat) : Abs W F n (S.set i (.val d)) (σ.set i (some v)) H := by
  refine ⟨A.w, by rw [List.length_set, List.length_set]; exact A.len, fun j s u h1 h2 => ?_, fun j k p ds es h1 h2 h3 h4 => ?_⟩
  · by_cases e : j = i
    · subst e
      have hj : j < S.length := by
        have := (List.getElem?_eq_some_iff.mp h1).1
        rwa [List.length_set] at this
      rw [List.getElem?_set_self hj] at h1
      rw [List.getElem?_set_self (by rw [← A.len]; exact hj)] at h2
      cases h1
      cases h2
      exact r
    · rw [List.getElem?_set_ne (Ne.symm e)] at h1 h2
      exact A.sl j s u h1 h2
  · have nj : j ≠ i := fun e => by
      subst e
      have hj : j < S.length := by
        have := (List.getElem?_eq_some_iff.mp h1).1
        rwa [List.length_set] at this
      rw [List.getElem?_set_self hj] at h1
      cases h1
    have nk : k ≠ i := fun e => by
      subst e
      have hj : k < S.length := by
        have := (List.getElem?_eq_some_iff.mp h2).1
        rwa [List.length_set] at this
      rw [List.getElem?_set_self hj] at h2
      cases h2
    rw [List.getElem?_set_ne (Ne.symm nj)] at h1 h3
    rw [List.getElem?_set_ne (Ne.symm nk)] at h2 h4
    exact A.di j k p ds es h1 h2 h3 h4
end
theorem not_single {i j : Nat} (h : j ∉ [i]) : i ≠ j := fun e => h (e ▸ List.mem_singleton_self _)
section
variable {X : Cx} {t : Expr} {ts : List Expr} {g : TG} {gs : TGs} {sl sl2 : List Nat} {kg : KG} {kgs : KGs}
def gN (i : Nat) : KG := fun d S Q => Q (S.set i (.val d))
theorem dg_name {i : Nat} {x : Str} {pos : Pos} (h : PG X (.Name x pos) (gName i)) : DG X (.Name x pos) (gName i) [i] (gN i) := by
  refine ⟨h, fun W F n S σ H v d Q R hK A r q fin => ?_⟩
  refine fin _ _ (A.set r i) (fun j hj => ⟨List.getElem?_set_ne (not_single hj), List.getElem?_set_ne (not_single hj)⟩) (fun j ds hd => ?_) q
  by_cases e : j = i
  · subst e
    have hj : j < S.length := by
      have := (List.getElem?_eq_some_iff.mp hd).1
      rwa [List.length_set] at this
    rw [List.getElem?_set_self hj] at hd
    cases hd
  · rw [List.getElem?_set_ne (Ne.symm e)] at hd
    exact ⟨hd, fun z => e (List.mem_singleton.mp z)⟩
def gsNil : KGs := fun ds S Q => match ds with
  | [] => Q S
  | _ => False
def gsCons (kg : KG) (kgs : KGs) : KGs := fun ds S Q => match ds with
  | d :: r => kg d S fun S' => kgs r S' Q
  | _ => False
theorem dgs_nil : DGs X [] gNil [] gsNil := by
  refine ⟨pgs_nil, fun W F n S σ H vs ds Q R hK A r q fin => ?_⟩
  cases ds with
  | cons _ _ => exact False.elim q
  | nil => cases r; exact ⟨rfl, fin σ S A (fun _ _ => ⟨rfl, rfl⟩) (fun _ _ h => ⟨h, List.not_mem_nil⟩) q⟩
theorem dgs_cons (h : DG X t g sl kg) (h2 : DGs X ts gs sl2 kgs) (hp : PG X t g → PGs X ts gs → PGs X (t :: ts) (gCons g gs) := by intro a b; exact pgs_cons a b) : DGs X (t :: ts) (gCons g gs) (sl ++ sl2) (gsCons kg kgs) := by
  refine ⟨hp h.pe h2.pe, fun W F n S σ H vs ds Q R hK A r q fin => ?_⟩
  cases ds with
  | nil => exact False.elim q
  | cons d ds =>
    cases r with
    | cons r1 r2 =>
      refine ⟨_, _, rfl, h.ok W F n S σ H _ d _ _ hK A r1 q fun σ1 S1 A1 c1 o1 q1 => ?_⟩
      refine h2.ok W F n S1 σ1 H _ ds _ _ hK A1 r2 q1 fun σ2 S2 A2 c2 o2 q2 => ?_
      refine fin σ2 S2 A2 (fun i hi => ?_) (fun i es he => ?_) q2
      · have z1 : i ∉ sl := fun z => hi (List.mem_append_left _ z)
        have z2 : i ∉ sl2 := fun z => hi (List.mem_append_right _ z)
        exact ⟨(c2 i z2).1.trans (c1 i z1).1, (c2 i z2).2.trans (c1 i z1).2⟩
      · obtain ⟨y1, y2⟩ := o2 i es he
        obtain ⟨y3, y4⟩ := o1 i es y1
        exact ⟨y3, fun z => (List.mem_append.mp z).elim y4 y2⟩
def gTupD (m : Nat) (kgs : KGs) : KG := fun d S Q => match d with
  | .tup ds => ds.length = m ∧ kgs ds S Q
  | _ => False
theorem dg_tup {kk m : Nat} {pos : Pos} (h : DGs X ts gs sl kgs) (hp : PGs X ts gs → PG X (.Tuple ts kk pos) (gTup X.K m gs) := by intro a; exact pg_tup rfl a) : DG X (.Tuple ts kk pos) (gTup X.K m gs) sl (gTupD m kgs) := by
  refine ⟨hp h.pe, fun W F n S σ H v d Q R hK A r q fin => ?_⟩
  cases d <;> try exact False.elim q
  case tup ds =>
    cases r with
    | tup hq r => exact ⟨_, _, rfl, hK ▸ same_sqT A.w.sub hq, r.length.trans q.1, h.ok W F n S σ H _ ds Q R hK A r q.2 fin⟩
end
end DL
namespace DL
open PySem PySem.Spec PyProof.Rows L2
/-! ### list comprehensions -/
/-- the block's own slots forgotten -/
def wipeD (S : List Sl) : List Nat → List Sl
  | [] => S
  | v :: vs => (wipeD S vs).set v .no
def okW (S : List Sl) (vs : List Nat) : Bool := vs.all fun i => match S[i]? with
  | some (.own _) => false
  | some (.obj _ _ _) => false
  | _ => true
def kComps (kg : KG) (kt : KT) (ke : KE) (vs : List Nat) (Sc : List Sl) : List D → List D → Nat → (List D → Nat → Prop) → Prop
  | [], acc, n, Q => Q acc n
  | d :: ds, acc, n, Q => kg d Sc fun S2 => wipeD S2 vs = Sc ∧ kt S2 n fun b S3 n3 => S3 = S2 ∧
    if b = true then ke S2 n3 fun y S4 n4 => S4 = S2 ∧ kComps kg kt ke vs Sc ds (acc ++ [y]) n4 Q else kComps kg kt ke vs Sc ds acc n3 Q
def kComp (ki : KA) (kg : KG) (kt : KT) (ke : KE) (vs : List Nat) : KE := fun S n Q => ki S n fun ds S1 n1 => ds.length ≤ 1000000 ∧ okW S1 vs = true ∧
  kComps kg kt ke vs (wipeD S1 vs) ds [] n1 fun acc n2 => Q (.lst acc) S1 n2
def kYes : KT := fun S n Q => Q true S n
structure DTs (X : Cx) (ifs : List Expr) (t : TT) (k : KT) : Prop where
  pe : PTs X ifs t
  ok : SpT X.K t k
theorem dts_nil {X : Cx} : DTs X [] tYes kYes := ⟨pts_nil, fun W F n S σ H Q R hK A q fin => fin true H F n S .refl A q⟩
theorem dts_one {X : Cx} {c : Expr} {t : TT} {k : KT} (h : DT X c t k) : DTs X [c] t k := ⟨pts_one h.pe, h.ok⟩
section
theorem wipeD_len : ∀ (vs : List Nat) (S : List Sl), (wipeD S vs).length = S.length
  | [], _ => rfl
  | v :: vs, S => by unfold wipeD; rw [List.length_set, wipeD_len vs S]
theorem wipeD_in : ∀ {vs : List Nat} {S : List Sl} {i : Nat} {s : Sl}, i ∈ vs → (wipeD S vs)[i]? = some s → s = .no
  | [], _, _, _, h, _ => absurd h List.not_mem_nil
  | v :: vs, S, i, s, h, e => by
    unfold wipeD at e
    by_cases z : i = v
    · subst z
      have hi : i < (wipeD S vs).length := by
        have := (List.getElem?_eq_some_iff.mp e).1
        rwa [List.length_set] at this
      rw [List.getElem?_set_self hi] at e
      cases e
      rfl
    · rw [List.getElem?_set_ne (Ne.symm z)] at e
      rcases List.mem_cons.mp h with q | q
      · exact absurd q z
      · exact wipeD_in q e
theorem wipeD_out : ∀ {vs : List Nat} {S : List Sl} {i : Nat}, i ∉ vs → (wipeD S vs)[i]? = S[i]?
  | [], _, _, _ => rfl
  | v :: vs, S, i, h => by
    unfold wipeD
    have z : i ≠ v := fun e => h (e ▸ List.mem_cons_self ..)
    rw [List.getElem?_set_ne (Ne.symm z)]
    exact wipeD_out fun q => h (List.mem_cons_of_mem _ q)
theorem wipe_in : ∀ {vs : List Nat} {σ : St} {i : Nat} {v : Option V}, i ∈ vs → (wipe σ vs)[i]? = some v → v = none
  | [], _, _, _, h, _ => absurd h List.not_mem_nil
  | w :: vs, σ, i, s, h, e => by
    unfold wipe at e
    by_cases z : i = w
    · subst z
      have hi : i < (wipe σ vs).length := by
        have := (List.getElem?_eq_some_iff.mp e).1
        rwa [List.length_set] at this
      rw [List.getElem?_set_self hi] at e
      cases e
      rfl
    · rw [List.getElem?_set_ne (Ne.symm z)] at e
      rcases List.mem_cons.mp h with q | q
      · exact absurd q z
      · exact wipe_in q e
theorem wipe_none {vs : List Nat} {σ : St} {i : Nat} (h : i ∈ vs) (hi : i < σ.length) : (wipe σ vs)[i]? = some none := by
  have hj : i < (wipe σ vs).length := by rw [wipe_length]; exact hi
  have e := List.getElem?_eq_getElem hj
  have e2 := wipe_in h e
  rw [e, e2]
/-- states that agree outside vs are wiped to the same one -/
theorem wipe_eq {vs : List Nat} {σ σ2 : St} (hl : σ2.length = σ.length) (h : ∀ i, i ∉ vs → σ2[i]? = σ[i]?) : wipe σ2 vs = wipe σ vs := by
  apply List.ext_getElem?
  intro i
  by_cases z : i ∈ vs
  · by_cases hi : i < σ.length
    · rw [wipe_none z hi, wipe_none z (by rw [hl]; exact hi)]
    · rw [List.getElem?_eq_none (by rw [wipe_length, hl]; omega), List.getElem?_eq_none (by rw [wipe_length]; omega)]
  · rw [wipe_out z, wipe_out z]
    exact h i z
variable {W : Wd} {F H : Hp} {n : Nat} {S : List Sl} {σ : St}
theorem Abs.wipe (A : Abs W F n S σ H) (vs : List Nat) : Abs W F n (wipeD S vs) (L2.wipe σ vs) H := by
  refine ⟨A.w, by rw [wipeD_len, wipe_length]; exact A.len, fun i s v h1 h2 => ?_, fun i j p ds es h1 h2 h3 h4 => ?_⟩
  · by_cases z : i ∈ vs
    · rw [wipeD_in z h1]; trivial
    · rw [wipeD_out z] at h1
      rw [wipe_out z] at h2
      exact A.sl i s v h1 h2
  · have zi : i ∉ vs := fun z => by have := wipeD_in z h1; cases this
    have zj : j ∉ vs := fun z => by have := wipeD_in z h2; cases this
    rw [wipeD_out zi] at h1
    rw [wipe_out zi] at h3
    rw [wipeD_out zj] at h2
    rw [wipe_out zj] at h4
    exact A.di i j p ds es h1 h2 h3 h4
theorem own_wipe {vs : List Nat} {a : Addr} (h : OwnA (wipeD S vs) (L2.wipe σ vs) a) : OwnA S σ a := by
  obtain ⟨i, ds, h1, h2⟩ := h
  have zi : i ∉ vs := fun z => by have := wipeD_in z h1; cases this
  rw [wipeD_out zi] at h1
  rw [wipe_out zi] at h2
  exact ⟨i, ds, h1, h2⟩
/-- behind the block: what stood in the slots stands -/
theorem Abs.back {F' H' : Hp} {n' : Nat} {vs : List Nat} (A : Abs W F n S σ H) (ok : okW S vs = true) (f : Same F F') (A' : Abs W F' n' (wipeD S vs) (L2.wipe σ vs) H') : Abs W F' n' S σ H' := by
  refine ⟨A'.w, A.len, fun i s v h1 h2 => ?_, A.di⟩
  by_cases z : i ∈ vs
  · have q := A.sl i s v h1 h2
    cases s with
    | no => trivial
    | val d =>
      cases v with
      | none => exact q.elim
      | some v => exact Rep.mono f q
    | own ds =>
      unfold okW at ok
      have := List.all_eq_true.mp ok i z
      rw [h1] at this
      cases this
    | obj x C gs =>
      unfold okW at ok
      have := List.all_eq_true.mp ok i z
      rw [h1] at this
      cases this
  · exact A'.sl i s v (by rw [wipeD_out z]; exact h1) (by rw [wipe_out z]; exact h2)
/-- a list that stands apart from all slots is frozen -/
theorem Abs.shut {D0 : Addr} {ws : List V} (A : Abs W F n S σ H) (hF : F D0 = none) (hD : H D0 = some (.lst ws)) (hp : pad W.pa ≠ some D0) (h0 : W.H0 D0 = none) (no : ¬ OwnA S σ D0) : Abs W (upd F D0 (.lst ws)) n S σ H := by
  have sm : Same F (upd F D0 (.lst ws)) := same_new hF
  refine ⟨⟨fun a u z => ?_, fun q z => ?_, A.w.old, A.w.oldp, A.w.f0.trans sm, fun a u z => ?_⟩, A.len, fun j s v z1 z2 => ?_, A.di⟩
  · by_cases y : a = D0
    · subst y; rw [upd_same] at z; rw [hD]; exact z
    · rw [upd_ne y] at z; exact A.w.sub _ _ z
  · obtain ⟨y1, ca, turn, rst, y2, y3, y4⟩ := A.w.pen q z
    refine ⟨?_, ca, turn, rst, y2, sm _ _ y3, y4⟩
    have nq : q ≠ D0 := fun y => hp (y ▸ z)
    rw [upd_ne nq]
    exact y1
  · by_cases y : a = D0
    · subst y; exact .inr h0
    · rw [upd_ne y] at z; exact A.w.nf _ _ z
  · have ok := A.sl j s v z1 z2
    cases s with
    | no => trivial
    | val d =>
      cases v with
      | none => exact ok.elim
      | some v => exact Rep.mono sm ok
    | own es =>
      cases v with
      | none => exact ok.elim
      | some v =>
        cases v with
        | ref q =>
          obtain ⟨k1, k2, k3, ws', k4, k5⟩ := ok
          have nq : q ≠ D0 := fun x => no ⟨j, es, z1, x ▸ z2⟩
          exact ⟨by rw [upd_ne nq]; exact k1, k2, k3, ws', k4, Reps.mono sm k5⟩
        | _ => exact ok.elim
    | obj x C gs => exact SlOk.obj_keep ok sm (fun a o e n z _ => by rw [upd_ne (far_lst hD a o e n)]; exact z) (fun _ _ e _ _ => e)
/-- a list that is written and stands apart from all -/
theorem Abs.put {D0 : Addr} {ws us : List V} (A : Abs W F n S σ H) (hF : F D0 = none) (hD : H D0 = some (.lst ws)) (hp : pad W.pa ≠ some D0) (h0 : W.H0 D0 = none) (no : ¬ OwnA S σ D0) : Abs W F n S σ (upd H D0 (.lst us)) := by
  have far : ∀ a o, F a = some o → a ≠ D0 := fun a o h e => by rw [e, hF] at h; cases h
  refine ⟨⟨fun a u z => ?_, fun q z => ?_, fun a u z p => ?_, fun p z => ?_, A.w.f0, A.w.nf⟩, A.len, fun j s v z1 z2 => ?_, A.di⟩
  · rw [upd_ne (far _ _ z)]; exact A.w.sub _ _ z
  · obtain ⟨y1, ca, turn, rst, y2, y3⟩ := A.w.pen q z
    have nq : q ≠ D0 := fun y => hp (y ▸ z)
    exact ⟨y1, ca, turn, rst, by rw [upd_ne nq]; exact y2, y3⟩
  · have na : a ≠ D0 := fun y => by rw [y, h0] at z; cases z
    rw [upd_ne na]; exact A.w.old _ _ z p
  · have nq : p ≠ D0 := fun y => hp (y ▸ z)
    rw [upd_ne nq]; exact A.w.oldp p z
  · have ok := A.sl j s v z1 z2
    cases s with
    | no => trivial
    | val d =>
      cases v with
      | none => exact ok.elim
      | some v => exact ok
    | own es =>
      cases v with
      | none => exact ok.elim
      | some v =>
        cases v with
        | ref q =>
          obtain ⟨k1, k2, k3, ws', k4, k5⟩ := ok
          have nq : q ≠ D0 := fun x => no ⟨j, es, z1, x ▸ z2⟩
          exact ⟨k1, k2, k3, ws', by rw [upd_ne nq]; exact k4, k5⟩
        | _ => exact ok.elim
    | obj x C gs => exact SlOk.obj_keep ok (Same.refl _) (fun _ _ _ _ z _ => z) (fun a o e n _ => by rw [upd_ne (far_lst hD a o e n)]; exact e)
theorem Abs.ownH (A : Abs W F n S σ H) {a : Addr} (h : OwnA S σ a) : ∃ vs, H a = some (.lst vs) := by
  obtain ⟨i, ds, h1, h2⟩ := h
  obtain ⟨_, _, _, vs, h4, _⟩ := A.sl i _ _ h1 h2
  exact ⟨vs, h4⟩
end
/-- what holds between two turns of a comprehension: the new list stands at D0 -/
structure CompIn (W : Wd) (F1 : Hp) (H1 : Hp) (S1 : List Sl) (σ : St) (vs : List Nat) (D0 : Addr) (kg : KG) (kt : KT) (ke : KE) (Q : List D → Nat → Prop) (i : Nat) (ds : List D) (H : Hp) : Prop where
  ex : ∃ (F : Hp) (n : Nat) (us : List V) (acc : List D), Same F1 F ∧ (∀ a o, H1 a = some o → pad W.pa ≠ some a → H a = some o) ∧ (∀ a, H a = none → H1 a = none) ∧ (∀ a o, F a = some o → F1 a = some o ∨ H1 a = none) ∧ Abs W F n (wipeD S1 vs) (wipe σ vs) H ∧
    F D0 = none ∧ H D0 = some (.lst us) ∧ Reps W.K W.pa F us acc ∧ acc.length ≤ i ∧ kComps kg kt ke vs (wipeD S1 vs) ds acc n Q
/-- the reading of a comprehension, up to what is done with the new list: it stands at D0, not frozen -/
theorem lc_read {K : PySem.W.Frag} {wi : TI} {g : TG} {tt : TT} {te : TE} {ki : KA} {kg : KG} {kt : KT} {ke : KE} {vs sl : List Nat}
    (hi : ∀ (W : Wd) (F : Hp) (n : Nat) (S : List Sl) (σ : St) (H : Hp) (Q : List D → List Sl → Nat → Prop) (R : It → Hp → Prop), W.K = K → Abs W F n S σ H → ki S n Q →
      (∀ J H' F' n' S' ds, Grow W S σ F H F' H' S' → Abs W F' n' S' σ H' → WalkD W F' J ds → Q ds S' n' → R J H') → wi σ H R)
    (hg : ∀ (W : Wd) (F : Hp) (n : Nat) (S : List Sl) (σ : St) (H : Hp) (v : V) (d : D) (Q : List Sl → Prop) (R : St → Hp → Prop), W.K = K → Abs W F n S σ H → Rep W.K W.pa F v d → kg d S Q →
      (∀ σ' S', Abs W F n S' σ' H → (∀ i, i ∉ sl → σ'[i]? = σ[i]? ∧ S'[i]? = S[i]?) → (∀ i ds, S'[i]? = some (.own ds) → S[i]? = some (.own ds) ∧ i ∉ sl) → Q S' → R σ' H) → g v σ H R)
    (hsl : ∀ i ∈ sl, i ∈ vs) (ht : SpT K tt kt) (he : SpE K te ke)
    (W : Wd) (F : Hp) (n : Nat) (S : List Sl) (σ : St) (H : Hp) (Q : D → List Sl → Nat → Prop) (R : VK) (hK : W.K = K) (A : Abs W F n S σ H) (q : kComp ki kg kt ke vs S n Q)
    (fin : ∀ D0 us acc H' F' n' S', Grow W S σ F H F' H' S' → Abs W F' n' S' σ H' → F' D0 = none → W.H0 D0 = none → pad W.pa ≠ some D0 → H' D0 = some (.lst us) → Reps W.K W.pa F' us acc → ¬ OwnA S' σ D0 → H D0 = none → Q (.lst acc) S' n' → R (.ref D0) H') :
    tLc wi g tt te vs σ H R := by
  refine hi W F n S σ H _ _ hK A q fun J H1 F1 n1 S1 ds g1 A1 wk q1 => ?_
  obtain ⟨len, ok, q1⟩ := q1
  intro D0 hD
  obtain ⟨fD, h0D, pD⟩ := A1.w.fresh hD
  have noD : ¬ OwnA S1 σ D0 := fun z => by
    obtain ⟨ws, e⟩ := A1.ownH z
    rw [hD] at e; cases e
  have hDH : H D0 = none := g1.hn D0 hD
  refine ⟨fun i m H => m = ds.length - i ∧ i ≤ ds.length ∧ CompIn W F1 H1 S1 σ vs D0 kg kt ke (fun acc n2 => Q (.lst acc) S1 n2) i (ds.drop i) H, ⟨ds.length, by simp, Nat.zero_le _, ⟨F1, n1, [], [], Same.refl _, fun a o h _ => same_new hD a o h, fun a h => ?_, fun _ _ h => .inl h,
    (A1.new (New.free A1.w hD _)).wipe vs, fD, upd_same, .nil, Nat.zero_le _, by rw [List.drop_zero]; exact q1⟩⟩, ?_⟩
  · by_cases y : a = D0
    · rw [y, upd_same] at h; cases h
    · rw [upd_ne y] at h; exact h
  rintro i m H2 ⟨rfl, hi2, ⟨F2, n2, us, acc, f2, h2, hn2, nf2, A2, fD2, hD2, r2, la, q2⟩⟩
  have noD2 : ¬ OwnA (wipeD S1 vs) (wipe σ vs) D0 := fun z => noD (own_wipe z)
  by_cases hlt : i < ds.length
  · have ed : ds.drop i = ds[i] :: ds.drop (i + 1) := List.drop_eq_getElem_cons hlt
    rw [ed] at q2
    refine .inr ⟨wk.goes F2 H2 n2 i f2 A2.w hlt, fun H' => CompIn W F1 H1 S1 σ vs D0 kg kt ke (fun acc n2 => Q (.lst acc) S1 n2) (i + 1) (ds.drop (i + 1)) H', fun H' p => ⟨ds.length - (i + 1), by omega, rfl, hlt, p⟩, fun x H' y => ?_⟩
    obtain ⟨F3, d, hd, g3, r3⟩ := wk.yields F2 H2 n2 i x H' f2 A2.w hlt y
    have ed2 : d = ds[i] := Option.some.inj (hd.symm.trans (List.getElem?_eq_getElem hlt))
    subst ed2
    have A3 := A2.new g3
    refine hg W F3 n2 _ _ H' x _ _ _ hK A3 r3 q2 fun σ2 S2 A4 c4 o4 q4 => ?_
    obtain ⟨w4, q4⟩ := q4
    have wσ : wipe σ2 vs = wipe σ vs := by
      have e1 : wipe σ2 vs = wipe (wipe σ vs) vs := by
        refine wipe_eq ?_ fun j hj => (c4 j fun z => hj (hsl j z)).1
        rw [← A4.len, ← (show (wipeD S2 vs).length = S2.length from wipeD_len _ _), w4, A3.len]
      have e2 : wipe (wipe σ vs) vs = wipe σ vs := wipe_eq (wipe_length _ _) fun j hj => wipe_out hj
      exact e1.trans e2
    refine ⟨wσ, ?_⟩
    have noD4 : ¬ OwnA S2 σ2 D0 := fun ⟨j, es, z1, z2⟩ => by
      obtain ⟨y1, y2⟩ := o4 j es z1
      exact noD2 ⟨j, es, y1, (c4 j y2).1 ▸ z2⟩
    -- what follows once a turn is through
    have next : ∀ (F5 H5 : Hp) (n5 : Nat) (acc5 : List D) (us5 : List V), Grow W S2 σ2 F3 H' F5 H5 S2 → Abs W F5 n5 S2 σ2 H5 → H5 D0 = some (.lst us) → ∀ zs, Reps W.K W.pa F5 (us ++ us5) zs → zs.length ≤ i + 1 →
        kComps kg kt ke vs (wipeD S1 vs) (ds.drop (i + 1)) zs n5 (fun acc n2 => Q (.lst acc) S1 n2) → CompIn W F1 H1 S1 σ vs D0 kg kt ke (fun acc n2 => Q (.lst acc) S1 n2) (i + 1) (ds.drop (i + 1)) (upd H5 D0 (.lst (us ++ us5))) := by
      intro F5 H5 n5 acc5 us5 g5 A5 hD5 zs r5 l5 q5
      have fD5 : F5 D0 = none := by
        cases e : F5 D0 with
        | none => rfl
        | some o =>
          rcases g5.nf D0 o e with z | z | z
          · rcases g3.nw D0 o z with z | z
            · rw [fD2] at z; cases z
            · rw [hD2] at z; cases z
          · rw [g3.h _ _ hD2] at z; cases z
          · exact absurd z noD4
      have A6 : Abs W F5 n5 (wipeD S1 vs) (wipe σ vs) H5 := by
        have := A5.wipe vs
        rw [w4, wσ] at this
        exact this
      refine ⟨F5, n5, us ++ us5, zs, f2.trans (g3.f.trans g5.f), fun a o h p => ?_, fun a h => ?_, fun a o h => ?_, A6.put fD5 hD5 pD h0D noD2, fD5, upd_same, r5, l5, q5⟩
      · have na : a ≠ D0 := fun e => by rw [e, hD] at h; cases h
        rw [upd_ne na]
        exact g5.h a o (g3.h a o (h2 a o h p)) p
      · by_cases y : a = D0
        · rw [y, upd_same] at h; cases h
        · rw [upd_ne y] at h
          refine hn2 a ?_
          cases e : H2 a with
          | none => rfl
          | some o =>
            have := g5.hn a h
            rw [g3.h _ _ e] at this; cases this
      · rcases g5.nf a o h with z | z | z
        · rcases g3.nw a o z with z | z
          · exact nf2 a o z
          · exact .inr (hn2 a z)
        · refine .inr (hn2 a ?_)
          cases e : H2 a with
          | none => rfl
          | some o => rw [g3.h _ _ e] at z; cases z
        · obtain ⟨j, es, z1, z2⟩ := z
          obtain ⟨y1, y2⟩ := o4 j es z1
          have zo : OwnA (wipeD S1 vs) (wipe σ vs) a := ⟨j, es, y1, (c4 j y2).1 ▸ z2⟩
          have z3 : OwnA S2 σ2 a := ⟨j, es, z1, z2⟩
          obtain ⟨k1, _⟩ := A5.sl j _ _ z1 z2
          rw [k1] at h; cases h
    refine ht W F3 n2 S2 σ2 H' _ _ hK A4 q4 fun b H4 F4 n4 S4 g4 A5 q5 => ?_
    obtain ⟨e5, q5⟩ := q5
    subst e5
    have hD4 : H4 D0 = some (.lst us) := g4.h _ _ (g3.h _ _ hD2) pD
    cases b with
    | false =>
      have r5 : Reps W.K W.pa F4 (us ++ []) acc := by rw [List.append_nil]; exact Reps.mono (g3.f.trans g4.f) r2
      have := next F4 H4 n4 acc [] g4 A5 hD4 acc r5 (by omega) (by simpa using q5)
      have e : upd H4 D0 (.lst (us ++ [])) = H4 := by
        funext a
        unfold upd
        by_cases y : a = D0
        · rw [if_pos y, y, hD4, List.append_nil]
        · rw [if_neg y]
      rw [e] at this
      exact iteF this
    | true =>
      have q5 : ke S4 n4 fun y S5 n5 => S5 = S4 ∧ kComps kg kt ke vs (wipeD S1 vs) (ds.drop (i + 1)) (acc ++ [y]) n5 (fun acc n2 => Q (.lst acc) S1 n2) := by simpa using q5
      refine iteT (he W F4 n4 S4 σ2 H4 _ _ hK A5 q5 fun y H5 F5 n5 S5 d5 g5 A6 r6 q6 => ?_)
      obtain ⟨e6, q6⟩ := q6
      subst e6
      have hD5 : H5 D0 = some (.lst us) := g5.h _ _ hD4 pD
      have r7 : Reps W.K W.pa F5 (us ++ [y]) (acc ++ [d5]) := Reps.append (Reps.mono (g3.f.trans (g4.f.trans g5.f)) r2) (.cons r6 .nil)
      have lu : us.length = acc.length := r2.length
      exact ⟨us, hD5, by rw [lu]; exact big_lt (by omega), next F5 H5 n5 acc [y] (g4.trans g5) A6 hD5 _ r7 (by rw [List.length_append, List.length_singleton]; omega) q6⟩
  · have e : i = ds.length := by omega
    subst e
    rw [List.drop_length] at q2
    have A3 := A1.back ok f2 A2
    refine .inl ⟨wk.stops F2 H2 n2 f2 A2.w, ?_⟩
    refine fin D0 us acc H2 F2 n2 S1 (g1.trans ⟨f2, h2, hn2, fun a o h => ?_, fun _ h => h⟩) A3 fD2 h0D pD hD2 r2 noD hDH q2
    rcases nf2 a o h with z | z
    · exact .inl z
    · exact .inr (.inl z)
end DL
namespace DL
open PySem PySem.Spec PyProof.Rows L2
section
variable {X : Cx}
/-! ### comprehensions as expressions; lists of one's own -/
theorem Grow.shut {W : Wd} {S S' : List Sl} {σ : St} {F H F' H' : Hp} {D0 : Addr} {us : List V} (g : Grow W S σ F H F' H' S') (hF : F' D0 = none) (hD : H D0 = none) : Grow W S σ F H (upd F' D0 (.lst us)) H' S' :=
  ⟨g.f.trans (same_new hF), g.h, g.hn, fun a o h => by
    by_cases y : a = D0
    · subst y; exact .inr (.inl hD)
    · rw [upd_ne y] at h; exact g.nf a o h, g.os⟩
/-- a new list that stands apart, not frozen -/
abbrev SpO (K : PySem.W.Frag) (t : TE) (k : KA) : Prop :=
  ∀ (W : Wd) (F : Hp) (n : Nat) (S : List Sl) (σ : St) (H : Hp) (Q : List D → List Sl → Nat → Prop) (R : VK), W.K = K → Abs W F n S σ H → k S n Q →
    (∀ D0 us acc H' F' n' S', Grow W S σ F H F' H' S' → Abs W F' n' S' σ H' → F' D0 = none → W.H0 D0 = none → pad W.pa ≠ some D0 → H' D0 = some (.lst us) → Reps W.K W.pa F' us acc → ¬ OwnA S' σ D0 → H D0 = none → Q acc S' n' → R (.ref D0) H') → t σ H R
structure DOw (X : Cx) (e : Expr) (t : TE) (k : KA) : Prop where
  pe : PE X e t
  ok : SpO X.K t k
def kOut (k : KA) : KE := fun S n Q => k S n fun ds S1 n1 => Q (.lst ds) S1 n1
theorem SpO.e {K : PySem.W.Frag} {t : TE} {k : KA} (h : SpO K t k) : SpE K t (kOut k) := by
  intro W F n S σ H Q R hK A q fin
  refine h W F n S σ H _ _ hK A q fun D0 us acc H' F' n' S' g A' hF h0 hp hD r no hn q' => ?_
  exact fin _ H' (upd F' D0 (.lst us)) n' S' (.lst acc) (g.shut hF hn) (A'.shut hF hD hp h0 no) (.lst upd_same (Reps.mono (same_new hF) r)) q'
theorem DOw.e {e : Expr} {t : TE} {k : KA} (h : DOw X e t k) : DE X e t (kOut k) := ⟨h.pe, h.ok.e⟩
def kLstO (ks : KA) : KA := fun S n Q => ks S n fun ds S1 n1 => ds.length ≤ 1000000 ∧ Q ds S1 n1
theorem dow_lst {es : List Expr} {ts : TA} {ks : KA} {pos : Pos} (h : DA X es ts ks) : DOw X (.List es pos) (tLst ts) (kLstO ks) := by
  refine ⟨pe_lst h.pe, fun W F n S σ H Q R hK A q fin => ?_⟩
  refine h.ok W F n S σ H _ _ hK A q fun vs H1 F1 n1 S1 ds g1 A1 r q1 => ?_
  refine ⟨by rw [r.length]; exact big_ok q1.1, fun p hp => ?_⟩
  obtain ⟨f1, f2, f3⟩ := A1.w.fresh hp
  have g2 := New.free A1.w hp (.lst vs)
  refine fin p vs ds _ F1 n1 S1 (g1.trans g2.grow) (A1.new g2) f1 f2 f3 upd_same r (fun z => ?_) (g1.hn p hp) q1.2
  obtain ⟨ws, e⟩ := A1.ownH z
  rw [hp] at e; cases e
def kCompO (ki : KA) (kg : KG) (kt : KT) (ke : KE) (vs : List Nat) : KA := fun S n Q => ki S n fun ds S1 n1 => ds.length ≤ 1000000 ∧ okW S1 vs = true ∧
  kComps kg kt ke vs (wipeD S1 vs) ds [] n1 fun acc n2 => Q acc S1 n2
/-- the parts of a comprehension -/
structure DLc (X : Cx) (elt tg iter : Expr) (ifs : List Expr) (scope : Scope) (own : List (Str × Nat)) (wi : TI) (g : TG) (tt : TT) (te : TE) (ki : KA) (kg : KG) (kt : KT) (ke : KE) : Prop where
  hN : X.N.Nodup
  hi : DI X tg iter wi ki
  blk : BlkOk X.N X.env.scope scope own
  hg : ∀ (s : Shared) (H : Hp) (C : Addr) (cl : List (Str × Addr)) (fp : List Addr), PG (X.blk s H scope (compEnvC scope cl C X.env) fp) tg g
  ht : ∀ (s : Shared) (H : Hp) (C : Addr) (cl : List (Str × Addr)) (fp : List Addr), PTs (X.blk s H scope (compEnvC scope cl C X.env) fp) ifs tt
  he : ∀ (s : Shared) (H : Hp) (C : Addr) (cl : List (Str × Addr)) (fp : List Addr), PE (X.blk s H scope (compEnvC scope cl C X.env) fp) elt te
  ok : ∀ (W : Wd) (F : Hp) (n : Nat) (S : List Sl) (σ : St) (H : Hp) (Q : D → List Sl → Nat → Prop) (R : VK), W.K = X.K → Abs W F n S σ H → kComp ki kg kt ke (own.map (·.2)) S n Q →
    (∀ D0 us acc H' F' n' S', Grow W S σ F H F' H' S' → Abs W F' n' S' σ H' → F' D0 = none → W.H0 D0 = none → pad W.pa ≠ some D0 → H' D0 = some (.lst us) → Reps W.K W.pa F' us acc → ¬ OwnA S' σ D0 → H D0 = none → Q (.lst acc) S' n' → R (.ref D0) H') →
    tLc wi g tt te (own.map (·.2)) σ H R
variable {elt tg iter : Expr} {ifs : List Expr} {scope : Scope} {own : List (Str × Nat)} {wi : TI} {g : TG} {tt : TT} {te : TE} {ki : KA} {kg : KG} {kt : KT} {ke : KE} {sl : List Nat}
theorem dlc_mk (hN : X.N.Nodup) (hi : DI X tg iter wi ki) (blk : BlkOk X.N X.env.scope scope own) (_ : DG (X.blk X.s_0 X.H_0 scope (compEnvC scope [] 0 X.env) []) tg g sl kg) (_ : DTs (X.blk X.s_0 X.H_0 scope (compEnvC scope [] 0 X.env) []) ifs tt kt) (_ : DE (X.blk X.s_0 X.H_0 scope (compEnvC scope [] 0 X.env) []) elt te ke)
    (hg : ∀ (s : Shared) (H : Hp) (C : Addr) (cl : List (Str × Addr)) (fp : List Addr), DG (X.blk s H scope (compEnvC scope cl C X.env) fp) tg g sl kg)
    (ht : ∀ (s : Shared) (H : Hp) (C : Addr) (cl : List (Str × Addr)) (fp : List Addr), DTs (X.blk s H scope (compEnvC scope cl C X.env) fp) ifs tt kt)
    (he : ∀ (s : Shared) (H : Hp) (C : Addr) (cl : List (Str × Addr)) (fp : List Addr), DE (X.blk s H scope (compEnvC scope cl C X.env) fp) elt te ke) (hsl : ∀ i ∈ sl, i ∈ own.map (·.2) := by decide) : DLc X elt tg iter ifs scope own wi g tt te ki kg kt ke :=
  ⟨hN, hi, blk, fun s H C cl fp => (hg s H C cl fp).pe, fun s H C cl fp => (ht s H C cl fp).pe, fun s H C cl fp => (he s H C cl fp).pe,
    lc_read hi.ok (hg X.s_0 X.H_0 0 [] []).ok hsl (ht X.s_0 X.H_0 0 [] []).ok (he X.s_0 X.H_0 0 [] []).ok⟩
theorem dow_lc {pos : Pos} (h : DLc X elt tg iter ifs scope own wi g tt te ki kg kt ke) (hc : X.calm = true := by rfl) (hs : ∀ x, foldedSetIterable iter X.env x = pure x := by intro _; rfl) :
    DOw X (.ListComp elt [⟨tg, iter, ifs, 0⟩] scope pos) (tLc wi g tt te (own.map (·.2))) (kCompO ki kg kt ke (own.map (·.2))) := by
  refine ⟨pe_lc hc h.hN h.hi.pe h.blk h.hg h.ht h.he hs, fun W F n S σ H Q R hK A q fin => ?_⟩
  exact h.ok W F n S σ H (fun d S1 n1 => match d with | .lst ds => Q ds S1 n1 | _ => False) R hK A q fin
/-! ### statements -/
structure DEnds where
  nx : List Sl → Nat → Prop
  rt : D → Nat → Prop
  bk : List Sl → Nat → Prop := fun _ _ => False
  ct : List Sl → Nat → Prop := fun _ _ => False
abbrev KS := DEnds → List Sl → Nat → Prop
structure EndsOk (W : Wd) (F : Hp) (E : DEnds) (R : Ends) : Prop where
  nx : ∀ F' n' S' σ' H', Same F F' → Abs W F' n' S' σ' H' → E.nx S' n' → R.nx σ' H'
  rt : ∀ F' n' v d H', Same F F' → Wok W F' H' n' → Rep W.K W.pa F' v d → E.rt d n' → R.rt v H'
  bk : ∀ F' n' S' σ' H', Same F F' → Abs W F' n' S' σ' H' → E.bk S' n' → R.bk σ' H'
  ct : ∀ F' n' S' σ' H', Same F F' → Abs W F' n' S' σ' H' → E.ct S' n' → R.ct σ' H'
theorem EndsOk.mono {W : Wd} {F F1 : Hp} {E : DEnds} {R : Ends} (h : EndsOk W F E R) (f : Same F F1) : EndsOk W F1 E R :=
  ⟨fun F' n' S' σ' H' g => h.nx F' n' S' σ' H' (f.trans g), fun F' n' v d H' g => h.rt F' n' v d H' (f.trans g), fun F' n' S' σ' H' g => h.bk F' n' S' σ' H' (f.trans g), fun F' n' S' σ' H' g => h.ct F' n' S' σ' H' (f.trans g)⟩
abbrev SpS (K : PySem.W.Frag) (t : TS) (k : KS) : Prop :=
  ∀ (W : Wd) (F : Hp) (n : Nat) (S : List Sl) (σ : St) (H : Hp) (E : DEnds) (R : Ends), W.K = K → Abs W F n S σ H → k E S n → EndsOk W F E R → t R σ H
structure DS (X : Cx) (st : Stmt) (t : TS) (k : KS) : Prop where
  pe : PS X st t
  ok : SpS X.K t k
structure DSs (X : Cx) (st : List Stmt) (t : TS) (k : KS) : Prop where
  pe : PSs X st t
  ok : SpS X.K t k
def kNext : KS := fun E S n => E.nx S n
def kSeq (k1 k2 : KS) : KS := fun E S n => k1 { E with nx := k2 E } S n
def kNever : KS := fun _ _ _ => False
variable {st : Stmt} {sts sts2 : List Stmt} {t t1 t2 : TS} {k1 k2 : KS} {pos : Pos}
theorem dss_nil : DSs X [] tNext kNext := ⟨pss_nil, fun W F n S σ H E R hK A q fin => fin.nx F n S σ H (Same.refl _) A q⟩
theorem dss_cons (h1 : DS X st t1 k1) (h2 : DSs X sts t2 k2) : DSs X (st :: sts) (tSeq t1 t2) (kSeq k1 k2) := by
  refine ⟨pss_cons h1.pe h2.pe, fun W F n S σ H E R hK A q fin => ?_⟩
  exact h1.ok W F n S σ H { E with nx := k2 E } { R with nx := t2 R } hK A q ⟨fun F' n' S' σ' H' f A' q' => h2.ok W F' n' S' σ' H' E R hK A' q' (fin.mono f), fin.rt, fin.bk, fin.ct⟩
theorem dss_one (h1 : DS X st t1 k1) : DSs X [st] t1 k1 := ⟨pss_one h1.pe, h1.ok⟩
theorem ds_pass : DS X (.Pass pos) tNext kNext := ⟨ps_pass, fun W F n S σ H E R hK A q fin => fin.nx F n S σ H (Same.refl _) A q⟩
theorem ds_never : DS X st tNever kNever := ⟨ps_never, fun W F n S σ H E R hK A q fin => q.elim⟩
theorem dss_never : DSs X sts tNever kNever := ⟨pss_never, fun W F n S σ H E R hK A q fin => q.elim⟩
def kBrk : KS := fun E S n => E.bk S n
def kCnt : KS := fun E S n => E.ct S n
theorem ds_brk : DS X (.Break pos) tBreak kBrk := ⟨ps_break, fun W F n S σ H E R hK A q fin => fin.bk F n S σ H (Same.refl _) A q⟩
theorem ds_cnt : DS X (.Continue pos) tCont kCnt := ⟨ps_continue, fun W F n S σ H E R hK A q fin => fin.ct F n S σ H (Same.refl _) A q⟩
variable {e e2 : Expr} {te2 : TE} {k : KE} {ke2 : KE} {ts : TA} {ks : KA}
def kDrop (k : KE) : KS := fun E S n => k S n fun _ S1 n1 => E.nx S1 n1
theorem ds_expr (h : DE X e te k) (hs : swapsWith e none pos.line X.env = pure false := by rfl) : DS X (.Expr e pos) (tDrop te) (kDrop k) := by
  refine ⟨ps_expr h.pe hs, fun W F n S σ H E R hK A q fin => ?_⟩
  exact h.ok W F n S σ H _ _ hK A q fun v H1 F1 n1 S1 d g1 A1 r q1 => fin.nx F1 n1 S1 σ H1 g1.f A1 q1
def kRet (k : KE) : KS := fun E S n => k S n fun d _ n1 => E.rt d n1
theorem ds_ret (h : DE X e te k) : DS X (.Return (some e) pos) (tRet te) (kRet k) := by
  refine ⟨ps_ret h.pe, fun W F n S σ H E R hK A q fin => ?_⟩
  exact h.ok W F n S σ H _ _ hK A q fun v H1 F1 n1 S1 d g1 A1 r q1 => fin.rt F1 n1 v d H1 g1.f A1.w r q1
def kRetN : KS := fun E _ n => E.rt .non n
theorem ds_retN : DS X (.Return none pos) tRetN kRetN := ⟨ps_retN, fun W F n S σ H E R hK A q fin => fin.rt F n _ _ H (Same.refl _) A.w .non q⟩
def kIfS (kt : KT) (k1 k2 : KS) : KS := fun E S n => kt S n fun c S1 n1 => if c = true then k1 E S1 n1 else k2 E S1 n1
theorem ds_if (h : DT X e tt kt) (h1 : DSs X sts t1 k1) (h2 : DSs X sts2 t2 k2) : DS X (.If e sts sts2 pos) (tIfS tt t1 t2) (kIfS kt k1 k2) := by
  refine ⟨ps_if h.pe h1.pe h2.pe, fun W F n S σ H E R hK A q fin => ?_⟩
  refine h.ok W F n S σ H _ _ hK A q fun c H1 F1 n1 S1 g1 A1 q1 => ?_
  cases c with
  | true => exact iteT (h1.ok W F1 n1 S1 σ H1 E R hK A1 (by simpa using q1) (fin.mono g1.f))
  | false => exact iteF (h2.ok W F1 n1 S1 σ H1 E R hK A1 (by simpa using q1) (fin.mono g1.f))
/-- a target's store -/
def kAsg (k : KE) (kg : KG) : KS := fun E S n => k S n fun d S1 n1 => kg d S1 fun S2 => E.nx S2 n1
theorem asg_ok {K : PySem.W.Frag} (h : SpE K te k) (hg : ∀ (W : Wd) (F : Hp) (n : Nat) (S : List Sl) (σ : St) (H : Hp) (v : V) (d : D) (Q : List Sl → Prop) (R : St → Hp → Prop), W.K = K → Abs W F n S σ H → Rep W.K W.pa F v d → kg d S Q →
    (∀ σ' S', Abs W F n S' σ' H → (∀ i, i ∉ sl → σ'[i]? = σ[i]? ∧ S'[i]? = S[i]?) → (∀ i ds, S'[i]? = some (.own ds) → S[i]? = some (.own ds) ∧ i ∉ sl) → Q S' → R σ' H) → g v σ H R) : SpS K (tAsg te g) (kAsg k kg) := by
  intro W F n S σ H E R hK A q fin
  refine h W F n S σ H _ _ hK A q fun v H1 F1 n1 S1 d g1 A1 r q1 => ?_
  exact hg W F1 n1 S1 σ H1 v d _ _ hK A1 r q1 fun σ' S' A2 _ _ q2 => fin.nx F1 n1 S' σ' H1 g1.f A2 q2
theorem ds_asg (h : DE X e te k) (h2 : DG X tg g sl kg) (hp : PE X e te → PG X tg g → PS X (.Assign [tg] e pos) (tAsg te g) := by intro a b; exact ps_asg a b) : DS X (.Assign [tg] e pos) (tAsg te g) (kAsg k kg) := ⟨hp h.pe h2.pe, asg_ok h.ok h2.ok⟩
/-- a name is set -/
theorem ds_set (i : Nat) {x : Str} {pos' : Pos} (h : DE X e te k) (hp : PE X e te → PS X (.Assign [.Name x pos'] e pos) (tAsg te (gName i))) : DS X (.Assign [.Name x pos'] e pos) (tAsg te (gName i)) (kAsg k (gN i)) := by
  refine ⟨hp h.pe, asg_ok (sl := [i]) h.ok fun W F n S σ H v d Q R hK A r q fin => ?_⟩
  refine fin _ _ (A.set r i) (fun j hj => ⟨List.getElem?_set_ne (not_single hj), List.getElem?_set_ne (not_single hj)⟩) (fun j ds hd => ?_) q
  by_cases e : j = i
  · subst e
    have hj : j < S.length := by
      have := (List.getElem?_eq_some_iff.mp hd).1
      rwa [List.length_set] at this
    rw [List.getElem?_set_self hj] at hd
    cases hd
  · rw [List.getElem?_set_ne (Ne.symm e)] at hd
    exact ⟨hd, fun z => e (List.mem_singleton.mp z)⟩
/-- a name is set to a list of the def's own -/
def kOwnS (i : Nat) (k : KA) : KS := fun E S n => k S n fun ds S1 n1 => E.nx (S1.set i (.own ds)) n1
theorem Abs.setOwn {W : Wd} {F H : Hp} {n : Nat} {S : List Sl} {σ : St} (A : Abs W F n S σ H) {D0 : Addr} {us : List V} {acc : List D} (i : Nat) (hF : F D0 = none) (h0 : W.H0 D0 = none) (hp : pad W.pa ≠ some D0) (hD : H D0 = some (.lst us)) (r : Reps W.K W.pa F us acc) (no : ¬ OwnA S σ D0) :
    Abs W F n (S.set i (.own acc)) (σ.set i (some (.ref D0))) H := by
  have far : ∀ (j : Nat) (es : List D), j ≠ i → (S.set i (.own acc))[j]? = some (.own es) → (σ.set i (some (.ref D0)))[j]? = some (some (.ref D0)) → False := fun j es nj h1 h2 => by
    rw [List.getElem?_set_ne (Ne.symm nj)] at h1 h2
    exact no ⟨j, es, h1, h2⟩
  refine ⟨A.w, by rw [List.length_set, List.length_set]; exact A.len, fun j s u h1 h2 => ?_, fun j k p ds es h1 h2 h3 h4 => ?_⟩
  · by_cases e : j = i
    · subst e
      have hj : j < S.length := by
        have := (List.getElem?_eq_some_iff.mp h1).1
        rwa [List.length_set] at this
      rw [List.getElem?_set_self hj] at h1
      rw [List.getElem?_set_self (by rw [← A.len]; exact hj)] at h2
      cases h1
      cases h2
      exact ⟨hF, h0, hp, us, hD, r⟩
    · rw [List.getElem?_set_ne (Ne.symm e)] at h1 h2
      exact A.sl j s u h1 h2
  · by_cases ej : j = i
    · by_cases ek : k = i
      · exact ej.trans ek.symm
      · subst ej
        have hj : j < σ.length := by
          have := (List.getElem?_eq_some_iff.mp h3).1
          rwa [List.length_set] at this
        rw [List.getElem?_set_self hj] at h3
        cases h3
        exact (far k es ek h2 h4).elim
    · by_cases ek : k = i
      · subst ek
        have hj : k < σ.length := by
          have := (List.getElem?_eq_some_iff.mp h4).1
          rwa [List.length_set] at this
        rw [List.getElem?_set_self hj] at h4
        cases h4
        exact (far j ds ej h1 h3).elim
      · rw [List.getElem?_set_ne (Ne.symm ej)] at h1 h3
        rw [List.getElem?_set_ne (Ne.symm ek)] at h2 h4
        exact A.di j k p ds es h1 h2 h3 h4
theorem own_ok {K : PySem.W.Frag} {ka : KA} (i : Nat) (h : SpO K te ka) : SpS K (tAsg te (gName i)) (kOwnS i ka) := by
  intro W F n S σ H E R hK A q fin
  refine h W F n S σ H _ _ hK A q fun D0 us acc H' F' n' S' g A' hF h0 hp hD r no hn q' => ?_
  exact fin.nx F' n' _ _ H' g.f (A'.setOwn i hF h0 hp hD r no) q'
theorem ds_own (i : Nat) {x : Str} {pos' : Pos} {ka : KA} (h : DOw X e te ka) (hp : PE X e te → PS X (.Assign [.Name x pos'] e pos) (tAsg te (gName i))) : DS X (.Assign [.Name x pos'] e pos) (tAsg te (gName i)) (kOwnS i ka) :=
  ⟨hp h.pe, own_ok i h.ok⟩
/-- x = [.. for ..], x a local on the same row -/
theorem ds_lc (i : Nat) {x : Str} {py lpos spos : Pos} (h : DLc X elt tg iter ifs scope own wi g tt te ki kg kt ke) (hy : X.N[i]? = some x) (hyl : X.env.scope.names.lookup x = some .local)
    (hsw : swapsWith (.ListComp elt [⟨tg, iter, ifs, 0⟩] scope lpos) (some (.Name x py)) spos.line X.env = pure true) (hc : X.calm = true := by rfl) (hs : ∀ x, foldedSetIterable iter X.env x = pure x := by intro _; rfl) :
    DS X (.Assign [.Name x py] (.ListComp elt [⟨tg, iter, ifs, 0⟩] scope lpos) spos) (tAsg (tLc wi g tt te (own.map (·.2))) (gName i)) (kAsg (kOut (kCompO ki kg kt ke (own.map (·.2)))) (gN i)) := by
  have hO : SpO X.K (tLc wi g tt te (own.map (·.2))) (kCompO ki kg kt ke (own.map (·.2))) := fun W F n S σ H Q R hK A q fin =>
    h.ok W F n S σ H (fun d S1 n1 => match d with | .lst ds => Q ds S1 n1 | _ => False) R hK A q fin
  refine ⟨ps_setLc hc h.hN hy hyl hsw h.hi.pe h.blk h.hg h.ht h.he hs, asg_ok (sl := [i]) hO.e fun W F n S σ H v d Q R hK A r q fin => ?_⟩
  refine fin _ _ (A.set r i) (fun j hj => ⟨List.getElem?_set_ne (not_single hj), List.getElem?_set_ne (not_single hj)⟩) (fun j ds hd => ?_) q
  by_cases e : j = i
  · subst e
    have hj : j < S.length := by
      have := (List.getElem?_eq_some_iff.mp hd).1
      rwa [List.length_set] at this
    rw [List.getElem?_set_self hj] at hd
    cases hd
  · rw [List.getElem?_set_ne (Ne.symm e)] at hd
    exact ⟨hd, fun z => e (List.mem_singleton.mp z)⟩
theorem ds_lcO (i : Nat) {x : Str} {py lpos spos : Pos} (h : DLc X elt tg iter ifs scope own wi g tt te ki kg kt ke) (hy : X.N[i]? = some x) (hyl : X.env.scope.names.lookup x = some .local)
    (hsw : swapsWith (.ListComp elt [⟨tg, iter, ifs, 0⟩] scope lpos) (some (.Name x py)) spos.line X.env = pure true) (hc : X.calm = true := by rfl) (hs : ∀ x, foldedSetIterable iter X.env x = pure x := by intro _; rfl) :
    DS X (.Assign [.Name x py] (.ListComp elt [⟨tg, iter, ifs, 0⟩] scope lpos) spos) (tAsg (tLc wi g tt te (own.map (·.2))) (gName i)) (kOwnS i (kCompO ki kg kt ke (own.map (·.2)))) := by
  have hO : SpO X.K (tLc wi g tt te (own.map (·.2))) (kCompO ki kg kt ke (own.map (·.2))) := fun W F n S σ H Q R hK A q fin =>
    h.ok W F n S σ H (fun d S1 n1 => match d with | .lst ds => Q ds S1 n1 | _ => False) R hK A q fin
  exact ⟨ps_setLc hc h.hN hy hyl hsw h.hi.pe h.blk h.hg h.ht h.he hs, own_ok i hO⟩
/-- x, y = a, b (locals) -/
def kPar (i j : Nat) (ks : KA) : KS := fun E S n => ks S n fun ds S1 n1 => match ds with
  | [d, f] => E.nx ((S1.set i (.val d)).set j (.val f)) n1
  | _ => False
theorem ds_par {i j : Nat} {es : List Expr} (h : DA X es ts ks) (hp : PA X es ts → PS X st (tPar i j ts)) : DS X st (tPar i j ts) (kPar i j ks) := by
  refine ⟨hp h.pe, fun W F n S σ H E R hK A q fin => ?_⟩
  refine h.ok W F n S σ H _ _ hK A q fun vs H1 F1 n1 S1 ds g1 A1 r q1 => ?_
  match ds, r, q1 with
  | [d, f], .cons r1 (.cons r2 .nil), q1 => exact ⟨_, _, rfl, fin.nx F1 n1 _ _ H1 g1.f ((A1.set r1 i).set r2 j) q1⟩
/-- x op= e, ints -/
def kAug (i : Nat) (f : Int → Int → Int) (k : KE) : KS := fun E S n => match S[i]? with
  | some (.val (.int a)) => k S n fun d S1 n1 => match d with
    | .int b => E.nx (S1.set i (.val (.int (f a b)))) n1
    | _ => False
  | _ => False
theorem ds_aug (i : Nat) {f : Int → Int → Int} (h : DE X e te k) (hp : PE X e te → PS X st (tAug i te (ipI f))) : DS X st (tAug i te (ipI f)) (kAug i f k) := by
  refine ⟨hp h.pe, fun W F n S σ H E R hK A q fin => ?_⟩
  unfold kAug at q
  cases e1 : S[i]? with
  | none => rw [e1] at q; exact q.elim
  | some s =>
    rw [e1] at q
    cases s with
    | no => exact q.elim
    | own _ => exact q.elim
    | obj _ _ _ => exact q.elim
    | val d =>
      cases d <;> try exact False.elim q
      case int a =>
        obtain ⟨v, e2, ok⟩ := slot_of A e1
        cases v with
        | none => exact ok.elim
        | some v =>
          cases ok
          refine ⟨_, e2, h.ok W F n S σ H _ _ hK A q fun w H1 F1 n1 S1 d g1 A1 r q1 => ?_⟩
          cases d <;> try exact False.elim q1
          case int b =>
            cases r
            exact ⟨a, b, rfl, rfl, fin.nx F1 n1 _ _ H1 g1.f (A1.set (.int _) i) q1⟩
/-! ### lists of one's own are changed -/
theorem Abs.putOwn {W : Wd} {F H : Hp} {n : Nat} {S : List Sl} {σ : St} (A : Abs W F n S σ H) {i : Nat} {p : Addr} {ds es : List D} {ws : List V} (e : S[i]? = some (.own ds)) (e2 : σ[i]? = some (some (.ref p))) (r : Reps W.K W.pa F ws es) :
    Abs W F n (S.set i (.own es)) σ (upd H p (.lst ws)) := by
  obtain ⟨h1, h2, h3, vs, h4, h5⟩ := A.sl i _ _ e e2
  have hi : i < S.length := (List.getElem?_eq_some_iff.mp e).1
  have far : ∀ a o, F a = some o → a ≠ p := fun a o h z => by rw [z, h1] at h; cases h
  have old : ∀ (j : Nat) (es' : List D), (S.set i (.own es))[j]? = some (Sl.own es') → ∃ es0, S[j]? = some (Sl.own es0) := fun j es' h => by
    by_cases y : j = i
    · subst y; exact ⟨ds, e⟩
    · rw [List.getElem?_set_ne (Ne.symm y)] at h; exact ⟨es', h⟩
  refine ⟨⟨fun a u z => ?_, fun q z => ?_, fun a u z k => ?_, fun q z => ?_, A.w.f0, A.w.nf⟩, by rw [List.length_set]; exact A.len, fun j s v z1 z2 => ?_, fun j k q ds1 ds2 z1 z2 z3 z4 => ?_⟩
  · rw [upd_ne (far _ _ z)]; exact A.w.sub _ _ z
  · obtain ⟨y1, ca, turn, rst, y2, y3⟩ := A.w.pen q z
    have nq : q ≠ p := fun y => h3 (y ▸ z)
    exact ⟨y1, ca, turn, rst, by rw [upd_ne nq]; exact y2, y3⟩
  · have na : a ≠ p := fun y => by rw [y, h2] at z; cases z
    rw [upd_ne na]; exact A.w.old _ _ z k
  · have nq : q ≠ p := fun y => h3 (y ▸ z)
    rw [upd_ne nq]; exact A.w.oldp q z
  · by_cases y : j = i
    · subst y
      rw [List.getElem?_set_self hi] at z1
      cases z1
      rw [e2] at z2
      cases z2
      exact ⟨h1, h2, h3, ws, upd_same, r⟩
    · rw [List.getElem?_set_ne (Ne.symm y)] at z1
      have ok := A.sl j s v z1 z2
      cases s with
      | no => trivial
      | val d =>
        cases v with
        | none => exact ok.elim
        | some v => exact ok
      | own es' =>
        cases v with
        | none => exact ok.elim
        | some v =>
          cases v with
          | ref q =>
            obtain ⟨k1, k2, k3, ws', k4, k5⟩ := ok
            have nq : q ≠ p := fun x => y (A.di j i p es' ds z1 e (x ▸ z2) e2)
            exact ⟨k1, k2, k3, ws', by rw [upd_ne nq]; exact k4, k5⟩
          | _ => exact ok.elim
      | obj x C gs => exact SlOk.obj_keep ok (Same.refl _) (fun _ _ _ _ z _ => z) (fun a o f n _ => by rw [upd_ne (far_lst h4 a o f n)]; exact f)
  · obtain ⟨es1, y1⟩ := old j _ z1
    obtain ⟨es2, y2⟩ := old k _ z2
    exact A.di j k q es1 es2 y1 y2 z3 z4
theorem slot_own {W : Wd} {F H : Hp} {n : Nat} {S : List Sl} {σ : St} (A : Abs W F n S σ H) {i : Nat} {ds : List D} (e : S[i]? = some (.own ds)) : ∃ p vs, σ[i]? = some (some (.ref p)) ∧ H p = some (.lst vs) ∧ Reps W.K W.pa F vs ds := by
  obtain ⟨v, e2, ok⟩ := slot_of A e
  cases v with
  | none => exact ok.elim
  | some v =>
    cases v with
    | ref p => obtain ⟨_, _, _, vs, h4, h5⟩ := ok; exact ⟨p, vs, e2, h4, h5⟩
    | _ => exact ok.elim
/-- x.append(e) -/
def kApp (i : Nat) (k : KE) : KS := fun E S n => match S[i]? with
  | some (.own _) => k S n fun d S1 n1 => match S1[i]? with
    | some (.own ds) => ds.length < 1000000 ∧ E.nx (S1.set i (.own (ds ++ [d]))) n1
    | _ => False
  | _ => False
theorem ds_app (i : Nat) (h : DE X e te k) (hp : PE X e te → PS X st (tDrop (tBM X.K "list" rAppend (tVar i) (tCons te tNil)))) : DS X st (tDrop (tBM X.K "list" rAppend (tVar i) (tCons te tNil))) (kApp i k) := by
  refine ⟨hp h.pe, fun W F n S σ H E R hK A q fin => ?_⟩
  unfold kApp at q
  cases e1 : S[i]? with
  | none => rw [e1] at q; exact q.elim
  | some s =>
    rw [e1] at q
    cases s with
    | no => exact q.elim
    | val _ => exact q.elim
    | obj _ _ _ => exact q.elim
    | own ds0 =>
      obtain ⟨p, vs0, e2, h4, _⟩ := slot_own A e1
      refine ⟨_, e2, .inl ⟨rfl, _, SqL.of h4⟩, h.ok W F n S σ H _ _ hK A q fun v H1 F1 n1 S1 d g1 A1 r q1 => ?_⟩
      cases e3 : S1[i]? with
      | none => rw [e3] at q1; exact q1.elim
      | some s =>
        rw [e3] at q1
        cases s with
        | no => exact q1.elim
        | val _ => exact q1.elim
        | obj _ _ _ => exact q1.elim
        | own ds =>
          obtain ⟨p', vs, e4, h5, r5⟩ := slot_own A1 e3
          have ep : p' = p := by rw [e2] at e4; cases e4; rfl
          subst ep
          refine ⟨p', vs, v, rfl, rfl, h5, by rw [r5.length]; exact big_lt (Nat.le_of_lt q1.1), ?_⟩
          exact fin.nx F1 n1 _ _ _ g1.f (A1.putOwn e3 e4 (Reps.append r5 (.cons r .nil))) q1.2
/-- x.extend(e) -/
def kExt (i : Nat) (k : KE) : KS := fun E S n => match S[i]? with
  | some (.own _) => k S n fun d S1 n1 => match S1[i]?, d with
    | some (.own ds), .lst es => ds.length + es.length < 1000000 ∧ E.nx (S1.set i (.own (ds ++ es))) n1
    | _, _ => False
  | _ => False
theorem ds_ext (i : Nat) (h : DE X e te k) (hp : PE X e te → PS X st (tDrop (tBM X.K "list" rExtend (tVar i) (tCons te tNil)))) : DS X st (tDrop (tBM X.K "list" rExtend (tVar i) (tCons te tNil))) (kExt i k) := by
  refine ⟨hp h.pe, fun W F n S σ H E R hK A q fin => ?_⟩
  unfold kExt at q
  cases e1 : S[i]? with
  | none => rw [e1] at q; exact q.elim
  | some s =>
    rw [e1] at q
    cases s with
    | no => exact q.elim
    | val _ => exact q.elim
    | obj _ _ _ => exact q.elim
    | own ds0 =>
      obtain ⟨p, vs0, e2, h4, _⟩ := slot_own A e1
      refine ⟨_, e2, .inl ⟨rfl, _, SqL.of h4⟩, h.ok W F n S σ H _ _ hK A q fun v H1 F1 n1 S1 d g1 A1 r q1 => ?_⟩
      cases e3 : S1[i]? with
      | none => rw [e3] at q1; exact q1.elim
      | some s =>
        rw [e3] at q1
        cases s with
        | no => exact q1.elim
        | val _ => exact q1.elim
        | obj _ _ _ => exact q1.elim
        | own ds =>
          cases d <;> try exact False.elim q1
          case lst es =>
            obtain ⟨p', vs, e4, h5, r5⟩ := slot_own A1 e3
            have ep : p' = p := by rw [e2] at e4; cases e4; rfl
            subst ep
            cases r with
            | lst hb rb =>
              refine ⟨p', _, vs, _, rfl, rfl, h5, A1.w.sub _ _ hb, by rw [r5.length, rb.length]; exact big_ok (Nat.le_of_lt q1.1), ?_⟩
              exact fin.nx F1 n1 _ _ _ g1.f (A1.putOwn e3 e4 (Reps.append r5 rb)) q1.2
/-- x[e] = e2 -/
def kSub (i : Nat) (k2 k : KE) : KS := fun E S n => k2 S n fun d S1 n1 => match S1[i]? with
  | some (.own _) => k S1 n1 fun z S2 n2 => match S2[i]?, z with
    | some (.own ds), .int j => match ixN ds.length j with
      | some m => E.nx (S2.set i (.own (ds.set m d))) n2
      | none => False
    | _, _ => False
  | _ => False
theorem ds_sub (i : Nat) (h2 : DE X e2 te2 ke2) (h : DE X e te k) (hp : PE X e2 te2 → PE X e te → PS X st (tAsg te2 (gSub (tVar i) te rSetL))) : DS X st (tAsg te2 (gSub (tVar i) te rSetL)) (kSub i ke2 k) := by
  refine ⟨hp h2.pe h.pe, fun W F n S σ H E R hK A q fin => ?_⟩
  refine h2.ok W F n S σ H _ _ hK A q fun v H1 F1 n1 S1 d g1 A1 r q1 => ?_
  cases e1 : S1[i]? with
  | none => rw [e1] at q1; exact q1.elim
  | some s =>
    rw [e1] at q1
    cases s with
    | no => exact q1.elim
    | val _ => exact q1.elim
    | obj _ _ _ => exact q1.elim
    | own ds0 =>
      obtain ⟨p, vs0, e2, h4, _⟩ := slot_own A1 e1
      refine ⟨_, e2, h.ok W F1 n1 S1 σ H1 _ _ hK A1 q1 fun w H2 F2 n2 S2 z g2 A2 r2 q2 => ?_⟩
      cases e3 : S2[i]? with
      | none => rw [e3] at q2; exact q2.elim
      | some s =>
        rw [e3] at q2
        cases s with
        | no => exact q2.elim
        | val _ => exact q2.elim
        | obj _ _ _ => exact q2.elim
        | own ds =>
          cases z <;> try exact False.elim q2
          case int j =>
            obtain ⟨p', vs, e4, h5, r5⟩ := slot_own A2 e3
            have ep : p' = p := by rw [e2] at e4; cases e4; rfl
            subst ep
            have q2 : (match ixN ds.length j with | some m => E.nx (S2.set i (.own (ds.set m d))) n2 | none => False) := q2
            cases e6 : ixN ds.length j with
            | none => rw [e6] at q2; exact q2.elim
            | some m =>
              rw [e6] at q2
              cases r2
              refine ⟨p', vs, j, m, rfl, rfl, h5, by rw [r5.length]; exact e6, ?_⟩
              exact fin.nx F2 n2 _ _ _ (g1.f.trans g2.f) (A2.putOwn e3 e4 (Reps.set (Rep.mono g2.f r) m r5)) q2
/-! ### loops -/
def kFors (kg : KG) (kb : KS) (E : DEnds) : List D → List Sl → Nat → Prop
  | [] => fun S n => E.nx S n
  | d :: ds => fun S n => kg d S fun S1 => kb { E with nx := kFors kg kb E ds, ct := kFors kg kb E ds, bk := E.nx } S1 n
def kFor (ki : KA) (kg : KG) (kb : KS) : KS := fun E S n => ki S n fun ds S1 n1 => kFors kg kb E ds S1 n1
theorem ds_for (hi : DI X tg iter wi ki) (hg : DG X tg g sl kg) (hb : DSs X sts t1 k1) (hp : PI X tg iter wi → PG X tg g → PSs X sts t1 → PS X (.For tg iter sts [] pos) (tFor wi g t1)) : DS X (.For tg iter sts [] pos) (tFor wi g t1) (kFor ki kg k1) := by
  refine ⟨hp hi.pe hg.pe hb.pe, fun W F n S σ H E R hK A q fin => ?_⟩
  refine hi.ok W F n S σ H _ _ hK A q fun J H1 F1 n1 S1 ds g1 A1 wk q1 => ?_
  refine ⟨fun i m σ H => m = ds.length - i ∧ i ≤ ds.length ∧ ∃ F2 n2 S2, Same F1 F2 ∧ Abs W F2 n2 S2 σ H ∧ kFors kg k1 E (ds.drop i) S2 n2, ⟨ds.length, by simp, Nat.zero_le _, F1, n1, S1, Same.refl _, A1, by rw [List.drop_zero]; exact q1⟩, ?_⟩
  rintro i m σ2 H2 ⟨rfl, hi2, F2, n2, S2, f2, A2, q2⟩
  by_cases hlt : i < ds.length
  · have ed : ds.drop i = ds[i] :: ds.drop (i + 1) := List.drop_eq_getElem_cons hlt
    rw [ed] at q2
    refine .inr ⟨wk.goes F2 H2 n2 i f2 A2.w hlt, fun σ' H' => ∃ F3 n3 S3, Same F1 F3 ∧ Abs W F3 n3 S3 σ' H' ∧ kFors kg k1 E (ds.drop (i + 1)) S3 n3, fun σ' H' p => ⟨ds.length - (i + 1), by omega, rfl, hlt, p⟩, fun x H' y => ?_⟩
    obtain ⟨F3, d, hd, g3, r3⟩ := wk.yields F2 H2 n2 i x H' f2 A2.w hlt y
    have ed2 : d = ds[i] := Option.some.inj (hd.symm.trans (List.getElem?_eq_getElem hlt))
    subst ed2
    refine hg.ok W F3 n2 _ _ H' x _ _ _ hK (A2.new g3) r3 q2 fun σ4 S4 A4 _ _ q4 => ?_
    refine hb.ok W F3 n2 S4 σ4 H' _ _ hK A4 q4 ⟨fun F' n' S' σ' H' f A' q' => ⟨F', n', S', f2.trans (g3.f.trans f), A', q'⟩, fun F' n' v d H' f => fin.rt F' n' v d H' (g1.f.trans (f2.trans (g3.f.trans f))),
      fun F' n' S' σ' H' f => fin.nx F' n' S' σ' H' (g1.f.trans (f2.trans (g3.f.trans f))), fun F' n' S' σ' H' f A' q' => ⟨F', n', S', f2.trans (g3.f.trans f), A', q'⟩⟩
  · have e : i = ds.length := by omega
    subst e
    rw [List.drop_length] at q2
    exact .inl ⟨wk.stops F2 H2 n2 f2 A2.w, fin.nx F2 n2 S2 σ2 H2 (g1.f.trans f2) A2 q2⟩
def kWhiles (kt : KT) (kb : KS) (E : DEnds) : Nat → List Sl → Nat → Prop
  | 0 => fun _ _ => False
  | m + 1 => fun S n => kt S n fun b S1 n1 => if b = true then kb { E with nx := kWhiles kt kb E m, ct := kWhiles kt kb E m, bk := E.nx } S1 n1 else E.nx S1 n1
def kWhile (kt : KT) (kb : KS) : KS := fun E S n => ∃ m, kWhiles kt kb E m S n
theorem ds_while (ht : DT X e tt kt) (hb : DSs X sts t1 k1) (hp : PT X e tt → PSs X sts t1 → PS X (.While e sts [] pos) (tWhile tt t1)) : DS X (.While e sts [] pos) (tWhile tt t1) (kWhile kt k1) := by
  refine ⟨hp ht.pe hb.pe, fun W F n S σ H E R hK A q fin => ?_⟩
  obtain ⟨m0, q⟩ := q
  refine ⟨fun m σ H => ∃ F2 n2 S2, Same F F2 ∧ Abs W F2 n2 S2 σ H ∧ kWhiles kt k1 E m S2 n2, ⟨m0, F, n, S, Same.refl _, A, q⟩, ?_⟩
  rintro m σ2 H2 ⟨F2, n2, S2, f2, A2, q2⟩
  cases m with
  | zero => exact False.elim q2
  | succ m =>
    refine ht.ok W F2 n2 S2 σ2 H2 _ _ hK A2 q2 fun b H3 F3 n3 S3 g3 A3 q3 => ?_
    cases b with
    | false => exact fin.nx F3 n3 S3 σ2 H3 (f2.trans g3.f) A3 (by simpa using q3)
    | true =>
      have q3 := (show k1 { E with nx := kWhiles kt k1 E m, ct := kWhiles kt k1 E m, bk := E.nx } S3 n3 by simpa using q3)
      refine ⟨fun σ' H' => ∃ F4 n4 S4, Same F F4 ∧ Abs W F4 n4 S4 σ' H' ∧ kWhiles kt k1 E m S4 n4, fun σ' H' p => ⟨m, Nat.lt_succ_self _, p⟩, ?_⟩
      exact hb.ok W F3 n3 S3 σ2 H3 _ _ hK A3 q3 ⟨fun F' n' S' σ' H' f A' q' => ⟨F', n', S', f2.trans (g3.f.trans f), A', q'⟩, fun F' n' v d H' f => fin.rt F' n' v d H' (f2.trans (g3.f.trans f)),
        fun F' n' S' σ' H' f => fin.nx F' n' S' σ' H' (f2.trans (g3.f.trans f)), fun F' n' S' σ' H' f A' q' => ⟨F', n', S', f2.trans (g3.f.trans f), A', q'⟩⟩
end
end DL
namespace DL
open PySem PySem.Spec PyProof.Rows L2
/-! ### what a def promises, where no recursion of repr is under way -/
section
variable {P : Program} {w : World} {K : PySem.W.Frag} {mg : Str → Option Value} {base : Heap} {CX : CXT} {k : Nat} {f : Addr} {fd : FuncData} {ps : List Str} {sp : Sp}
structure FnG (P : Program) (w : World) (K : PySem.W.Frag) (mg : Str → Option Value) (base : Heap) (CX : CXT) (k : Nat) (f : Addr) (fd : FuncData) (ps : List Str) (sp : Sp) : Prop where
  long : ∀ vs H Q E, sp vs H Q E → vs.length = ps.length
  goes : ∀ (A : Around) (outer : List Env) (s : Shared) (H : Hp) (args : Args) (us : List Value) (vs : List V) (Q : VK) (E : XK),
    Room k A → A.guards = some [] → Env0 P w K mg base A outer s H → BindsTo s fd args (ps.zip us) → Vals vs us → sp vs H Q E →
    codeAny (model P w) A (.call (.ref f) args) (CR CX outer P w H s Q E) s
theorem FnG.of (F : FnOk P w K mg base CX k f fd ps sp) : FnG P w K mg base CX k f fd ps sp :=
  ⟨F.len, fun A outer s H args us vs Q E hr _ => F.run A outer s H args us vs Q E hr⟩
theorem FnG.up (F : FnG P w K mg base CX k f fd ps sp) {j : Nat} (h : k ≤ j) : FnG P w K mg base CX j f fd ps sp :=
  ⟨F.long, fun A outer s H args us vs Q E hr => F.goes A outer s H args us vs Q E (hr.mono h)⟩
/-- a def of the text by its body -/
theorem FnG.mk' {name qual : Str} {params : Arguments} {body : List Stmt} {scope : Scope} {dV kV doc pm cdv ct oc : Value} {an od : Option Addr} {osl : Array (Option Value)} {N : List Str}
    (lk : K.lookup f = some ⟨oc, od, .func (PySem.W.fnOf name qual params body scope dV kV doc pm an cdv ct), osl⟩) (hcd : PySem.W.codeIn K cdv qual = true)
    (S : FnScope N ps scope) (long : ∀ vs H Q E, sp vs H Q E → vs.length = ps.length)
    (walk : ∀ (A : Around) (outer : List Env) (s : Shared) (H : Hp) (vs : List V) (Q : VK) (E : XK), Room k (A.deeper (envOfC qual scope s.heap.objs.size f cdv)) → A.guards = some [] → sp vs H Q E →
      ∃ t, PSs (cxOf CX P w K mg base N qual scope f cdv A outer s H E) body t ∧ t ⟨fun _ H' => Q .non H', Q, fun _ _ => False, fun _ _ => False⟩ (start N vs) H) :
    FnG P w K mg base CX (k + 1) f (PySem.W.fnOf name qual params body scope dV kV doc pm an cdv ct) ps sp := by
  refine ⟨long, ?_⟩
  intro A outer s H args us vs Q E hr hgd e0 hb r hsp
  have kept : ∀ b o, base.get? b = some o → s.heap.get? b = some o := fun b o z => (e0.bs b o z).1
  have inK : K.In s.heap := e0.mod.kin.keeps kept
  have cells : ∀ y ∈ ps.zip us, scope.names.lookup y.1 = some .local ∨
      (scope.names.lookup y.1 = some .cell ∧ ((cellsFrom (s.heap.objs.size + 1) scope.names []).lookup y.1).isSome = true) := by
    rintro ⟨n, v⟩ hy
    rcases S.par n (List.of_mem_zip hy).1 with z | z
    · exact Or.inl z
    · exact Or.inr ⟨z, PySem.W.cellsFrom_some _ _ _ (Or.inl z)⟩
  refine codeAny_call_function hr.depth (inK _ _ lk) rfl S.co S.gen rfl
    (PySem.W.codeRec_of inK hcd) (hb _ _ _ _ ?_)
  refine wpAny_newFunctionEnv_cells S.kind cells ?_
  intro env he s1 x
  subst he
  refine ⟨(e0.mod.nolimit.keeps kept).keeps x.toInCall.keep, codeAny_func ?_⟩
  obtain ⟨t, ht, hq⟩ := walk A outer s H vs Q E (hr.deeper _) hgd hsp
  have I := inv_start (CX := CX) (E := E) S hr.hd e0 (long _ _ _ _ hsp) r x
  refine wpAny_mono (ht.run [] s1 _ H _ I hq) ?_ (fun _ _ z => z)
  intro fl s' z
  cases fl with
  | next => obtain ⟨σ', H', J, q⟩ := z; exact ⟨V.non, H', J.os, J.bare, J.base, J.hok, rfl, q⟩
  | ret u => obtain ⟨v, σ', H', J, rv, q⟩ := z; exact ⟨v, H', J.os, J.bare, J.base, J.hok, rv, q⟩
  | brk => obtain ⟨_, _, _, q⟩ := z; exact q.elim
  | cont => obtain ⟨_, _, _, q⟩ := z; exact q.elim
end
section
variable {X : Cx} {CX : CXT} {k : Nat} {f : Addr} {fd : FuncData} {ps : List Str} {sp : Sp} {dvs : List V} {ds : List Value} {E : XK}
theorem FnG.call {pins : List (Addr × Obj)} {σ : St} {H : Hp} {s : Shared} {Q : VK} {us : List Value} {vs : List V} {args : Args} {all : List Value} {vall : List V} (F : FnG X.prog X.w X.K X.mg X.base CX k f fd ps sp) (hr : Room k X.A) (hgd : X.A.guards = some [])
    (hx : Passes CX X E) (I : Inv X pins σ H s) (hb : BindsTo s fd args (ps.zip all)) (r : Vals vall all) (h : sp vall H Q E) :
    codeAny (model X.prog X.w) X.A (.call (.ref f) args) (fun res s' => match res with | .ok (.ret u) => EP X pins σ Q u s' | .ok _ => False | .error e => X.xe e s') s := by
  refine codeAny_mono (F.goes X.A X.stack s H args all vall Q E hr hgd I.env0 hb r h) ?_
  intro res s' z
  cases res with
  | error e => exact hx pins σ H s e s' I z
  | ok fl =>
    cases fl with
    | ret u => exact I.after z
    | _ => exact False.elim z
theorem FnG.run {pins : List (Addr × Obj)} {σ : St} {H : Hp} {s : Shared} {Q : VK} {us : List Value} {vs : List V} (F : FnG X.prog X.w X.K X.mg X.base CX k f fd ps sp) (hr : Room k X.A) (hgd : X.A.guards = some []) (hb : Binds X.K fd ps ds) (hd : Vals dvs ds)
    (hx : Passes CX X E) (I : Inv X pins σ H s) (r : Vals vs us) (h : sp (vs ++ dvs) H Q E) : wpAny (model X.prog X.w) X.A (PySem.call (.ref f) us) (EP X pins σ Q) X.xe s := by
  have r2 : Vals (vs ++ dvs) (us ++ ds) := r.append hd
  have hl : (us ++ ds).length = ps.length := r2.length.symm.trans (F.long _ _ _ _ h)
  refine wpAny_call (codeAny_mono (F.call (us := us) (vs := vs) hr hgd hx I (hb s us I.kIn hl) r2 h) ?_)
  intro res s' z
  cases res with
  | error e => exact z
  | ok fl => cases fl <;> first | exact z | exact False.elim z
variable {x : Str} {p pos : Pos} {e : Expr} {es : List Expr} {t tk : TA} {kws : List Keyword} {ks : List Str} {g : List Value → List Value → List Value} {gV : List V → List V → List V}
theorem pe_callG (F : FnG X.prog X.w X.K X.mg X.base CX k f fd ps sp) (hr : Room k X.A) (hgd : X.A.guards = some []) (hg : Gl X x) (hm : X.mg x = some (.ref f)) (hk : PySem.W.keepIn X.K (.ref f) = true) (hb : Binds X.K fd ps ds) (hd : Vals dvs ds) (hx : Passes CX X E)
    (ha : PA X (e :: es) t) (hdb : (x == ("__debug__" : Str)) = false := by decide) (he : starEach (e :: es) X.env = (false, eval e X.env) :: starEach es X.env := by rfl) (hpl : (backTo pos (starEach es X.env)).any (·.1) = false := by rfl) :
    PE X (.Call (.Name x p) (e :: es) [] pos) (tCall sp dvs E t) := by
  constructor
  intro pins s σ H Q I h
  refine wpAny_Call_Name_kw (ld_glob I hg hm ?_ hdb)
  refine PySem.W.callWith_K (h₀ := X.base) I.ok.mod.kin hk ?_ he hpl
  refine thn (ha.run pos pins s σ H _ I h) ?_
  rintro us s1 ⟨vs, H1, I1, r, q⟩
  exact ⟨I1.kIn, F.run hr hgd hb hd hx I1 r q⟩
theorem pe_callG0 (F : FnG X.prog X.w X.K X.mg X.base CX k f fd ps sp) (hr : Room k X.A) (hgd : X.A.guards = some []) (hg : Gl X x) (hm : X.mg x = some (.ref f)) (hk : PySem.W.keepIn X.K (.ref f) = true) (hb : Binds X.K fd ps ds) (hd : Vals dvs ds) (hx : Passes CX X E)
    (hdb : (x == ("__debug__" : Str)) = false := by decide) : PE X (.Call (.Name x p) [] [] pos) (tCall sp dvs E tNil) := by
  constructor
  intro pins s σ H Q I h
  exact wpAny_Call_Name_kw (ld_glob I hg hm (PySem.W.callWith_K0 I.kIn hk (F.run (us := []) hr hgd hb hd hx I .nil h)) hdb)
end
/-! ### promises over data -/
/-- arguments, draws so far, what is wanted -/
abbrev DC := List D → Nat → (D → Nat → Prop) → Prop
def spD (K : PySem.W.Frag) (c : DC) : Sp := fun vs H Q _ => ∃ (pa : Option Pn) (F : Hp) (n : Nat) (ds : List D) (Qd : D → Nat → Prop), Wok ⟨K, pa, F, H⟩ F H n ∧ Reps K pa F vs ds ∧ c ds n Qd ∧
  ∀ v H' F' n' d, Wok ⟨K, pa, F, H⟩ F' H' n' → Rep K pa F' v d → Qd d n' → Q v H'
/-- a caller's place as a callee's begin -/
theorem Wok.enter {W : Wd} {F H : Hp} {n : Nat} (w : Wok W F H n) : Wok ⟨W.K, W.pa, F, H⟩ F H n :=
  ⟨w.sub, w.pen, fun _ _ h _ => h, w.oldp, Same.refl _, fun _ _ h => .inl h⟩
theorem Abs.leave {W : Wd} {F H F' H' : Hp} {n n' : Nat} {S : List Sl} {σ : St} (A : Abs W F n S σ H) (w : Wok ⟨W.K, W.pa, F, H⟩ F' H' n') : Grow W S σ F H F' H' S ∧ Abs W F' n' S σ H' := by
  have g : Grow W S σ F H F' H' S := by
    refine ⟨w.f0, w.old, fun a h => ?_, fun a o h => ?_, fun _ h => h⟩
    · cases q : H a with
      | none => rfl
      | some o =>
        by_cases e : pad W.pa = some a
        · exact absurd h (w.oldp a e)
        · rw [w.old a o q e] at h; cases h
    · rcases w.nf a o h with z | z
      · exact .inl z
      · exact .inr (.inl z)
  refine ⟨g, ⟨w.sub, w.pen, fun a o h p => w.old a o (A.w.old a o h p) p, w.oldp, A.w.f0.trans w.f0, fun a o h => ?_⟩, A.len, fun i s v h1 h2 => ?_, A.di⟩
  · rcases w.nf a o h with z | z
    · exact A.w.nf a o z
    · exact .inr (A.w.fresh z).2.1
  · refine (A.sl i s v h1 h2).grow g fun p vs h3 h4 h5 => ?_
    cases q : F' p with
    | none => rfl
    | some o =>
      rcases w.nf p o q with z | z
      · rw [show F p = some o from z] at h4; cases h4
      · rw [show H p = none from z] at h3; cases h3
def kFn (c : DC) (ks : KA) : KE := fun S n Q => ks S n fun ds S1 n1 => c ds n1 fun d n2 => Q d S1 n2
theorem call_ok {K : PySem.W.Frag} {c : DC} {t : TA} {ks : KA} {E : XK} (h : SpA K t ks) : SpE K (tCall (spD K c) [] E t) (kFn c ks) := by
  intro W F n S σ H Q R hK A q fin
  refine h W F n S σ H _ _ hK A q fun vs H1 F1 n1 S1 ds g1 A1 r1 q1 => ?_
  rw [List.append_nil]
  subst hK
  refine ⟨W.pa, F1, n1, ds, _, A1.w.enter, r1, q1, fun v H2 F2 n2 d w2 r2 q2 => ?_⟩
  obtain ⟨g2, A2⟩ := A1.leave w2
  exact fin v H2 F2 n2 S1 d (g1.trans g2) A2 r2 q2
section
variable {X : Cx} {k j : Nat} {f : Addr} {fd : FuncData} {ps : List Str} {c : DC} {x : Str} {p pos : Pos} {e : Expr} {es : List Expr} {t : TA} {ks : KA}
/-- where calls are made -/
structure Stand (X : Cx) (j : Nat) : Prop where
  room : Room j X.A
  gd : X.A.guards = some []
/-- f(e, ..) -/
theorem de_fn (F : FnG X.prog X.w X.K X.mg X.base CX0 k f fd ps (spD X.K c)) (st : Stand X j) (hm : X.mg x = some (.ref f)) (hk : PySem.W.keepIn X.K (.ref f) = true) (hb : Binds X.K fd ps []) (h : DA X (e :: es) t ks) (hj : k ≤ j := by decide)
    (hp : FnG X.prog X.w X.K X.mg X.base CX0 k f fd ps (spD X.K c) → Room k X.A → X.A.guards = some [] → X.mg x = some (.ref f) → PySem.W.keepIn X.K (.ref f) = true → Binds X.K fd ps [] → PA X (e :: es) t → PE X (.Call (.Name x p) (e :: es) [] pos) (tCall (spD X.K c) [] E0 t) := by
      intro a b c d e f g; exact pe_callG a b c (by exact rfl) d e f .nil pass0 g) :
    DE X (.Call (.Name x p) (e :: es) [] pos) (tCall (spD X.K c) [] E0 t) (kFn c ks) := ⟨hp F (st.room.mono hj) st.gd hm hk hb h.pe, call_ok h.ok⟩
end
/-! ### a def by its body -/
def startD (N : List Str) (ds : List D) : List Sl := ds.map Sl.val ++ List.replicate (N.length - ds.length) Sl.no
theorem reps_at {K : PySem.W.Frag} {pa : Option Pn} {F : Hp} {vs : List V} {ds : List D} (r : Reps K pa F vs ds) {N : List Str} {i : Nat} {s : Sl} {v : Option V} (h1 : (startD N ds)[i]? = some s) (h2 : (start N vs)[i]? = some v) (W : Wd) (hK : W.K = K) (hp : W.pa = pa) {H : Hp} : SlOk W F H s v := by
  subst hK hp
  unfold startD at h1
  unfold L2.start at h2
  by_cases hi : i < ds.length
  · rw [List.getElem?_append_left (by simpa using hi), List.getElem?_map, List.getElem?_eq_getElem hi] at h1
    have hv : i < vs.length := by rw [r.length]; exact hi
    rw [List.getElem?_append_left (by simpa using hv), List.getElem?_map, List.getElem?_eq_getElem hv] at h2
    cases h1
    cases h2
    obtain ⟨d, e1, e2⟩ := r.get (List.getElem?_eq_getElem hv)
    rw [List.getElem?_eq_getElem hi] at e1
    cases e1
    exact e2
  · rw [List.getElem?_append_right (by simpa using hi), List.getElem?_replicate] at h1
    split at h1
    · cases h1; trivial
    · cases h1
theorem startD_own {N : List Str} {ds : List D} {i : Nat} {es : List D} (h : (startD N ds)[i]? = some (.own es)) : False := by
  unfold startD at h
  by_cases hi : i < ds.length
  · rw [List.getElem?_append_left (by simpa using hi), List.getElem?_map, List.getElem?_eq_getElem hi] at h
    cases h
  · rw [List.getElem?_append_right (by simpa using hi), List.getElem?_replicate] at h
    split at h <;> cases h
theorem body_ok {K : PySem.W.Frag} {c : DC} {t : TS} {kb : KS} {N ps : List Str} (hl : ps.length ≤ N.length) (long : ∀ ds n Q, c ds n Q → ds.length = ps.length) (h : SpS K t kb) (hc : ∀ ds n Q, c ds n Q → kb ⟨fun _ n' => Q .non n', Q, fun _ _ => False, fun _ _ => False⟩ (startD N ds) n)
    {vs : List V} {H : Hp} {Q : VK} {E : XK} (q : spD K c vs H Q E) : t ⟨fun _ H' => Q .non H', Q, fun _ _ => False, fun _ _ => False⟩ (start N vs) H := by
  obtain ⟨pa, F, n, ds, Qd, w, r, q1, q2⟩ := q
  have e := long ds n Qd q1
  refine h ⟨K, pa, F, H⟩ F n (startD N ds) (start N vs) H _ _ rfl ⟨w, ?_, fun i s v h1 h2 => reps_at r h1 h2 _ rfl rfl, fun i j p es fs h1 _ _ _ => (startD_own h1).elim⟩ (hc ds n Qd q1) ⟨fun F' n' S' σ' H' f A' z => q2 _ H' F' n' _ A'.w .non z, fun F' n' v d H' f w' r' z => q2 v H' F' n' d w' r' z, fun _ _ _ _ _ _ _ z => z.elim, fun _ _ _ _ _ _ _ z => z.elim⟩
  unfold startD L2.start
  rw [List.length_append, List.length_append, List.length_map, List.length_map, List.length_replicate, List.length_replicate, r.length]
section
variable {P : Program} {w : World} {K : PySem.W.Frag} {mg : Str → Option Value} {base : Heap} {k : Nat} {f : Addr} {fd : FuncData} {N ps : List Str} {c : DC} {x qual : Str} {st : Stmt}
theorem Stand.of {A : Around} {env : Env} (hr : Room k (A.deeper env)) (hg : A.guards = some []) (X : Cx) (e : X.A = A.deeper env) : Stand X k := ⟨e ▸ hr, by rw [e]; exact hg⟩
/-- THE RULE: the walk of the body, then what is to be shown over data -/
theorem def_ok (F : Fun K x qual st f fd) (S : FnScope N ps (defScope st)) (long : ∀ ds n Q, c ds n Q → ds.length = ps.length)
    (walk : ∀ (cdv : Value) (A : Around) (outer : List Env) (s : Shared) (H : Hp) (E : XK), Stand (cxOf CX0 P w K mg base N qual (defScope st) f cdv A outer s H E).nox k →
      ∃ t kb, DSs (cxOf CX0 P w K mg base N qual (defScope st) f cdv A outer s H E).nox (defBody st) t kb ∧ ∀ ds n Q, c ds n Q → kb ⟨fun _ n' => Q .non n', Q, fun _ _ => False, fun _ _ => False⟩ (startD N ds) n) :
    FnG P w K mg base CX0 (k + 1) f fd ps (spD K c) := by
  obtain ⟨oc, od, kV, doc, pm, an, cdv, ct, osl, rfl, lk, hcd⟩ := F.ex
  have hl : ps.length ≤ N.length := by
    have := congrArg List.length S.pre
    rw [List.length_take] at this
    omega
  refine FnG.mk' lk hcd S (fun vs H Q E q => ?_) fun A outer s H vs Q E hr hg q => ?_
  · obtain ⟨pa, F, n, ds, Qd, w, r, q1, q2⟩ := q
    rw [r.length]
    exact long ds n Qd q1
  · obtain ⟨t, kb, h1, h2⟩ := walk cdv A outer s H E (Stand.of hr hg _ rfl)
    exact ⟨t, h1.pe.nox, body_ok hl long h1.ok h2 q⟩
end
end DL
namespace DL
open PySem PySem.Spec PyProof.Rows L2
/-! ### the pen -/
section
variable {X : Cx}
theorem pen_at {W : Wd} {F H : Hp} {n : Nat} {S : List Sl} {σ : St} (A : Abs W F n S σ H) {i : Nat} {cs : List Int} (e : S[i]? = some (.val (.pen cs))) :
    ∃ a ca turn rst, σ[i]? = some (some (.ref a)) ∧ W.pa = some (a, cs) ∧ F a = none ∧ H a = some (.lst [.ref ca, .int turn, .int rst]) ∧ F ca = some (.lst (cs.map V.int)) ∧ 0 ≤ turn ∧ turn ≤ (n : Int) ∧ 0 ≤ rst := by
  obtain ⟨v, e2, ok⟩ := slot_of A e
  cases v with
  | none => exact ok.elim
  | some v =>
    cases ok with
    | pen hp =>
      rename_i a
      have hq : pad W.pa = some a := by rw [hp]; rfl
      obtain ⟨h1, ca, turn, rst, h2, h3, h4⟩ := A.w.pen a hq
      have ec : pcs W.pa = cs := by rw [hp]; rfl
      rw [ec] at h3
      exact ⟨a, ca, turn, rst, e2, hp, h1, h2, h3, h4⟩
def kPen0 (i : Nat) : KE := fun S n Q => match S[i]? with
  | some (.val (.pen cs)) => Q (.lst (cs.map D.int)) S n
  | _ => False
def kPen1 (i : Nat) : KE := fun S n Q => match S[i]? with
  | some (.val (.pen _)) => ∀ t : Int, 0 ≤ t → t ≤ (n : Int) → Q (.int t) S n
  | _ => False
def kPen2 (i : Nat) : KE := fun S n Q => match S[i]? with
  | some (.val (.pen _)) => ∀ t : Int, 0 ≤ t → Q (.int t) S n
  | _ => False
variable {x : Str} {p q pos : Pos} {j : Nat}
abbrev tPen (K : PySem.W.Frag) (i : Nat) (z : Int) : TE := tOp (rIx K) (tVar i) (tC (.int z))
theorem val_pen {S : List Sl} {i : Nat} {Q : List Int → Prop} (h : match S[i]? with | some (.val (.pen cs)) => Q cs | _ => False) : ∃ cs, S[i]? = some (.val (.pen cs)) ∧ Q cs := by
  cases e : S[i]? with
  | none => rw [e] at h; exact h.elim
  | some s =>
    rw [e] at h
    cases s with
    | no => exact h.elim
    | own _ => exact h.elim
    | obj _ _ _ => exact h.elim
    | val d =>
      cases d <;> try exact False.elim h
      case pen cs => exact ⟨cs, rfl, h⟩
theorem de_pen0 (i : Nat) (h : PE X (.Name x p) (tVar i) := by exact pv i) : DE X (.Subscript (.Name x p) (.Constant (.int 0) j q) pos) (tPen X.K i 0) (kPen0 i) := by
  refine ⟨pe_ix ix_seq h pe_int fun _ _ => rfl, fun W F n S σ H Q R hK A k fin => ?_⟩
  obtain ⟨cs, e, k⟩ := val_pen (Q := fun cs => Q (.lst (cs.map D.int)) S n) k
  obtain ⟨a, ca, turn, rst, e1, e2, e3, e4, e5, e6⟩ := pen_at A e
  exact ⟨_, e1, .inl ⟨a, _, 0, _, rfl, rfl, SqL.of e4, atI_nat (j := 0) rfl, fin _ H F n S _ .refl A (.lst e5 (Reps.ints cs)) k⟩⟩
theorem de_pen1 (i : Nat) (h : PE X (.Name x p) (tVar i) := by exact pv i) : DE X (.Subscript (.Name x p) (.Constant (.int 1) j q) pos) (tPen X.K i 1) (kPen1 i) := by
  refine ⟨pe_ix ix_seq h pe_int fun _ _ => rfl, fun W F n S σ H Q R hK A k fin => ?_⟩
  obtain ⟨cs, e, k⟩ := val_pen (Q := fun cs => ∀ t : Int, 0 ≤ t → t ≤ (n : Int) → Q (.int t) S n) k
  obtain ⟨a, ca, turn, rst, e1, e2, e3, e4, e5, e6, e7, e8⟩ := pen_at A e
  exact ⟨_, e1, .inl ⟨a, _, 1, _, rfl, rfl, SqL.of e4, atI_nat (j := 1) rfl, fin _ H F n S _ .refl A (.int _) (k turn e6 e7)⟩⟩
theorem de_pen2 (i : Nat) (h : PE X (.Name x p) (tVar i) := by exact pv i) : DE X (.Subscript (.Name x p) (.Constant (.int 2) j q) pos) (tPen X.K i 2) (kPen2 i) := by
  refine ⟨pe_ix ix_seq h pe_int fun _ _ => rfl, fun W F n S σ H Q R hK A k fin => ?_⟩
  obtain ⟨cs, e, k⟩ := val_pen (Q := fun cs => ∀ t : Int, 0 ≤ t → Q (.int t) S n) k
  obtain ⟨a, ca, turn, rst, e1, e2, e3, e4, e5, e6, e7, e8⟩ := pen_at A e
  exact ⟨_, e1, .inl ⟨a, _, 2, _, rfl, rfl, SqL.of e4, atI_nat (j := 2) rfl, fin _ H F n S _ .refl A (.int _) (k rst e8)⟩⟩
/-- the pen's list is written -/
theorem Abs.ink {W : Wd} {F H : Hp} {n n' : Nat} {S : List Sl} {σ : St} {a ca : Addr} {cs : List Int} {t r : Int} (A : Abs W F n S σ H) (hp : W.pa = some (a, cs)) (h1 : F a = none) (h2 : F ca = some (.lst (cs.map V.int))) (ht : 0 ≤ t) (ht2 : t ≤ (n' : Int)) (hr : 0 ≤ r) :
    Abs W F n' S σ (upd H a (.lst [.ref ca, .int t, .int r])) := by
  have pa : pad W.pa = some a := by rw [hp]; rfl
  have pc : pcs W.pa = cs := by rw [hp]; rfl
  refine ⟨⟨fun b o z => ?_, fun b z => ?_, fun b o z k => ?_, fun b z => ?_, A.w.f0, A.w.nf⟩, A.len, fun j s v z1 z2 => ?_, A.di⟩
  · rw [upd_ne (fun y => by rw [y, h1] at z; cases z)]
    exact A.w.sub _ _ z
  · have eb : b = a := by rw [pa] at z; cases z; rfl
    subst eb
    exact ⟨h1, ca, t, r, upd_same, by rw [pc]; exact h2, ht, ht2, hr⟩
  · rw [upd_ne (fun y => k (by rw [y]; exact pa))]
    exact A.w.old _ _ z k
  · have eb : b = a := by rw [pa] at z; cases z; rfl
    subst eb
    rw [upd_same]
    intro z; cases z
  · have ok := A.sl j s v z1 z2
    cases s with
    | no => trivial
    | val d =>
      cases v with
      | none => exact ok.elim
      | some v => exact ok
    | own es =>
      cases v with
      | none => exact ok.elim
      | some v =>
        cases v with
        | ref b =>
          obtain ⟨k1, k2, k3, ws, k4, k5⟩ := ok
          have nb : b ≠ a := fun y => k3 (y ▸ pa)
          exact ⟨k1, k2, k3, ws, by rw [upd_ne nb]; exact k4, k5⟩
        | _ => exact ok.elim
    | obj x C gs => exact SlOk.obj_keep ok (Same.refl _) (fun _ _ _ _ z _ => z) (fun c o f _ np => by rw [upd_ne (fun y => np (by rw [y]; exact pa))]; exact f)
variable {e : Expr} {te : TE} {k : KE} {st : Stmt}
def asInt (d : D) (f : Int → Prop) : Prop := match d with
  | .int t => f t
  | _ => False
def kInk1 (i : Nat) (k : KE) : KS := fun E S n => k S n fun d S1 n1 => match S1[i]? with
  | some (.val (.pen _)) => asInt d fun t => (0 ≤ t ∧ t ≤ (n1 : Int) + 1) ∧ E.nx S1 (n1 + 1)
  | _ => False
def kInk2 (i : Nat) (k : KE) : KS := fun E S n => k S n fun d S1 n1 => match S1[i]? with
  | some (.val (.pen _)) => asInt d fun t => 0 ≤ t ∧ E.nx S1 n1
  | _ => False
theorem ds_ink1 (i : Nat) (h : DE X e te k) (hp : PE X e te → PS X st (tAsg te (gSub (tVar i) (tC (.int 1)) rSetL))) : DS X st (tAsg te (gSub (tVar i) (tC (.int 1)) rSetL)) (kInk1 i k) := by
  refine ⟨hp h.pe, fun W F n S σ H E R hK A q fin => ?_⟩
  refine h.ok W F n S σ H _ _ hK A q fun v H1 F1 n1 S1 d g1 A1 r q1 => ?_
  obtain ⟨cs, e0, q1⟩ := val_pen (Q := fun _ => asInt d fun t => (0 ≤ t ∧ t ≤ (n1 : Int) + 1) ∧ E.nx S1 (n1 + 1)) q1
  obtain ⟨a, ca, turn, rst, e1, e2, e3, e4, e5, e6, e7, e8⟩ := pen_at A1 e0
  cases d <;> try exact False.elim q1
  case int t =>
    cases r
    refine ⟨_, e1, a, _, 1, 1, rfl, rfl, e4, rfl, ?_⟩
    exact fin.nx F1 (n1 + 1) S1 σ _ g1.f (A1.ink e2 e3 e5 q1.1.1 q1.1.2 e8) q1.2
theorem ds_ink2 (i : Nat) (h : DE X e te k) (hp : PE X e te → PS X st (tAsg te (gSub (tVar i) (tC (.int 2)) rSetL))) : DS X st (tAsg te (gSub (tVar i) (tC (.int 2)) rSetL)) (kInk2 i k) := by
  refine ⟨hp h.pe, fun W F n S σ H E R hK A q fin => ?_⟩
  refine h.ok W F n S σ H _ _ hK A q fun v H1 F1 n1 S1 d g1 A1 r q1 => ?_
  obtain ⟨cs, e0, q1⟩ := val_pen (Q := fun _ => asInt d fun t => 0 ≤ t ∧ E.nx S1 n1) q1
  obtain ⟨a, ca, turn, rst, e1, e2, e3, e4, e5, e6, e7, e8⟩ := pen_at A1 e0
  cases d <;> try exact False.elim q1
  case int t =>
    cases r
    refine ⟨_, e1, a, _, 2, 2, rfl, rfl, e4, rfl, ?_⟩
    exact fin.nx F1 n1 S1 σ _ g1.f (A1.ink e2 e3 e5 e6 e7 q1.1) q1.2
end
/-! ### the law -/
def spLaw (K : PySem.W.Frag) : Sp := fun vs H Q _ => ∃ (a : Addr) (ns : List Int), vs = [.ref a] ∧ SqL K H a (ns.map V.int) ∧ ns.length ≤ 63 ∧ ∀ H', Q (.bl true) H'
/-- what makes the pen -/
def spPen (K : PySem.W.Frag) : Sp := fun vs H Q _ => ∃ (a : Addr) (ns : List Int), vs = [.ref a] ∧ SqL K H a (ns.map V.int) ∧ ns.length ≤ 63 ∧
  ∀ (H' : Hp) (p ca : Addr) (cs : List Int), Same H H' → p ≠ ca → H p = none → H ca = none → H' p = some (.lst [.ref ca, .int 0, .int 0]) → H' ca = some (.lst (cs.map V.int)) → Q (.ref p) H'
/-- the law's body behind the making of the pen, which stands in slot 1 -/
theorem law_body {X : Cx} {H : Hp} {a p ca : Addr} {cs : List Int} {m : Nat} {sts : List Stmt} {t : TS} {k : KS} {R : Ends} (h : DSs X sts t k) (npc : p ≠ ca) (hp : H p = some (.lst [.ref ca, .int 0, .int 0])) (hc : H ca = some (.lst (cs.map V.int)))
    (q : k ⟨fun _ _ => False, fun d _ => d = .bl true, fun _ _ => False, fun _ _ => False⟩ (.no :: .val (.pen cs) :: List.replicate m .no) 0) (fin : ∀ H', R.rt (.bl true) H') : t R (some (.ref a) :: some (.ref p) :: List.replicate m none) H := by
  have hF : (upd (fun _ => none) ca (.lst (cs.map V.int)) : Hp) ca = some (.lst (cs.map V.int)) := upd_same
  have nF : (upd (fun _ => none) ca (.lst (cs.map V.int)) : Hp) p = none := by rw [upd_ne npc]
  have only : ∀ b o, (upd (fun _ => none) ca (.lst (cs.map V.int)) : Hp) b = some o → b = ca ∧ o = .lst (cs.map V.int) := fun b o z => by
    by_cases y : b = ca
    · subst y; rw [upd_same] at z; cases z; exact ⟨rfl, rfl⟩
    · rw [upd_ne y] at z; cases z
  refine h.ok ⟨X.K, some (p, cs), fun _ => none, fun _ => none⟩ (upd (fun _ => none) ca (.lst (cs.map V.int))) 0 _ _ H _ R rfl ⟨⟨fun b o z => ?_, fun b z => ?_, fun b o z => ?_, fun b z => ?_, fun b o z => ?_, fun b o z => .inr rfl⟩, ?_, fun i s v z1 z2 => ?_, fun i j b ds es z1 z2 => ?_⟩ q
    ⟨fun _ _ _ _ _ _ _ z => z.elim, fun F' n' v d H' f w r z => ?_, fun _ _ _ _ _ _ _ z => z.elim, fun _ _ _ _ _ _ _ z => z.elim⟩
  · obtain ⟨rfl, rfl⟩ := only b o z
    exact hc
  · have e : b = p := by cases z; rfl
    subst e
    exact ⟨nF, ca, 0, 0, hp, hF, Int.le_refl _, Int.le_refl _, Int.le_refl _⟩
  · cases (show (none : Option HO) = some o from z)
  · have e : b = p := by cases z; rfl
    subst e
    rw [hp]
    intro z; cases z
  · cases (show (none : Option HO) = some o from z)
  · simp
  · match i with
    | 0 => cases z1; trivial
    | 1 =>
      cases z1
      cases z2
      exact .pen rfl
    | i + 2 =>
      have z1 : (List.replicate m Sl.no)[i]? = some s := z1
      rw [List.getElem?_replicate] at z1
      split at z1
      · cases z1; trivial
      · cases z1
  · match i with
    | 0 => cases z1
    | 1 => cases z1
    | i + 2 =>
      have z1 : (List.replicate m Sl.no)[i]? = some (.own ds) := z1
      rw [List.getElem?_replicate] at z1
      split at z1 <;> cases z1
  · have z : d = .bl true := z
    subst z
    cases r
    exact fin H'
section
variable {P : Program} {w : World} {K : PySem.W.Frag} {mg mb : Str → Option Value} {CX : CXT} {k : Nat} {fa a : Addr} {fd : FuncData} {x : Str} {sp : Sp} {s1 : Shared} {vs : List Value} {ns : List Int}
/-- the law's call at the heap behind the top -/
theorem law_goes (KX : K.In s1.heap) (hns : s1.heap.Ns mainGlobals mg) (hb : s1.heap.Ns builtinsNs mb) (hbb : ∀ x : Str, x ≠ "__name__" → mb x = bootBuiltins x) (hlim : s1.heap.NoLimit) (hg : s1.gens = #[])
    (ha : s1.heap.get? a = some { cls := .type "list", data := .seq vs.toArray }) (hi : IntsAre vs ns) (hl : ns.length ≤ sizeLine) (hr : Room k callerA)
    (F : ∀ base : Heap, K.In base → base.Ns mainGlobals mg → FnG P w K mg base CX k fa fd [x] sp) (hbind : ∀ (s : Shared) (u : Value), BindsTo s fd ⟨[u], []⟩ [(x, u)])
    (hsp : ∀ H : Hp, SqL K H a (ns.map V.int) → sp [.ref a] H (fun v _ => v = .bl true) fun _ _ _ => False)
    (hCX : ∀ H e s', CX [] H s1 (fun _ _ _ => False) e s' → False) :
    codeAny (model P w) callerA (.call (.ref fa) ⟨[.ref a], []⟩) (fun r s' => r = .ok (.ret (.bool true)) ∧ OldK s1.heap s'.heap ∧ s'.os = s1.os ∧ AllBare s'.gens) s1 := by
  -- the abstract heap: the script alone, locked, unless the module holds it
  have core : ∀ H : Hp, SqL K H a (ns.map V.int) → HOk P w H s1.heap → (∀ b u, H b = some u → b = a ∧ K.lookup b = none ∧ ∃ o xs, u = .frz o (.lst xs)) →
      codeAny (model P w) callerA (.call (.ref fa) ⟨[.ref a], []⟩) (fun r s' => r = .ok (.ret (.bool true)) ∧ OldK s1.heap s'.heap ∧ s'.os = s1.os ∧ AllBare s'.gens) s1 := by
    intro H hS ok only
    have down : ∀ {b : Addr} {o : Obj}, s1.heap.get? b = some o → (∀ its, o.data ≠ .seq its 0) ∨ H b = none → (hidT s1.heap H).get? b = some o := by
      intro b o z y
      refine hidT_get z ?_
      rcases y with y | y
      · cases q : H b with
        | none => rfl
        | some u =>
          obtain ⟨e, _⟩ := only b u q
          subst e
          rw [ha] at z
          cases z
          exact absurd rfl (y _)
      · exact y
    have nsd : ∀ {b : Addr} {m : Str → Option Value}, s1.heap.Ns b m → (hidT s1.heap H).Ns b m := by
      rintro b m ⟨o, es, ep, z, d, r⟩
      exact ⟨o, es, ep, down z (.inl fun its y => by rw [d] at y; cases y), d, r⟩
    have kin : K.In (hidT s1.heap H) := fun b o z => down (KX b o z) (.inr (by
      cases q : H b with
      | none => rfl
      | some u => rw [(only b u q).2.1] at z; cases z))
    have hM : Mod K mg (hidT s1.heap H) := by
      obtain ⟨mc, z1, z2⟩ := hlim
      exact ⟨kin, nsd hns, ⟨mb, nsd hb, hbb⟩, ⟨mc, nsd z1, z2⟩⟩
    have e0 : Env0 P w K mg (hidT s1.heap H) callerA [] s1 H := by
      refine ⟨rfl, hM, fun b o z => of_hidT z, Nat.le_of_eq (hidT_size _ _), trivial, fun b z => ?_, ok, .of_eq hg⟩
      exact absurd (show b ∈ ([] : List Addr) from z) List.not_mem_nil
    refine codeAny_mono ((F _ kin (nsd hns)).goes callerA [] s1 H ⟨[.ref a], []⟩ [.ref a] [.ref a] _ _ hr rfl e0 (hbind s1 (.ref a)) (.cons rfl .nil) (hsp H hS)) ?_
    intro r s' z
    cases r with
    | error e => exact (hCX H e s' z).elim
    | ok fl =>
      cases fl with
      | ret u =>
        obtain ⟨v, H', os, bare, un, ok', r', q⟩ := z
        cases (show v = .bl true from q)
        cases (show u = Value.bool true from r')
        refine ⟨rfl, OldK.of_keep fun b o y => ?_, os, bare⟩
        cases qb : H b with
        | none => exact un.keep b o y qb (fun z => absurd (show b ∈ ([] : List Addr) from z) List.not_mem_nil) List.not_mem_nil
        | some u =>
          obtain ⟨_, _, ob, xs, rfl⟩ := only b u qb
          obtain ⟨e1, _⟩ := ok b _ qb
          obtain ⟨e2, _⟩ := ok' b _ (un.frzs b ob _ qb)
          rw [y] at e1
          cases e1
          exact e2
      | _ => exact False.elim z
  have rv := vals_ints hi
  have lv := hi.length
  cases hk : K.lookup a with
  | some o =>
    have z := KX a o hk
    rw [ha] at z
    cases z
    refine core (fun _ => none) (.inr ⟨_, vs.toArray, _, hk, rfl, rfl, rfl, by rw [List.size_toArray, lv]; exact hl, by simpa using rv⟩) (fun b u z => ?_) (fun b u z => ?_) <;> cases (show (none : Option HO) = some u from z)
  | none =>
    have at_ : ∀ b u, upd (fun _ => none) a (.frz { cls := .type "list", data := .seq vs.toArray } (.lst (ns.map V.int))) b = some u → b = a ∧ u = .frz { cls := .type "list", data := .seq vs.toArray } (.lst (ns.map V.int)) := fun b u z => by
      by_cases y : b = a
      · subst y; rw [upd_same] at z; cases z; exact ⟨rfl, rfl⟩
      · rw [upd_ne y] at z; cases z
    refine core (upd (fun _ => none) a (.frz { cls := .type "list", data := .seq vs.toArray } (.lst (ns.map V.int)))) (.inl (.inr ⟨_, upd_same⟩)) (fun b u z => ?_) (fun b u z => ?_)
    · obtain ⟨rfl, rfl⟩ := at_ b u z
      exact ⟨ha, by rw [List.length_map]; exact hl, vs, _, rv, ha⟩
    · obtain ⟨rfl, rfl⟩ := at_ b u z
      exact ⟨rfl, hk, _, _, rfl⟩
end
/-- the goal that the head leaves -/
theorem walk_ofG {l : PySem.W.OpenLaw} {k : Nat} {q : Program} {loose : List Str} {XP : (Str → Option Value) → Heap → Prop} {YP : World → Heap → Prop} {d : DefRec} {K : Params → PySem.W.Frag}
    (hn : l.most = some 63) (hdf : d.params.defaults = []) (hr : Room k callerA) (hY : ∀ (w : World) (h : Heap), YP w h → (K w.params).In h)
    (F : ∀ (w : World) (mg : Str → Option Value) (fa : Addr) (h : Heap), (K w.params).In h → h.Ns mainGlobals mg → mg d.name = some (.ref fa) →
      ∃ fd : FuncData, (∀ (s : Shared) (u : Value), BindsTo s fd ⟨[u], []⟩ [("script", u)]) ∧
        ∀ base : Heap, (K w.params).In base → base.Ns mainGlobals mg → FnG l.prog w (K w.params) mg base CX0 k fa fd ["script"] (spLaw (K w.params))) :
    PySem.W.WalkO q loose XP YP l.row.toRowW d [] (fun f vs => PySem.call f vs) := by
  refine Att.attach_call hn hdf ?_
  intro w s0 s1 mg mb fa o pm cd doc a vs ns G Y ho hd hcd hmg hobj hints hlen hg
  have KX := hY w _ Y
  obtain ⟨fd, hb, hF⟩ := F w mg fa _ KX G.T.g hmg
  refine law_goes KX G.T.g G.T.b G.T.builtins G.T.nolimit hg hobj hints (Nat.le_trans hlen (by decide)) hr hF hb (fun H hS => ?_) (fun _ _ _ z => z)
  exact ⟨a, ns, rfl, hS, hlen, fun _ => rfl⟩
end DL
namespace DL
open PySem PySem.Spec PyProof.Rows L2
/-! ### calls with keywords -/
/-- the parameters' values: places in the positional ones and the keywords' ones behind them -/
def permed {α : Type} (z : α) (perm : List Nat) (us : List α) : List α := perm.map fun j => us.getD j z
theorem vals_permed {vs : List V} {us : List Value} (r : Vals vs us) : ∀ perm, Vals (permed V.non perm vs) (permed Value.none perm us)
  | [] => .nil
  | j :: perm => by
    refine .cons ?_ (vals_permed r perm)
    show RelV (vs.getD j V.non) (us.getD j Value.none)
    rw [List.getD_eq_getElem?_getD, List.getD_eq_getElem?_getD]
    cases e : vs[j]? with
    | none => rw [r.none_of e]; rfl
    | some v =>
      obtain ⟨u, e2, h⟩ := r.get e
      rw [e2]
      exact h
theorem reps_permed {K : PySem.W.Frag} {pa : Option Pn} {F : Hp} {vs : List V} {ds : List D} (r : Reps K pa F vs ds) : ∀ perm, Reps K pa F (permed V.non perm vs) (permed D.non perm ds)
  | [] => .nil
  | j :: perm => by
    refine .cons ?_ (reps_permed r perm)
    show Rep K pa F (vs.getD j V.non) (ds.getD j D.non)
    rw [List.getD_eq_getElem?_getD, List.getD_eq_getElem?_getD]
    cases e : vs[j]? with
    | none =>
      have h : ds[j]? = none := by
        have h1 := List.getElem?_eq_none_iff.mp e
        rw [r.length] at h1
        exact List.getElem?_eq_none_iff.mpr h1
      rw [h]
      exact .non
    | some v =>
      obtain ⟨u, e2, h⟩ := r.get e
      rw [e2]
      exact h
structure KwB (K : PySem.W.Frag) (fd : FuncData) (ps : List Str) (n : Nat) (ks : List Str) (perm : List Nat) : Prop where
  to : ∀ (s : Shared) (us ws : List Value), us.length = n → ws.length = ks.length → BindsTo s fd ⟨us, ks.zip ws⟩ (ps.zip (permed Value.none perm (us ++ ws)))
theorem kwb_mk {K : PySem.W.Frag} {x qual : Str} {st : Stmt} {f : Addr} {fd : FuncData} {ps ks : List Str} {n : Nat} {perm : List Nat} (F : Fun K x qual st f fd)
    (h : ∀ (kV doc pm : Value) (an : Option Addr) (cdv ct : Value) (us ws : List Value), us.length = n → ws.length = ks.length →
      bindArgs (PySem.W.fnOf x qual (defArgs st) (defBody st) (defScope st) .none kV doc pm an cdv ct) ⟨us, ks.zip ws⟩ = pure (ps.zip (permed Value.none perm (us ++ ws)))) : KwB K fd ps n ks perm := by
  obtain ⟨oc, od, kV, doc, pm, an, cdv, ct, osl, rfl, lk, hcd⟩ := F.ex
  exact ⟨fun s us ws h1 h2 => .of_eq (h kV doc pm an cdv ct us ws h1 h2)⟩
section
variable {X : Cx} {CX : CXT} {k j n : Nat} {f : Addr} {fd : FuncData} {ps ks : List Str} {perm : List Nat} {sp : Sp} {E : XK} {x : Str} {p pos : Pos} {e : Expr} {es : List Expr} {kws : List Keyword} {t tk : TA}
def tKw (sp : Sp) (perm : List Nat) (n m : Nat) (E : XK) (t tk : TA) : TE := fun σ H Q => t σ H fun vs H1 => tk σ H1 fun zs H2 => vs.length = n ∧ zs.length = m ∧ sp (permed V.non perm (vs ++ zs)) H2 Q E
theorem FnG.runK {pins : List (Addr × Obj)} {σ : St} {H : Hp} {s : Shared} {Q : VK} {us ws : List Value} {vs zs : List V} (F : FnG X.prog X.w X.K X.mg X.base CX k f fd ps sp) (hr : Room k X.A) (hgd : X.A.guards = some []) (hb : KwB X.K fd ps n ks perm) (hx : Passes CX X E)
    (I : Inv X pins σ H s) (r : Vals vs us) (rz : Vals zs ws) (l1 : vs.length = n) (l2 : zs.length = ks.length) (h : sp (permed V.non perm (vs ++ zs)) H Q E) : wpAny (model X.prog X.w) X.A (PySem.call (.ref f) us (ks.zip ws)) (EP X pins σ Q) X.xe s := by
  refine wpAny_call (codeAny_mono (F.call (us := us) (vs := vs) hr hgd hx I (hb.to s us ws (r.length.symm.trans l1) (rz.length.symm.trans l2)) (vals_permed (r.append rz) perm) h) ?_)
  intro res s' z
  cases res with
  | error e => exact z
  | ok fl => cases fl <;> first | exact z | exact False.elim z
theorem pe_kw (F : FnG X.prog X.w X.K X.mg X.base CX k f fd ps sp) (hr : Room k X.A) (hgd : X.A.guards = some []) (hg : Gl X x) (hm : X.mg x = some (.ref f)) (hk : PySem.W.keepIn X.K (.ref f) = true) (hb : KwB X.K fd ps n ks perm) (hx : Passes CX X E)
    (ha : PA X (e :: es) t) (hkw : PK X kws tk) (hall : (backToKw pos (keywordEach kws X.env)).all (·.1.isSome) = true := by rfl) (hks : (backToKw pos (keywordEach kws X.env)).filterMap (·.1) = ks := by rfl)
    (hdb : (x == ("__debug__" : Str)) = false := by decide) (he : starEach (e :: es) X.env = (false, eval e X.env) :: starEach es X.env := by rfl)
    (hpl : ((backTo pos (starEach (e :: es) X.env)).any (·.1) || (backToKw pos (keywordEach kws X.env)).any (·.1.isNone)) = false := by rfl) :
    PE X (.Call (.Name x p) (e :: es) kws pos) (tKw sp perm n ks.length E t tk) := by
  constructor
  intro pins s σ H Q I h
  refine wpAny_Call_Name_kw (ld_glob I hg hm ?_ hdb)
  refine PySem.W.callWith_KW (h₀ := X.base) I.ok.mod.kin hk hall (thn (ha.run pos pins s σ H _ I h) ?_) hpl he
  rintro us s1 ⟨vs, H1, I1, r, q⟩
  refine thn (hkw.run pos pins s1 σ H1 _ I1 q) ?_
  rintro ws s2 ⟨zs, H2, I2, rz, l1, l2, q2⟩
  refine ⟨I2.kIn, ?_⟩
  rw [hks]
  exact F.runK hr hgd hb hx I2 r rz l1 l2 q2
theorem pe_kw0 (F : FnG X.prog X.w X.K X.mg X.base CX k f fd ps sp) (hr : Room k X.A) (hgd : X.A.guards = some []) (hg : Gl X x) (hm : X.mg x = some (.ref f)) (hk : PySem.W.keepIn X.K (.ref f) = true) (hb : KwB X.K fd ps 0 ks perm) (hx : Passes CX X E)
    (hkw : PK X kws tk) (hall : (backToKw pos (keywordEach kws X.env)).all (·.1.isSome) = true := by rfl) (hks : (backToKw pos (keywordEach kws X.env)).filterMap (·.1) = ks := by rfl) (hdb : (x == ("__debug__" : Str)) = false := by decide)
    (hpl : ((backTo pos (starEach [] X.env)).any (·.1) || (backToKw pos (keywordEach kws X.env)).any (·.1.isNone)) = false := by rfl) :
    PE X (.Call (.Name x p) [] kws pos) (tKw sp perm 0 ks.length E tNil tk) := by
  constructor
  intro pins s σ H Q I h
  refine wpAny_Call_Name_kw (ld_glob I hg hm ?_ hdb)
  refine PySem.W.callWith_KW0 (h₀ := X.base) I.ok.mod.kin hk hall (thn (hkw.run pos pins s σ H _ I h) ?_) hpl
  rintro ws s2 ⟨zs, H2, I2, rz, l1, l2, q2⟩
  refine ⟨I2.kIn, ?_⟩
  rw [hks]
  exact F.runK (us := []) (vs := []) hr hgd hb hx I2 .nil rz rfl l2 q2
structure DK (X : Cx) (kws : List Keyword) (t : TA) (k : KA) : Prop where
  pe : PK X kws t
  ok : SpA X.K t k
theorem dk_nil : DK X [] tNil kNil := ⟨pk_nil, fun W F n S σ H Q R hK A q fin => fin [] H F n S [] .refl A .nil q⟩
theorem dk_cons {te : TE} {kk : KE} {ka : KA} {nm : Option Str} {kpos : Pos} (h : DE X e te kk) (hs : DK X kws t ka) : DK X (⟨nm, e, kpos⟩ :: kws) (tCons te t) (kCons kk ka) := by
  refine ⟨pk_cons h.pe hs.pe, fun W F n S σ H Q R hK A q fin => ?_⟩
  refine h.ok W F n S σ H _ _ hK A q fun v H1 F1 n1 S1 d g1 A1 r q1 => ?_
  refine hs.ok W F1 n1 S1 σ H1 _ _ hK A1 q1 fun vs H2 F2 n2 S2 ds g2 A2 r2 q2 => ?_
  exact fin _ H2 F2 n2 S2 _ (g1.trans g2) A2 (.cons (Rep.mono g2.f r) r2) q2
def kFnK (c : DC) (perm : List Nat) (n m : Nat) (ka kz : KA) : KE := fun S nn Q => ka S nn fun ds S1 n1 => kz S1 n1 fun zs S2 n2 => ds.length = n ∧ zs.length = m ∧ c (permed D.non perm (ds ++ zs)) n2 fun d n3 => Q d S2 n3
theorem kw_ok {K : PySem.W.Frag} {c : DC} {ka kz : KA} {m : Nat} (h : SpA K t ka) (hz : SpA K tk kz) : SpE K (tKw (spD K c) perm n m E t tk) (kFnK c perm n m ka kz) := by
  intro W F nn S σ H Q R hK A q fin
  refine h W F nn S σ H _ _ hK A q fun vs H1 F1 n1 S1 ds g1 A1 r1 q1 => ?_
  refine hz W F1 n1 S1 σ H1 _ _ hK A1 q1 fun zs H2 F2 n2 S2 es g2 A2 r2 q2 => ?_
  subst hK
  refine ⟨r1.length.trans q2.1, r2.length.trans q2.2.1, W.pa, F2, n2, _, _, A2.w.enter, reps_permed (Reps.append (Reps.mono g2.f r1) r2) perm, q2.2.2, fun v H3 F3 n3 d w3 r3 q3 => ?_⟩
  obtain ⟨g3, A3⟩ := A2.leave w3
  exact fin v H3 F3 n3 S2 d ((g1.trans g2).trans g3) A3 r3 q3
variable {c : DC} {ka kz : KA}
theorem de_kw (F : FnG X.prog X.w X.K X.mg X.base CX0 k f fd ps (spD X.K c)) (st : Stand X j) (hm : X.mg x = some (.ref f)) (hk : PySem.W.keepIn X.K (.ref f) = true) (hb : KwB X.K fd ps n ks perm) (h : DA X (e :: es) t ka) (hz : DK X kws tk kz) (hj : k ≤ j := by decide)
    (hp : FnG X.prog X.w X.K X.mg X.base CX0 k f fd ps (spD X.K c) → Room k X.A → X.A.guards = some [] → X.mg x = some (.ref f) → PySem.W.keepIn X.K (.ref f) = true → KwB X.K fd ps n ks perm → PA X (e :: es) t → PK X kws tk → PE X (.Call (.Name x p) (e :: es) kws pos) (tKw (spD X.K c) perm n ks.length E0 t tk) := by
      intro a b c d e f g h; exact pe_kw a b c (by exact rfl) d e f pass0 g h) :
    DE X (.Call (.Name x p) (e :: es) kws pos) (tKw (spD X.K c) perm n ks.length E0 t tk) (kFnK c perm n ks.length ka kz) := ⟨hp F (st.room.mono hj) st.gd hm hk hb h.pe hz.pe, kw_ok h.ok hz.ok⟩
theorem de_kw0 (F : FnG X.prog X.w X.K X.mg X.base CX0 k f fd ps (spD X.K c)) (st : Stand X j) (hm : X.mg x = some (.ref f)) (hk : PySem.W.keepIn X.K (.ref f) = true) (hb : KwB X.K fd ps 0 ks perm) (hz : DK X kws tk kz) (hj : k ≤ j := by decide)
    (hp : FnG X.prog X.w X.K X.mg X.base CX0 k f fd ps (spD X.K c) → Room k X.A → X.A.guards = some [] → X.mg x = some (.ref f) → PySem.W.keepIn X.K (.ref f) = true → KwB X.K fd ps 0 ks perm → PK X kws tk → PE X (.Call (.Name x p) [] kws pos) (tKw (spD X.K c) perm 0 ks.length E0 tNil tk) := by
      intro a b c d e f g; exact pe_kw0 a b c (by exact rfl) d e f pass0 g) :
    DE X (.Call (.Name x p) [] kws pos) (tKw (spD X.K c) perm 0 ks.length E0 tNil tk) (kFnK c perm 0 ks.length kNil kz) := ⟨hp F (st.room.mono hj) st.gd hm hk hb hz.pe, kw_ok (da_nil (X := X)).ok hz.ok⟩
theorem Stand.blk {s : Shared} {H : Hp} {scope : Scope} {fe : Env} {fp : List Addr} (st : Stand X j) : Stand (X.blk s H scope fe fp) j := ⟨st.room, st.gd⟩
theorem Stand.u64 (st : Stand X j) : X.A.units + 64 < cLine := st.room.units
theorem Stand.u65 (st : Stand X j) : X.A.units + 65 < cLine := by have := st.room.un; omega
end
end DL
namespace DL
open PySem PySem.Spec PyProof.Rows L2
/-! ### the pen's making; the law's body behind it -/
abbrev rToInt : List V → Hp → VK → Prop := fun xs H Q => (∃ i, xs = [.int i] ∧ Q (.int i) H) ∨ ∃ k, xs = [.bl k] ∧ Q (.int (if k then 1 else 0)) H
def tPenT (K : PySem.W.Frag) : TS := tRet (tLst (tCons (tLc (iSeq K (tSl (rSlL K) (tVar 0) tNoPart (tPart (tC (.int 63))))) (gName 1) tYes (tCB rToInt (tCons (tVar 1) tNil)) [1]) (tCons (tC (.int 0)) (tCons (tC (.int 0)) tNil))))
theorem cut_ints (ns : List Int) (lo hi : Option Int) : ∃ cs : List Int, cutV (ns.map V.int) lo hi = cs.map V.int ∧ cs.length ≤ ns.length := by
  refine ⟨(ns.drop (HT.sIx ns.length 0 lo)).take (HT.sIx ns.length ns.length hi - HT.sIx ns.length 0 lo), ?_, ?_⟩
  · unfold cutV
    rw [List.length_map, List.map_take, List.map_drop]
  · rw [List.length_take, List.length_drop]; omega
theorem pen_read {K : PySem.W.Frag} {a : Addr} {ns : List Int} {H : Hp} {Q : VK} (h : SqL K H a (ns.map V.int)) (hl : ns.length ≤ 63)
    (q : ∀ (H' : Hp) (p ca : Addr) (cs : List Int), Same H H' → p ≠ ca → H p = none → H ca = none → H' p = some (.lst [.ref ca, .int 0, .int 0]) → H' ca = some (.lst (cs.map V.int)) → Q (.ref p) H') {E : Ends} (hE : E.rt = Q) :
    tPenT K E [some (.ref a), none] H := by
  show tLst _ _ H E.rt
  rw [hE]
  refine ⟨.ref a, rfl, 63, rfl, a, _, rfl, h, fun c hc => ?_⟩
  obtain ⟨cs, ec, lc⟩ := cut_ints ns none (some 63)
  rw [ec]
  have s1 : Same H (upd H c (.lst (cs.map V.int))) := same_new hc
  refine ⟨c, rfl, .inl ⟨⟨_, SqL.of upd_same⟩, fun D0 hD => ?_⟩⟩
  have nDc : D0 ≠ c := fun e => by rw [e, upd_same] at hD; cases hD
  have hD0 : H D0 = none := by rw [upd_ne nDc] at hD; exact hD
  refine lc_list (xs := cs.map V.int) (fun i H2 => Same (upd H c (.lst (cs.map V.int))) H2 ∧ H2 D0 = some (.lst ((cs.take i).map V.int))) ⟨same_new hD, by rw [upd_same]; rfl⟩ (fun i H2 _ p => SqL.of (p.1 _ _ upd_same)) (fun i x H2 hx p => ?_) (fun H2 p => ?_)
  · rw [List.getElem?_map] at hx
    obtain ⟨z, hz, rfl⟩ := Option.map_eq_some_iff.mp hx
    refine ⟨rfl, ?_⟩
    simp only [tYes, if_true]
    refine ⟨.int z, rfl, .inl ⟨z, rfl, _, p.2, ?_, ?_, ?_⟩⟩
    · rw [List.length_map, List.length_take]
      exact big_lt (by omega)
    · intro b o hb
      have nb : b ≠ D0 := fun e => by rw [e, hD] at hb; cases hb
      rw [upd_ne nb]
      exact p.1 b o hb
    · rw [upd_same, ← List.map_singleton, ← List.map_append]
      rw [List.take_add_one, hz]
      rfl
  · refine ⟨big_ok (by show 3 ≤ 1000000; decide), fun p0 hp0 => ?_⟩
    have np : p0 ≠ D0 := fun e => by rw [e, p.2] at hp0; cases hp0
    have hp : H p0 = none := by
      cases e : H p0 with
      | none => rfl
      | some o => rw [p.1 _ _ (s1 _ _ e)] at hp0; cases hp0
    refine q _ p0 D0 cs (s1.trans (p.1.trans (same_new hp0))) np hp hD0 upd_same ?_
    rw [upd_ne (Ne.symm np), p.2, List.length_map, List.take_length]
section
variable {P : Program} {w : World} {K : PySem.W.Frag} {mg : Str → Option Value} {base : Heap} {k : Nat} {f : Addr} {fd : FuncData} {N : List Str} {x qual : Str} {st : Stmt}
theorem pen_ok (F : Fun K x qual st f fd) (S : FnScope N ["script"] (defScope st)) (hN : N.length = 2)
    (walk : ∀ (cdv : Value) (A : Around) (outer : List Env) (s : Shared) (H : Hp) (E : XK), Stand (cxOf CX0 P w K mg base N qual (defScope st) f cdv A outer s H E).nox 0 → PSs (cxOf CX0 P w K mg base N qual (defScope st) f cdv A outer s H E).nox (defBody st) (tPenT K)) :
    FnG P w K mg base CX0 1 f fd ["script"] (spPen K) := by
  obtain ⟨oc, od, kV, doc, pm, an, cdv, ct, osl, rfl, lk, hcd⟩ := F.ex
  refine FnG.mk' lk hcd S (fun vs H Q E q => ?_) fun A outer s H vs Q E hr hg q => ?_
  · obtain ⟨a, ns, rfl, _⟩ := q; rfl
  · obtain ⟨a, ns, rfl, h1, h2, h3⟩ := q
    refine ⟨_, (walk cdv A outer s H E (Stand.of hr hg _ rfl)).nox, ?_⟩
    have e : L2.start N [V.ref a] = [some (.ref a), none] := by
      unfold L2.start
      rw [hN]
      rfl
    rw [e]
    exact pen_read h1 h2 h3 rfl
/-- the law: the pen first, then its body -/
theorem law_ok (F : Fun K x qual st f fd) (S : FnScope N ["script"] (defScope st)) (m : Nat) (hN : N.length = m + 2)
    (walk : ∀ (cdv : Value) (A : Around) (outer : List Env) (s : Shared) (H : Hp) (E : XK), Stand (cxOf CX0 P w K mg base N qual (defScope st) f cdv A outer s H E).nox k →
      ∃ sts t kb, (PSs (cxOf CX0 P w K mg base N qual (defScope st) f cdv A outer s H E).nox sts t → PSs (cxOf CX0 P w K mg base N qual (defScope st) f cdv A outer s H E).nox (defBody st) (tSeq (tAsg (tCall (spPen K) [] E0 (tCons (tVar 0) tNil)) (gName 1)) t)) ∧
        DSs (cxOf CX0 P w K mg base N qual (defScope st) f cdv A outer s H E).nox sts t kb ∧ ∀ cs, kb ⟨fun _ _ => False, fun d _ => d = .bl true, fun _ _ => False, fun _ _ => False⟩ (.no :: .val (.pen cs) :: List.replicate m .no) 0) :
    FnG P w K mg base CX0 (k + 1) f fd ["script"] (spLaw K) := by
  obtain ⟨oc, od, kV, doc, pm, an, cdv, ct, osl, rfl, lk, hcd⟩ := F.ex
  refine FnG.mk' lk hcd S (fun vs H Q E q => ?_) fun A outer s H vs Q E hr hg q => ?_
  · obtain ⟨a, ns, rfl, _⟩ := q; rfl
  · obtain ⟨a, ns, rfl, h1, h2, h3⟩ := q
    obtain ⟨sts, t, kb, w1, w2, w3⟩ := walk cdv A outer s H E (Stand.of hr hg _ rfl)
    refine ⟨_, (w1 w2.pe).nox, ?_⟩
    have e : L2.start N [V.ref a] = some (.ref a) :: none :: List.replicate m none := by
      unfold L2.start
      rw [hN]
      rfl
    rw [e]
    refine ⟨.ref a, rfl, a, ns, rfl, h1, h2, fun H' p ca cs s1 np _ _ hp hc => ?_⟩
    have z := law_body (a := a) (R := ⟨fun _ H' => Q .non H', Q, fun _ _ => False, fun _ _ => False⟩) w2 np hp hc (w3 cs) h3
    exact z
end
end DL
namespace DL
open PySem PySem.Spec PyProof.Rows L2
section
variable {X : Cx} {st : Stmt} {ts : TA} {ks : KA}
/-- x, y, z = a, b, c (locals) -/
def kPar3 (i j l : Nat) (ks : KA) : KS := fun E S n => ks S n fun ds S1 n1 => match ds with
  | [d, f, g] => E.nx (((S1.set i (.val d)).set j (.val f)).set l (.val g)) n1
  | _ => False
theorem ds_par3 {i j l : Nat} {es : List Expr} (h : DA X es ts ks) (hp : PA X es ts → PS X st (tPar3 i j l ts)) : DS X st (tPar3 i j l ts) (kPar3 i j l ks) := by
  refine ⟨hp h.pe, fun W F n S σ H E R hK A q fin => ?_⟩
  refine h.ok W F n S σ H _ _ hK A q fun vs H1 F1 n1 S1 ds g1 A1 r q1 => ?_
  match ds, r, q1 with
  | [d, f, g], .cons r1 (.cons r2 (.cons r3 .nil)), q1 => exact ⟨_, _, _, rfl, fin.nx F1 n1 _ _ H1 g1.f (((A1.set r1 i).set r2 j).set r3 l) q1⟩
/-- x, y = [..], e: the list is one of the def's own -/
def kParO (i j : Nat) (ka : KA) (ke : KE) : KS := fun E S n => ka S n fun ds S1 n1 => ke S1 n1 fun d S2 n2 => E.nx ((S2.set i (.own ds)).set j (.val d)) n2
theorem ds_parO {i j : Nat} {e1 e2 : Expr} {t1 t2 : TE} {ka : KA} {ke : KE} (h1 : DOw X e1 t1 ka) (h2 : DE X e2 t2 ke) (hs1 : starEach [e1, e2] X.env = (false, eval e1 X.env) :: starEach [e2] X.env := by rfl) (hs2 : starEach [e2] X.env = (false, eval e2 X.env) :: starEach [] X.env := by rfl)
    (hp : PA X [e1, e2] (tCons t1 (tCons t2 tNil)) → PS X st (tPar i j (tCons t1 (tCons t2 tNil)))) : DS X st (tPar i j (tCons t1 (tCons t2 tNil))) (kParO i j ka ke) := by
  refine ⟨hp (pa_cons h1.pe (pa_cons h2.pe pa_nil hs2) hs1), fun W F n S σ H E R hK A q fin => ?_⟩
  refine h1.ok W F n S σ H _ _ hK A q fun D0 us acc H1 F1 n1 S1 g1 A1 f0 h0 p0 hD r no hn q1 => ?_
  refine h2.ok W F1 n1 S1 σ H1 _ _ hK A1 q1 fun v H2 F2 n2 S2 d g2 A2 r2 q2 => ?_
  have hD2 : H2 D0 = some (.lst us) := g2.h _ _ hD p0
  have f2 : F2 D0 = none := by
    cases e : F2 D0 with
    | none => rfl
    | some o =>
      rcases g2.nf _ _ e with y | y | y
      · rw [f0] at y; cases y
      · rw [hD] at y; cases y
      · exact absurd y no
  have no2 : ¬ OwnA S2 σ D0 := fun y => no (g2.os _ y)
  refine ⟨_, _, rfl, fin.nx F2 n2 _ _ H2 (g1.f.trans g2.f) ((A2.setOwn i f2 h0 p0 hD2 (Reps.mono g2.f r) no2).set r2 j) q2⟩
end
/-- a promise that asks too much -/
theorem FnG.never {P : Program} {w : World} {K : PySem.W.Frag} {mg : Str → Option Value} {base : Heap} {k : Nat} {f : Addr} {fd : FuncData} {ps : List Str} {c : DC} (h : ∀ ds n Q, c ds n Q → False) : FnG P w K mg base CX0 k f fd ps (spD K c) := by
  refine ⟨fun vs H Q E q => ?_, fun A outer s H args us vs Q E _ _ _ _ _ q => ?_⟩
  · obtain ⟨pa, F, n, ds, Qd, _, _, q1, _⟩ := q
    exact (h ds n Qd q1).elim
  · obtain ⟨pa, F, n, ds, Qd, _, _, q1, _⟩ := q
    exact (h ds n Qd q1).elim
end DL
namespace DL
open PySem PySem.Spec PyProof.Rows L2
/-! ### positional promises, where no repr is under way -/
def FnP (P : Program) (w : World) (K : PySem.W.Frag) (mg : Str → Option Value) (base : Heap) (k : Nat) (f : Addr) (sp : Sp) : Prop :=
  ∀ (A : Around) (outer : List Env) (s : Shared) (H : Hp) (us : List Value) (vs : List V) (Q : VK) (E : XK), Room k A → A.guards = some [] → Env0 P w K mg base A outer s H → Vals vs us → sp vs H Q E →
    codeAny (model P w) A (.call (.ref f) ⟨us, []⟩) (CR CX0 outer P w H s Q E) s
section
variable {P : Program} {w : World} {K : PySem.W.Frag} {mg : Str → Option Value} {base : Heap} {k j : Nat} {f : Addr} {fd : FuncData} {ps : List Str} {sp : Sp}
theorem FnP.up (F : FnP P w K mg base k f sp) (h : k ≤ j) : FnP P w K mg base j f sp := fun A outer s H us vs Q E hr => F A outer s H us vs Q E (hr.mono h)
theorem FnG.pos (F : FnG P w K mg base CX0 k f fd ps sp) (hb : Binds K fd ps []) : FnP P w K mg base k f sp := by
  intro A outer s H us vs Q E hr hg e0 r h
  have KX : K.In s.heap := e0.mod.kin.keeps fun b o e => (e0.bs b o e).1
  have hl : (us ++ []).length = ps.length := by rw [List.append_nil, ← r.length]; exact F.long _ _ _ _ h
  have b := hb s us KX hl
  rw [List.append_nil] at b
  exact F.goes A outer s H ⟨us, []⟩ us vs Q E hr hg e0 b r h
end
section
variable {X : Cx} {pins : List (Addr × Obj)} {σ : L2.St} {H : Hp} {s : Shared} {k : Nat} {f : Addr} {sp : Sp} {Q : VK} {us : List Value} {vs : List V} {E : XK}
theorem FnP.at_ {A : Around} (F : FnP X.prog X.w X.K X.mg X.base k f sp) (hr : Room k A) (hg : A.guards = some []) (e0 : Env0 X.prog X.w X.K X.mg X.base A X.stack s H) (I : Inv X pins σ H s) (r : Vals vs us) (h : sp vs H Q E) :
    codeAny (model X.prog X.w) A (.call (.ref f) ⟨us, []⟩) (fun r s' => match r with | .ok (.ret v) => EP X pins σ Q v s' | .ok _ => False | .error e => X.xe e s') s := by
  refine codeAny_mono (F A X.stack s H us vs Q E hr hg e0 r h) fun r s' hq => ?_
  cases r with
  | error e => exact (show False from hq).elim
  | ok fl =>
    cases fl with
    | ret u => exact I.after hq
    | next => exact False.elim hq
    | brk => exact False.elim hq
    | cont => exact False.elim hq
theorem FnP.go {A : Around} (F : FnP X.prog X.w X.K X.mg X.base k f sp) (hr : Room k A) (hg : A.guards = some []) (e0 : Env0 X.prog X.w X.K X.mg X.base A X.stack s H) (I : Inv X pins σ H s) (r : Vals vs us) (h : sp vs H Q E) :
    wpAny (model X.prog X.w) A (PySem.call (.ref f) us) (EP X pins σ Q) X.xe s := wpAny_call (F.at_ hr hg e0 I r h)
theorem FnP.run (F : FnP X.prog X.w X.K X.mg X.base k f sp) (hr : Room k X.A) (hg : X.A.guards = some []) (I : Inv X pins σ H s) (r : Vals vs us) (h : sp vs H Q E) :
    wpAny (model X.prog X.w) X.A (PySem.call (.ref f) us) (EP X pins σ Q) X.xe s := F.go hr hg I.env0 I r h
end
/-! ### methods of own classes: what the text must have -/
/-- a method that a caller at level j may call, by a promise over data -/
structure MethOkC (prog : Program) (w : World) (K : PySem.W.Frag) (mg : Str → Option Value) (base : Heap) (j : Nat) (C : Addr) (m : Str) (c : DC) : Prop where
  ex : ∃ (f : Addr) (k : Nat), Meth K C m f ∧ FnP prog w K mg base k f (spD K c) ∧ k ≤ j
  cl : Cls K C
abbrev MethOk (X : Cx) (j : Nat) (C : Addr) (m : Str) (c : DC) : Prop := MethOkC X.prog X.w X.K X.mg X.base j C m c
def ownSel : List (Addr × DC) → Addr → (DC → Prop) → Prop
  | [], _, _ => False
  | p :: r, C, f => (p.1 = C ∧ f p.2) ∨ ownSel r C f
def MethsOk (X : Cx) (j : Nat) (m : Str) : List (Addr × DC) → Prop
  | [] => True
  | p :: r => MethOk X j p.1 m p.2 ∧ MethsOk X j m r
theorem MethsOk.sel {X : Cx} {j : Nat} {m : Str} {C : Addr} {f : DC → Prop} : ∀ {own : List (Addr × DC)}, MethsOk X j m own → ownSel own C f → ∃ c, MethOk X j C m c ∧ f c
  | [], _, h => h.elim
  | p :: r, a, h => by
    rcases h with ⟨rfl, h⟩ | h
    · exact ⟨p.2, a.1, h⟩
    · exact MethsOk.sel a.2 h
theorem repf_lookup {K : PySem.W.Frag} {pa : Option Pn} {F : Hp} {x : Str} : ∀ {fs : List (Str × V)} {gs : List (Str × D)}, Repf K pa F fs gs → (∀ d, gs.lookup x = some d → ∃ v, fs.lookup x = some v ∧ Rep K pa F v d) ∧ (gs.lookup x = none → fs.lookup x = none)
  | _, _, .nil => ⟨fun d h => (by cases h), fun _ => rfl⟩
  | _, _, .cons (x := y) (v := v) (d := d) h r => by
    obtain ⟨h1, h2⟩ := repf_lookup (x := x) r
    rw [List.lookup_cons, List.lookup_cons]
    cases x == y with
    | true => exact ⟨fun d e => ⟨v, rfl, by cases e; exact h⟩, fun e => by cases e⟩
    | false => exact ⟨h1, h2⟩
theorem RB.ins {W : Wd} {F H : Hp} {v : V} {C : Addr} {gs : List (Str × D)} (w : Same F H) (h : RB W F H v (.ins C gs)) : ∃ a dx fs, v = .ref a ∧ H a = some (.ins C dx fs) ∧ Repf W.K W.pa F fs gs ∧ Rep W.K W.pa F (.ref a) (.ins C gs) := by
  rcases h with h | ⟨p, vs, es, e1, e2, _⟩
  · cases h with
    | ins h1 h2 r => exact ⟨_, _, _, rfl, w _ _ h1, r, .ins h1 h2 r⟩
  · cases e2
/-- where calls are made, as the machine wants it -/
structure Site (X : Cx) (j : Nat) : Prop where
  st : Stand X j
/-! ### o.m(e, ..) -/
def tMethA (X : Cx) (m : Str) (ta : TE) (t : TA) : TE := fun σ H Q => ta σ H fun x H1 => ∃ a C dx fs f k sp, x = .ref a ∧ H1 a = some (.ins C dx fs) ∧ fs.lookup m = none ∧ Cls X.K C ∧ Meth X.K C m f ∧ FnP X.prog X.w X.K X.mg X.base k f sp ∧ Room k X.A ∧
  t σ H1 fun vs H2 => sp (x :: vs) H2 Q E0
section
variable {X : Cx} {m : Str} {o e : Expr} {es : List Expr} {ta : TE} {t : TA} {apos pos : Pos} {j : Nat} {own : List (Addr × DC)}
theorem pe_methA {pl : Sem Bool} (he : PE X o ta) (hg : X.A.guards = some []) (ha : PA X (e :: es) t)
    (hst : starEach (e :: es) X.env = (false, eval e X.env) :: starEach es X.env := by rfl) (hpl : (backTo pos (starEach es X.env)).any (·.1) = false := by rfl)
    (ht : eval (.Call (.Attribute o m apos) (e :: es) [] pos) X.env = (do
      let ov ← eval o X.env
      standAt apos.atName
      let (f, first) ← holding [ov] (getMethod ov m pl)
      callWith pos f first (backTo pos (starEach (e :: es) X.env)) (backToKw pos (keywordEach [] X.env))) := by rfl) :
    PE X (.Call (.Attribute o m apos) (e :: es) [] pos) (tMethA X m ta t) := by
  refine ⟨fun pins s σ H Q I h => ?_⟩
  refine PySem.W.methodCall_KW (pl := pl) (thn (he.run pins s σ H _ I h) fun u s1 ⟨x, H1, I1, rx, a, C, dx, fs, f, k, sp, ex, ea, l, c, hm, F, hr, q⟩ => ?_) ht
  subst ex
  obtain rfl : u = Value.ref a := rx
  refine getmeth_ok I1 ea c hm l ?_
  refine PySem.W.callWith_K (first := [.ref a]) (h₀ := X.base) I.ok.mod.kin hm.kp (thn (ha.run pos pins s1 σ H1 _ I1 q) fun us s2 ⟨vs, H2, I2, r, q2⟩ => ⟨I2.kIn, ?_⟩) hst hpl
  exact F.run (us := .ref a :: us) (vs := .ref a :: vs) hr hg I2 (.cons rfl r) q2
theorem pe_methA0 {pl : Sem Bool} (he : PE X o ta) (hg : X.A.guards = some [])
    (ht : eval (.Call (.Attribute o m apos) [] [] pos) X.env = (do
      let ov ← eval o X.env
      standAt apos.atName
      let (f, first) ← holding [ov] (getMethod ov m pl)
      callWith pos f first (backTo pos (starEach [] X.env)) (backToKw pos (keywordEach [] X.env))) := by rfl) :
    PE X (.Call (.Attribute o m apos) [] [] pos) (tMethA X m ta tNil) := by
  refine ⟨fun pins s σ H Q I h => ?_⟩
  refine PySem.W.methodCall_KW (pl := pl) (thn (he.run pins s σ H _ I h) fun u s1 ⟨x, H1, I1, rx, a, C, dx, fs, f, k, sp, ex, ea, l, c, hm, F, hr, q⟩ => ?_) ht
  subst ex
  obtain rfl : u = Value.ref a := rx
  refine getmeth_ok I1 ea c hm l ?_
  exact PySem.W.callWith_K0 (first := [.ref a]) I1.kIn hm.kp (F.run (us := [.ref a]) (vs := [.ref a]) hr hg I1 (.cons rfl .nil) q)
def kMeth (own : List (Addr × DC)) (m : Str) (ko : KE) (ka : KA) : KE := fun S n Q => ko S n fun d S1 n1 => match d with
  | .ins C gs => gs.lookup m = none ∧ ownSel own C fun c => ka S1 n1 fun ds S2 n2 => c (d :: ds) n2 fun r n3 => Q r S2 n3
  | _ => False
/-- a call of a promise by values: what is behind it -/
theorem spD_call {W : Wd} {F H : Hp} {n : Nat} {S : List Sl} {σ : St} {c : DC} {vs : List V} {ds : List D} {Q : D → Nat → Prop} {R : VK} (A : Abs W F n S σ H) (r : Reps W.K W.pa F vs ds) (q : c ds n Q)
    (fin : ∀ v H' F' n' d, Grow W S σ F H F' H' S → Abs W F' n' S σ H' → Rep W.K W.pa F' v d → Q d n' → R v H') : spD W.K c vs H R E0 :=
  ⟨W.pa, F, n, ds, Q, A.w.enter, r, q, fun v H' F' n' d w2 r2 q2 => by
    obtain ⟨g, A'⟩ := A.leave w2
    exact fin v H' F' n' d g A' r2 q2⟩
theorem meth_ok {ko : KE} {ka : KA} (st : Stand X j) (hm : MethsOk X j m own) (h : SpB X.K ta ko) (ha : SpA X.K t ka) : SpE X.K (tMethA X m ta t) (kMeth own m ko ka) := by
  intro W F n S σ H Q R hK A q fin
  refine h W F n S σ H _ _ hK A q fun x H1 F1 n1 S1 d g1 A1 r1 q1 => ?_
  cases d <;> try exact False.elim q1
  case ins C gs =>
    obtain ⟨q1, q2⟩ := q1
    obtain ⟨c, ⟨⟨f, k, h1, h2, h3⟩, h4⟩, q3⟩ := hm.sel q2
    obtain ⟨a, dx, fs, rfl, e1, rf, ri⟩ := r1.ins A1.w.sub
    refine ⟨a, C, dx, fs, f, k, _, rfl, e1, (repf_lookup rf).2 q1, h4, h1, h2, st.room.mono h3, ?_⟩
    refine ha W F1 n1 S1 σ H1 _ _ hK A1 q3 fun vs H2 F2 n2 S2 ds g2 A2 r2 q4 => ?_
    rw [← hK]
    refine spD_call A2 (.cons (Rep.mono g2.f ri) r2) q4 fun v H3 F3 n3 d g3 A3 r3 q5 => ?_
    exact fin v H3 F3 n3 S2 d ((g1.trans g2).trans g3) A3 r3 q5
theorem de_meth {ko : KE} {ka : KA} (st : Stand X j) (hm : MethsOk X j m own) (h : DB X o ta ko) (ha : DA X (e :: es) t ka)
    (hp : PE X o ta → X.A.guards = some [] → PA X (e :: es) t → PE X (.Call (.Attribute o m apos) (e :: es) [] pos) (tMethA X m ta t) := by intro a b c; exact pe_methA a b c) :
    DE X (.Call (.Attribute o m apos) (e :: es) [] pos) (tMethA X m ta t) (kMeth own m ko ka) := ⟨hp h.pe st.gd ha.pe, meth_ok st hm h.ok ha.ok⟩
theorem de_meth0 {ko : KE} (st : Stand X j) (hm : MethsOk X j m own) (h : DB X o ta ko)
    (hp : PE X o ta → X.A.guards = some [] → PE X (.Call (.Attribute o m apos) [] [] pos) (tMethA X m ta tNil) := by intro a b; exact pe_methA0 a b) :
    DE X (.Call (.Attribute o m apos) [] [] pos) (tMethA X m ta tNil) (kMeth own m ko kNil) := ⟨hp h.pe st.gd, meth_ok st hm h.ok (da_nil (X := X)).ok⟩
/-! ### o.f -/
def FldOk (K : PySem.W.Frag) (f : Str) : List Addr → Prop
  | [] => True
  | C :: r => (Cls K C ∧ NoAttr K C f) ∧ FldOk K f r
theorem FldOk.sel {K : PySem.W.Frag} {f : Str} {C : Addr} : ∀ {Cs : List Addr}, FldOk K f Cs → C ∈ Cs → Cls K C ∧ NoAttr K C f
  | [], _, h => by cases h
  | D :: r, a, h => by
    rcases List.mem_cons.mp h with rfl | h
    · exact a.1
    · exact FldOk.sel a.2 h
def kFld (Cs : List Addr) (f : Str) (ko : KE) : KE := fun S n Q => ko S n fun d S1 n1 => match d with
  | .ins C gs => C ∈ Cs ∧ match gs.lookup f with
    | some v => Q v S1 n1
    | none => False
  | _ => False
theorem de_fld {Cs : List Addr} {f : Str} {ko : KE} (hc : FldOk X.K f Cs) (h : DB X o ta ko) (hb : attributeBase o f X.env (eval o X.env) = eval o X.env := by rfl) : DE X (.Attribute o f pos) (tFld X.K ta f) (kFld Cs f ko) := by
  refine ⟨pe_fld h.pe hb, fun W F n S σ H Q R hK A q fin => ?_⟩
  refine h.ok W F n S σ H _ _ hK A q fun x H1 F1 n1 S1 d g1 A1 r1 q1 => ?_
  cases d <;> try exact False.elim q1
  case ins C gs =>
    obtain ⟨q1, q2⟩ := q1
    obtain ⟨c1, c2⟩ := hc.sel q1
    obtain ⟨a, dx, fs, rfl, e1, rf, ri⟩ := r1.ins A1.w.sub
    cases e : gs.lookup f with
    | none => rw [e] at q2; exact q2.elim
    | some v =>
      rw [e] at q2
      obtain ⟨u, l, ru⟩ := (repf_lookup rf).1 v e
      exact ⟨a, C, dx, fs, u, rfl, e1, c1, c2, l, fin u H1 F1 n1 S1 v g1 A1 ru q2⟩
end
end DL
namespace DL
open PySem PySem.Spec PyProof.Rows L2
/-! ### operators of own classes: at the library's level -/
namespace LibOp
open PySem.W PySem.Calls Builtin
section
variable {prog : Program} {w : World} {A : Around} {E : Value → Shared → Prop} {s : Shared} {K : PySem.W.Frag} {x C L f : Addr} {h₀ : Heap} {m : Str → Option Value} {ox : Obj} {od : Option Obj} {tb b : Value}
theorem ne_bind (self : Value) : bindSpecial (.builtin "object.__ne__") self = pure (.builtin "object.__ne__", [self]) :=
  (Slot.of (T := "object") (name := "__ne__") (owner := "object") (n := "__ne__") (by rw [typeLookup_type, builtinLookup_eq_fast]; kernel_rfl) (by decide +kernel) (by decide +kernel) (by decide +kernel)
    (.inl (by decide +kernel)) (by rw [isSubtype_type]; kernel_rfl)).bind self
/-- x != b where the class has its own == and object's != -/
theorem ne_K {Q : Value → Shared → Prop} (hu : A.units + 1 < cLine) (X : K.In s.heap) (I : InstAt s.heap x ox C od) (hb : Looks (model prog w) s.heap (typeOf b) tb) (hn : notFirst K C tb = true)
    (hne : findIn K (.ref C) "__ne__" = some (some (.builtin "object.__ne__"))) (hob : subIn K (.ref C) (.type "object") = some true)
    (hs : findIn K (.ref C) "__eq__" = some (some (.ref f))) (hf : isFn K (.ref f) = true)
    (h : wpAny (model prog w) A.in1 (call (.ref f) [.ref x, b]) (fun v s' => ∃ c, v = .bool c ∧ Q (.bool (!c)) s') E s) : wpAny (model prog w) A (richCompare .NotEq (.ref x) b) Q E s := by
  have one : wpAny (model prog w) A (tryCompare (.ref x) "__ne__" b) (fun r s' => ∃ v, r = some v ∧ Q v s') E s := by
    unfold tryCompare
    simp only [callSpecialIfBound?, bindSpecialIfBound?]
    refine wpAny_bind (wpAny_holding (wpAny_bind (wpAny_bind (wpAny_bind (I.type.here ((looks_findIn X hne).here ?_))))))
    refine wpAny_bind (wpAny_askSetting (wpAny_ite ?_))
    have t2 : Looks (model prog w) s.heap (isInstance (.ref x) (.type "object")) true := I.type.andThen (looks_subIn X hob)
    have call_ : wpAny (model prog w) A (call (.builtin "object.__ne__") ([.ref x] ++ [b])) (fun v s' => (∃ c, v = .bool (!c) ∧ Q v s')) E s := by
      refine wpAny_call (codeAny_call_builtin (by decide +kernel) F.cmpEntry_ne (@check_slot (model prog w) _ _ _ "object.__ne__" "object" "__ne__" (.ref x) [b] [] _ F.cmpKind_ne F.cmpSplit_ne t2 (F.cmpArgs_ne _ _) ?_))
      unfold Builtin.«object.__ne__»
      refine wpAny_bind (wpAny_pure ?_)
      refine wpAny_bind (wpAny_cRoomFor hu ?_)
      refine wpAny_bind (m := callSpecialIfBound? (.ref x) (Str.ofString "__eq__") [b]) (ifBound_K X I hs hf (wpAny_mono h (fun v s' hv => ?_) fun _ _ e => e))
      obtain ⟨c, rfl, q⟩ := hv
      refine wpAny_bind (m := truthy (.bool c)) (wpAny_truthy_bool ?_)
      first
        | exact wpAny_pure ⟨c, rfl, q⟩
        | exact ⟨c, rfl, q⟩
    have fin : wpAny (model prog w) A (call (.builtin "object.__ne__") ([.ref x] ++ [b]) >>= fun v => pure (some v)) (fun r s' => wpAny (model prog w) A (match r with | some .notImplemented => pure none | none => pure none | some r => pure (some r)) (fun r s' => ∃ v, r = some v ∧ Q v s') E s') E s :=
      wpAny_bind (wpAny_mono call_ (fun v s' ⟨c, e, q⟩ => by subst e; exact wpAny_pure (wpAny_pure ⟨_, rfl, q⟩)) fun _ _ h' => h')
    rw [ne_bind]
    split
    · exact wpAny_bind (wpAny_pure (wpAny_pure (by exact fin)))
    · exact wpAny_tryCatch (wpAny_bind (wpAny_pure (wpAny_pure (by exact fin))))
  unfold richCompare
  simp only [oneThing_ref]
  refine wpAny_holding (wpAny_bind (wpAny_cRoomFor (Nat.lt_of_succ_lt hu) ?_))
  rw [cmpInfo_NotEq]
  dsimp only
  refine wpAny_bind (I.type.here (wpAny_bind (hb.here ?_)))
  split
  · rename_i q
    have e : subIn K tb (.ref C) = some false := by
      rcases Bool.or_eq_true_iff.mp hn with e | e
      · rw [beq_iff_eq.mp e] at q; simp at q
      · exact beq_iff_eq.mp e
    refine wpAny_bind ((looks_subIn X e).here ?_)
    simp only [Bool.false_eq_true, if_false]
    refine wpAny_bind (wpAny_mono one (fun r s' z => ?_) fun _ _ e => e)
    obtain ⟨v, rfl, hq⟩ := z
    exact wpAny_pure hq
  · refine wpAny_bind (wpAny_pure ?_)
    simp only [Bool.false_eq_true, if_false]
    refine wpAny_bind (wpAny_mono one (fun r s' z => ?_) fun _ _ e => e)
    obtain ⟨v, rfl, hq⟩ := z
    exact wpAny_pure hq
end
section
variable {prog : Program} {w : World} {M : Model} {A : Around} {E : Value → Shared → Prop} {s : Shared} {K : PySem.W.Frag} {x C L f : Addr} {h₀ : Heap} {m : Str → Option Value} {ox : Obj} {od : Option Obj} {nm T : String}
/-- the class and object alone -/
def twoUp (K : PySem.W.Frag) (C : Addr) : Bool := (clsIn K C).any fun cd => cd.mro == [.ref C, .type "object"]
theorem no_inplace {h : Heap} {add : Bool} (X : K.In h) (hc : twoUp K C = true) (hs : findIn K (.ref C) (dunderI nm) = some none) (ho : findIn K (.type "object") (dunderI nm) = some none) : Looks M h (fillsInplaceSlot (.ref C) nm add) false := by
  obtain ⟨cd, hcd, hm⟩ := any_some hc
  have hm := beq_iff_eq.mp hm
  intro A Q E s k q
  have Lm : Looks M h (mroOf (.ref C)) cd.mro := (looks_clsIn X hcd).andThen (f := fun cd => pure cd.mro) .now
  have Lm' := Lm.keeps k
  obtain ⟨hh, g, d, tt, os⟩ := s
  have X' : K.In hh := X.keeps k
  have L1 : Looks M hh (typeLookup (.ref C) (dunderI nm)) none := looks_findIn X' hs
  have L2 : Looks M hh (typeLookup (.type "object") (dunderI nm)) none := looks_findIn X' ho
  unfold fillsInplaceSlot
  refine wpAny_bind (Lm'.at ?_)
  rw [hm, List.anyM_cons]
  refine wpAny_bind ?_
  refine wpAny_bind (L1.at (wpAny_pure ?_))
  rw [List.anyM_cons]
  simp only [Bool.false_eq_true, if_false]
  refine wpAny_bind ?_
  refine wpAny_bind (L2.at (wpAny_pure ?_))
  exact wpAny_pure q
/-- x op= b by x's own op, both of one class -/
theorem ip_K {op : Operator} {b : Value} {Q : Value → Shared → Prop} (X : K.In s.heap) (I : InstAt s.heap x ox C od) (hb : Looks (model prog w) s.heap (typeOf b) (.ref C)) (h2 : twoUp K C = true)
    (hi : findIn K (.ref C) (dunderI op.info.2) = some none) (ho : findIn K (.type "object") (dunderI op.info.2) = some none)
    (hs : findIn K (.ref C) (PySem.dunder op.info.2) = some (some (.ref f))) (hf : isFn K (.ref f) = true)
    (h : wpAny (model prog w) A (call (.ref f) [.ref x, b]) (PySem.W.CmpBack Q) E s) : wpAny (model prog w) A (inplaceOp op (.ref x) b) Q E s := by
  obtain ⟨cd, hcd, hm⟩ := any_some h2
  have hm := beq_iff_eq.mp hm
  unfold inplaceOp
  refine wpAny_holding (wpAny_bind (I.type.here (wpAny_bind ((no_inplace X h2 hi ho).here ?_))))
  simp only [Bool.false_eq_true, if_false]
  refine wpAny_bind ?_
  unfold binaryOp1
  refine wpAny_bind (I.type.here (wpAny_bind (hb.here (wpAny_bind ((fills_K X hcd hm hs).here ?_)))))
  simp only [beq_self_eq_true, if_true]
  refine wpAny_bind (wpAny_pure ?_)
  simp only [Bool.and_false, Bool.false_eq_true, if_false, Bool.false_and]
  refine wpAny_bind (wpAny_pure ?_)
  simp only [Bool.false_eq_true, if_false]
  refine wpAny_bind (m := tryMethod (.ref x) _ b) ?_
  unfold tryMethod
  refine wpAny_bind (special_fn X I hs (beq_iff_eq.mp hf) (wpAny_mono h (fun v s' hv => ?_) fun _ _ e => e))
  cases v <;> first | exact hv.elim | exact wpAny_pure (wpAny_pure (wpAny_pure hv))
theorem ip_T {op : Operator} {b : Value} {fo ro rc : Option Value} {Q : Value → Shared → Prop} (X : K.In s.heap) (I : InstAt s.heap x ox C od) (hb : typeOf b = pure (.type T)) (h2 : twoUp K C = true)
    (hi : findIn K (.ref C) (dunderI op.info.2) = some none) (ho : findIn K (.type "object") (dunderI op.info.2) = some none)
    (hs : findIn K (.ref C) (PySem.dunder op.info.2) = some (some (.ref f))) (hf : isFn K (.ref f) = true) (hr : findIn K (.ref C) (dunderR op.info.2) = some rc) (hp : rc = none ∨ ∃ g : Addr, rc = some (.ref g))
    (h1 : findIn K (.type T) (PySem.dunder op.info.2) = some fo) (hro : findIn K (.type T) (dunderR op.info.2) = some ro) (hsub : subIn K (.type T) (.ref C) = some false)
    (h : wpAny (model prog w) A (call (.ref f) [.ref x, b]) (PySem.W.CmpBack Q) E s) : wpAny (model prog w) A (inplaceOp op (.ref x) b) Q E s := by
  obtain ⟨cd, hcd, hm⟩ := any_some h2
  have hm := beq_iff_eq.mp hm
  have NI : Looks (model prog w) s.heap (fillsInplaceSlot (.ref C) op.info.2 (op == .Add)) false := no_inplace X h2 hi ho
  have one := ksp_try X I hs hf h
  obtain ⟨hh, g, d, tt, os⟩ := s
  have L1 : Looks (model prog w) hh (typeOf (.ref x)) (.ref C) := I.type
  have L2 : Looks (model prog w) hh (typeOf b) (.type T) := Looks.of_pure hb
  have L3 : Looks (model prog w) hh (fillsNumberSlot (.ref C) op.info.2) true := fills_K X hcd hm hs
  have L4 : Looks (model prog w) hh (fillsNumberSlot (.type T) op.info.2) ((fo.isSome && !isSeqSlot fo) || (ro.isSome && !isSeqSlot ro)) := ksp_fillsT X h1 hro
  have L5 : Looks (model prog w) hh (isSubtype (.type T) (.ref C)) false := looks_subIn X hsub
  have L6 : Looks (model prog w) hh (numberSlotInPython (.ref C) op.info.2) true := ksp_inPy X hs hr hp
  have L7 : Looks (model prog w) hh (numberSlotInPython (.type T) op.info.2) false := Looks.of_pure rfl
  have L8 : Looks (model prog w) hh (typeLookup (.type T) (dunderR op.info.2)) ro := looks_findIn X hro
  generalize ((fo.isSome && !isSeqSlot fo) || (ro.isSome && !isSeqSlot ro)) = right at L4
  have hne : (Value.ref C == Value.type T) = false := Bool.eq_false_iff.mpr fun q => by cases beq_iff_eq.mp q
  unfold inplaceOp
  refine wpAny_holding (wpAny_bind (L1.at (wpAny_bind (NI.at ?_))))
  simp only [Bool.false_eq_true, if_false]
  refine wpAny_bind ?_
  unfold binaryOp1
  refine wpAny_bind (L1.at (wpAny_bind (L2.at (wpAny_bind (L3.at ?_)))))
  simp only [hne, Bool.false_eq_true, if_false]
  cases right with
  | false =>
    ksp_lk
    refine wpAny_mono one (fun r s' hr' => ?_) fun _ _ e => e
    obtain ⟨v, rfl, hq⟩ := hr'
    ksp_lk
    exact hq
  | true =>
    ksp_lk
    refine wpAny_mono one (fun r s' hr' => ?_) fun _ _ e => e
    obtain ⟨v, rfl, hq⟩ := hr'
    ksp_lk
    exact hq
end
end LibOp
/-! ### what of the text the operators ask -/
/-- a class with its own op -/
structure BinOkC (prog : Program) (w : World) (K : PySem.W.Frag) (mg : Str → Option Value) (base : Heap) (j : Nat) (op : Operator) (C : Addr) (c : DC) : Prop where
  ex : ∃ (f : Addr) (k : Nat), Meth K C (PySem.dunder op.info.2) f ∧ FnP prog w K mg base k f (spD K c) ∧ k ≤ j
  two : LibOp.twoUp K C = true
  rr : PySem.W.findIn K (.ref C) (dunderR op.info.2) = some none
  ii : PySem.W.findIn K (.ref C) (dunderI op.info.2) = some none
  oi : PySem.W.findIn K (.type "object") (dunderI op.info.2) = some none
  i1 : ∃ fo, PySem.W.findIn K (.type "int") (PySem.dunder op.info.2) = some fo
  i2 : ∃ ro, PySem.W.findIn K (.type "int") (dunderR op.info.2) = some ro
  is : PySem.W.subIn K (.type "int") (.ref C) = some false
abbrev BinOk (X : Cx) (j : Nat) (op : Operator) (C : Addr) (c : DC) : Prop := BinOkC X.prog X.w X.K X.mg X.base j op C c
def BinsOk (X : Cx) (j : Nat) (op : Operator) : List (Addr × DC) → Prop
  | [] => True
  | p :: r => BinOk X j op p.1 p.2 ∧ BinsOk X j op r
theorem BinsOk.sel {X : Cx} {j : Nat} {op : Operator} {C : Addr} {f : DC → Prop} : ∀ {own : List (Addr × DC)}, BinsOk X j op own → ownSel own C f → ∃ c, BinOk X j op C c ∧ f c
  | [], _, h => h.elim
  | p :: r, a, h => by
    rcases h with ⟨rfl, h⟩ | h
    · exact ⟨p.2, a.1, h⟩
    · exact BinsOk.sel a.2 h
theorem two_first {K : PySem.W.Frag} {C : Addr} (h : LibOp.twoUp K C = true) : PySem.W.selfFirst K C = true := by
  obtain ⟨cd, hcd, hm⟩ := PySem.W.any_some h
  have hm := beq_iff_eq.mp hm
  unfold PySem.W.selfFirst
  rw [hcd]
  show (cd.mro.head? == some (.ref C)) = true
  rw [hm]
  exact beq_self_eq_true _
/-- the right operand: of the same class, or an int -/
def YOk (H : Hp) (C : Addr) (y : V) : Prop := (∃ b dy gs, y = .ref b ∧ H b = some (.ins C dy gs)) ∨ ∃ i, y = .int i
def rOwnA (X : Cx) (j : Nat) (op : Operator) : R2 := fun x y H Q => ∃ a C dx fs c, x = .ref a ∧ H a = some (.ins C dx fs) ∧ BinOk X j op C c ∧ YOk H C y ∧ spD X.K c [x, y] H Q E0
section
variable {X : Cx} {j : Nat} {op : Operator}
theorem ins_at {pins : List (Addr × Obj)} {σ : L2.St} {H : Hp} {s : Shared} {a C dx : Addr} {fs : List (Str × V)} (I : Inv X pins σ H s) (e : H a = some (.ins C dx fs)) : ∃ od, PySem.W.InstAt s.heap a (PySem.W.instObj C dx) C (some od) := by
  obtain ⟨mA, O, _⟩ := ins_get I.hok e
  obtain ⟨od, J, _⟩ := O.look
  exact ⟨od, J⟩
theorem op_ownA (st : Stand X j) : OpR X (binaryOp op) (rOwnA X j op) := by
  rintro pins s σ H x y v u Q I rx ry ⟨a, C, dx, fs, c, rfl, ea, ⟨⟨f, k, h1, h2, h3⟩, two, rr, ii, oi, ⟨fo, i1⟩, ⟨ro, i2⟩, is⟩, yo, q⟩
  cases (show v = Value.ref a from rx)
  obtain ⟨od, J⟩ := ins_at I ea
  obtain ⟨m, hF⟩ := I.fr
  have run := h2.run (us := [.ref a, u]) (vs := [.ref a, y]) (st.room.mono h3) st.gd I (.cons rfl (.cons ry .nil)) q
  rcases yo with ⟨b, dy, gs, rfl, eb⟩ | ⟨i, rfl⟩
  · cases (show u = Value.ref b from ry)
    obtain ⟨od', J'⟩ := ins_at I eb
    refine PySem.W.binop_K hF I.ok.mod.kin J J'.type (two_first two) h1.at_ h1.fn (wpAny_mono run (fun w s' z => ?_) fun _ _ x => x)
    obtain ⟨z', H', I', rz, qz⟩ := z
    exact SlX.cmpback rz ⟨z', H', I', rz, qz⟩
  · obtain ⟨t, rfl⟩ := (show ∃ t, u = Value.int i t from ry)
    refine PySem.W.ksp_binT (T := "int") hF I.ok.mod.kin J rfl (two_first two) h1.at_ h1.fn rr (.inl rfl) i1 i2 is (wpAny_mono run (fun w s' z => ?_) fun _ _ x => x)
    obtain ⟨z', H', I', rz, qz⟩ := z
    exact SlX.cmpback rz ⟨z', H', I', rz, qz⟩
theorem in_ownA (st : Stand X j) : InOp X op (rOwnA X j op) := by
  rintro pins s σ H x y v u Q I rx ry ⟨a, C, dx, fs, c, rfl, ea, ⟨⟨f, k, h1, h2, h3⟩, two, rr, ii, oi, ⟨fo, i1⟩, ⟨ro, i2⟩, is⟩, yo, q⟩
  cases (show v = Value.ref a from rx)
  obtain ⟨od, J⟩ := ins_at I ea
  have run := h2.run (us := [.ref a, u]) (vs := [.ref a, y]) (st.room.mono h3) st.gd I (.cons rfl (.cons ry .nil)) q
  rcases yo with ⟨b, dy, gs, rfl, eb⟩ | ⟨i, rfl⟩
  · cases (show u = Value.ref b from ry)
    obtain ⟨od', J'⟩ := ins_at I eb
    refine LibOp.ip_K I.kIn J J'.type two ii oi h1.at_ h1.fn (wpAny_mono run (fun w s' z => ?_) fun _ _ x => x)
    obtain ⟨z', H', I', rz, qz⟩ := z
    exact SlX.cmpback rz ⟨z', H', I', rz, qz⟩
  · obtain ⟨t, rfl⟩ := (show ∃ t, u = Value.int i t from ry)
    refine LibOp.ip_T (T := "int") I.kIn J rfl two ii oi h1.at_ h1.fn rr (.inl rfl) i1 i2 is (wpAny_mono run (fun w s' z => ?_) fun _ _ x => x)
    obtain ⟨z', H', I', rz, qz⟩ := z
    exact SlX.cmpback rz ⟨z', H', I', rz, qz⟩
end
end DL
namespace DL
open PySem PySem.Spec PyProof.Rows L2
/-! ### operators of own classes, over data -/
def yOk (C : Addr) (y : D) : Prop := match y with
  | .ins C' _ => C' = C
  | .int _ => True
  | _ => False
theorem yOk.v {W : Wd} {F H : Hp} {v : V} {C : Addr} {y : D} (w : Same F H) (h : yOk C y) (r : RB W F H v y) : YOk H C v ∧ Rep W.K W.pa F v y := by
  cases y <;> try exact False.elim h
  case int i =>
    have := r.int
    subst this
    exact ⟨.inr ⟨i, rfl⟩, .int i⟩
  case ins C' gs =>
    have h : C' = C := h
    subst h
    obtain ⟨a, dx, fs, rfl, e1, _, ri⟩ := r.ins w
    exact ⟨.inl ⟨a, dx, fs, rfl, e1⟩, ri⟩
/-- an operator by data, or by an own class's def -/
def kBinO (own : List (Addr × DC)) (op : D2) (ka kb : KE) : KE := fun S n Q => ka S n fun x S1 n1 => kb S1 n1 fun y S2 n2 => match x with
  | .ins C _ => yOk C y ∧ ownSel own C fun c => c [x, y] n2 fun d n3 => Q d S2 n3
  | _ => op x y fun d => Q d S2 n2
section
variable {X : Cx} {j : Nat} {op : Operator} {own : List (Addr × DC)} {a b e : Expr} {ta tb te : TE} {ka kb k : KE} {r : R2} {dop : D2} {pos : Pos}
theorem binO_ok (st : Stand X j) (hd : DOp X r dop) (hm : BinsOk X j op own) (ha : SpB X.K ta ka) (hb : SpB X.K tb kb) : SpE X.K (tOp (fun x y H Q => r x y H Q ∨ rOwnA X j op x y H Q) ta tb) (kBinO own dop ka kb) := by
  intro W F n S σ H Q R hK A q fin
  refine ha W F n S σ H _ _ hK A q fun x H1 F1 n1 S1 d1 g1 A1 r1 q1 => ?_
  refine hb W F1 n1 S1 σ H1 _ _ hK A1 q1 fun y H2 F2 n2 S2 d2 g2 A2 r2 q2 => ?_
  have other : dop d1 d2 (fun d => Q d S2 n2) → r x y H2 R := fun q2 => hd W F2 H2 n2 x y d1 d2 _ _ hK A2.w (r1.grow g2) r2 q2 fun v F3 H3 d g3 r3 q3 => fin v H3 F3 n2 S2 d ((g1.trans g2).trans g3.grow) (A2.new g3) r3 q3
  cases d1 with
  | ins C gs =>
    obtain ⟨q2, q3⟩ := q2
    obtain ⟨c, hc, q4⟩ := hm.sel q3
    obtain ⟨a, dx, fs, rfl, e1, rf, ri⟩ := (r1.grow g2).ins A2.w.sub
    obtain ⟨y1, y2⟩ := q2.v A2.w.sub r2
    refine .inr ⟨a, C, dx, fs, c, rfl, e1, hc, y1, ?_⟩
    rw [← hK]
    exact spD_call A2 (.cons ri (.cons y2 .nil)) q4 fun v H3 F3 n3 d g3 A3 r3 q5 => fin v H3 F3 n3 S2 d ((g1.trans g2).trans g3) A3 r3 q5
  | _ => exact .inl (other q2)
theorem de_binO (st : Stand X j) (ho : OpR X (binaryOp op) r) (hd : DOp X r dop) (hm : BinsOk X j op own) (ha : DB X a ta ka) (hb : DB X b tb kb) :
    DE X (.BinOp a op b pos) (tOp (fun x y H Q => r x y H Q ∨ rOwnA X j op x y H Q) ta tb) (kBinO own dop ka kb) := ⟨pe_op (ho.or (op_ownA st)) ha.pe hb.pe, binO_ok st hd hm ha.ok hb.ok⟩
/-- ints times ints, great ones too -/
def dMulX : D2 := fun a b Q => match a, b with
  | .int i, .int j => (CMul i j ∨ CMulW i j) ∧ Q (.int (i * j))
  | _, _ => dMul a b Q
def rMulX (K : PySem.W.Frag) : R2 := fun x y H Q => rMulA K x y H Q ∨ rI CMulW (fun i j => .int (i * j)) x y H Q
theorem o_mulX : OpR X (binaryOp .Mult) (rMulX X.K) := o_mul.or op_mulW
theorem d_mulX : DOp X (rMulX X.K) dMulX := by
  intro W F H n x y a b Q R hK w ra rb q fin
  have old : dMul a b Q → rMulX X.K x y H R := fun q => .inl (d_mul W F H n x y a b Q R hK w ra rb q fin)
  cases a <;> cases b <;> try exact old q
  case int.int i j =>
    obtain ⟨q1 | q1, q2⟩ := q
    · exact old ⟨q1, q2⟩
    · exact .inr ⟨i, j, ra.int, rb.int, q1, fin _ F H _ (New.refl w.sub) (.int _) q2⟩
def dDivX : D2 := dInt (fun i j => i / j) fun i j => CDiv i j ∨ CDivW i j
def rDivX : R2 := fun x y H Q => rI CDiv (fun i j => .int (i / j)) x y H Q ∨ rI CDivW (fun i j => .int (i / j)) x y H Q
theorem o_divX : OpR X (binaryOp .FloorDiv) rDivX := op_fdiv.or op_fdivW
theorem d_divX : DOp X rDivX dDivX := by
  intro W F H n x y a b Q R hK w ra rb q fin
  cases a <;> cases b <;> try exact False.elim q
  case int.int i j =>
    obtain ⟨q1 | q1, q2⟩ := q
    · exact .inl ⟨i, j, ra.int, rb.int, q1, fin _ F H _ (New.refl w.sub) (.int _) q2⟩
    · exact .inr ⟨i, j, ra.int, rb.int, q1, fin _ F H _ (New.refl w.sub) (.int _) q2⟩
def dShl : D2 := dInt (fun i j => i * 2 ^ j.toNat) CPow
theorem d_shl : DOp X (rI CPow fun i j => .int (i * 2 ^ j.toNat)) dShl := d_int
def dShr : D2 := dInt (fun i j => i / 2 ^ j.toNat) fun _ j => 0 ≤ j
theorem d_shr : DOp X (rI (fun _ j => 0 ≤ j) fun i j => .int (i / 2 ^ j.toNat)) dShr := d_int
/-! ### x op= e -/
theorem InOp.or {r r' : R2} (h : InOp X op r) (h' : InOp X op r') : InOp X op (fun x y H Q => r x y H Q ∨ r' x y H Q) := fun pins s σ H x y u v Q I rx ry q => q.elim (h pins s σ H x y u v Q I rx ry) (h' pins s σ H x y u v Q I rx ry)
/-- x op= e, ints or an own class -/
def kAugO (own : List (Addr × DC)) (i : Nat) (f : Int → Int → Int) (k : KE) : KS := fun E S n => match S[i]? with
  | some (.val x) => k S n fun y S1 n1 => match x, y with
    | .int a, .int b => E.nx (S1.set i (.val (.int (f a b)))) n1
    | .ins C gs, y => yOk C y ∧ ownSel own C fun c => c [x, y] n1 fun d n2 => E.nx (S1.set i (.val d)) n2
    | _, _ => False
  | _ => False
theorem PIp.or {r r' : TIp} (h : PIp X op r) (h' : PIp X op r') : PIp X op (fun x y H Q => r x y H Q ∨ r' x y H Q) := fun pins s σ H x y u v Q I rx ry q => q.elim (h pins s σ H x y u v Q I rx ry) (h' pins s σ H x y u v Q I rx ry)
theorem ip_ownA (st : Stand X j) : PIp X op (rOwnA X j op) := fun pins s σ H x y u v Q I rx ry q => in_ownA st pins s σ H x y u v Q I rx ry q
theorem augO_ok {f : Int → Int → Int} (i : Nat) (st : Stand X j) (hm : BinsOk X j op own) (h : SpE X.K te k) : SpS X.K (tAug i te (fun x y H Q => ipI f x y H Q ∨ rOwnA X j op x y H Q)) (kAugO own i f k) := by
  intro W F n S σ H E R hK A q fin
  unfold kAugO at q
  cases e1 : S[i]? with
  | none => rw [e1] at q; exact q.elim
  | some s =>
    rw [e1] at q
    cases s with
    | no => exact q.elim
    | own _ => exact q.elim
    | obj _ _ _ => exact q.elim
    | val d =>
      obtain ⟨v, e2, ok⟩ := slot_of A e1
      cases v with
      | none => exact ok.elim
      | some v =>
        have ok : Rep W.K W.pa F v d := ok
        refine ⟨_, e2, h W F n S σ H _ _ hK A q fun w H1 F1 n1 S1 d2 g1 A1 r q1 => ?_⟩
        have ok1 := Rep.mono g1.f ok
        cases d with
        | int a =>
          cases d2 with
          | int b =>
            cases r
            cases ok
            exact .inl ⟨a, b, rfl, rfl, fin.nx F1 n1 _ _ H1 g1.f (A1.set (.int _) i) q1⟩
          | _ => exact False.elim q1
        | ins C gs =>
          have q1 : yOk C d2 ∧ ownSel own C fun c => c [.ins C gs, d2] n1 fun d n2 => E.nx (S1.set i (.val d)) n2 := by cases d2 <;> exact q1
          obtain ⟨q2, q3⟩ := q1
          obtain ⟨c, hc, q4⟩ := hm.sel q3
          obtain ⟨a, dx, fs, rfl, ea, rf, ri⟩ := RB.ins A1.w.sub (.inl ok1)
          obtain ⟨y1, y2⟩ := q2.v A1.w.sub (.inl r)
          refine .inr ⟨a, C, dx, fs, c, rfl, ea, hc, y1, ?_⟩
          rw [← hK]
          exact spD_call A1 (.cons ri (.cons y2 .nil)) q4 fun v H3 F3 n3 d g3 A3 r3 q5 => fin.nx F3 n3 _ _ H3 (g1.f.trans g3.f) (A3.set r3 i) q5
        | _ => cases d2 <;> exact False.elim q1
theorem ds_augO {st : Stmt} {f : Int → Int → Int} (i : Nat) (sd : Stand X j) (hi : PIp X op (ipI f)) (hm : BinsOk X j op own) (h : DE X e te k)
    (hp : PE X e te → PIp X op (fun x y H Q => ipI f x y H Q ∨ rOwnA X j op x y H Q) → PS X st (tAug i te (fun x y H Q => ipI f x y H Q ∨ rOwnA X j op x y H Q))) :
    DS X st (tAug i te (fun x y H Q => ipI f x y H Q ∨ rOwnA X j op x y H Q)) (kAugO own i f k) := ⟨hp h.pe (PIp.or hi (ip_ownA sd)), augO_ok i sd hm h.ok⟩
/-- no ints at all -/
theorem ip_none {f : Int → Int → Int} : PIp X op (fun _ _ _ _ => False) := fun _ _ _ _ _ _ _ _ _ _ _ _ q => q.elim
/-! ### -x, ~x -/
structure UnOkC (prog : Program) (w : World) (K : PySem.W.Frag) (mg : Str → Option Value) (base : Heap) (j : Nat) (m : Str) (C : Addr) (c : DC) : Prop where
  ex : ∃ (f : Addr) (k : Nat), Meth K C m f ∧ FnP prog w K mg base k f (spD K c) ∧ k ≤ j
abbrev UnOk (X : Cx) (j : Nat) (m : Str) (C : Addr) (c : DC) : Prop := UnOkC X.prog X.w X.K X.mg X.base j m C c
def UnsOk (X : Cx) (j : Nat) (m : Str) : List (Addr × DC) → Prop
  | [] => True
  | p :: r => UnOk X j m p.1 p.2 ∧ UnsOk X j m r
theorem UnsOk.sel {X : Cx} {j : Nat} {m : Str} {C : Addr} {f : DC → Prop} : ∀ {own : List (Addr × DC)}, UnsOk X j m own → ownSel own C f → ∃ c, UnOk X j m C c ∧ f c
  | [], _, h => h.elim
  | p :: r, a, h => by
    rcases h with ⟨rfl, h⟩ | h
    · exact ⟨p.2, a.1, h⟩
    · exact UnsOk.sel a.2 h
def rOwnU (X : Cx) (j : Nat) (m : Str) : V → Hp → VK → Prop := fun x H Q => ∃ a C dx fs c, x = .ref a ∧ H a = some (.ins C dx fs) ∧ UnOk X j m C c ∧ spD X.K c [x] H Q E0
theorem un_negO (st : Stand X j) : UnR X (unaryOp .USub) (rOwnU X j "__neg__") := by
  rintro pins s σ H x v Q I rx ⟨a, C, dx, fs, c, rfl, ea, ⟨f, k, h1, h2, h3⟩, q⟩
  cases (show v = Value.ref a from rx)
  obtain ⟨od, J⟩ := ins_at I ea
  obtain ⟨m, hF⟩ := I.fr
  exact PySem.W.ksp_neg hF I.ok.mod.kin J h1.at_ h1.fn (h2.run (us := [.ref a]) (vs := [.ref a]) (st.room.mono h3) st.gd I (.cons rfl .nil) q)
theorem un_invO (st : Stand X j) : UnR X (unaryOp .Invert) (rOwnU X j "__invert__") := by
  rintro pins s σ H x v Q I rx ⟨a, C, dx, fs, c, rfl, ea, ⟨f, k, h1, h2, h3⟩, q⟩
  cases (show v = Value.ref a from rx)
  obtain ⟨od, J⟩ := ins_at I ea
  obtain ⟨m, hF⟩ := I.fr
  exact PySem.W.ksp_inv hF I.ok.mod.kin J h1.at_ h1.fn (h2.run (us := [.ref a]) (vs := [.ref a]) (st.room.mono h3) st.gd I (.cons rfl .nil) q)
theorem UnR.or {g : Value → Sem Value} {r r' : V → Hp → VK → Prop} (h : UnR X g r) (h' : UnR X g r') : UnR X g (fun x H Q => r x H Q ∨ r' x H Q) := fun pins s σ H x v Q I rx q => q.elim (h pins s σ H x v Q I rx) (h' pins s σ H x v Q I rx)
def kUnO (own : List (Addr × DC)) (op : D1) (ka : KE) : KE := fun S n Q => ka S n fun x S1 n1 => match x with
  | .ins C _ => ownSel own C fun c => c [x] n1 fun d n2 => Q d S1 n2
  | _ => op x fun d => Q d S1 n1
theorem de_unO {uop : UnaryOp} {m : Str} {r : V → Hp → VK → Prop} {dop : D1} (hr : UnR X (unaryOp uop) r) (hd : DUn X r dop) (ho : UnR X (unaryOp uop) (rOwnU X j m)) (hm : UnsOk X j m own) (ha : DB X a ta ka) :
    DE X (.UnaryOp uop a pos) (tUn (fun x H Q => r x H Q ∨ rOwnU X j m x H Q) ta) (kUnO own dop ka) := by
  refine ⟨pe_un (UnR.or hr ho) ha.pe, fun W F n S σ H Q R hK A q fin => ?_⟩
  refine ha.ok W F n S σ H _ _ hK A q fun x H1 F1 n1 S1 d1 g1 A1 r1 q1 => ?_
  have other : dop d1 (fun d => Q d S1 n1) → r x H1 R := fun q2 => hd W F1 H1 n1 x d1 _ _ hK A1.w r1 q2 fun v F3 H3 d g3 r3 q3 => fin v H3 F3 n1 S1 d (g1.trans g3.grow) (A1.new g3) r3 q3
  cases d1 with
  | ins C gs =>
    obtain ⟨c, hc, q4⟩ := hm.sel q1
    obtain ⟨a, dx, fs, rfl, e1, rf, ri⟩ := r1.ins A1.w.sub
    refine .inr ⟨a, C, dx, fs, c, rfl, e1, hc, ?_⟩
    rw [← hK]
    exact spD_call A1 (.cons ri .nil) q4 fun v H3 F3 n3 d g3 A3 r3 q5 => fin v H3 F3 n3 S1 d (g1.trans g3) A3 r3 q5
  | _ => exact .inl (other q1)
end
end DL
namespace DL
open PySem PySem.Spec PyProof.Rows L2
/-! ### types of data; isinstance of own classes -/
structure InsTy (K : PySem.W.Frag) (C : Addr) : Prop where
  cl : Cls K C
  ha : PySem.W.findIn K (.ref C) "__class__" = some (some (.builtin "object.__class__"))
  hn : PySem.W.specialIn K (.builtin "object.__class__") "__get__" = some (some (.builtin "getset_descriptor.__get__"))
  htk : PySem.W.takesIn K (.builtin "object.__class__") = some true
  hm : PySem.W.mroIn K C (.type "object") = some true
abbrev bltns : List String := ["NoneType", "bool", "int", "str", "tuple", "list"]
theorem tyn_in {d : D} (h : d.tyn ≠ "") : d.tyn ∈ bltns := by cases d <;> first | exact absurd rfl h | (show _ ∈ ["NoneType", "bool", "int", "str", "tuple", "list"]; simp [D.tyn])
def isSel : List (Addr × Bool) → Addr → (Bool → Prop) → Prop
  | [], _, _ => False
  | p :: r, C, f => (p.1 = C ∧ f p.2) ∨ isSel r C f
def RelOk (K : PySem.W.Frag) (B : Addr) : List (Addr × Bool) → Prop
  | [] => True
  | p :: r => (InsTy K p.1 ∧ PySem.W.kitOne K (.ref p.1) (.ref B) = some p.2) ∧ RelOk K B r
theorem RelOk.sel {K : PySem.W.Frag} {B C : Addr} {f : Bool → Prop} : ∀ {rel : List (Addr × Bool)}, RelOk K B rel → isSel rel C f → ∃ b, InsTy K C ∧ PySem.W.kitOne K (.ref C) (.ref B) = some b ∧ f b
  | [], _, h => h.elim
  | p :: r, a, h => by
    rcases h with ⟨rfl, h⟩ | h
    · exact ⟨p.2, a.1.1, a.1.2, h⟩
    · exact RelOk.sel a.2 h
/-- no built-in class is below an own one -/
def OutOk (K : PySem.W.Frag) (B : Addr) : Prop := ∀ T ∈ bltns, PySem.W.kitOne K (.type T) (.ref B) = some false
def kIsiC (rel : List (Addr × Bool)) (k : KE) : KE := fun S n Q => k S n fun d S1 n1 => match d with
  | .ins C _ => isSel rel C fun b => Q (.bl b) S1 n1
  | _ => d.tyn ≠ "" ∧ Q (.bl false) S1 n1
section
variable {X : Cx} {e ec : Expr} {t : TE} {k : KE} {pos p : Pos} {B : Addr} {rel : List (Addr × Bool)}
theorem InsTy.x {K : PySem.W.Frag} {H : Hp} {a C dx : Addr} {fs : List (Str × V)} (h : InsTy K C) (e : H a = some (.ins C dx fs)) : TyX K H (.ref a) (.ref C) := .base (.ins e h.cl h.ha h.hn h.htk h.hm)
theorem isiC_ok {tc : TE} (hr : RelOk X.K B rel) (ho : OutOk X.K B) (h : SpB X.K t k) : SpE X.K (tCB (rIsi X.K) (tCons t (tCons (tC (.ref B)) tNil))) (kIsiC rel k) := by
  intro W F n S σ H Q R hK A q fin
  refine h W F n S σ H _ _ hK A q fun v H1 F1 n1 S1 d g1 A1 r1 q1 => ?_
  have other : d.tyn ≠ "" ∧ Q (.bl false) S1 n1 → rIsi X.K [v, .ref B] H1 R := fun ⟨h1, h2⟩ =>
    ⟨v, .ref B, .type d.tyn, .ref B, false, rfl, .own B, hK ▸ rb_ty A1.w.sub r1 h1, ho _ (tyn_in h1), fin _ H1 F1 n1 S1 _ g1 A1 (.bl false) h2⟩
  cases d with
  | ins C gs =>
    obtain ⟨b, h1, h2, h3⟩ := hr.sel q1
    obtain ⟨a, dx, fs, rfl, e1, rf, ri⟩ := r1.ins A1.w.sub
    exact ⟨.ref a, .ref B, .ref C, .ref B, b, rfl, .own B, h1.x e1, h2, fin _ H1 F1 n1 S1 _ g1 A1 (.bl b) h3⟩
  | _ => exact other q1
theorem de_isiC (hm : X.mg "isinstance" = none) (hr : RelOk X.K B rel) (ho : OutOk X.K B) (h : DB X e t k) (hc : PE X ec (tC (.ref B)))
    (hs : starEach [e, ec] X.env = (false, eval e X.env) :: starEach [ec] X.env := by rfl) (hs2 : starEach [ec] X.env = (false, eval ec X.env) :: starEach [] X.env := by rfl)
    (hp : ∀ {t}, X.mg "isinstance" = none → PA X [e, ec] t → PE X (.Call (.Name "isinstance" p) [e, ec] [] pos) (tCB (rIsi X.K) t) := by intro _ b c; exact pe_callB call_isi (by exact rfl) b (by decide +kernel) c) :
    DE X (.Call (.Name "isinstance" p) [e, ec] [] pos) (tCB (rIsi X.K) (tCons t (tCons (tC (.ref B)) tNil))) (kIsiC rel k) :=
  ⟨hp hm (pa_cons h.pe (pa_cons hc pa_nil hs2) hs), isiC_ok (tc := t) hr ho h.ok⟩
end
/-! ### == and != by an own __eq__ -/
structure EqOkC (prog : Program) (w : World) (K : PySem.W.Frag) (mg : Str → Option Value) (base : Heap) (j : Nat) (C : Addr) (c : DC) : Prop where
  ex : ∃ (f : Addr) (k : Nat), Meth K C "__eq__" f ∧ FnP prog w K mg base k f (spD K c) ∧ k + 1 ≤ j
  ne : PySem.W.findIn K (.ref C) "__ne__" = some (some (.builtin "object.__ne__"))
  ob : PySem.W.subIn K (.ref C) (.type "object") = some true
  nf : ∀ T ∈ bltns, PySem.W.subIn K (.type T) (.ref C) = some false
  ty : InsTy K C
abbrev EqOk (X : Cx) (j : Nat) (C : Addr) (c : DC) : Prop := EqOkC X.prog X.w X.K X.mg X.base j C c
def EqsOk (X : Cx) (j : Nat) : List (Addr × DC) → Prop
  | [] => True
  | p :: r => EqOk X j p.1 p.2 ∧ EqsOk X j r
theorem EqsOk.sel {X : Cx} {j : Nat} {C : Addr} {f : DC → Prop} : ∀ {own : List (Addr × DC)}, EqsOk X j own → ownSel own C f → ∃ c, EqOk X j C c ∧ f c
  | [], _, h => h.elim
  | p :: r, a, h => by
    rcases h with ⟨rfl, h⟩ | h
    · exact ⟨p.2, a.1, h⟩
    · exact EqsOk.sel a.2 h
def rOwnEq (X : Cx) (j : Nat) (f : Bool → Bool) : R2 := fun x y H Q => ∃ a C dx fs c t, x = .ref a ∧ H a = some (.ins C dx fs) ∧ EqOk X j C c ∧ TyX X.K H y t ∧ PySem.W.notFirst X.K C t = true ∧ spD X.K c [x, y] H (fun z H' => ∃ b, z = .bl b ∧ Q (.bl (f b)) H') E0
section
variable {X : Cx} {j : Nat} {own : List (Addr × DC)} {a b : Expr} {ta tb : TE} {ka kb : KE} {r : R2} {dop : D2} {pos : Pos}
theorem op_eqO (st : Stand X j) : OpR X (compareOp .Eq) (rOwnEq X j id) := by
  rintro pins s σ H x y v u Q I rx ry ⟨a, C, dx, fs, c, t, rfl, ea, ⟨⟨f, k, h1, h2, h3⟩, ne, ob, nf, ty⟩, ty2, nfi, q⟩
  cases (show v = Value.ref a from rx)
  obtain ⟨od, J⟩ := ins_at I ea
  obtain ⟨m, hF⟩ := I.fr
  obtain ⟨Pz, kz, pz, _⟩ := kit_of I ry ty2
  show wpAny _ _ (richCompare .Eq _ _) _ _ _
  refine PySem.W.cmp_K (op := .Eq) (tb := t) st.room.units0 hF I.ok.mod.kin J (kz.ty _ _ I.kIn pz) nfi h1.at_ h1.fn ?_
  refine wpAny_mono (h2.run (us := [.ref a, u]) (vs := [.ref a, y]) (st.room.mono (by omega)) st.gd I (.cons rfl (.cons ry .nil)) q) (fun w s' z => ?_) fun _ _ x => x
  obtain ⟨z', H', I', rz, b, eb, qz⟩ := z
  subst eb
  exact SlX.cmpback rz ⟨.bl b, H', I', rz, qz⟩
theorem op_neO (st : Stand X j) : OpR X (compareOp .NotEq) (rOwnEq X j Bool.not) := by
  rintro pins s σ H x y v u Q I rx ry ⟨a, C, dx, fs, c, t, rfl, ea, ⟨⟨f, k, h1, h2, h3⟩, ne, ob, nf, ty⟩, ty2, nfi, q⟩
  cases (show v = Value.ref a from rx)
  obtain ⟨od, J⟩ := ins_at I ea
  obtain ⟨Pz, kz, pz, _⟩ := kit_of I ry ty2
  have hr : Room k X.A.in1 := Room.in1 (st.room.mono h3)
  show wpAny _ _ (richCompare .NotEq _ _) _ _ _
  refine LibOp.ne_K (tb := t) (Nat.lt_of_le_of_lt (Nat.add_le_add_left (by decide : 1 ≤ 64) _) st.room.units) I.kIn J (kz.ty _ _ I.kIn pz) nfi ne ob h1.at_ h1.fn ?_
  refine wpAny_mono (h2.go (us := [.ref a, u]) (vs := [.ref a, y]) hr st.gd I.env0.in1 I (.cons rfl (.cons ry .nil)) q) (fun w s' z => ?_) fun _ _ x => x
  obtain ⟨z', H', I', rz, b, eb, qz⟩ := z
  subst eb
  cases (show w = Value.bool b from rz)
  exact ⟨b, rfl, .bl (!b), H', I', rfl, qz⟩
/-- the right side of == with an instance: one of its class, or built-in data -/
def eqY (C : Addr) (y : D) : Prop := match y with
  | .ins C' _ => C' = C
  | _ => y.tyn ≠ ""
def kEqO (own : List (Addr × DC)) (f : Bool → Bool) (op : D2) (ka kb : KE) : KE := fun S n Q => ka S n fun x S1 n1 => kb S1 n1 fun y S2 n2 => match x with
  | .ins C _ => eqY C y ∧ ownSel own C fun c => c [x, y] n2 fun d n3 => match d with
    | .bl b => Q (.bl (f b)) S2 n3
    | _ => False
  | _ => op x y fun d => Q d S2 n2
theorem eqO_ok {f : Bool → Bool} (hd : DOp X r dop) (hm : EqsOk X j own) (ha : SpB X.K ta ka) (hb : SpE X.K tb kb) : SpE X.K (tOp (fun x y H Q => r x y H Q ∨ rOwnEq X j f x y H Q) ta tb) (kEqO own f dop ka kb) := by
  intro W F n S σ H Q R hK A q fin
  refine ha W F n S σ H _ _ hK A q fun x H1 F1 n1 S1 d1 g1 A1 r1 q1 => ?_
  refine hb W F1 n1 S1 σ H1 _ _ hK A1 q1 fun y H2 F2 n2 S2 d2 g2 A2 r2 q2 => ?_
  have other : dop d1 d2 (fun d => Q d S2 n2) → r x y H2 R := fun q2 => hd W F2 H2 n2 x y d1 d2 _ _ hK A2.w (r1.grow g2) (.inl r2) q2 fun v F3 H3 d g3 r3 q3 => fin v H3 F3 n2 S2 d ((g1.trans g2).trans g3.grow) (A2.new g3) r3 q3
  cases d1 with
  | ins C gs =>
    obtain ⟨q2, q3⟩ := q2
    obtain ⟨c, hc, q4⟩ := hm.sel q3
    obtain ⟨a, dx, fs, rfl, e1, rf, ri⟩ := (r1.grow g2).ins A2.w.sub
    have ty : ∃ t, TyX X.K H2 y t ∧ PySem.W.notFirst X.K C t = true := by
      have bl : d2.tyn ≠ "" → ∃ t, TyX X.K H2 y t ∧ PySem.W.notFirst X.K C t = true := fun h => ⟨_, hK ▸ rb_ty A2.w.sub (.inl r2) h, by
        unfold PySem.W.notFirst
        rw [hc.nf _ (tyn_in h)]
        exact Bool.or_true _⟩
      cases d2 with
      | ins C' gs' =>
        have e : C' = C := q2
        subst e
        obtain ⟨b, dy, fs', rfl, e2, _, _⟩ := RB.ins A2.w.sub (.inl r2)
        exact ⟨_, hc.ty.x e2, by unfold PySem.W.notFirst; rw [beq_self_eq_true]; rfl⟩
      | _ => exact bl q2
    obtain ⟨t, t1, t2⟩ := ty
    refine .inr ⟨a, C, dx, fs, c, t, rfl, e1, hc, t1, t2, ?_⟩
    rw [← hK]
    refine spD_call A2 (.cons ri (.cons r2 .nil)) q4 fun v H3 F3 n3 d g3 A3 r3 q5 => ?_
    cases d <;> try exact False.elim q5
    case bl b =>
      cases r3
      exact ⟨b, rfl, fin _ H3 F3 n3 S2 _ ((g1.trans g2).trans g3) A3 (.bl _) q5⟩
  | _ => exact .inl (other q2)
theorem de_eqO (st : Stand X j) (ho : OpR X (compareOp .Eq) r) (hd : DOp X r dop) (hm : EqsOk X j own) (ha : DB X a ta ka) (hb : DE X b tb kb) (hk : behindInMarks .Eq b = false) :
    DE X (.Compare a [.Eq] [b] pos) (tOp (fun x y H Q => r x y H Q ∨ rOwnEq X j id x y H Q) ta tb) (kEqO own id dop ka kb) := ⟨pe_cmpR (ho.or (op_eqO st)) ha.pe hb.pe hk, eqO_ok hd hm ha.ok hb.ok⟩
theorem de_neO (st : Stand X j) (ho : OpR X (compareOp .NotEq) r) (hd : DOp X r dop) (hm : EqsOk X j own) (ha : DB X a ta ka) (hb : DE X b tb kb) (hk : behindInMarks .NotEq b = false) :
    DE X (.Compare a [.NotEq] [b] pos) (tOp (fun x y H Q => r x y H Q ∨ rOwnEq X j Bool.not x y H Q) ta tb) (kEqO own Bool.not dop ka kb) := ⟨pe_cmpR (ho.or (op_neO st)) ha.pe hb.pe hk, eqO_ok hd hm ha.ok hb.ok⟩
theorem dt_eqO (st : Stand X j) (ho : OpR X (compareOp .Eq) r) (hd : DOp X r dop) (hm : EqsOk X j own) (ha : DB X a ta ka) (hb : DE X b tb kb) (hk : behindInMarks .Eq b = false) :
    DT X (.Compare a [.Eq] [b] pos) (tTest (tOp (fun x y H Q => r x y H Q ∨ rOwnEq X j id x y H Q) ta tb)) (kTest (kEqO own id dop ka kb)) := ⟨pt_cmpR (ho.or (op_eqO st)) ha.pe hb.pe hk, test_ok (eqO_ok hd hm ha.ok hb.ok)⟩
theorem dt_neO (st : Stand X j) (ho : OpR X (compareOp .NotEq) r) (hd : DOp X r dop) (hm : EqsOk X j own) (ha : DB X a ta ka) (hb : DE X b tb kb) (hk : behindInMarks .NotEq b = false) :
    DT X (.Compare a [.NotEq] [b] pos) (tTest (tOp (fun x y H Q => r x y H Q ∨ rOwnEq X j Bool.not x y H Q) ta tb)) (kTest (kEqO own Bool.not dop ka kb)) := ⟨pt_cmpR (ho.or (op_neO st)) ha.pe hb.pe hk, test_ok (eqO_ok hd hm ha.ok hb.ok)⟩
end
end DL
namespace DL
open PySem PySem.Spec PyProof.Rows L2
/-! ### static methods and classmethods, read off a class -/
structure SMetOkC (prog : Program) (w : World) (K : PySem.W.Frag) (mg : Str → Option Value) (base : Heap) (j : Nat) (C : Addr) (m : Str) (c : DC) : Prop where
  ex : ∃ (mc : Value) (p g : Addr) (k : Nat) (rest : List Value), ClX.CRead K C mc ∧ PySem.W.findCls K (.ref C) mc m = some (.get (.builtin "staticmethod.__get__") (.ref p) .none (.ref C)) ∧
    PySem.W.recIn K p "staticmethod" = some (.ref g :: rest) ∧ PySem.W.keepIn K (.ref g) = true ∧ FnP prog w K mg base k g (spD K c) ∧ k ≤ j
abbrev SMetOk (X : Cx) (j : Nat) (C : Addr) (m : Str) (c : DC) : Prop := SMetOkC X.prog X.w X.K X.mg X.base j C m c
structure CMetOkC (prog : Program) (w : World) (K : PySem.W.Frag) (mg : Str → Option Value) (base : Heap) (j : Nat) (C : Addr) (m : Str) (c : DC) : Prop where
  ex : ∃ (mc : Value) (p g : Addr) (k : Nat), ClX.CRead K C mc ∧ ClX.CMet K C mc m p g ∧ FnP prog w K mg base k g (spD K c) ∧ k ≤ j
abbrev CMetOk (X : Cx) (j : Nat) (C : Addr) (m : Str) (c : DC) : Prop := CMetOkC X.prog X.w X.K X.mg X.base j C m c
section
variable {X : Cx} {pins : List (Addr × Obj)} {σ : L2.St} {H : Hp} {s : Shared} {C p g : Addr} {mc : Value} {m : Str} {A : Around} {E : Value → Shared → Prop} {rest : List Value}
theorem getmethsm_ok {pl : Sem Bool} {Q : Value × List Value → Shared → Prop} (I : Inv X pins σ H s) (r : ClX.CRead X.K C mc) (hf : PySem.W.findCls X.K (.ref C) mc m = some (.get (.builtin "staticmethod.__get__") (.ref p) .none (.ref C)))
    (hp : PySem.W.recIn X.K p "staticmethod" = some (.ref g :: rest)) (h : ∀ s', Inv X pins σ H s' → Q (.ref g, []) s') : wpAny (model X.prog X.w) A (getMethod (.ref C) m pl) Q E s := by
  refine PySem.W.method_cls I.kIn r.ga (PySem.W.cls_bind I.kIn r.rd hf ?_)
  refine wpAny_call (PySem.W.sm_get (s := { s with toks := s.toks + 1 }) I.kIn hp (PySem.W.handed_on rfl ?_))
  exact h _ (I.tok _)
end
def tSMetA (X : Cx) (j : Nat) (C : Addr) (m : Str) (ta : TE) (t : TA) : TE := fun σ H Q => ta σ H fun x H1 => ∃ c, x = .ref C ∧ SMetOk X j C m c ∧ t σ H1 fun vs H2 => spD X.K c vs H2 Q E0
def tCMetA (X : Cx) (j : Nat) (C : Addr) (m : Str) (ta : TE) (t : TA) : TE := fun σ H Q => ta σ H fun x H1 => ∃ c, x = .ref C ∧ CMetOk X j C m c ∧ t σ H1 fun vs H2 => spD X.K c (.ref C :: vs) H2 Q E0
section
variable {X : Cx} {j : Nat} {C : Addr} {m : Str} {o e : Expr} {es : List Expr} {ta : TE} {t : TA} {apos pos : Pos} {c : DC}
theorem pe_smetA {pl : Sem Bool} (st : Stand X j) (he : PE X o ta) (ha : PA X (e :: es) t)
    (hst : starEach (e :: es) X.env = (false, eval e X.env) :: starEach es X.env := by rfl) (hpl : (backTo pos (starEach es X.env)).any (·.1) = false := by rfl)
    (ht : eval (.Call (.Attribute o m apos) (e :: es) [] pos) X.env = (do
      let ov ← eval o X.env
      standAt apos.atName
      let (f, first) ← holding [ov] (getMethod ov m pl)
      callWith pos f first (backTo pos (starEach (e :: es) X.env)) (backToKw pos (keywordEach [] X.env))) := by rfl) :
    PE X (.Call (.Attribute o m apos) (e :: es) [] pos) (tSMetA X j C m ta t) := by
  refine ⟨fun pins s σ H Q I h => ?_⟩
  refine PySem.W.methodCall_KW (pl := pl) (thn (he.run pins s σ H _ I h) fun u s1 ⟨x, H1, I1, rx, c, ex, ⟨mc, p, g, k, rest, r, hf, hp, hk, F, hj⟩, q⟩ => ?_) ht
  subst ex
  obtain rfl : u = Value.ref C := rx
  refine getmethsm_ok I1 r hf hp fun s2 I2 => ?_
  refine PySem.W.callWith_K (first := []) (h₀ := X.base) I2.ok.mod.kin hk (thn (ha.run pos pins s2 σ H1 _ I2 q) fun us s3 ⟨vs, H2, I3, rv, q2⟩ => ⟨I3.kIn, ?_⟩) hst hpl
  exact F.run (us := us) (vs := vs) (st.room.mono hj) st.gd I3 rv q2
theorem pe_cmetA {pl : Sem Bool} (st : Stand X j) (he : PE X o ta) (ha : PA X (e :: es) t)
    (hst : starEach (e :: es) X.env = (false, eval e X.env) :: starEach es X.env := by rfl) (hpl : (backTo pos (starEach es X.env)).any (·.1) = false := by rfl)
    (ht : eval (.Call (.Attribute o m apos) (e :: es) [] pos) X.env = (do
      let ov ← eval o X.env
      standAt apos.atName
      let (f, first) ← holding [ov] (getMethod ov m pl)
      callWith pos f first (backTo pos (starEach (e :: es) X.env)) (backToKw pos (keywordEach [] X.env))) := by rfl) :
    PE X (.Call (.Attribute o m apos) (e :: es) [] pos) (tCMetA X j C m ta t) := by
  refine ⟨fun pins s σ H Q I h => ?_⟩
  refine PySem.W.methodCall_KW (pl := pl) (thn (he.run pins s σ H _ I h) fun u s1 ⟨x, H1, I1, rx, c, ex, ⟨mc, p, g, k, r, cm, F, hj⟩, q⟩ => ?_) ht
  subst ex
  obtain rfl : u = Value.ref C := rx
  refine ClX.getmethcm_ok I1 r cm fun s2 I2 => ?_
  refine ClX.callwith_cm I2 (ClX.base_none I1 (Nat.le_refl _)) cm.fi (thn (ha.run pos _ s2 σ H1 _ I2 q) fun us s3 ⟨vs, H2, I3, rv, q2⟩ => ⟨⟨ClX.pin_at I3, I3.kIn⟩, ?_⟩) hst hpl
  have z : wpAny (model X.prog X.w) X.A (PySem.call (.ref s1.heap.objs.size) us) (EP X ((s1.heap.objs.size, PySem.W.methodObj (.ref g) (.ref C)) :: pins) σ Q) X.xe s3 :=
    wpAny_call (PySem.W.method_call (ClX.pin_at I3) (F.at_ (us := .ref C :: us) (vs := .ref C :: vs) (st.room.mono hj) st.gd I3.env0 I3 (.cons rfl rv) q2))
  exact thn z fun _ _ y => ClX.unpinE y
/-- C.m(..), m a static method -/
def kStat (C : Addr) (c : DC) (ko : KE) (ka : KA) : KE := fun S n Q => ko S n fun d S1 n1 => match d with
  | .ref C' => C' = C ∧ ka S1 n1 fun ds S2 n2 => c ds n2 fun r n3 => Q r S2 n3
  | _ => False
def kClsM (C : Addr) (c : DC) (ko : KE) (ka : KA) : KE := fun S n Q => ko S n fun d S1 n1 => match d with
  | .ref C' => C' = C ∧ ka S1 n1 fun ds S2 n2 => c (.ref C :: ds) n2 fun r n3 => Q r S2 n3
  | _ => False
theorem RB.ref' {W : Wd} {F H : Hp} {v : V} {a : Addr} (h : RB W F H v (.ref a)) : v = .ref a := by
  rcases h with h | ⟨p, vs, es, e1, e2, _⟩
  · cases h; rfl
  · cases e2
theorem stat_ok {ko : KE} {ka : KA} (hm : SMetOk X j C m c) (h : SpB X.K ta ko) (ha : SpA X.K t ka) : SpE X.K (tSMetA X j C m ta t) (kStat C c ko ka) := by
  intro W F n S σ H Q R hK A q fin
  refine h W F n S σ H _ _ hK A q fun x H1 F1 n1 S1 d g1 A1 r1 q1 => ?_
  cases d <;> try exact False.elim q1
  case ref a =>
    obtain ⟨q1, q2⟩ := q1
    subst q1
    refine ⟨c, r1.ref', hm, ?_⟩
    refine ha W F1 n1 S1 σ H1 _ _ hK A1 q2 fun vs H2 F2 n2 S2 ds g2 A2 r2 q4 => ?_
    rw [← hK]
    exact spD_call A2 r2 q4 fun v H3 F3 n3 d g3 A3 r3 q5 => fin v H3 F3 n3 S2 d ((g1.trans g2).trans g3) A3 r3 q5
theorem clsm_ok {ko : KE} {ka : KA} (hm : CMetOk X j C m c) (h : SpB X.K ta ko) (ha : SpA X.K t ka) : SpE X.K (tCMetA X j C m ta t) (kClsM C c ko ka) := by
  intro W F n S σ H Q R hK A q fin
  refine h W F n S σ H _ _ hK A q fun x H1 F1 n1 S1 d g1 A1 r1 q1 => ?_
  cases d <;> try exact False.elim q1
  case ref a =>
    obtain ⟨q1, q2⟩ := q1
    subst q1
    refine ⟨c, r1.ref', hm, ?_⟩
    refine ha W F1 n1 S1 σ H1 _ _ hK A1 q2 fun vs H2 F2 n2 S2 ds g2 A2 r2 q4 => ?_
    rw [← hK]
    exact spD_call A2 (.cons (.ref _) r2) q4 fun v H3 F3 n3 d g3 A3 r3 q5 => fin v H3 F3 n3 S2 d ((g1.trans g2).trans g3) A3 r3 q5
theorem de_stat {ko : KE} {ka : KA} (st : Stand X j) (hm : SMetOk X j C m c) (h : DB X o ta ko) (ha : DA X (e :: es) t ka)
    (hp : Stand X j → PE X o ta → PA X (e :: es) t → PE X (.Call (.Attribute o m apos) (e :: es) [] pos) (tSMetA X j C m ta t) := by intro a b c; exact pe_smetA a b c) :
    DE X (.Call (.Attribute o m apos) (e :: es) [] pos) (tSMetA X j C m ta t) (kStat C c ko ka) := ⟨hp st h.pe ha.pe, stat_ok hm h.ok ha.ok⟩
theorem de_clsm {ko : KE} {ka : KA} (st : Stand X j) (hm : CMetOk X j C m c) (h : DB X o ta ko) (ha : DA X (e :: es) t ka)
    (hp : Stand X j → PE X o ta → PA X (e :: es) t → PE X (.Call (.Attribute o m apos) (e :: es) [] pos) (tCMetA X j C m ta t) := by intro a b c; exact pe_cmetA a b c) :
    DE X (.Call (.Attribute o m apos) (e :: es) [] pos) (tCMetA X j C m ta t) (kClsM C c ko ka) := ⟨hp st h.pe ha.pe, clsm_ok hm h.ok ha.ok⟩
end
/-! ### instances called -/
structure CoOkC (prog : Program) (w : World) (K : PySem.W.Frag) (mg : Str → Option Value) (base : Heap) (j : Nat) (C : Addr) (c : DC) : Prop where
  ex : ∃ (g : Addr) (k : Nat), StX.CallO K C g ∧ FnP prog w K mg base k g (spD K c) ∧ k ≤ j
abbrev CoOk (X : Cx) (j : Nat) (C : Addr) (c : DC) : Prop := CoOkC X.prog X.w X.K X.mg X.base j C c
def CosOk (X : Cx) (j : Nat) : List (Addr × DC) → Prop
  | [] => True
  | p :: r => CoOk X j p.1 p.2 ∧ CosOk X j r
theorem CosOk.sel {X : Cx} {j : Nat} {C : Addr} {f : DC → Prop} : ∀ {own : List (Addr × DC)}, CosOk X j own → ownSel own C f → ∃ c, CoOk X j C c ∧ f c
  | [], _, h => h.elim
  | p :: r, a, h => by
    rcases h with ⟨rfl, h⟩ | h
    · exact ⟨p.2, a.1, h⟩
    · exact CosOk.sel a.2 h
def tCoA (X : Cx) (j : Nat) (tf : TE) (t : TA) : TE := fun σ H Q => tf σ H fun y H1 => ∃ a, y = V.ref a ∧ t σ H1 fun vs H2 => ∃ C dx fs c, H2 a = some (.ins C dx fs) ∧ CoOk X j C c ∧ spD X.K c (V.ref a :: vs) H2 Q E0
section
variable {X : Cx} {j : Nat} {fe e : Expr} {es : List Expr} {tf : TE} {t : TA} {pos : Pos} {own : List (Addr × DC)}
theorem pe_coA (st : Stand X j) (hf : PE X fe tf) (ha : PA X (e :: es) t)
    (ht : eval (.Call fe (e :: es) [] pos) X.env = (do callWith pos (← eval fe X.env) [] (backTo pos (starEach (e :: es) X.env)) (backToKw pos (keywordEach [] X.env))) := by rfl)
    (he : starEach (e :: es) X.env = (false, eval e X.env) :: starEach es X.env := by rfl) (hpl : (backTo pos (starEach es X.env)).any (·.1) = false := by rfl) : PE X (.Call fe (e :: es) [] pos) (tCoA X j tf t) := by
  refine ⟨fun pins s σ H Q I h => ?_⟩
  refine Call_ (thn (hf.run pins s σ H _ I h) fun u s1 ⟨y, H1, I1, ry, a, ey, q⟩ => ?_) ht
  subst ey
  obtain rfl : u = Value.ref a := ry
  refine StX.callO_with (thn (ha.run pos pins s1 σ H1 _ I1 q) fun us s2 ⟨vs, H2, I2, r, C, dx, fs, c, ea, ⟨g, k, hc, F, hj⟩, q2⟩ => ?_) he hpl
  obtain ⟨od, J⟩ := ins_at I2 ea
  exact ⟨⟨C, _, _, J, rfl⟩, wpAny_call (PySem.W.kco_code I2.kIn J rfl hc.at_ hc.fn hc.fi (F.at_ (us := .ref a :: us) (vs := .ref a :: vs) (st.room.mono hj) st.gd I2.env0 I2 (.cons rfl r) q2))⟩
def kCo (own : List (Addr × DC)) (ko : KE) (ka : KA) : KE := fun S n Q => ko S n fun d S1 n1 => match d with
  | .ins C _ => ownSel own C fun c => ka S1 n1 fun ds S2 n2 => c (d :: ds) n2 fun r n3 => Q r S2 n3
  | _ => False
theorem co_ok {ko : KE} {ka : KA} (hm : CosOk X j own) (h : SpB X.K tf ko) (ha : SpA X.K t ka) : SpE X.K (tCoA X j tf t) (kCo own ko ka) := by
  intro W F n S σ H Q R hK A q fin
  refine h W F n S σ H _ _ hK A q fun x H1 F1 n1 S1 d g1 A1 r1 q1 => ?_
  cases d <;> try exact False.elim q1
  case ins C gs =>
    obtain ⟨c, hc, q3⟩ := hm.sel q1
    obtain ⟨a, dx, fs, rfl, e1, rf, ri⟩ := r1.ins A1.w.sub
    refine ⟨a, rfl, ?_⟩
    refine ha W F1 n1 S1 σ H1 _ _ hK A1 q3 fun vs H2 F2 n2 S2 ds g2 A2 r2 q4 => ?_
    obtain ⟨a', dx', fs', ea, e2, _, _⟩ := RB.ins A2.w.sub (.inl (Rep.mono g2.f ri))
    cases ea
    refine ⟨C, dx', fs', c, e2, hc, ?_⟩
    rw [← hK]
    exact spD_call A2 (.cons (Rep.mono g2.f ri) r2) q4 fun v H3 F3 n3 d g3 A3 r3 q5 => fin v H3 F3 n3 S2 d ((g1.trans g2).trans g3) A3 r3 q5
theorem de_co {ko : KE} {ka : KA} (st : Stand X j) (hm : CosOk X j own) (h : DB X fe tf ko) (ha : DA X (e :: es) t ka)
    (hp : Stand X j → PE X fe tf → PA X (e :: es) t → PE X (.Call fe (e :: es) [] pos) (tCoA X j tf t) := by intro a b c; exact pe_coA a b c) :
    DE X (.Call fe (e :: es) [] pos) (tCoA X j tf t) (kCo own ko ka) := ⟨hp st h.pe ha.pe, co_ok hm h.ok ha.ok⟩
end
/-! ### a class as a value -/
theorem de_clsV {X : Cx} {x : Str} {C : Addr} {pos : Pos} (hg : Gl X x) (hm : X.mg x = some (.ref C)) (hd : (x == ("__debug__" : Str)) = false := by decide) : DE X (.Name x pos) (tC (.ref C)) (kC (.ref C)) :=
  de_c (pe_glob hg hm rfl hd) fun _ _ => .ref C
end DL
namespace DL
open PySem PySem.Spec PyProof.Rows L2
/-! ### instances made -/
/-- what an __init__ promises: a new instance at x, behind it one of the fields told -/
def spI (K : PySem.W.Frag) (C : Addr) (c : DC) : Sp := fun vs H R _ => ∃ (pa : Option Pn) (F : Hp) (n : Nat) (ds : List D) (Qd : D → Nat → Prop) (x dx : Addr) (H1 : Hp) (ws : List V),
  vs = .ref x :: ws ∧ H = upd (upd H1 dx (.own x)) x (.ins C dx []) ∧ H1 x = none ∧ H1 dx = none ∧ dx ≠ x ∧ Wok ⟨K, pa, F, H1⟩ F H1 n ∧ Reps K pa F ws ds ∧ c ds n Qd ∧
  ∀ H' F' n' d, Wok ⟨K, pa, F, H1⟩ F' H' n' → Rep K pa F' (.ref x) d → Qd d n' → R .non H'
structure MkOkC (prog : Program) (w : World) (K : PySem.W.Frag) (mg : Str → Option Value) (base : Heap) (j : Nat) (C : Addr) (c : DC) : Prop where
  ex : ∃ (f : Addr) (k : Nat), Mk K C f ∧ FnP prog w K mg base k f (spI K C c) ∧ k + 1 ≤ j
abbrev MkOk (X : Cx) (j : Nat) (C : Addr) (c : DC) : Prop := MkOkC X.prog X.w X.K X.mg X.base j C c
section
variable {X : Cx} {j : Nat} {C : Addr} {c : DC}
theorem run_makeA {pins : List (Addr × Obj)} {σ : L2.St} {H : Hp} {s : Shared} {Q : VK} {us : List Value} {vs : List V} (st : Stand X j) (hm : MkOk X j C c) (I : Inv X pins σ H s) (r : Vals vs us)
    (h : ∀ x dx, H x = none → H dx = none → dx ≠ x → spI X.K C c (V.ref x :: vs) (upd (upd H dx (.own x)) x (.ins C dx [])) (fun v H2 => v = .non ∧ Q (.ref x) H2) E0) :
    wpAny (model X.prog X.w) X.A (PySem.call (.ref C) us) (EP X pins σ Q) X.xe s := by
  obtain ⟨f, k, M, F, hj⟩ := hm.ex
  have hq := h (s.heap.objs.size + 1) s.heap.objs.size (I.hok.fresh (Nat.le_succ _)) (I.hok.fresh (Nat.le_refl _)) (Nat.ne_of_lt (Nat.lt_succ_self _))
  have I2 := Inv.made (C := C) I
  have r2 : Vals (V.ref (s.heap.objs.size + 1) :: vs) (Value.ref (s.heap.objs.size + 1) :: us) := .cons rfl r
  refine wpAny_call (make_map (f := f) I.kIn M.makes M.init (beq_iff_eq.mp M.fn) (codeAny_mono (F _ X.stack _ _ (Value.ref (s.heap.objs.size + 1) :: us) _ _ E0 ((st.room.mono hj).make C us []) st.gd (I2.env0.make C us []) r2 hq) fun r s' hq' => ?_))
  cases r with
  | error e => exact (show False from hq').elim
  | ok fl =>
    cases fl with
    | ret u =>
      obtain ⟨v, H', I3, rv, ev, q3⟩ := I2.after hq'
      subst ev
      exact ⟨rv, ⟨V.ref (s.heap.objs.size + 1), H', I3, rfl, q3⟩⟩
    | next => exact False.elim hq'
    | brk => exact False.elim hq'
    | cont => exact False.elim hq'
def tMkA (X : Cx) (j : Nat) (C : Addr) (t : TA) : TE := fun σ H Q => t σ H fun vs H1 => ∃ c, MkOk X j C c ∧ ∀ x dx, H1 x = none → H1 dx = none → dx ≠ x →
  spI X.K C c (V.ref x :: vs) (upd (upd H1 dx (.own x)) x (.ins C dx [])) (fun v H2 => v = .non ∧ Q (.ref x) H2) E0
def tOneStar (K : PySem.W.Frag) (te : TE) : TA := fun σ H Q => te σ H fun y H1 => ∃ a xs, y = V.ref a ∧ (SqT K H1 a xs ∨ SqL K H1 a xs) ∧ Q xs H1
variable {x : Str} {e : Expr} {es : List Expr} {t : TA} {te : TE} {p sp_ pos : Pos}
theorem pe_mkA (st : Stand X j) (hk : PySem.W.keepIn X.K (.ref C) = true) (hg : Gl X x) (hm : X.mg x = some (.ref C)) (ha : PA X (e :: es) t) (hdb : (x == ("__debug__" : Str)) = false := by decide)
    (he : starEach (e :: es) X.env = (false, eval e X.env) :: starEach es X.env := by rfl) (hpl : (backTo pos (starEach es X.env)).any (·.1) = false := by rfl) : PE X (.Call (.Name x p) (e :: es) [] pos) (tMkA X j C t) := by
  refine ⟨fun pins s σ H Q I h => ?_⟩
  refine wpAny_Call_Name_kw (ld_glob I hg hm ?_ hdb)
  refine PySem.W.callWith_K (h₀ := X.base) I.ok.mod.kin hk (thn (ha.run pos pins s σ H _ I h) fun us s1 ⟨vs, H1, I1, r, c, M, q⟩ => ⟨I1.kIn, ?_⟩) he hpl
  exact run_makeA st M I1 r q
theorem pe_mkA0 (st : Stand X j) (hk : PySem.W.keepIn X.K (.ref C) = true) (hg : Gl X x) (hm : X.mg x = some (.ref C)) (hdb : (x == ("__debug__" : Str)) = false := by decide) : PE X (.Call (.Name x p) [] [] pos) (tMkA X j C tNil) := by
  refine ⟨fun pins s σ H Q I h => ?_⟩
  refine wpAny_Call_Name_kw (ld_glob I hg hm ?_ hdb)
  obtain ⟨c, M, q⟩ := h
  exact PySem.W.callWith_K0 I.kIn hk (run_makeA (us := []) (vs := []) st M I .nil q)
theorem pe_mkAS (st : Stand X j) (hk : PySem.W.keepIn X.K (.ref C) = true) (hg : Gl X x) (hm : X.mg x = some (.ref C)) (he : PE X e te) (hdb : (x == ("__debug__" : Str)) = false := by decide)
    (hst : starEach [.Starred e sp_] X.env = [(true, eval e X.env)] := by rfl) : PE X (.Call (.Name x p) [.Starred e sp_] [] pos) (tMkA X j C (tOneStar X.K te)) := by
  refine ⟨fun pins s σ H Q I h => ?_⟩
  refine wpAny_Call_Name_kw (ld_glob I hg hm ?_ hdb)
  refine PySem.W.callWith_S (h₀ := X.base) I.ok.mod.kin hk (thn (he.run pins s σ H _ I h) fun v s1 ⟨y, H1, I1, ry, a, xs, ey, hxs, c, M, q⟩ => ?_) hst
  subst ey
  obtain rfl : v = Value.ref a := ry
  exact StX.star_any I1 hxs fun us s2 I2 rv => ⟨I2.kIn, run_makeA st M I2 rv q⟩
theorem make_sp {W : Wd} {F H : Hp} {n : Nat} {S : List Sl} {σ : St} {vs : List V} {ds : List D} {Q : D → Nat → Prop} {R : VK} (A : Abs W F n S σ H) (r : Reps W.K W.pa F vs ds) (q : c ds n Q)
    (fin : ∀ v H' F' n' d, Grow W S σ F H F' H' S → Abs W F' n' S σ H' → Rep W.K W.pa F' v d → Q d n' → R v H') :
    ∀ x dx, H x = none → H dx = none → dx ≠ x → spI W.K C c (V.ref x :: vs) (upd (upd H dx (.own x)) x (.ins C dx [])) (fun v H2 => v = .non ∧ R (.ref x) H2) E0 :=
  fun x dx h1 h2 ne => ⟨W.pa, F, n, ds, Q, x, dx, H, vs, rfl, rfl, h1, h2, ne, A.w.enter, r, q, fun H' F' n' d w2 r2 q2 => by
    obtain ⟨g, A'⟩ := A.leave w2
    exact ⟨rfl, fin _ H' F' n' d g A' r2 q2⟩⟩
theorem mk_ok {ka : KA} (hm : MkOk X j C c) (ha : SpA X.K t ka) : SpE X.K (tMkA X j C t) (kFn c ka) := by
  intro W F n S σ H Q R hK A q fin
  refine ha W F n S σ H _ _ hK A q fun vs H2 F2 n2 S2 ds g2 A2 r2 q4 => ?_
  refine ⟨c, hm, ?_⟩
  rw [← hK]
  exact make_sp A2 r2 q4 fun v H3 F3 n3 d g3 A3 r3 q5 => fin v H3 F3 n3 S2 d (g2.trans g3) A3 r3 q5
theorem de_mk {ka : KA} (st : Stand X j) (hm : MkOk X j C c) (hk : PySem.W.keepIn X.K (.ref C) = true) (hmg : X.mg x = some (.ref C)) (ha : DA X (e :: es) t ka)
    (hp : Stand X j → PySem.W.keepIn X.K (.ref C) = true → X.mg x = some (.ref C) → PA X (e :: es) t → PE X (.Call (.Name x p) (e :: es) [] pos) (tMkA X j C t) := by intro a b c d; exact pe_mkA a b (by exact rfl) c d) :
    DE X (.Call (.Name x p) (e :: es) [] pos) (tMkA X j C t) (kFn c ka) := ⟨hp st hk hmg ha.pe, mk_ok hm ha.ok⟩
theorem de_mk0 (st : Stand X j) (hm : MkOk X j C c) (hk : PySem.W.keepIn X.K (.ref C) = true) (hmg : X.mg x = some (.ref C))
    (hp : Stand X j → PySem.W.keepIn X.K (.ref C) = true → X.mg x = some (.ref C) → PE X (.Call (.Name x p) [] [] pos) (tMkA X j C tNil) := by intro a b c; exact pe_mkA0 a b (by exact rfl) c) :
    DE X (.Call (.Name x p) [] [] pos) (tMkA X j C tNil) (kFn c kNil) := ⟨hp st hk hmg, mk_ok hm (da_nil (X := X)).ok⟩
def kStar1 (k : KE) : KA := fun S n Q => k S n fun d S1 n1 => match d with
  | .lst xs => Q xs S1 n1
  | .tup xs => Q xs S1 n1
  | _ => False
theorem star1_ok {k : KE} (h : SpE X.K te k) : SpA X.K (tOneStar X.K te) (kStar1 k) := by
  intro W F n S σ H Q R hK A q fin
  refine h W F n S σ H _ _ hK A q fun v H1 F1 n1 S1 d g1 A1 r q1 => ?_
  cases d <;> try exact False.elim q1
  case lst xs =>
    obtain ⟨p, vs, rfl, h1, h2⟩ := RB.lst A1.w.sub (.inl r)
    exact ⟨p, vs, rfl, .inr (SqL.of h1), fin vs H1 F1 n1 S1 xs g1 A1 h2 q1⟩
  case tup xs =>
    obtain ⟨p, vs, rfl, h1, _, h2⟩ := RB.tup A1.w.sub (.inl r)
    exact ⟨p, vs, rfl, .inl (hK ▸ h1), fin vs H1 F1 n1 S1 xs g1 A1 h2 q1⟩
theorem de_mkS {k : KE} (st : Stand X j) (hm : MkOk X j C c) (hk : PySem.W.keepIn X.K (.ref C) = true) (hmg : X.mg x = some (.ref C)) (he : DE X e te k)
    (hp : Stand X j → PySem.W.keepIn X.K (.ref C) = true → X.mg x = some (.ref C) → PE X e te → PE X (.Call (.Name x p) [.Starred e sp_] [] pos) (tMkA X j C (tOneStar X.K te)) := by intro a b c d; exact pe_mkAS a b (by exact rfl) c d) :
    DE X (.Call (.Name x p) [.Starred e sp_] [] pos) (tMkA X j C (tOneStar X.K te)) (kFn c (kStar1 k)) := ⟨hp st hk hmg he.pe, mk_ok hm (star1_ok he.ok)⟩
end
end DL
namespace DL
open PySem PySem.Spec PyProof.Rows L2
/-! ### the walk of an __init__ -/
def startI (N : List Str) (x C : Addr) (ds : List D) : List Sl := .obj x C [] :: (ds.map Sl.val ++ List.replicate (N.length - (ds.length + 1)) Sl.no)
def endI (x C : Addr) (Q : D → Nat → Prop) : DEnds := ⟨fun S n => match S[0]? with
  | some (Sl.obj x' C' gs) => x' = x ∧ C' = C ∧ Q (.ins C' gs) n
  | _ => False, fun _ _ => False, fun _ _ => False, fun _ _ => False⟩
section
variable {W : Wd} {F H H1 : Hp} {n : Nat} {x dx C : Addr}
/-- the new instance stands in slot 0, the arguments behind it -/
theorem abs_init {ws : List V} {ds : List D} {N : List Str} (w : Wok ⟨W.K, W.pa, W.F0, W.H0⟩ F H n) (h0x : W.H0 x = none) (h0d : W.H0 dx = none) (hx : H x = some (.ins C dx [])) (hd : H dx = some (.own x)) (fx : F x = none) (fd : F dx = none) (px : pad W.pa ≠ some x) (pd : pad W.pa ≠ some dx)
    (r : Reps W.K W.pa F ws ds) : Abs W F n (startI N x C ds) (start N (.ref x :: ws)) H := by
  have e2 : start N (.ref x :: ws) = some (.ref x) :: (ws.map some ++ List.replicate (N.length - (ws.length + 1)) none) := rfl
  refine ⟨⟨w.sub, w.pen, w.old, w.oldp, w.f0, w.nf⟩, ?_, fun i s v z1 z2 => ?_, fun i j p es fs z1 _ _ _ => ?_⟩
  · rw [e2]
    unfold startI
    rw [List.length_cons, List.length_cons, List.length_append, List.length_append, List.length_map, List.length_map, List.length_replicate, List.length_replicate, r.length]
  · rw [e2] at z2
    unfold startI at z1
    cases i with
    | zero =>
      cases z1
      cases z2
      exact ⟨rfl, fx, h0x, px, dx, [], hx, fd, h0d, pd, hd, .nil⟩
    | succ i =>
      rw [List.getElem?_cons_succ] at z1 z2
      by_cases hi : i < ds.length
      · rw [List.getElem?_append_left (by simpa using hi), List.getElem?_map, List.getElem?_eq_getElem hi] at z1
        have hv : i < ws.length := by rw [r.length]; exact hi
        rw [List.getElem?_append_left (by simpa using hv), List.getElem?_map, List.getElem?_eq_getElem hv] at z2
        cases z1
        cases z2
        obtain ⟨d, e1, e2⟩ := r.get (List.getElem?_eq_getElem hv)
        rw [List.getElem?_eq_getElem hi] at e1
        cases e1
        exact e2
      · rw [List.getElem?_append_right (by simpa using hi), List.getElem?_replicate] at z1
        split at z1
        · cases z1; trivial
        · cases z1
  · unfold startI at z1
    cases i with
    | zero => cases z1
    | succ i =>
      rw [List.getElem?_cons_succ] at z1
      by_cases hi : i < ds.length
      · rw [List.getElem?_append_left (by simpa using hi), List.getElem?_map, List.getElem?_eq_getElem hi] at z1
        cases z1
      · rw [List.getElem?_append_right (by simpa using hi), List.getElem?_replicate] at z1
        split at z1 <;> cases z1
/-- the instance is done: it is frozen -/
theorem abs_done {S : List Sl} {σ : L2.St} {gs : List (Str × D)} (A : Abs W F n S σ H) (e : S[0]? = some (.obj x C gs)) : ∃ F', Wok W F' H n ∧ Rep W.K W.pa F' (.ref x) (.ins C gs) := by
  obtain ⟨v, e2, ok⟩ := slot_of A e
  cases v with
  | none => exact ok.elim
  | some v =>
    cases v with
    | ref p =>
      obtain ⟨rfl, k1, k2, k3, dx, fs, k4, k5, k6, k7, k8, k9⟩ := ok
      have ne : dx ≠ p := fun z => by rw [z, k4] at k8; cases k8
      have s1 : Same F (upd F dx (.own p)) := same_new k5
      have k1' : (upd F dx (.own p)) p = none := by rw [upd_ne (Ne.symm ne)]; exact k1
      have s2 : Same (upd F dx (.own p)) (upd (upd F dx (.own p)) p (.ins C dx fs)) := same_new k1'
      refine ⟨upd (upd F dx (.own p)) p (.ins C dx fs), ⟨fun a u z => ?_, fun q z => ?_, A.w.old, A.w.oldp, A.w.f0.trans (s1.trans s2), fun a u z => ?_⟩, .ins upd_same (by rw [upd_ne ne, upd_same]) (Repf.mono (s1.trans s2) k9)⟩
      · by_cases y : a = p
        · subst y; rw [upd_same] at z; cases z; exact k4
        · rw [upd_ne y] at z
          by_cases y2 : a = dx
          · subst y2; rw [upd_same] at z; cases z; exact k8
          · rw [upd_ne y2] at z; exact A.w.sub _ _ z
      · obtain ⟨y1, ca, turn, rst, y2, y3, y4⟩ := A.w.pen q z
        refine ⟨?_, ca, turn, rst, y2, (s1.trans s2) _ _ y3, y4⟩
        have n1 : q ≠ p := fun y => k3 (y ▸ z)
        have n2 : q ≠ dx := fun y => k7 (y ▸ z)
        rw [upd_ne n1, upd_ne n2]; exact y1
      · by_cases y : a = p
        · subst y; exact .inr k2
        · rw [upd_ne y] at z
          by_cases y2 : a = dx
          · subst y2; exact .inr k6
          · rw [upd_ne y2] at z; exact A.w.nf _ _ z
    | _ => exact ok.elim
end
section
variable {P : Program} {w : World} {K : PySem.W.Frag} {mg : Str → Option Value} {base : Heap} {k : Nat} {f C : Addr} {fd : FuncData} {N ps : List Str} {c : DC} {x qual : Str} {st : Stmt}
theorem wok_made {pa : Option Pn} {F H1 : Hp} {n : Nat} {x dx C : Addr} (w : Wok ⟨K, pa, F, H1⟩ F H1 n) (hx : H1 x = none) (hd : H1 dx = none) (ne : dx ≠ x) : Wok ⟨K, pa, F, H1⟩ F (upd (upd H1 dx (.own x)) x (.ins C dx [])) n := by
  have g1 := New.free w hd (.own x)
  have w1 := g1.wok w
  have hx1 : (upd H1 dx (.own x)) x = none := by rw [upd_ne (Ne.symm ne)]; exact hx
  exact (New.free w1 hx1 (.ins C dx [])).wok w1
theorem initB_ok {F : Hp} {pa : Option Pn} {H1 H : Hp} {n : Nat} {x dx : Addr} {ws : List V} {ds : List D} {Qd : D → Nat → Prop} {R : VK} {t : TS} {kb : KS} (h : SpS K t kb) (w : Wok ⟨K, pa, F, H1⟩ F H n) (w0 : Wok ⟨K, pa, F, H1⟩ F H1 n) (hx : H x = some (.ins C dx [])) (hd : H dx = some (.own x)) (h0 : H1 x = none) (h1 : H1 dx = none)
    (F2 H2 : Hp) (g : New ⟨K, pa, F, H1⟩ F H F2 H2) (r : Reps K pa F2 ws ds) (q : kb (endI x C Qd) (startI N x C ds) n)
    (fin : ∀ H' F' n' d, Wok ⟨K, pa, F, H1⟩ F' H' n' → Rep K pa F' (.ref x) d → Qd d n' → R .non H') : t ⟨fun _ H' => R .non H', R, fun _ _ => False, fun _ _ => False⟩ (start N (.ref x :: ws)) H2 := by
  obtain ⟨f1, _, p1⟩ := w0.fresh h0
  obtain ⟨f2, _, p2⟩ := w0.fresh h1
  have e1 : F2 x = none := by
    cases e : F2 x with
    | none => rfl
    | some o =>
      rcases g.nw _ _ e with y | y
      · rw [f1] at y; cases y
      · rw [hx] at y; cases y
  have e2 : F2 dx = none := by
    cases e : F2 dx with
    | none => rfl
    | some o =>
      rcases g.nw _ _ e with y | y
      · rw [f2] at y; cases y
      · rw [hd] at y; cases y
  have A := abs_init (W := ⟨K, pa, F, H1⟩) (N := N) (g.wok w) h0 h1 (g.h _ _ hx) (g.h _ _ hd) e1 e2 p1 p2 r
  refine h ⟨K, pa, F, H1⟩ F2 n _ _ H2 _ _ rfl A q ⟨fun F' n' S' σ' H' _ A' z => ?_, fun _ _ _ _ _ _ _ _ z => z.elim, fun _ _ _ _ _ _ _ z => z.elim, fun _ _ _ _ _ _ _ z => z.elim⟩
  have z : match S'[0]? with | some (Sl.obj x' C' gs) => x' = x ∧ C' = C ∧ Qd (.ins C' gs) n' | _ => False := z
  cases e : S'[0]? with
  | none => rw [e] at z; exact z.elim
  | some s =>
    rw [e] at z
    cases s with
    | obj x' C' gs =>
      obtain ⟨z1, z2, z3⟩ := z
      subst z1 z2
      obtain ⟨F3, w3, r3⟩ := abs_done A' e
      exact fin H' F3 n' _ w3 r3 z3
    | no => exact z.elim
    | val _ => exact z.elim
    | own _ => exact z.elim
/-- an __init__ with plain parameters -/
theorem init_ok (F : Fun K x qual st f fd) (S : FnScope N ps (defScope st)) (hb : Binds K fd ps []) (long : ∀ ds n Q, c ds n Q → ds.length + 1 = ps.length)
    (walk : ∀ (cdv : Value) (A : Around) (outer : List Env) (s : Shared) (H : Hp) (E : XK), Stand (cxOf CX0 P w K mg base N qual (defScope st) f cdv A outer s H E).nox k →
      ∃ t kb, DSs (cxOf CX0 P w K mg base N qual (defScope st) f cdv A outer s H E).nox (defBody st) t kb ∧ ∀ x ds n Q, c ds n Q → kb (endI x C Q) (startI N x C ds) n) :
    FnP P w K mg base (k + 1) f (spI K C c) := by
  refine FnG.pos (fd := fd) (ps := ps) ?_ hb
  obtain ⟨oc, od, kV, doc, pm, an, cdv, ct, osl, rfl, lk, hcd⟩ := F.ex
  refine FnG.mk' lk hcd S (fun vs H Q E q => ?_) fun A outer s H vs Q E hr hg q => ?_
  · obtain ⟨pa, F, n, ds, Qd, x, dx, H1, ws, rfl, rfl, h1, h2, ne, w, r, q1, q2⟩ := q
    rw [List.length_cons, r.length]
    exact long ds n Qd q1
  · obtain ⟨t, kb, h1, h2⟩ := walk cdv A outer s H E (Stand.of hr hg _ rfl)
    obtain ⟨pa, F, n, ds, Qd, x, dx, H1, ws, rfl, rfl, e1, e2, ne, w, r, q1, q2⟩ := q
    have wm := wok_made (C := C) w e1 e2 ne
    refine ⟨t, h1.pe.nox, ?_⟩
    exact initB_ok (R := Q) h1.ok wm w upd_same (by rw [upd_ne ne, upd_same]) e1 e2 F _ (New.refl wm.sub) r (h2 x ds n Qd q1) q2
/-- an __init__(self, *values) -/
theorem initS_ok {pv : Str} (F : Fun K x qual st f fd) (S : FnScope N ["self", pv] (defScope st)) (long : ∀ ds n Q, c ds n Q → ds.length ≤ 1000000)
    (hb : ∀ (kV doc pm : Value) (an : Option Addr) (cdv ct : Value) (us rest : List Value), us.length = ["self"].length → bindArgs (PySem.W.fnOf x qual (defArgs st) (defBody st) (defScope st) .none kV doc pm an cdv ct) ⟨us ++ rest, []⟩ = (newTuple rest >>= fun t => pure ((["self"] : List Str).zip us ++ [(pv, t)])))
    (walk : ∀ (cdv : Value) (A : Around) (outer : List Env) (s : Shared) (H : Hp) (E : XK), Stand (cxOf CX0 P w K mg base N qual (defScope st) f cdv A outer s H E).nox k →
      ∃ t kb, DSs (cxOf CX0 P w K mg base N qual (defScope st) f cdv A outer s H E).nox (defBody st) t kb ∧ ∀ x ds n Q, c ds n Q → kb (endI x C Q) (startI N x C [.tup ds]) n) :
    FnP P w K mg base (k + 1) f (spI K C c) := by
  obtain ⟨oc, od, kV, doc, pm, an, cdv, ct, osl, rfl, lk, hcd⟩ := F.ex
  intro A outer s H us vs Q E hr hg e0 r hsp
  obtain ⟨pa, F, n, ds, Qd, x0, dx, H1, rest, rfl, rfl, e1, e2, ne, w0, rr, q1, q2⟩ := hsp
  have wm := wok_made (C := C) w0 e1 e2 ne
  have hz : rest.length ≤ sizeLine := by rw [rr.length]; exact big_ok (long ds n Qd q1)
  obtain ⟨u1, u2, eu, r1, r2⟩ := StX.vals_split (ws := [V.ref x0]) (rest := rest) r
  subst eu
  generalize eH : upd (upd H1 dx (.own x0)) x0 (.ins C dx []) = H at *
  have hx : H x0 = some (.ins C dx []) := by rw [← eH, upd_same]
  have hd : H dx = some (.own x0) := by rw [← eH, upd_ne ne, upd_same]
  have hn : H s.heap.objs.size = Option.none := e0.hok.fresh (Nat.le_refl _)
  have hl1 : u1.length = ["self"].length := by rw [← r1.length]; rfl
  have hl2 : u2.length ≤ sizeLine := by rw [← r2.length]; exact hz
  refine StX.run_bnd lk hcd (ps := ["self", pv]) S hr e0 (G := fun xs H2 => ∃ p, H p = Option.none ∧ xs = [V.ref x0] ++ [V.ref p] ∧ H2 = upd H p (.tup rest)) (fun A' Ex Q' h => ?_) fun s2 H2 xs ⟨p, hp, ex, eH2⟩ hr' => ?_
  · rw [hb _ _ _ _ _ _ u1 u2 hl1]
    refine wpAny_bind (wpAny_newTuple (wpAny_pure ?_) hl2)
    have new : ObjOk P w (upd H s.heap.objs.size (.tup rest)) (s.heap.push ({ cls := .type "tuple", data := .seq u2.toArray } : Obj)) s.heap.objs.size (.tup rest) := ⟨hz, u2, r2, ⟨_, Heap.get?_push_size _ rfl, rfl, _, rfl⟩⟩
    have un := StX.un_laid (fs := frs outer) (s := s) (o := ({ cls := .type "tuple", data := .seq u2.toArray } : Obj)) (u := .tup rest) hn
    have z := h _ _ ([V.ref x0] ++ [V.ref s.heap.objs.size]) (u1 ++ [Value.ref s.heap.objs.size]) (StX.env0_laid e0 new) un rfl (fun e s' z => z) (r1.append (.cons rfl .nil)) rfl ⟨_, hn, rfl, rfl⟩
    have ez : (["self", pv] : List Str).zip (u1 ++ [Value.ref s.heap.objs.size]) = (["self"] : List Str).zip u1 ++ [(pv, Value.ref s.heap.objs.size)] := by
      match u1, hl1 with
      | [u], _ => rfl
    rw [ez] at z
    exact z
  · subst ex eH2
    obtain ⟨t, kb, h1, h2⟩ := walk cdv A outer s2 (upd H p (.tup rest)) E (Stand.of hr' hg _ rfl)
    obtain ⟨g, rp⟩ := new_tup wm hp rr
    refine ⟨t, h1.pe.nox, ?_⟩
    exact initB_ok (R := Q) h1.ok wm w0 hx hd e1 e2 _ _ g (.cons rp .nil) (h2 x0 ds n Qd q1) q2
end
end DL
namespace DL
open PySem PySem.Spec PyProof.Rows L2
/-! ### xs[::-1] -/
namespace LibRev
open HT
section
variable {prog : Program} {w : World} {A : Around} {E : Value → Shared → Prop} {s : Shared}
theorem adj_back (n : Nat) : Builtin.Slice.sliceAdjust none none (-1) (n : Int) = ((n : Int) - 1, -1) := by
  unfold Builtin.Slice.sliceAdjust
  rfl
theorem places_back (n : Nat) : Builtin.Slice.slicePlaces ((n : Int) - 1) (-1) (-1) = n := by
  unfold Builtin.Slice.slicePlaces
  have h1 : ¬ ((-1 : Int) > 0) := by decide
  simp only [h1, if_false]
  by_cases h : n = 0
  · subst h; simp
  · have h2 : (-1 : Int) < (n : Int) - 1 := by omega
    simp only [h2, if_true]
    simp
theorem applied_back {sl : Addr} {vs : Value} {n : Nat} {Q : Int × Int × Nat → Shared → Prop} (hs : s.heap.IsSliceOf sl .none .none vs) (ps : IsPart vs (some (-1)))
    (h : Q ((n : Int) - 1, -1, n) s) : wpAny (model prog w) A (Builtin.Slice.sliceApplied (.ref sl) (pure (n : Int))) Q E s := by
  obtain ⟨os, hos, hcs, hds⟩ := id hs
  unfold Builtin.Slice.sliceApplied Builtin.Slice.sliceFields
  refine wpAny_bind (wpAny_bind (wpAny_field hos hds (x := .none) rfl (wpAny_bind (wpAny_field hos hds (x := .none) rfl (wpAny_bind (wpAny_field hos hds (x := vs) rfl (wpAny_pure ?_)))))))
  refine wpAny_bind (slicePart_ ps ?_)
  show wpAny _ _ (if ((-1 : Int) == 0) = true then _ else _) _ _ s
  rw [if_neg (by decide)]
  refine wpAny_bind (slicePart_none (wpAny_bind (slicePart_none (wpAny_bind (wpAny_pure ?_)))))
  show wpAny _ _ (match Builtin.Slice.sliceAdjust none none (-1) (n : Int) with | (lo, hi) => pure (lo, (-1 : Int), Builtin.Slice.slicePlaces lo hi (-1))) _ _ s
  rw [adj_back n]
  show wpAny _ _ (pure ((n : Int) - 1, (-1 : Int), Builtin.Slice.slicePlaces ((n : Int) - 1) (-1) (-1))) _ _ s
  rw [places_back]
  exact wpAny_pure h
theorem pick_back (xs : Array Value) : ((List.range xs.size).filterMap fun (m : Nat) => xs[(((xs.size : Int) - 1) + (m : Int) * (-1)).toNat]?).toArray = xs.toList.reverse.toArray := by
  have e : ((List.range xs.size).filterMap fun (m : Nat) => xs[(((xs.size : Int) - 1) + (m : Int) * (-1)).toNat]?) = ((List.range xs.size).map fun k => xs.size - 1 - k).filterMap (xs[·]?) := by
    rw [List.filterMap_map]
    have gen : ∀ l : List Nat, (∀ m ∈ l, m < xs.size) → (l.filterMap fun (m : Nat) => xs[(((xs.size : Int) - 1) + (m : Int) * (-1)).toNat]?) = l.filterMap ((fun x => xs[x]?) ∘ fun k => xs.size - 1 - k) := by
      intro l
      induction l with
      | nil => intro _; rfl
      | cons m l ih =>
        intro h
        have e1 : (((xs.size : Int) - 1) + (m : Int) * (-1)).toNat = xs.size - 1 - m := by
          have := h m (List.mem_cons_self ..)
          omega
        rw [List.filterMap_cons, List.filterMap_cons, ih fun k hk => h k (List.mem_cons_of_mem _ hk), e1]
        rfl
    exact gen _ fun m hm => List.mem_range.mp hm
  rw [e, PySem.W.krv_range, List.filterMap_reverse, PySem.W.krv_all]
theorem getItem_tuple_back {t sl : Addr} {items : Array Value} {vs : Value} {Q : Value → Shared → Prop} (ht : IsTup s.heap t items) (hs : s.heap.IsSliceOf sl .none .none vs) (ps : IsPart vs (some (-1)))
    (h : Q (.ref s.heap.objs.size) { s with heap := s.heap.push { cls := .type "tuple", data := .seq items.toList.reverse.toArray } }) (hsz : items.size ≤ sizeLine) : wpAny (model prog w) A (getItem (.ref t) (.ref sl)) Q E s := by
  have hrev : sizeOk (.seq items.toList.reverse.toArray) := by
    show items.toList.reverse.toArray.size ≤ sizeLine
    rw [List.size_toArray, List.length_reverse, Array.length_toList]
    exact hsz
  obtain ⟨os, hos, hcs, hds⟩ := id hs
  have hTs : s.TypeIs (.ref sl) "slice" := ⟨os, hos, hcs⟩
  unfold getItem
  try with_reducible refine wpAny_holding ?_
  first | refine wpAny_bind (wpAny_pure ?_) | skip
  refine wpAny_bind (wpAny_sequenceKey ht.typeIs (by decide) ?_)
  refine wpAny_bind (wpAny_callSpecial?_slot (name := Str.ofString "__getitem__") ht.typeIs PyProof.Rows.slot_tuple_getitem
    (wpAny_call_entry PyProof.Rows.slot_tuple_getitem ht.typeIs entry_tuple_getitem ?_ (args_tuple_getitem _ _)))
  show wpAny _ _ (Builtin.Tuple.tupleItemsOf (.ref t) >>= _) _ _ s
  refine wpAny_bind (tupleItemsOf_ ht ?_)
  refine wpAny_bind (wpAny_typeOf hTs ?_)
  rw [if_pos (by decide)]
  refine wpAny_bind (applied_back hs ps ?_)
  show wpAny _ _ (if (((items.size : Int) - 1) == 0 && (-1 : Int) == 1 && items.size == items.size) = true then _ else _) _ _ s
  rw [if_neg (by rw [show ((-1 : Int) == 1) = false from rfl, Bool.and_false, Bool.false_and]; exact Bool.false_ne_true), pick_back]
  first
    | exact wpAny_bind (m := Builtin.Tuple.tupleExact _) (wpAny_newObj_type (wpAny_pure ⟨_, rfl, wpAny_pure h⟩) hrev)
    | exact wpAny_bind (m := Builtin.Tuple.tupleExact _) (wpAny_newObj_type (wpAny_bind (wpAny_pure (wpAny_pure ⟨_, rfl, wpAny_pure h⟩))) hrev)
    | exact wpAny_bind (wpAny_bind (m := Builtin.Tuple.tupleExact _) (wpAny_newObj_type (wpAny_pure (wpAny_pure ⟨_, rfl, wpAny_pure h⟩)) hrev))
    | exact wpAny_bind (wpAny_bind (m := Builtin.Tuple.tupleExact _) (wpAny_newObj_type (wpAny_pure ⟨_, rfl, wpAny_pure h⟩) hrev))
end
end LibRev
def tRevT (K : PySem.W.Frag) (te : TE) : TE := fun σ H Q => te σ H fun x H1 => ∃ a xs, x = .ref a ∧ ((SqL K H1 a xs ∧ ∀ p, H1 p = none → Q (.ref p) (upd H1 p (.lst xs.reverse))) ∨ (SqT K H1 a xs ∧ ∀ p, H1 p = none → Q (.ref p) (upd H1 p (.tup xs.reverse))))
section
variable {X : Cx}
theorem pe_revT {e : Expr} {te : TE} {k : Nat} {p1 p2 p3 pos : Pos} (he : PE X e te) : PE X (.Subscript e (.Slice none none (some (.UnaryOp .USub (.Constant (.int 1) k p1) p2)) p3) pos) (tRevT X.K te) := by
  refine ⟨fun pins s σ H Q I h => ?_⟩
  refine Subscript_ (thn (he.run pins s σ H _ I h) fun v s1 ⟨x, H1, I1, r1, q1⟩ => ?_)
  obtain ⟨a, xs, ex, q⟩ := q1
  subst ex
  cases r1
  have hst : PO X (some (.UnaryOp .USub (.Constant (.int 1) k p1) p2)) (tPart (tUn (rU fun i => .int (-i)) (tC (.int 1)))) := po_some (pe_un un_neg pe_int)
  refine wpAny_Slice (thn (po_none.run pins s1 σ H1 (fun o H2 => o = none ∧ H2 = H1) I1 ⟨rfl, rfl⟩) fun vl s2 ⟨l, H2, I2, pl, el, e2⟩ => ?_)
  subst el e2
  refine thn (po_none.run pins s2 σ H2 (fun o H3 => o = none ∧ H3 = H2) I2 ⟨rfl, rfl⟩) fun vu s3 ⟨u, H3, I3, pu, eu, e3⟩ => ?_
  subst eu e3
  refine thn (hst.run pins s3 σ H3 (fun o H4 => o = some (-1) ∧ H4 = H3) I3 ⟨1, rfl, -1, rfl, rfl, rfl⟩) fun vs s4 ⟨o, H4, I4, ps, eo, e4⟩ => ?_
  subst eo e4
  have I5 : Inv X pins σ H4 { s4 with heap := s4.heap.push { cls := .type "slice", data := .fields #[vl, vu, vs] } } := I4.kept (t' := s4.toks) fun b ob q => Heap.get?_push_of_some _ q
  show wpAny (model X.prog X.w) X.A (subscriptTail e (.Slice none none (some (.UnaryOp .USub (.Constant (.int 1) k p1) p2)) p3) (.ref a) (.ref s4.heap.objs.size)) (EP X pins σ Q) X.xe { s4 with heap := s4.heap.push { cls := .type "slice", data := .fields #[vl, vu, vs] } }
  rcases q with ⟨hx, q⟩ | ⟨hx, q⟩
  · obtain ⟨its, r, ht, hz⟩ := I5.list hx
    have hlen := r.length
    refine tail_any (ops := [.ref a, .ref s4.heap.objs.size]) ht.isList.typeIs (PySem.slot_list_getitem.lookup) ?_ (by with_unfolding_all rfl)
    refine wpAny_getItem_list_slice ht.isList (Heap.IsSliceOf.new _ vl vu vs) pl pu ps (by decide) ?_ (by rw [List.size_toArray]; omega)
    rw [PySem.W.krv_pick]
    refine ⟨.ref _, _, I5.laid (t' := s4.toks) (o := .lst xs.reverse) (fun b ob q => Heap.get?_push_of_some _ q) (Nat.le_refl _) ?_, rfl, q _ (I5.hok.fresh (Nat.le_refl _))⟩
    exact ⟨by rw [List.length_reverse]; exact hz, _, 0, r.reverse, Heap.get?_push_size _ rfl⟩
  · obtain ⟨its, r, ht, hz⟩ := I5.tuple hx
    have hlen := r.length
    have ev : vl = .none := by cases pl; rfl
    have eu : vu = .none := by cases pu; rfl
    subst ev eu
    refine tail_any (ops := [.ref a, .ref s4.heap.objs.size]) ht.typeIs (PyProof.Rows.slot_tuple_getitem.lookup) ?_ (by with_unfolding_all rfl)
    refine LibRev.getItem_tuple_back ht (Heap.IsSliceOf.new _ .none .none vs) ps ?_ (by rw [List.size_toArray]; omega)
    refine ⟨.ref _, _, I5.laid (t' := s4.toks) (o := .tup xs.reverse) (fun b ob q => Heap.get?_push_of_some _ q) (Nat.le_refl _) ?_, rfl, q _ (I5.hok.fresh (Nat.le_refl _))⟩
    refine ⟨by rw [List.length_reverse]; exact hz, its.reverse, r.reverse, ⟨_, Heap.get?_push_size _ rfl, rfl, 0, ?_⟩⟩
    simp
/-- xs[::-1] -/
def kRev (k : KE) : KE := fun S n Q => k S n fun d S1 n1 => match d with
  | .lst ds => Q (.lst ds.reverse) S1 n1
  | .tup ds => Q (.tup ds.reverse) S1 n1
  | _ => False
theorem Reps.rev {K : PySem.W.Frag} {pa : Option Pn} {F : Hp} : ∀ {vs : List V} {ds : List D}, Reps K pa F vs ds → Reps K pa F vs.reverse ds.reverse
  | _, _, .nil => .nil
  | _, _, .cons h r => by
    rw [List.reverse_cons, List.reverse_cons]
    exact Reps.append (Reps.rev r) (.cons h .nil)
theorem de_rev {e : Expr} {te : TE} {ke : KE} {k : Nat} {p1 p2 p3 pos : Pos} (h : DB X e te ke) : DE X (.Subscript e (.Slice none none (some (.UnaryOp .USub (.Constant (.int 1) k p1) p2)) p3) pos) (tRevT X.K te) (kRev ke) := by
  refine ⟨pe_revT h.pe, fun W F n S σ H Q R hK A q fin => ?_⟩
  refine h.ok W F n S σ H _ _ hK A q fun v H1 F1 n1 S1 d g1 A1 r1 q1 => ?_
  cases d <;> try exact False.elim q1
  case lst ds =>
    obtain ⟨p, vs, rfl, h1, h2⟩ := r1.lst A1.w.sub
    refine ⟨p, vs, rfl, .inl ⟨SqL.of h1, fun c hc => ?_⟩⟩
    obtain ⟨g, r⟩ := new_lst A1.w hc (Reps.rev h2)
    exact fin _ _ _ n1 S1 _ (g1.trans g.grow) (A1.new g) r q1
  case tup ds =>
    obtain ⟨p, vs, rfl, h1, h0, h2⟩ := r1.tup A1.w.sub
    refine ⟨p, vs, rfl, .inr ⟨hK ▸ h1, fun c hc => ?_⟩⟩
    obtain ⟨g, r⟩ := new_tup A1.w hc (Reps.rev h2)
    exact fin _ _ _ n1 S1 _ (g1.trans g.grow) (A1.new g) r q1
end
/-! ### the instance that is being made: its fields -/
def putD (f : Str) (v : D) : List (Str × D) → List (Str × D)
  | [] => [(f, v)]
  | (g, x) :: r => if g = f then (g, v) :: r else (g, x) :: putD f v r
theorem repf_put {K : PySem.W.Frag} {pa : Option Pn} {F : Hp} {f : Str} {v : V} {d : D} (h : Rep K pa F v d) : ∀ {fs : List (Str × V)} {gs : List (Str × D)}, Repf K pa F fs gs → Repf K pa F (putF f v fs) (putD f d gs)
  | _, _, .nil => .cons h .nil
  | _, _, .cons (x := g) a r => by
    unfold putF putD
    split
    · exact .cons h r
    · exact .cons a (repf_put h r)
theorem repf_len {K : PySem.W.Frag} {pa : Option Pn} {F : Hp} : ∀ {fs : List (Str × V)} {gs : List (Str × D)}, Repf K pa F fs gs → fs.length = gs.length
  | _, _, .nil => rfl
  | _, _, .cons _ r => by rw [List.length_cons, List.length_cons, repf_len r]
def isObj : Sl → Bool
  | .obj _ _ _ => true
  | _ => false
def oneObj (S : List Sl) (i : Nat) : Bool := (S.set i .no).all fun s => !isObj s
theorem Abs.putObj {W : Wd} {F H : Hp} {n : Nat} {S : List Sl} {σ : L2.St} (A : Abs W F n S σ H) {i : Nat} {x C dx : Addr} {fs fs' : List (Str × V)} {gs gs' : List (Str × D)} (e : S[i]? = some (.obj x C gs)) (one : oneObj S i = true) (hx : H x = some (.ins C dx fs)) (r : Repf W.K W.pa F fs' gs') :
    Abs W F n (S.set i (.obj x C gs')) σ (upd H x (.ins C dx fs')) := by
  obtain ⟨v, e2, ok⟩ := slot_of A e
  cases v with
  | none => exact ok.elim
  | some v =>
    cases v with
    | ref p =>
      obtain ⟨e0, k1, k2, k3, dy, hs, k4, k5, k6, k7, k8, k9⟩ := ok
      subst e0
      have edy : dy = dx := by rw [hx] at k4; cases k4; rfl
      subst edy
      have hi : i < S.length := (List.getElem?_eq_some_iff.mp e).1
      have ne : dy ≠ p := fun z => by rw [z, hx] at k8; cases k8
      have far : ∀ a o, F a = some o → a ≠ p := fun a o h z => by rw [z, k1] at h; cases h
      refine ⟨⟨fun a u z => ?_, fun q z => ?_, fun a u z k => ?_, fun q z => ?_, A.w.f0, A.w.nf⟩, by rw [List.length_set]; exact A.len, fun j s v z1 z2 => ?_, fun j k q ds es z1 z2 z3 z4 => ?_⟩
      · rw [upd_ne (far _ _ z)]; exact A.w.sub _ _ z
      · obtain ⟨y1, ca, turn, rst, y2, y3⟩ := A.w.pen q z
        have nq : q ≠ p := fun y => k3 (y ▸ z)
        exact ⟨y1, ca, turn, rst, by rw [upd_ne nq]; exact y2, y3⟩
      · have na : a ≠ p := fun y => by rw [y, k2] at z; cases z
        rw [upd_ne na]; exact A.w.old _ _ z k
      · have nq : q ≠ p := fun y => k3 (y ▸ z)
        rw [upd_ne nq]; exact A.w.oldp q z
      · by_cases y : j = i
        · subst y
          rw [List.getElem?_set_self hi] at z1
          cases z1
          rw [e2] at z2
          cases z2
          exact ⟨rfl, k1, k2, k3, dy, fs', upd_same, k5, k6, k7, by rw [upd_ne ne]; exact k8, r⟩
        · have z1' := z1
          rw [List.getElem?_set_ne (Ne.symm y)] at z1
          have ok := A.sl j s v z1 z2
          cases s with
          | no => trivial
          | val d =>
            cases v with
            | none => exact ok.elim
            | some v => exact ok
          | own es =>
            cases v with
            | none => exact ok.elim
            | some v =>
              cases v with
              | ref q =>
                obtain ⟨m1, m2, m3, ws', m4, m5⟩ := ok
                have nq : q ≠ p := fun z => by rw [z, hx] at m4; cases m4
                exact ⟨m1, m2, m3, ws', by rw [upd_ne nq]; exact m4, m5⟩
              | _ => exact ok.elim
          | obj x' C' hs' =>
            exfalso
            have hm : Sl.obj x' C' hs' ∈ S.set i .no := by
              have : (S.set i .no)[j]? = some (.obj x' C' hs') := by rw [List.getElem?_set_ne (Ne.symm y)]; exact z1
              exact List.mem_of_getElem? this
            have := List.all_eq_true.mp one _ hm
            cases this
      · by_cases y : j = i
        · subst y; rw [List.getElem?_set_self hi] at z1; cases z1
        · by_cases y2 : k = i
          · subst y2; rw [List.getElem?_set_self hi] at z2; cases z2
          · rw [List.getElem?_set_ne (Ne.symm y)] at z1
            rw [List.getElem?_set_ne (Ne.symm y2)] at z2
            exact A.di j k q ds es z1 z2 z3 z4
    | _ => exact ok.elim
section
variable {X : Cx} {e : Expr} {te : TE} {k : KE} {x : Str} {f : Str} {Cs : List Addr} {p pos pos' : Pos}
/-- self.f = e within an __init__ -/
def kSetF (Cs : List Addr) (i : Nat) (f : Str) (k : KE) : KS := fun E S n => k S n fun d S1 n1 => match S1[i]? with
  | some (.obj x C gs) => C ∈ Cs ∧ oneObj S1 i = true ∧ gs.length < 1000 ∧ E.nx (S1.set i (.obj x C (putD f d gs))) n1
  | _ => False
theorem ds_setF (i : Nat) (hc : FldOk X.K f Cs) (h : DE X e te k) (hv : PE X (.Name x p) (tVar i) := by exact pv i) (hs : swapsWith e (some (.Attribute (.Name x p) f pos')) pos.line X.env = pure false := by rfl) :
    DS X (.Assign [.Attribute (.Name x p) f pos'] e pos) (sFld X.K (tVar i) te f) (kSetF Cs i f k) := by
  refine ⟨ps_fld hv h.pe hs, fun W F n S σ H E R hK A q fin => ?_⟩
  refine h.ok W F n S σ H _ _ hK A q fun v H1 F1 n1 S1 d g1 A1 r q1 => ?_
  cases e1 : S1[i]? with
  | none => rw [e1] at q1; exact q1.elim
  | some s =>
    rw [e1] at q1
    cases s with
    | no => exact q1.elim
    | val _ => exact q1.elim
    | own _ => exact q1.elim
    | obj x0 C gs =>
      obtain ⟨q2, q3, q4, q5⟩ := q1
      obtain ⟨c1, c2⟩ := hc.sel q2
      obtain ⟨v0, e2, ok⟩ := slot_of A1 e1
      cases v0 with
      | none => exact ok.elim
      | some v0 =>
        cases v0 with
        | ref p0 =>
          obtain ⟨e0, k1, k2, k3, dx, fs, k4, k5, k6, k7, k8, k9⟩ := ok
          subst e0
          refine ⟨_, e2, p0, C, dx, fs, rfl, k4, c1, c2, by rw [repf_len k9]; exact q4, ?_⟩
          exact fin.nx F1 n1 _ _ _ g1.f (A1.putObj e1 q3 k4 (repf_put r k9)) q5
        | _ => exact ok.elim
/-- self.f within an __init__ -/
def kFldO (Cs : List Addr) (i : Nat) (f : Str) : KE := fun S n Q => match S[i]? with
  | some (.obj _ C gs) => C ∈ Cs ∧ match gs.lookup f with
    | some v => Q v S n
    | none => False
  | _ => False
theorem de_fldO (i : Nat) (hc : FldOk X.K f Cs) (hv : PE X (.Name x p) (tVar i) := by exact pv i) (hb : attributeBase (.Name x p) f X.env (eval (.Name x p) X.env) = eval (.Name x p) X.env := by rfl) :
    DE X (.Attribute (.Name x p) f pos) (tFld X.K (tVar i) f) (kFldO Cs i f) := by
  refine ⟨pe_fld hv hb, fun W F n S σ H Q R hK A q fin => ?_⟩
  unfold kFldO at q
  cases e1 : S[i]? with
  | none => rw [e1] at q; exact q.elim
  | some s =>
    rw [e1] at q
    cases s with
    | no => exact q.elim
    | val _ => exact q.elim
    | own _ => exact q.elim
    | obj x0 C gs =>
      obtain ⟨q2, q3⟩ := q
      obtain ⟨c1, c2⟩ := hc.sel q2
      obtain ⟨v0, e2, ok⟩ := slot_of A e1
      cases v0 with
      | none => exact ok.elim
      | some v0 =>
        cases v0 with
        | ref p0 =>
          obtain ⟨e0, k1, k2, k3, dx, fs, k4, k5, k6, k7, k8, k9⟩ := ok
          subst e0
          cases e : gs.lookup f with
          | none => rw [e] at q3; exact q3.elim
          | some v =>
            rw [e] at q3
            obtain ⟨u, l, ru⟩ := (repf_lookup k9).1 v e
            exact ⟨_, e2, p0, C, dx, fs, u, rfl, k4, c1, c2, l, fin u H F n S v .refl A ru q3⟩
        | _ => exact ok.elim
end
end DL
namespace DL
open PySem PySem.Spec PyProof.Rows L2
/-! ### o[i] by an own __getitem__ -/
def OwnIx (b : Expr) : Prop := ∀ x u, subscripted b true (.ref x) u = runValue (.builtin "lifetime.subscript" ⟨[.ref x, u], []⟩)
structure IxOkC (prog : Program) (w : World) (K : PySem.W.Frag) (mg : Str → Option Value) (base : Heap) (j : Nat) (C : Addr) (c : DC) : Prop where
  ex : ∃ (f : Addr) (k : Nat), Meth K C "__getitem__" f ∧ PySem.W.fnIn K f = true ∧ FnP prog w K mg base k f (spD K c) ∧ k + 1 ≤ j
abbrev IxOk (X : Cx) (j : Nat) (C : Addr) (c : DC) : Prop := IxOkC X.prog X.w X.K X.mg X.base j C c
def IxsOk (X : Cx) (j : Nat) : List (Addr × DC) → Prop
  | [] => True
  | p :: r => IxOk X j p.1 p.2 ∧ IxsOk X j r
theorem IxsOk.sel {X : Cx} {j : Nat} {C : Addr} {f : DC → Prop} : ∀ {own : List (Addr × DC)}, IxsOk X j own → ownSel own C f → ∃ c, IxOk X j C c ∧ f c
  | [], _, h => h.elim
  | p :: r, a, h => by
    rcases h with ⟨rfl, h⟩ | h
    · exact ⟨p.2, a.1, h⟩
    · exact IxsOk.sel a.2 h
def tIxA (X : Cx) (j : Nat) (r : R2) (ta tb : TE) : TE := fun σ H Q => ta σ H fun x H1 => tb σ H1 fun y H2 => r x y H2 Q ∨ ∃ a C dx fs c, x = .ref a ∧ H2 a = some (.ins C dx fs) ∧ IxOk X j C c ∧ spD X.K c [x, y] H2 Q E0
section
variable {X : Cx} {j : Nat} {a b : Expr} {ta tb : TE} {ka kb : KE} {r : R2} {pos : Pos} {own : List (Addr × DC)}
theorem pe_ixO (st : Stand X j) (hr : IxR X r) (ha : PE X a ta) (hb : PE X b tb) (hs : PlainIx b) (hs2 : OwnIx b) : PE X (.Subscript a b pos) (tIxA X j r ta tb) := by
  refine ⟨fun pins s σ H Q I h => ?_⟩
  refine Subscript_ (thn (ha.run pins s σ H _ I h) fun v s1 ⟨x, H1, I1, rx, q1⟩ => thn (hb.run pins s1 σ H1 _ I1 q1) fun u s2 ⟨y, H2, I2, ry, q2⟩ => ?_)
  rcases q2 with q2 | ⟨a0, C, dx, fs, c, ex, ea, ⟨f, k, h1, h2, h3, h4⟩, q3⟩
  · exact hr a b pins s2 σ H2 x y v u Q I2 rx ry q2 (hs _ _)
  · subst ex
    obtain rfl : v = Value.ref a0 := rx
    obtain ⟨od, J⟩ := ins_at I2 ea
    obtain ⟨m, hF⟩ := I2.fr
    refine PySem.W.sub_K hF I2.ok.mod.kin J h1.at_ h2 h1.fn ?_ (hs2 _ _)
    exact h3.go (us := [.ref a0, u]) (vs := [.ref a0, y]) (Room.in1 (st.room.mono h4)) st.gd I2.env0.in1 I2 (.cons rfl (.cons ry .nil)) q3
def kIxO (own : List (Addr × DC)) (ka kb : KE) : KE := fun S n Q => ka S n fun x S1 n1 => kb S1 n1 fun y S2 n2 => match x with
  | .ins C _ => ownSel own C fun c => c [x, y] n2 fun d n3 => Q d S2 n3
  | _ => dIx x y fun d => Q d S2 n2
theorem de_ixO (st : Stand X j) (hm : IxsOk X j own) (ha : DB X a ta ka) (hb : DE X b tb kb) (hs : PlainIx b := by intro _ _; rfl) (hs2 : OwnIx b := by intro _ _; rfl) : DE X (.Subscript a b pos) (tIxA X j (rIx X.K) ta tb) (kIxO own ka kb) := by
  refine ⟨pe_ixO st ix_seq ha.pe hb.pe hs hs2, fun W F n S σ H Q R hK A q fin => ?_⟩
  refine ha.ok W F n S σ H _ _ hK A q fun x H1 F1 n1 S1 d1 g1 A1 r1 q1 => ?_
  refine hb.ok W F1 n1 S1 σ H1 _ _ hK A1 q1 fun y H2 F2 n2 S2 d2 g2 A2 r2 q2 => ?_
  have other : dIx d1 d2 (fun d => Q d S2 n2) → rIx X.K x y H2 R := fun q2 => d_ix W F2 H2 n2 x y d1 d2 _ _ hK A2.w (r1.grow g2) (.inl r2) q2 fun v F3 H3 d g3 r3 q3 => fin v H3 F3 n2 S2 d ((g1.trans g2).trans g3.grow) (A2.new g3) r3 q3
  cases d1 with
  | ins C gs =>
    obtain ⟨c, hc, q4⟩ := hm.sel q2
    obtain ⟨a0, dx, fs, rfl, e1, rf, ri⟩ := (r1.grow g2).ins A2.w.sub
    refine .inr ⟨a0, C, dx, fs, c, rfl, e1, hc, ?_⟩
    rw [← hK]
    exact spD_call A2 (.cons ri (.cons r2 .nil)) q4 fun v H3 F3 n3 d g3 A3 r3 q5 => fin v H3 F3 n3 S2 d ((g1.trans g2).trans g3) A3 r3 q5
  | _ => exact .inl (other q2)
end
/-! ### max, min -/
section
variable {X : Cx}
def bMax : List D → (D → Prop) → Prop := fun ds Q => match ds with
  | [.int i, .int j] => Q (.int (if j > i then j else i))
  | [.lst xs] => match D.ints xs with
    | some ns => 0 < ns.length ∧ ∀ m, m ∈ ns → (∀ y, y ∈ ns → y ≤ m) → Q (.int m)
    | none => False
  | _ => False
def rMaxA (K : PySem.W.Frag) : List V → Hp → VK → Prop := fun xs H Q => (∃ i j, xs = [.int i, .int j] ∧ Q (.int (if j > i then j else i)) H) ∨ rMax K xs H Q
theorem c_max (hc : X.calm = true) : CallR X (.builtin "max") (rMaxA X.K) := callR_or (call_max2 hc) (cr_max hc)
theorem d_max : DCall X (rMaxA X.K) bMax := by
  intro W F H n vs ds Q R hK w r q fin
  match ds, r, q with
  | [.int i, .int j], r, q =>
    obtain ⟨v, u, rfl, r1, r2⟩ := rb2 r
    refine .inl ⟨i, j, by rw [r1.int, r2.int], fin _ F H _ (New.refl w.sub) (.int _) q⟩
  | [.lst xs], r, q =>
    obtain ⟨v, rfl, rx⟩ := rb1 r
    obtain ⟨p, ws, rfl, h1, h2⟩ := rx.lst w.sub
    have q : (match D.ints xs with | some ns => 0 < ns.length ∧ ∀ m, m ∈ ns → (∀ y, y ∈ ns → y ≤ m) → Q (.int m) | none => False) := q
    cases e : D.ints xs with
    | none => rw [e] at q; exact q.elim
    | some bs =>
      rw [e] at q
      exact .inr ⟨p, bs, rfl, by rw [← ints_v h2 e]; exact SqL.of h1, q.1, fun m h3 h4 => fin _ F H _ (New.refl w.sub) (.int _) (q.2 m h3 h4)⟩
end
/-! ### range downwards -/
/-- i, i - 1, .. -/
def dwnD : Int → Nat → List D
  | _, 0 => []
  | hi, n + 1 => .int hi :: dwnD (hi - 1) n
theorem dwnD_len : ∀ (n : Nat) (hi : Int), (dwnD hi n).length = n
  | 0, _ => rfl
  | n + 1, hi => by unfold dwnD; rw [List.length_cons, dwnD_len n]
theorem dwnD_get : ∀ (n : Nat) (hi : Int) (i : Nat), i < n → (dwnD hi n)[i]? = some (.int (hi + (i : Int) * (-1)))
  | 0, _, _, h => absurd h (Nat.not_lt_zero _)
  | n + 1, hi, 0, _ => by unfold dwnD; simp
  | n + 1, hi, i + 1, h => by
    unfold dwnD
    rw [List.getElem?_cons_succ, dwnD_get n (hi - 1) i (Nat.lt_of_succ_lt_succ h)]
    have e : hi - 1 + (i : Int) * (-1) = hi + ((i + 1 : Nat) : Int) * (-1) := by omega
    rw [e]
theorem wd_rangeC {W : Wd} {F : Hp} {lo : Int} {n : Nat} : WalkD W F (Itc lo (-1) n) (dwnD lo n) :=
  WalkD.of walk_rangeC (dwnD_len n lo) (fun _ _ _ _ _ => trivial) fun F' H k i x H' e w hi y => by
    obtain ⟨e1, e2⟩ := y
    subst e1 e2
    exact ⟨F', _, dwnD_get n lo i hi, New.refl w.sub, .int _⟩
def kRngD (ks : KA) : KA := fun S n Q => ks S n fun ds S1 n1 => match ds with
  | [.int i, .int j, .int c] => (c = -1 ∧ -1000000 ≤ i ∧ i ≤ 1000000 ∧ -1000000 ≤ j ∧ j ≤ 1000000) ∧ Q (dwnD i (i - j).toNat) S1 n1
  | _ => False
section
variable {X : Cx} {tg a b c : Expr} {ts : TA} {ks : KA} {p pos : Pos}
theorem di_rngD (hm : X.mg "range" = none) (h : DA X [a, b, c] ts ks) (hg : Gl X "range" := by exact rfl) (hs : starEach [a, b, c] X.env = (false, eval a X.env) :: starEach [b, c] X.env := by rfl) (hpl : (backTo pos (starEach [b, c] X.env)).any (·.1) = false := by rfl) :
    DI X tg (.Call (.Name "range" p) [a, b, c] [] pos) (iRng3 ts) (kRngD ks) := by
  refine ⟨pi_range3 hg hm h.pe hs hpl, fun W F n S σ H Q R hK A q fin => ?_⟩
  refine h.ok W F n S σ H _ _ hK A q fun vs H1 F1 n1 S1 ds g1 A1 r q1 => ?_
  match ds, r, q1 with
  | [.int i, .int j, .int c], .cons (.int _) (.cons (.int _) (.cons (.int _) .nil)), q1 =>
    obtain ⟨⟨rfl, h1, h2, h3, h4⟩, q2⟩ := q1
    exact ⟨i, j, -1, (i - j).toNat, rfl, RgC.neg (by omega) (by omega) (by omega) (by omega), fin _ H1 F1 n1 S1 _ g1 A1 wd_rangeC q2⟩
end
/-! ### o.m(e, .., k = v, ..) -/
structure MethKwC (prog : Program) (w : World) (K : PySem.W.Frag) (mg : Str → Option Value) (base : Heap) (j : Nat) (C : Addr) (m : Str) (n : Nat) (ks : List Str) (perm : List Nat) (c : DC) : Prop where
  ex : ∃ (f : Addr) (fd : FuncData) (ps : List Str) (k : Nat), Meth K C m f ∧ FnG prog w K mg base CX0 k f fd ps (spD K c) ∧ KwB K fd ps (n + 1) ks perm ∧ k ≤ j
  cl : Cls K C
abbrev MethKw (X : Cx) (j : Nat) (C : Addr) (m : Str) (n : Nat) (ks : List Str) (perm : List Nat) (c : DC) : Prop := MethKwC X.prog X.w X.K X.mg X.base j C m n ks perm c
def tMethK (X : Cx) (j : Nat) (C : Addr) (m : Str) (n : Nat) (ks : List Str) (perm : List Nat) (ta : TE) (t tk : TA) : TE := fun σ H Q => ta σ H fun x H1 => ∃ a dx fs c, x = .ref a ∧ H1 a = some (.ins C dx fs) ∧ fs.lookup m = none ∧ MethKw X j C m n ks perm c ∧
  t σ H1 fun vs H2 => tk σ H2 fun zs H3 => vs.length = n ∧ zs.length = ks.length ∧ spD X.K c (permed V.non perm ((x :: vs) ++ zs)) H3 Q E0
section
variable {X : Cx} {j n : Nat} {C : Addr} {m : Str} {o e : Expr} {es : List Expr} {kws : List Keyword} {ks : List Str} {perm : List Nat} {ta : TE} {t tk : TA} {apos pos : Pos} {c : DC}
theorem pe_methK {pl : Sem Bool} (st : Stand X j) (he : PE X o ta) (ha : PA X (e :: es) t) (hkw : PK X kws tk) (hall : (backToKw pos (keywordEach kws X.env)).all (·.1.isSome) = true := by rfl) (hks : (backToKw pos (keywordEach kws X.env)).filterMap (·.1) = ks := by rfl)
    (hst : starEach (e :: es) X.env = (false, eval e X.env) :: starEach es X.env := by rfl) (hpl : ((backTo pos (starEach (e :: es) X.env)).any (·.1) || (backToKw pos (keywordEach kws X.env)).any (·.1.isNone)) = false := by rfl)
    (ht : eval (.Call (.Attribute o m apos) (e :: es) kws pos) X.env = (do
      let ov ← eval o X.env
      standAt apos.atName
      let (f, first) ← holding [ov] (getMethod ov m pl)
      callWith pos f first (backTo pos (starEach (e :: es) X.env)) (backToKw pos (keywordEach kws X.env))) := by rfl) :
    PE X (.Call (.Attribute o m apos) (e :: es) kws pos) (tMethK X j C m n ks perm ta t tk) := by
  refine ⟨fun pins s σ H Q I h => ?_⟩
  refine PySem.W.methodCall_KW (pl := pl) (thn (he.run pins s σ H _ I h) fun u s1 ⟨x, H1, I1, rx, a, dx, fs, c, ex, ea, l, ⟨⟨f, fd, ps, k, hm, F, hb, hj⟩, cl⟩, q⟩ => ?_) ht
  subst ex
  obtain rfl : u = Value.ref a := rx
  refine getmeth_ok I1 ea cl hm l ?_
  refine PySem.W.callWith_KW (first := [.ref a]) (h₀ := X.base) I.ok.mod.kin hm.kp hall (thn (ha.run pos pins s1 σ H1 _ I1 q) ?_) hpl hst
  rintro us s2 ⟨vs, H2, I2, r, q2⟩
  refine thn (hkw.run pos pins s2 σ H2 _ I2 q2) ?_
  rintro ws s3 ⟨zs, H3, I3, rz, l1, l2, q3⟩
  refine ⟨I3.kIn, ?_⟩
  rw [hks]
  exact F.runK (us := .ref a :: us) (vs := .ref a :: vs) (st.room.mono hj) st.gd hb pass0 I3 (.cons rfl r) rz (by rw [List.length_cons, l1]) l2 q3
theorem pe_methK0 {pl : Sem Bool} (st : Stand X j) (he : PE X o ta) (hkw : PK X kws tk) (hall : (backToKw pos (keywordEach kws X.env)).all (·.1.isSome) = true := by rfl) (hks : (backToKw pos (keywordEach kws X.env)).filterMap (·.1) = ks := by rfl)
    (hpl : ((backTo pos (starEach [] X.env)).any (·.1) || (backToKw pos (keywordEach kws X.env)).any (·.1.isNone)) = false := by rfl)
    (ht : eval (.Call (.Attribute o m apos) [] kws pos) X.env = (do
      let ov ← eval o X.env
      standAt apos.atName
      let (f, first) ← holding [ov] (getMethod ov m pl)
      callWith pos f first (backTo pos (starEach [] X.env)) (backToKw pos (keywordEach kws X.env))) := by rfl) :
    PE X (.Call (.Attribute o m apos) [] kws pos) (tMethK X j C m 0 ks perm ta tNil tk) := by
  refine ⟨fun pins s σ H Q I h => ?_⟩
  refine PySem.W.methodCall_KW (pl := pl) (thn (he.run pins s σ H _ I h) fun u s1 ⟨x, H1, I1, rx, a, dx, fs, c, ex, ea, l, ⟨⟨f, fd, ps, k, hm, F, hb, hj⟩, cl⟩, q⟩ => ?_) ht
  subst ex
  obtain rfl : u = Value.ref a := rx
  refine getmeth_ok I1 ea cl hm l ?_
  refine PySem.W.callWith_KW0 (first := [.ref a]) (h₀ := X.base) I.ok.mod.kin hm.kp hall (thn (hkw.run pos pins s1 σ H1 _ I1 q) ?_) hpl
  rintro ws s3 ⟨zs, H3, I3, rz, l1, l2, q3⟩
  refine ⟨I3.kIn, ?_⟩
  rw [hks]
  exact F.runK (us := [.ref a]) (vs := [.ref a]) (st.room.mono hj) st.gd hb pass0 I3 (.cons rfl .nil) rz rfl l2 q3
def kMethK (C : Addr) (m : Str) (c : DC) (perm : List Nat) (n mm : Nat) (ko : KE) (ka kz : KA) : KE := fun S nn Q => ko S nn fun d S1 n1 => match d with
  | .ins C' gs => C' = C ∧ gs.lookup m = none ∧ ka S1 n1 fun ds S2 n2 => kz S2 n2 fun zs S3 n3 => ds.length = n ∧ zs.length = mm ∧ c (permed D.non perm ((d :: ds) ++ zs)) n3 fun r n4 => Q r S3 n4
  | _ => False
theorem methK_ok {ko : KE} {ka kz : KA} (hm : MethKw X j C m n ks perm c) (h : SpB X.K ta ko) (ha : SpA X.K t ka) (hz : SpA X.K tk kz) : SpE X.K (tMethK X j C m n ks perm ta t tk) (kMethK C m c perm n ks.length ko ka kz) := by
  intro W F nn S σ H Q R hK A q fin
  refine h W F nn S σ H _ _ hK A q fun x H1 F1 n1 S1 d g1 A1 r1 q1 => ?_
  cases d <;> try exact False.elim q1
  case ins C' gs =>
    obtain ⟨q0, q1, q2⟩ := q1
    subst q0
    obtain ⟨a, dx, fs, rfl, e1, rf, ri⟩ := r1.ins A1.w.sub
    refine ⟨a, dx, fs, c, rfl, e1, (repf_lookup rf).2 q1, hm, ?_⟩
    refine ha W F1 n1 S1 σ H1 _ _ hK A1 q2 fun vs H2 F2 n2 S2 ds g2 A2 r2 q3 => ?_
    refine hz W F2 n2 S2 σ H2 _ _ hK A2 q3 fun zs H3 F3 n3 S3 es g3 A3 r3 q4 => ?_
    refine ⟨r2.length.trans q4.1, r3.length.trans q4.2.1, ?_⟩
    rw [← hK]
    refine spD_call A3 (reps_permed (Reps.append (.cons (Rep.mono (g2.f.trans g3.f) ri) (Reps.mono g3.f r2)) r3) perm) q4.2.2 fun v H4 F4 n4 d g4 A4 r4 q5 => ?_
    exact fin v H4 F4 n4 S3 d (((g1.trans g2).trans g3).trans g4) A4 r4 q5
theorem de_methK {ko : KE} {ka kz : KA} (st : Stand X j) (hm : MethKw X j C m n ks perm c) (h : DB X o ta ko) (ha : DA X (e :: es) t ka) (hz : DK X kws tk kz)
    (hp : Stand X j → PE X o ta → PA X (e :: es) t → PK X kws tk → PE X (.Call (.Attribute o m apos) (e :: es) kws pos) (tMethK X j C m n ks perm ta t tk) := by intro a b c d; exact pe_methK a b c d) :
    DE X (.Call (.Attribute o m apos) (e :: es) kws pos) (tMethK X j C m n ks perm ta t tk) (kMethK C m c perm n ks.length ko ka kz) := ⟨hp st h.pe ha.pe hz.pe, methK_ok hm h.ok ha.ok hz.ok⟩
theorem de_methK0 {ko : KE} {kz : KA} (st : Stand X j) (hm : MethKw X j C m 0 ks perm c) (h : DB X o ta ko) (hz : DK X kws tk kz)
    (hp : Stand X j → PE X o ta → PK X kws tk → PE X (.Call (.Attribute o m apos) [] kws pos) (tMethK X j C m 0 ks perm ta tNil tk) := by intro a b c; exact pe_methK0 a b c) :
    DE X (.Call (.Attribute o m apos) [] kws pos) (tMethK X j C m 0 ks perm ta tNil tk) (kMethK C m c perm 0 ks.length ko kNil kz) := ⟨hp st h.pe hz.pe, methK_ok hm h.ok (da_nil (X := X)).ok hz.ok⟩
end
/-! ### the lists of classes, put together -/
section
variable {X : Cx} {j : Nat} {C : Addr} {c : DC} {own : List (Addr × DC)} {m : Str} {op : Operator}
theorem MethsOk.nil : MethsOk X j m [] := trivial
theorem MethsOk.cons (h : MethOk X j C m c) (r : MethsOk X j m own) : MethsOk X j m ((C, c) :: own) := ⟨h, r⟩
theorem BinsOk.nil : BinsOk X j op [] := trivial
theorem BinsOk.cons (h : BinOk X j op C c) (r : BinsOk X j op own) : BinsOk X j op ((C, c) :: own) := ⟨h, r⟩
theorem UnsOk.nil : UnsOk X j m [] := trivial
theorem UnsOk.cons (h : UnOk X j m C c) (r : UnsOk X j m own) : UnsOk X j m ((C, c) :: own) := ⟨h, r⟩
theorem EqsOk.nil : EqsOk X j [] := trivial
theorem EqsOk.cons (h : EqOk X j C c) (r : EqsOk X j own) : EqsOk X j ((C, c) :: own) := ⟨h, r⟩
theorem IxsOk.nil : IxsOk X j [] := trivial
theorem IxsOk.cons (h : IxOk X j C c) (r : IxsOk X j own) : IxsOk X j ((C, c) :: own) := ⟨h, r⟩
theorem CosOk.nil : CosOk X j [] := trivial
theorem CosOk.cons (h : CoOk X j C c) (r : CosOk X j own) : CosOk X j ((C, c) :: own) := ⟨h, r⟩
theorem FldOk.nil {K : PySem.W.Frag} {f : Str} : FldOk K f [] := trivial
theorem FldOk.cons {K : PySem.W.Frag} {f : Str} {Cs : List Addr} (h1 : Cls K C) (h2 : NoAttr K C f) (r : FldOk K f Cs) : FldOk K f (C :: Cs) := ⟨⟨h1, h2⟩, r⟩
theorem RelOk.nil {K : PySem.W.Frag} {B : Addr} : RelOk K B [] := trivial
theorem RelOk.cons {K : PySem.W.Frag} {B : Addr} {b : Bool} {rel : List (Addr × Bool)} (h1 : InsTy K C) (h2 : PySem.W.kitOne K (.ref C) (.ref B) = some b) (r : RelOk K B rel) : RelOk K B ((C, b) :: rel) := ⟨⟨h1, h2⟩, r⟩
theorem six {p : String → Prop} (h1 : p "NoneType") (h2 : p "bool") (h3 : p "int") (h4 : p "str") (h5 : p "tuple") (h6 : p "list") : ∀ T ∈ bltns, p T := by
  intro T h
  simp only [bltns, List.mem_cons, List.not_mem_nil, or_false] at h
  rcases h with rfl | rfl | rfl | rfl | rfl | rfl <;> assumption
end
end DL
namespace DL
open PySem PySem.Spec PyProof.Rows L2
/-! ### a list of one's own: [..] * n -/
section
variable {X : Cx} {a b : Expr} {ta tb : TE} {ka kb : KE} {pos : Pos}
def kRepO (ka kb : KE) : KA := fun S n Q => ka S n fun x S1 n1 => kb S1 n1 fun y S2 n2 => match x, y with
  | .lst xs, .int j => (j ≤ 1000000 ∧ -1000000 ≤ j ∧ xs.length * j.toNat ≤ 1000000) ∧ Q (List.replicate j.toNat xs).flatten S2 n2
  | _, _ => False
theorem dow_rep (ha : DB X a ta ka) (hb : DB X b tb kb) : DOw X (.BinOp a .Mult b pos) (tOp rRep ta tb) (kRepO ka kb) := by
  refine ⟨pe_op op_rep ha.pe hb.pe, fun W F n S σ H Q R hK A q fin => ?_⟩
  refine ha.ok W F n S σ H _ _ hK A q fun x H1 F1 n1 S1 d1 g1 A1 r1 q1 => ?_
  refine hb.ok W F1 n1 S1 σ H1 _ _ hK A1 q1 fun y H2 F2 n2 S2 d2 g2 A2 r2 q2 => ?_
  cases d1 <;> try exact False.elim q2
  case lst xs =>
    cases d2 <;> try exact False.elim q2
    case int j =>
      obtain ⟨⟨q1, q2, q3⟩, q4⟩ := q2
      obtain ⟨p, vs, rfl, h1, h2⟩ := (r1.grow g2).lst A2.w.sub
      refine ⟨p, j, vs, rfl, r2.int, h1, by omega, by omega, by rw [h2.length]; exact big_ok q3, fun c hc => ?_⟩
      obtain ⟨f1, f2, f3⟩ := A2.w.fresh hc
      have g3 := New.free A2.w hc (.lst (List.replicate j.toNat vs).flatten)
      refine fin c _ _ _ F2 n2 S2 ((g1.trans g2).trans g3.grow) (A2.new g3) f1 f2 f3 upd_same (Reps.rep j.toNat h2) (fun z => ?_) (g1.hn c (g2.hn c hc)) q4
      obtain ⟨ws, e⟩ := A2.ownH z
      rw [hc] at e; cases e
end
/-! ### names of operators -/
theorem nmAdd : PySem.dunder (Operator.info .Add).2 = "__add__" ∧ dunderR (Operator.info .Add).2 = "__radd__" ∧ dunderI (Operator.info .Add).2 = "__iadd__" := by decide +kernel
theorem nmSub : PySem.dunder (Operator.info .Sub).2 = "__sub__" ∧ dunderR (Operator.info .Sub).2 = "__rsub__" ∧ dunderI (Operator.info .Sub).2 = "__isub__" := by decide +kernel
theorem nmMult : PySem.dunder (Operator.info .Mult).2 = "__mul__" ∧ dunderR (Operator.info .Mult).2 = "__rmul__" ∧ dunderI (Operator.info .Mult).2 = "__imul__" := by decide +kernel
theorem nmFloorDiv : PySem.dunder (Operator.info .FloorDiv).2 = "__floordiv__" ∧ dunderR (Operator.info .FloorDiv).2 = "__rfloordiv__" ∧ dunderI (Operator.info .FloorDiv).2 = "__ifloordiv__" := by decide +kernel
theorem nmMod : PySem.dunder (Operator.info .Mod).2 = "__mod__" ∧ dunderR (Operator.info .Mod).2 = "__rmod__" ∧ dunderI (Operator.info .Mod).2 = "__imod__" := by decide +kernel
theorem nmLShift : PySem.dunder (Operator.info .LShift).2 = "__lshift__" ∧ dunderR (Operator.info .LShift).2 = "__rlshift__" ∧ dunderI (Operator.info .LShift).2 = "__ilshift__" := by decide +kernel
theorem nmRShift : PySem.dunder (Operator.info .RShift).2 = "__rshift__" ∧ dunderR (Operator.info .RShift).2 = "__rrshift__" ∧ dunderI (Operator.info .RShift).2 = "__irshift__" := by decide +kernel
theorem nmBitAnd : PySem.dunder (Operator.info .BitAnd).2 = "__and__" ∧ dunderR (Operator.info .BitAnd).2 = "__rand__" ∧ dunderI (Operator.info .BitAnd).2 = "__iand__" := by decide +kernel
theorem nmBitOr : PySem.dunder (Operator.info .BitOr).2 = "__or__" ∧ dunderR (Operator.info .BitOr).2 = "__ror__" ∧ dunderI (Operator.info .BitOr).2 = "__ior__" := by decide +kernel
theorem BinOk.of {X : Cx} {j : Nat} {op : Operator} {C : Addr} {c : DC} {d r i : Str} (e : PySem.dunder op.info.2 = d ∧ dunderR op.info.2 = r ∧ dunderI op.info.2 = i)
    (ex : ∃ (f : Addr) (k : Nat), Meth X.K C d f ∧ FnP X.prog X.w X.K X.mg X.base k f (spD X.K c) ∧ k ≤ j) (two : LibOp.twoUp X.K C = true) (rr : PySem.W.findIn X.K (.ref C) r = some none) (ii : PySem.W.findIn X.K (.ref C) i = some none)
    (oi : PySem.W.findIn X.K (.type "object") i = some none) (i1 : ∃ fo, PySem.W.findIn X.K (.type "int") d = some fo) (i2 : ∃ ro, PySem.W.findIn X.K (.type "int") r = some ro) (is : PySem.W.subIn X.K (.type "int") (.ref C) = some false) : BinOk X j op C c := by
  obtain ⟨rfl, rfl, rfl⟩ := e
  exact ⟨ex, two, rr, ii, oi, i1, i2, is⟩
/-! ### the pen made by list(script[:63]) -/
abbrev rToList (K : PySem.W.Frag) : List V → Hp → VK → Prop := fun xs H Q => ∃ p ys, xs = [.ref p] ∧ (SqL K H p ys ∨ SqT K H p ys) ∧ ∀ l, H l = none → Q (.ref l) (upd H l (.lst ys))
def tPenL (K : PySem.W.Frag) : TS := tRet (tLst (tCons (tCB (rToList K) (tCons (tSl (rSlL K) (tVar 0) tNoPart (tPart (tC (.int 63)))) tNil)) (tCons (tC (.int 0)) (tCons (tC (.int 0)) tNil))))
theorem pen_readL {K : PySem.W.Frag} {a : Addr} {ns : List Int} {H : Hp} {Q : VK} (h : SqL K H a (ns.map V.int)) (hl : ns.length ≤ 63)
    (q : ∀ (H' : Hp) (p ca : Addr) (cs : List Int), Same H H' → p ≠ ca → H p = none → H ca = none → H' p = some (.lst [.ref ca, .int 0, .int 0]) → H' ca = some (.lst (cs.map V.int)) → Q (.ref p) H') {E : Ends} (hE : E.rt = Q) :
    tPenL K E [some (.ref a)] H := by
  show tLst _ _ H E.rt
  rw [hE]
  refine ⟨.ref a, rfl, 63, rfl, a, _, rfl, h, fun c hc => ?_⟩
  obtain ⟨cs, ec, lc⟩ := cut_ints ns none (some 63)
  rw [ec]
  have s1 : Same H (upd H c (.lst (cs.map V.int))) := same_new hc
  refine ⟨c, _, rfl, .inl (SqL.of upd_same), fun D0 hD => ?_⟩
  have nDc : D0 ≠ c := fun e => by rw [e, upd_same] at hD; cases hD
  have hD0 : H D0 = none := by rw [upd_ne nDc] at hD; exact hD
  refine ⟨big_ok (by show 3 ≤ 1000000; decide), fun p0 hp0 => ?_⟩
  have np : p0 ≠ D0 := fun e => by rw [e, upd_same] at hp0; cases hp0
  have hp : H p0 = none := by
    cases e : H p0 with
    | none => rfl
    | some o => rw [same_new hD _ _ (s1 _ _ e)] at hp0; cases hp0
  refine q _ p0 D0 cs (s1.trans ((same_new hD).trans (same_new hp0))) np hp hD0 upd_same ?_
  rw [upd_ne (Ne.symm np), upd_same]
section
variable {P : Program} {w : World} {K : PySem.W.Frag} {mg : Str → Option Value} {base : Heap} {k : Nat} {f : Addr} {fd : FuncData} {N : List Str} {x qual : Str} {st : Stmt}
theorem pen_okL (F : Fun K x qual st f fd) (S : FnScope N ["script"] (defScope st)) (hN : N.length = 1)
    (walk : ∀ (cdv : Value) (A : Around) (outer : List Env) (s : Shared) (H : Hp) (E : XK), Stand (cxOf CX0 P w K mg base N qual (defScope st) f cdv A outer s H E).nox 0 → PSs (cxOf CX0 P w K mg base N qual (defScope st) f cdv A outer s H E).nox (defBody st) (tPenL K)) :
    FnG P w K mg base CX0 1 f fd ["script"] (spPen K) := by
  obtain ⟨oc, od, kV, doc, pm, an, cdv, ct, osl, rfl, lk, hcd⟩ := F.ex
  refine FnG.mk' lk hcd S (fun vs H Q E q => ?_) fun A outer s H vs Q E hr hg q => ?_
  · obtain ⟨a, ns, rfl, _⟩ := q; rfl
  · obtain ⟨a, ns, rfl, h1, h2, h3⟩ := q
    refine ⟨_, (walk cdv A outer s H E (Stand.of hr hg _ rfl)).nox, ?_⟩
    have e : L2.start N [V.ref a] = [some (.ref a)] := by
      unfold L2.start
      rw [hN]
      rfl
    rw [e]
    exact pen_readL h1 h2 h3 rfl
end
end DL
namespace DL
open PySem PySem.Spec PyProof.Rows L2
/-! ### words for readings -/
theorem kit_ii : kitB "int" "int" = some true := by decide +kernel
theorem kit_ib : kitB "int" "bool" = some false := by decide +kernel
theorem kit_tt : kitB "tuple" "tuple" = some true := by decide +kernel
theorem kit_ll : kitB "list" "list" = some true := by decide +kernel
theorem kit_lt : kitB "list" "tuple" = some false := by decide +kernel
theorem kit_tl : kitB "tuple" "list" = some false := by decide +kernel
/-- by what a bool says -/
def condV (d : D) (A B : Prop) : Prop := match d with
  | .bl c => if c = true then A else B
  | _ => False
theorem kAndV_e (k1 k2 : KE) : kAndV k1 k2 = fun S n Q => k1 S n fun d S1 n1 => condV d (k2 S1 n1 Q) (Q (.bl false) S1 n1) := by
  funext S n Q
  unfold kAndV
  congr 1
  funext d S1 n1
  cases d <;> try rfl
  case bl c => cases c <;> simp [condV]
theorem kOrV_e (k1 k2 : KE) : kOrV k1 k2 = fun S n Q => k1 S n fun d S1 n1 => condV d (Q (.bl true) S1 n1) (k2 S1 n1 Q) := by
  funext S n Q
  unfold kOrV
  congr 1
  funext d S1 n1
  cases d <;> try rfl
  case bl c => cases c <;> simp [condV]
def isB (d : D) (A : Bool → Prop) : Prop := match d with
  | .bl c => A c
  | _ => False
theorem isB_bl (c : Bool) (A : Bool → Prop) : isB (.bl c) A = A c := rfl
theorem kTest_e (k : KE) : kTest k = fun S n Q => k S n fun d S1 n1 => isB d fun c => Q c S1 n1 := by
  funext S n Q
  unfold kTest
  congr 1
theorem kChain_e (op op' : D2) (ka kb kc : KE) : kChain op op' ka kb kc = fun S n Q => ka S n fun x S1 n1 => kb S1 n1 fun y S2 n2 => op x y fun d => condV d (kc S2 n2 fun z S3 n3 => op' y z fun d' => Q d' S3 n3) (Q (.bl false) S2 n2) := by
  funext S n Q
  unfold kChain
  congr 1
  funext x S1 n1
  congr 1
  funext y S2 n2
  congr 1
  funext d
  cases d <;> try rfl
  case bl c => cases c <;> simp [condV]
theorem pl_non (k : Nat) : D.pl k .non = True := by cases k <;> rfl
theorem pl_bl (k : Nat) (b : Bool) : D.pl k (.bl b) = True := by cases k <;> rfl
theorem pl_int (k : Nat) (i : Int) : D.pl k (.int i) = True := by cases k <;> rfl
theorem pl_tup (k : Nat) (ds : List D) : D.pl (k + 1) (.tup ds) = ∀ d ∈ ds, D.pl k d := rfl
theorem pl_lst (k : Nat) (ds : List D) : D.pl (k + 1) (.lst ds) = ∀ d ∈ ds, D.pl k d := rfl
theorem eqb_int (a b : Int) : D.eqb (.int a) (.int b) = (a == b) := rfl
theorem eqb_nil (xs : List D) : D.eqb (.lst xs) (.lst []) = xs.isEmpty := by cases xs <;> rfl
theorem eqb_non : D.eqb .non .non = true := rfl
/-- a comprehension that draws nothing -/
theorem comps_fm {kg : KG} {kt : KT} {ke : KE} {vs : List Nat} {Sc : List Sl} {n : Nat} {Q : List D → Nat → Prop} (f : D → Option D) : ∀ (ds acc : List D)
    (h : ∀ d ∈ ds, ∀ R : Option D → Nat → Prop, R (f d) n → kg d Sc fun S2 => wipeD S2 vs = Sc ∧ kt S2 n fun b S3 n3 => S3 = S2 ∧ if b = true then ke S2 n3 fun y S4 n4 => S4 = S2 ∧ R (some y) n4 else R none n3)
    (q : Q (acc ++ ds.filterMap f) n), kComps kg kt ke vs Sc ds acc n Q
  | [], acc, h, q => by simpa [kComps] using q
  | d :: ds, acc, h, q => by
    refine h d (List.mem_cons_self ..) (fun o n' => match o with | some y => kComps kg kt ke vs Sc ds (acc ++ [y]) n' Q | none => kComps kg kt ke vs Sc ds acc n' Q) ?_
    cases e : f d with
    | none =>
      refine comps_fm f ds acc (fun d' hd => h d' (List.mem_cons_of_mem _ hd)) ?_
      rw [List.filterMap_cons_none e] at q
      exact q
    | some y =>
      refine comps_fm f ds (acc ++ [y]) (fun d' hd => h d' (List.mem_cons_of_mem _ hd)) ?_
      rw [List.filterMap_cons_some e] at q
      rw [List.append_assoc]
      exact q
theorem tyn_int (i : Int) : (D.int i).tyn = "int" := rfl
theorem tyn_bl (i : Bool) : (D.bl i).tyn = "bool" := rfl
theorem tyn_non : D.non.tyn = "NoneType" := rfl
theorem tyn_tup (i : List D) : (D.tup i).tyn = "tuple" := rfl
theorem tyn_lst (i : List D) : (D.lst i).tyn = "list" := rfl
theorem flat_int (i : Int) : (D.int i).flat = true := rfl
theorem v_int (i : Int) : (D.int i).v = .int i := rfl
theorem fors_cons {kg : KG} {kb : KS} {E : DEnds} {d : D} {ds : List D} {S : List Sl} {n : Nat} : kFors kg kb E (d :: ds) S n = kg d S fun S1 => kb { E with nx := kFors kg kb E ds, ct := kFors kg kb E ds, bk := E.nx } S1 n := rfl
theorem fors_nil {kg : KG} {kb : KS} {E : DEnds} {S : List Sl} {n : Nat} : kFors kg kb E [] S n = E.nx S n := rfl
theorem enum_cons (k : Nat) (d : D) (ds : List D) : enumD k (d :: ds) = .tup [.int (k : Nat), d] :: enumD (k + 1) ds := rfl
theorem pl_maps {α : Type} {f : α → D} {k : Nat} (h : ∀ a, D.pl k (f a) = True) (xs : List α) : ∀ d ∈ xs.map f, D.pl k d := by
  intro d hd
  obtain ⟨a, _, rfl⟩ := List.mem_map.mp hd
  rw [h]; trivial
theorem ints_iD : ∀ a : List Int, D.ints (a.map D.int) = some a
  | [] => rfl
  | x :: a => by rw [List.map_cons]; unfold D.ints; rw [ints_iD a]
theorem bls_bD : ∀ a : List Bool, D.bls (a.map D.bl) = some a
  | [] => rfl
  | x :: a => by rw [List.map_cons]; unfold D.bls; rw [bls_bD a]
theorem pl_iT (k : Nat) (a : List Int) : D.pl (k + 2) (.tup (a.map D.int)) := pl_maps (fun i => pl_int (k + 1) i) a
theorem pl_iL (k : Nat) (a : List Int) : D.pl (k + 2) (.lst (a.map D.int)) := pl_maps (fun i => pl_int (k + 1) i) a
theorem eqvAll_ints : ∀ a b : List Int, PyData.eqvAll (D.pys (a.map D.int)) (D.pys (b.map D.int)) = decide (a = b)
  | [], [] => rfl
  | [], y :: b => by rw [List.map_cons, decide_eq_false (by intro h; cases h)]; rfl
  | x :: a, [] => by rw [List.map_cons, decide_eq_false (by intro h; cases h)]; rfl
  | x :: a, y :: b => by
    rw [List.map_cons, List.map_cons]
    simp only [D.pys, D.py, PyData.eqvAll, PyData.eqv]
    rw [eqvAll_ints a b]
    by_cases e : x = y
    · subst e
      by_cases e2 : a = b
      · subst e2; simp
      · simp [e2]
    · simp [e]
theorem eqb_iT (a b : List Int) : D.eqb (.tup (a.map D.int)) (.tup (b.map D.int)) = decide (a = b) := by
  unfold D.eqb
  simp only [D.py, PyData.eqv]
  exact eqvAll_ints a b
theorem eqb_iL (a b : List Int) : D.eqb (.lst (a.map D.int)) (.lst (b.map D.int)) = decide (a = b) := by
  unfold D.eqb
  simp only [D.py, PyData.eqv]
  exact eqvAll_ints a b
theorem rngD_map : ∀ (n lo : Nat), rngD (lo : Int) n = (List.range' lo n).map fun i : Nat => D.int (i : Int)
  | 0, _ => rfl
  | n + 1, lo => by
    rw [List.range'_succ, List.map_cons, ← rngD_map n (lo + 1)]
    rfl
theorem rngD_zero (n : Nat) : rngD 0 n = (List.range' 0 n).map fun i : Nat => D.int (i : Int) := rngD_map n 0
theorem atI_map {α : Type} (f : α → D) (a : List α) (i : Nat) (h : i < a.length) : atI (a.map f) (i : Int) = some (f (a[i]'h)) := by
  unfold atI ixN
  rw [List.length_map, if_pos (by omega), if_pos (by omega)]
  show (a.map f)[((i : Int)).toNat]? = _
  rw [Int.toNat_natCast, List.getElem?_map, List.getElem?_eq_getElem h]; rfl
theorem atI_ints (a : List Int) (i : Nat) (h : i < a.length) : atI (a.map D.int) (i : Int) = some (.int (a.getD i 0)) := by
  rw [atI_map D.int a i h, List.getD_eq_getElem?_getD, List.getElem?_eq_getElem h]; rfl
/-- a comprehension without a test that draws nothing -/
theorem comps_all {α : Type} {kg : KG} {ke : KE} {vs : List Nat} {Sc : List Sl} {n : Nat} {Q : List D → Nat → Prop} (f g : α → D) : ∀ (xs : List α) (acc : List D)
    (h : ∀ x ∈ xs, ∀ R : D → Nat → Prop, R (g x) n → kg (f x) Sc fun S2 => wipeD S2 vs = Sc ∧ ke S2 n fun y S4 n4 => S4 = S2 ∧ R y n4)
    (q : Q (acc ++ xs.map g) n), kComps kg kYes ke vs Sc (xs.map f) acc n Q
  | [], acc, h, q => by simpa [kComps] using q
  | x :: xs, acc, h, q => by
    rw [List.map_cons]
    unfold kComps kYes
    have z := h x (List.mem_cons_self ..) (fun y n' => kComps kg kYes ke vs Sc (xs.map f) (acc ++ [y]) n' Q) (comps_all f g xs (acc ++ [g x]) (fun x' hx => h x' (List.mem_cons_of_mem _ hx)) (by rw [List.append_assoc]; exact q))
    simp only [if_true, true_and]
    exact z
theorem clsV_pe {X : Cx} {x : Str} {C : Addr} {p : Pos} (hg : Gl X x) (hm : X.mg x = some (.ref C)) (hd : (x == ("__debug__" : Str)) = false := by decide) : PE X (.Name x p) (tC (.ref C)) := (de_clsV hg hm hd).pe
/-! ### what gives what, and leaves all else -/
def Gv (k : KE) (S : List Sl) (d : D) : Prop := ∀ (n : Nat) (Q : D → List Sl → Nat → Prop), Q d S n → k S n Q
def GvA (k : KA) (S : List Sl) (ds : List D) : Prop := ∀ (n : Nat) (Q : List D → List Sl → Nat → Prop), Q ds S n → k S n Q
def GvT (k : KT) (S : List Sl) (b : Bool) : Prop := ∀ (n : Nat) (Q : Bool → List Sl → Nat → Prop), Q b S n → k S n Q
section
variable {S : List Sl} {i : Nat} {d x y z : D} {k ka kb kc ko : KE} {ks : KA} {ds : List D} {kt ku : KT} {op : D2} {C : Addr} {c : DC} {gs : List (Str × D)} {b b' : Bool} {f m : Str}
theorem gv_v (h : S[i]? = some (.val d)) : Gv (kV i) S d := fun n Q q => by unfold kV; rw [h]; exact q
theorem gv_b (h : S[i]? = some (.val d)) : Gv (kB i) S d := fun n Q q => by unfold kB; rw [h]; exact q
theorem gv_bo {ds : List D} (h : S[i]? = some (.own ds)) : Gv (kB i) S (.lst ds) := fun n Q q => by unfold kB; rw [h]; exact q
theorem gv_c : Gv (kC d) S d := fun n Q q => q
theorem gv_bin (ha : Gv ka S x) (hb : Gv kb S y) (ho : ∀ Q : D → Prop, Q z → op x y Q) : Gv (kBin op ka kb) S z := fun n Q q => ha n _ (hb n _ (ho _ q))
theorem gv_un {op : D1} (ha : Gv ka S x) (ho : ∀ Q : D → Prop, Q z → op x Q) : Gv (kUn op ka) S z := fun n Q q => ha n _ (ho _ q)
theorem gv_neg {i : Int} (ha : Gv ka S (.int i)) : Gv (kUn dNeg ka) S (.int (-i)) := gv_un ha fun Q q => q
theorem gv_add {i j : Int} (ha : Gv ka S (.int i)) (hb : Gv kb S (.int j)) : Gv (kBin dAdd ka kb) S (.int (i + j)) := gv_bin ha hb fun Q q => q
theorem gv_sub {i j : Int} (ha : Gv ka S (.int i)) (hb : Gv kb S (.int j)) : Gv (kBin dSub ka kb) S (.int (i - j)) := gv_bin ha hb fun Q q => ⟨trivial, q⟩
theorem gv_mul {i j : Int} (ha : Gv ka S (.int i)) (hb : Gv kb S (.int j)) (h : CMul i j ∨ CMulW i j) : Gv (kBin dMulX ka kb) S (.int (i * j)) := gv_bin ha hb fun Q q => ⟨h, q⟩
theorem gv_pow {i j : Int} (ha : Gv ka S (.int i)) (hb : Gv kb S (.int j)) (h : CPow i j) : Gv (kBin dPow ka kb) S (.int (i ^ j.toNat)) := gv_bin ha hb fun Q q => ⟨h, q⟩
theorem gv_eq (ha : Gv ka S x) (hb : Gv kb S y) (h1 : D.pl 8 x) (h2 : D.pl 8 y) : Gv (kBin dEq ka kb) S (.bl (D.eqb x y)) := gv_bin ha hb fun Q q => ⟨h1, h2, q⟩
theorem gv_ne (ha : Gv ka S x) (hb : Gv kb S y) (h1 : D.pl 8 x) (h2 : D.pl 8 y) : Gv (kBin dNe ka kb) S (.bl (!D.eqb x y)) := gv_bin ha hb fun Q q => ⟨h1, h2, q⟩
theorem gv_call {o : List D → (D → Prop) → Prop} (ha : GvA ks S ds) (ho : ∀ Q : D → Prop, Q z → o ds Q) : Gv (kCall o ks) S z := fun n Q q => ha n _ (ho _ q)
theorem gv_fn (ha : GvA ks S ds) (hc : ∀ n Q, Q z n → c ds n Q) : Gv (kFn c ks) S z := fun n Q q => ha n _ (hc n _ q)
theorem gv_tup (ha : GvA ks S ds) (h : ds.length ≤ 1000000) : Gv (kTup ks) S (.tup ds) := fun n Q q => ha n _ ⟨h, q⟩
theorem gv_lst (ha : GvA ks S ds) (h : ds.length ≤ 1000000) : Gv (kLst ks) S (.lst ds) := fun n Q q => ha n _ ⟨h, q⟩
theorem gv_nil : GvA kNil S [] := fun n Q q => q
theorem gv_cons (h : Gv k S d) (hs : GvA ks S ds) : GvA (kCons k ks) S (d :: ds) := fun n Q q => h n _ (hs n _ q)
theorem gv_stat (ho : Gv ko S (.ref C)) (ha : GvA ks S ds) (hc : ∀ n Q, Q z n → c ds n Q) : Gv (kStat C c ko ks) S z := fun n Q q => ho n _ ⟨rfl, ha n _ (hc n _ q)⟩
theorem gv_meth (ho : Gv ko S (.ins C gs)) (hl : gs.lookup m = none) (ha : GvA ks S ds) (hc : ∀ n Q, Q z n → c (.ins C gs :: ds) n Q) : Gv (kMeth [(C, c)] m ko ks) S z := fun n Q q => ho n _ ⟨hl, .inl ⟨rfl, ha n _ (hc n _ q)⟩⟩
theorem gv_co (ho : Gv ko S (.ins C gs)) (ha : GvA ks S ds) (hc : ∀ n Q, Q z n → c (.ins C gs :: ds) n Q) : Gv (kCo [(C, c)] ko ks) S z := fun n Q q => ho n _ (.inl ⟨rfl, ha n _ (hc n _ q)⟩)
theorem gv_fld {Cs : List Addr} (ho : Gv ko S (.ins C gs)) (hC : C ∈ Cs) (hl : gs.lookup f = some d) : Gv (kFld Cs f ko) S d := fun n Q q => ho n _ ⟨hC, by rw [hl]; exact q⟩
theorem gv_binO (ha : Gv ka S (.ins C gs)) (hb : Gv kb S y) (hy : yOk C y) (hc : ∀ n Q, Q z n → c [.ins C gs, y] n Q) : Gv (kBinO [(C, c)] op ka kb) S z := fun n Q q => ha n _ (hb n _ ⟨hy, .inl ⟨rfl, hc n _ q⟩⟩)
theorem gv_binI {own : List (Addr × DC)} {i : Int} (ha : Gv ka S (.int i)) (h : Gv (kBin op ka kb) S z → Gv (kBinO own op ka kb) S z := by exact id) (hb : Gv kb S y) (ho : ∀ Q : D → Prop, Q z → op (.int i) y Q) : Gv (kBinO own op ka kb) S z := fun n Q q => ha n _ (hb n _ (ho _ q))
theorem gv_unO {o : D1} (ha : Gv ka S (.ins C gs)) (hc : ∀ n Q, Q z n → c [.ins C gs] n Q) : Gv (kUnO [(C, c)] o ka) S z := fun n Q q => ha n _ (.inl ⟨rfl, hc n _ q⟩)
theorem gv_ixO (ha : Gv ka S (.ins C gs)) (hb : Gv kb S y) (hc : ∀ n Q, Q z n → c [.ins C gs, y] n Q) : Gv (kIxO [(C, c)] ka kb) S z := fun n Q q => ha n _ (hb n _ (.inl ⟨rfl, hc n _ q⟩))
theorem gv_eqO {g : Bool → Bool} (ha : Gv ka S (.ins C gs)) (hb : Gv kb S y) (hy : eqY C y) (hc : ∀ n Q, Q (.bl b) n → c [.ins C gs, y] n Q) : Gv (kEqO [(C, c)] g op ka kb) S (.bl (g b)) := fun n Q q => ha n _ (hb n _ ⟨hy, .inl ⟨rfl, hc n _ q⟩⟩)
/-- == of built-in data where an own class stands by -/
theorem gv_eqI {own : List (Addr × DC)} {g : Bool → Bool} (hx : ∀ C gs, x ≠ .ins C gs) (ha : Gv ka S x) (hb : Gv kb S y) (ho : ∀ Q : D → Prop, Q z → op x y Q) : Gv (kEqO own g op ka kb) S z := fun n Q q => ha n _ (hb n _ (by
  cases x <;> first | exact ho _ q | exact absurd rfl (hx _ _)))
theorem gv_andF (h1 : Gv ka S (.bl false)) : Gv (kAndV ka kb) S (.bl false) := fun n Q q => h1 n _ q
theorem gv_andT (h1 : Gv ka S (.bl true)) (h2 : Gv kb S d) : Gv (kAndV ka kb) S d := fun n Q q => h1 n _ (h2 n _ q)
theorem gv_notV (h1 : Gv ka S (.bl b)) : Gv (kNotV ka) S (.bl (!b)) := fun n Q q => h1 n _ q
theorem gv_iteT (h1 : GvT kt S true) (h2 : Gv ka S d) : Gv (kIf kt ka kb) S d := fun n Q q => h1 n _ (by rw [if_pos rfl]; exact h2 n _ q)
theorem gv_iteF (h1 : GvT kt S false) (h2 : Gv kb S d) : Gv (kIf kt ka kb) S d := fun n Q q => h1 n _ (by rw [if_neg (by decide)]; exact h2 n _ q)
theorem gvt_of (h : Gv k S (.bl b)) : GvT (kTest k) S b := fun n Q q => h n _ q
theorem gvt_not (h : GvT kt S b) : GvT (kNotT kt) S (!b) := fun n Q q => h n _ q
theorem gvt_orF (h : GvT kt S false) (h2 : GvT ku S b) : GvT (kOrT kt ku) S b := fun n Q q => h n _ (by rw [if_neg (by decide)]; exact h2 n _ q)
theorem gvt_orT (h : GvT kt S true) : GvT (kOrT kt ku) S true := fun n Q q => h n _ (by rw [if_pos rfl]; exact q)
theorem gvt_andT (h : GvT kt S true) (h2 : GvT ku S b) : GvT (kAndT kt ku) S b := fun n Q q => h n _ (by rw [if_pos rfl]; exact h2 n _ q)
theorem gvt_andF (h : GvT kt S false) : GvT (kAndT kt ku) S false := fun n Q q => h n _ (by rw [if_neg (by decide)]; exact q)
theorem GvT.cast {b b' : Bool} (h : GvT kt S b) (e : b = b') : GvT kt S b' := e ▸ h
theorem Gv.cast {d d' : D} (h : Gv k S d) (e : d = d') : Gv k S d' := e ▸ h
/-- a test that does not hold -/
theorem ks_if0 {k1 k2 : KS} {E : DEnds} {n : Nat} (h : GvT kt S false) (q : k2 E S n) : kIfS kt k1 k2 E S n := h n _ (by rw [if_neg (by decide)]; exact q)
theorem ks_if1 {k1 k2 : KS} {E : DEnds} {n : Nat} (h : GvT kt S true) (q : k1 E S n) : kIfS kt k1 k2 E S n := h n _ (by rw [if_pos rfl]; exact q)
theorem ks_ret {E : DEnds} {n : Nat} (h : Gv k S d) (q : E.rt d n) : kRet k E S n := h n _ q
theorem ks_asg {kg : KG} {E : DEnds} {n : Nat} (h : Gv k S d) (q : kg d S fun S2 => E.nx S2 n) : kAsg k kg E S n := h n _ q
theorem ks_set {i : Nat} {E : DEnds} {n : Nat} (h : Gv k S d) (q : E.nx (S.set i (.val d)) n) : kAsg k (gN i) E S n := h n _ q
theorem ks_drop {E : DEnds} {n : Nat} (h : Gv k S d) (q : E.nx S n) : kDrop k E S n := h n _ q
end
section
variable {S : List Sl} {a b : List Int} {i j : Int} {p : Nat} {k ka kb ko : KE} {ks ki : KA} {ds : List D} {vs : List Nat} {d e : D}
theorem gv_lenT (h : Gv k S (.tup ds)) : Gv (kCall bLen (kCons k kNil)) S (.int ds.length) := fun n Q q => h n _ q
theorem gv_lenL (h : Gv k S (.lst ds)) : Gv (kCall bLen (kCons k kNil)) S (.int ds.length) := fun n Q q => h n _ q
theorem gv_lenI (h : Gv k S (.tup (a.map D.int))) : Gv (kCall bLen (kCons k kNil)) S (.int a.length) := (gv_lenT h).cast (by rw [List.length_map])
theorem gv_lenIL (h : Gv k S (.lst (a.map D.int))) : Gv (kCall bLen (kCons k kNil)) S (.int a.length) := (gv_lenL h).cast (by rw [List.length_map])
theorem gv_lt (ha : Gv ka S (.int i)) (hb : Gv kb S (.int j)) : Gv (kBin dLt ka kb) S (.bl (decide (i < j))) := gv_bin ha hb fun Q q => q
theorem gv_le (ha : Gv ka S (.int i)) (hb : Gv kb S (.int j)) : Gv (kBin dLe ka kb) S (.bl (decide (i ≤ j))) := gv_bin ha hb fun Q q => q
theorem gv_gt (ha : Gv ka S (.int i)) (hb : Gv kb S (.int j)) : Gv (kBin dGt ka kb) S (.bl (decide (j < i))) := gv_bin ha hb fun Q q => q
theorem gv_ge (ha : Gv ka S (.int i)) (hb : Gv kb S (.int j)) : Gv (kBin dGe ka kb) S (.bl (decide (j ≤ i))) := gv_bin ha hb fun Q q => q
theorem gv_eqi (ha : Gv ka S (.int i)) (hb : Gv kb S (.int j)) : Gv (kBin dEq ka kb) S (.bl (i == j)) := gv_bin ha hb fun Q q => ⟨by rw [pl_int]; trivial, by rw [pl_int]; trivial, q⟩
theorem gv_nei (ha : Gv ka S (.int i)) (hb : Gv kb S (.int j)) : Gv (kBin dNe ka kb) S (.bl (!(i == j))) := gv_bin ha hb fun Q q => ⟨by rw [pl_int]; trivial, by rw [pl_int]; trivial, q⟩
theorem gv_mod (ha : Gv ka S (.int i)) (hb : Gv kb S (.int j)) (h : 0 < j) : Gv (kBin dMod ka kb) S (.int (i % j)) := gv_bin ha hb fun Q q => ⟨h, q⟩
theorem gv_div (ha : Gv ka S (.int i)) (hb : Gv kb S (.int j)) (h : CDiv i j ∨ CDivW i j) : Gv (kBin dDivX ka kb) S (.int (i / j)) := gv_bin ha hb fun Q q => ⟨h, q⟩
theorem gv_ixT (ha : Gv ka S (.tup ds)) (hb : Gv kb S (.int i)) (h : atI ds i = some d) : Gv (kBin dIx ka kb) S d := gv_bin ha hb fun Q q => by
  show match atI ds i with | some d => Q d | none => False
  rw [h]; exact q
theorem gv_ixL (ha : Gv ka S (.lst ds)) (hb : Gv kb S (.int i)) (h : atI ds i = some d) : Gv (kBin dIx ka kb) S d := gv_bin ha hb fun Q q => by
  show match atI ds i with | some d => Q d | none => False
  rw [h]; exact q
theorem gv_ixI (ha : Gv ka S (.tup (a.map D.int))) (hb : Gv kb S (.int (p : Nat))) (h : p < a.length) : Gv (kBin dIx ka kb) S (.int (a.getD p 0)) := gv_ixT ha hb (atI_ints a p h)
theorem gv_ixIL (ha : Gv ka S (.lst (a.map D.int))) (hb : Gv kb S (.int (p : Nat))) (h : p < a.length) : Gv (kBin dIx ka kb) S (.int (a.getD p 0)) := gv_ixL ha hb (atI_ints a p h)
theorem gv_tupleT (h : Gv k S (.tup ds)) : Gv (kCall bTuple (kCons k kNil)) S (.tup ds) := fun n Q q => h n _ q
theorem gv_tupleL (h : Gv k S (.lst ds)) : Gv (kCall bTuple (kCons k kNil)) S (.tup ds) := fun n Q q => h n _ q
theorem gv_listT (h : Gv k S (.tup ds)) : Gv (kCall bList (kCons k kNil)) S (.lst ds) := fun n Q q => h n _ q
theorem gv_listL (h : Gv k S (.lst ds)) : Gv (kCall bList (kCons k kNil)) S (.lst ds) := fun n Q q => h n _ q
theorem gv_int (h : Gv k S (.int i)) : Gv (kCall bInt (kCons k kNil)) S (.int i) := fun n Q q => h n _ q
theorem gv_intB {c : Bool} (h : Gv k S (.bl c)) : Gv (kCall bInt (kCons k kNil)) S (.int (if c then 1 else 0)) := fun n Q q => h n _ q
theorem gv_sum (h : Gv k S (.lst (a.map D.int))) : Gv (kCall bSum (kCons k kNil)) S (.int a.sum) := fun n Q q => h n _ (by
  show match D.ints (a.map D.int) with | some bs => Q (.int bs.sum) S n | none => False
  rw [ints_iD]; exact q)
theorem gv_max2 (ha : Gv ka S (.int i)) (hb : Gv kb S (.int j)) : Gv (kCall bMax (kCons ka (kCons kb kNil))) S (.int (if j > i then j else i)) := fun n Q q => ha n _ (hb n _ q)
theorem gv_slT {o1 o2 : Option Int} {k1 k2 : KO} (h : Gv k S (.tup ds)) (h1 : ∀ n Q, Q o1 S n → k1 S n Q) (h2 : ∀ n Q, Q o2 S n → k2 S n Q) : Gv (kSl k k1 k2) S (.tup (DL.cutD ds o1 o2)) := fun n Q q => h n _ (h1 n _ (h2 n _ q))
theorem gv_slL {o1 o2 : Option Int} {k1 k2 : KO} (h : Gv k S (.lst ds)) (h1 : ∀ n Q, Q o1 S n → k1 S n Q) (h2 : ∀ n Q, Q o2 S n → k2 S n Q) : Gv (kSl k k1 k2) S (.lst (DL.cutD ds o1 o2)) := fun n Q q => h n _ (h1 n _ (h2 n _ q))
theorem go_none : ∀ (n : Nat) (Q : Option Int → List Sl → Nat → Prop), Q none S n → kNoPart S n Q := fun n Q q => q
theorem go_some (h : Gv k S (.int i)) : ∀ (n : Nat) (Q : Option Int → List Sl → Nat → Prop), Q (some i) S n → kPart k S n Q := fun n Q q => h n _ q
theorem cut_take {α : Type} (xs : List α) (k : Nat) : DL.cutD xs none (some (k : Int)) = xs.take k := by
  unfold DL.cutD
  rw [HT.sIx_none, HT.sIx_nat, List.drop_zero, Nat.sub_zero]
  by_cases h : k ≤ xs.length
  · rw [Nat.min_eq_left h]
  · rw [Nat.min_eq_right (by omega), List.take_of_length_le (Nat.le_refl _), List.take_of_length_le (by omega)]
theorem gv_headT (h : Gv k S (.tup (a.map D.int))) (hb : Gv kb S (.int (p : Nat))) : Gv (kSl k kNoPart (kPart kb)) S (.tup ((a.take p).map D.int)) := (gv_slT h go_none (go_some hb)).cast (by rw [cut_take, List.map_take])
theorem gv_headL (h : Gv k S (.lst (a.map D.int))) (hb : Gv kb S (.int (p : Nat))) : Gv (kSl k kNoPart (kPart kb)) S (.lst ((a.take p).map D.int)) := (gv_slL h go_none (go_some hb)).cast (by rw [cut_take, List.map_take])
/-! what is walked -/
theorem gi_T (h : Gv k S (.tup ds)) : GvA (kIter k) S ds := fun n Q q => h n _ q
theorem gi_L (h : Gv k S (.lst ds)) : GvA (kIter k) S ds := fun n Q q => h n _ q
theorem gi_rng1 (h : Gv k S (.int (p : Nat))) (hp : p ≤ 1000000) : GvA (kRng1 (kCons k kNil)) S ((List.range' 0 p).map fun i : Nat => D.int (i : Int)) := fun n Q q => h n _ ⟨⟨by omega, by omega⟩, by
  rw [← rngD_zero] at q
  exact q⟩
theorem gi_rng2 {lo hi : Nat} (ha : Gv ka S (.int (lo : Nat))) (hb : Gv kb S (.int (hi : Nat))) (h1 : lo ≤ 1000000) (h2 : hi ≤ 1000000) : GvA (kRng2 (kCons ka (kCons kb kNil))) S ((List.range' lo (hi - lo)).map fun i : Nat => D.int (i : Int)) := fun n Q q => ha n _ (hb n _ ⟨⟨by omega, by omega, by omega, by omega⟩, by
  rw [← rngD_map] at q
  show Q (rngD (lo : Int) ((hi : Int) - (lo : Int)).toNat) S n
  rw [show ((hi : Int) - (lo : Int)).toNat = hi - lo by omega]
  exact q⟩)
theorem gi_enumT (h : Gv k S (.tup ds)) : GvA (kEnum (kCons k kNil)) S (enumD 0 ds) := fun n Q q => h n _ q
theorem gi_enumL (h : Gv k S (.lst ds)) : GvA (kEnum (kCons k kNil)) S (enumD 0 ds) := fun n Q q => h n _ q
/-- a comprehension over one name -/
theorem gv_comp {α : Type} {ke : KE} {v : Nat} {f g : α → D} {xs : List α} (hi : GvA ki S (xs.map f)) (hl : xs.length ≤ 1000000) (ok : DL.okW S [v] = true) (he : ∀ x ∈ xs, Gv ke ((wipeD S [v]).set v (.val (f x))) (g x)) (hw : ∀ d, wipeD ((wipeD S [v]).set v (.val d)) [v] = wipeD S [v]) :
    Gv (kOut (kCompO ki (gN v) kYes ke [v])) S (.lst (xs.map g)) := fun n Q q => hi n _ ⟨by rw [List.length_map]; exact hl, ok, comps_all f g xs [] (fun x hx R r => ⟨hw _, he x hx n _ ⟨rfl, r⟩⟩) (by rw [List.nil_append]; exact q)⟩
theorem gv_compI {α : Type} {ke : KE} {v : Nat} {f : α → D} {g : α → Int} {xs : List α} (hi : GvA ki S (xs.map f)) (hl : xs.length ≤ 1000000) (ok : DL.okW S [v] = true) (he : ∀ x ∈ xs, Gv ke ((wipeD S [v]).set v (.val (f x))) (.int (g x))) (hw : ∀ d, wipeD ((wipeD S [v]).set v (.val d)) [v] = wipeD S [v]) :
    Gv (kOut (kCompO ki (gN v) kYes ke [v])) S (.lst ((xs.map g).map D.int)) := (gv_comp (g := fun x => D.int (g x)) hi hl ok he hw).cast (by rw [List.map_map]; rfl)
theorem ks_par {E : DEnds} {n : Nat} {ii jj : Nat} (ha : Gv ka S d) (hb : Gv kb ((S)) e) (q : E.nx ((S.set ii (.val d)).set jj (.val e)) n) : kPar ii jj (kCons ka (kCons kb kNil)) E S n := ha n _ (hb n _ q)
/-! a step, then the rest -/
variable {E : DEnds} {n : Nat} {S' : List Sl} {k1 k2 k3 : KS} {kt : KT} {ii jj : Nat}
theorem kq_set (h : Gv k S d) (q : k2 E S' n) (hs : S.set ii (.val d) = S' := by rfl) : kSeq (kAsg k (gN ii)) k2 E S n := h n _ (by subst hs; exact q)
theorem kq_asg2 (h : Gv k S (.tup [d, e])) (q : k2 E S' n) (hs : (S.set ii (.val d)).set jj (.val e) = S' := by rfl) : kSeq (kAsg k (gTupD 2 (gsCons (gN ii) (gsCons (gN jj) gsNil)))) k2 E S n := h n _ ⟨rfl, by subst hs; exact q⟩
theorem kq_if0 (h : GvT kt S false) (q : k2 E S n) : kSeq (kIfS kt k1 kNext) k2 E S n := h n _ (by rw [if_neg (by decide)]; exact q)
theorem kq_if1 (h : GvT kt S true) (q : k1 { E with nx := k2 E } S n) : kSeq (kIfS kt k1 k3) k2 E S n := h n _ (by rw [if_pos rfl]; exact q)
theorem kq_drop (h : Gv k S d) (q : k2 E S n) : kSeq (kDrop k) k2 E S n := h n _ q
theorem kq_par (ha : Gv ka S d) (hb : Gv kb S e) (q : k2 E S' n) (hs : (S.set ii (.val d)).set jj (.val e) = S' := by rfl) : kSeq (kPar ii jj (kCons ka (kCons kb kNil))) k2 E S n := ha n _ (hb n _ (by subst hs; exact q))
theorem kq_par3 {ll : Nat} {kc : KE} {g : D} (ha : Gv ka S d) (hb : Gv kb S e) (hc : Gv kc S g) (q : k2 E S' n) (hs : ((S.set ii (.val d)).set jj (.val e)).set ll (.val g) = S' := by rfl) : kSeq (kPar3 ii jj ll (kCons ka (kCons kb (kCons kc kNil)))) k2 E S n := ha n _ (hb n _ (hc n _ (by subst hs; exact q)))
theorem kq_for {ki : KA} {kg : KG} {kb : KS} (h : GvA ki S ds) (q : kFors kg kb { E with nx := k2 E } ds S n) : kSeq (kFor ki kg kb) k2 E S n := h n _ q
theorem kq_while {kb : KS} {m : Nat} (q : kWhiles kt kb { E with nx := k2 E } m S n) : kSeq (kWhile kt kb) k2 E S n := ⟨m, q⟩
/-! own instances, parts of them -/
variable {C x : Addr} {gs : List (Str × D)} {f : Str} {c b : Bool} {Cs : List Addr}
theorem gv_isiC (h : Gv k S (.ins C gs)) : Gv (kIsiC [(C, b)] k) S (.bl b) := fun n Q q => h n _ (.inl ⟨rfl, q⟩)
theorem gv_isi2T (h : Gv k S (.tup ds)) : Gv (kIsi2 k "list" "tuple") S (.bl true) := fun n Q q => h n _ ⟨by rw [tyn_tup]; decide, by rw [tyn_tup, kit_tl, kit_tt]; exact q⟩
theorem gv_isi2L (h : Gv k S (.lst ds)) : Gv (kIsi2 k "list" "tuple") S (.bl true) := fun n Q q => h n _ ⟨by rw [tyn_lst]; decide, by rw [tyn_lst, kit_ll, kit_lt]; exact q⟩
theorem gv_star1T (h : Gv k S (.tup ds)) : GvA (kStar1 k) S ds := fun n Q q => h n _ q
theorem gv_star1L (h : Gv k S (.lst ds)) : GvA (kStar1 k) S ds := fun n Q q => h n _ q
theorem gv_revT (h : Gv k S (.tup ds)) : Gv (kRev k) S (.tup ds.reverse) := fun n Q q => h n _ q
theorem gv_revL (h : Gv k S (.lst ds)) : Gv (kRev k) S (.lst ds.reverse) := fun n Q q => h n _ q
theorem gv_fldO (h : S[ii]? = some (.obj x C gs)) (hC : C ∈ Cs) (hl : gs.lookup f = some d) : Gv (kFldO Cs ii f) S d := fun n Q q => by
  unfold kFldO
  rw [h]
  exact ⟨hC, by rw [hl]; exact q⟩
theorem kq_setF (h : Gv k S d) (hs : S[ii]? = some (.obj x C gs)) (hC : C ∈ Cs) (h1 : oneObj S ii = true) (hl : gs.length < 1000) (q : k2 E S' n) (e : S.set ii (.obj x C (putD f d gs)) = S' := by rfl) : kSeq (kSetF Cs ii f k) k2 E S n := h n _ (by
  show (match S[ii]? with | some (.obj x C gs) => C ∈ Cs ∧ oneObj S ii = true ∧ gs.length < 1000 ∧ k2 E (S.set ii (.obj x C (putD f d gs))) n | _ => False)
  rw [hs]
  subst e
  exact ⟨hC, h1, hl, q⟩)
theorem gv_tmul {j : Nat} (h : Gv ka S (.tup ds)) (hb : Gv kb S (.int (j : Nat))) (h0 : ds ≠ []) (h1 : ds.length ≤ 1000) (h2 : j ≤ 1000) : Gv (kBin dMulX ka kb) S (.tup (List.replicate j ds).flatten) := gv_bin h hb fun Q q => by
  have h3 : ((j : Int) = 1 ∨ (2 ≤ (j : Int) ∧ (j : Int) ≤ 1000 ∧ ds.length ≤ 1000 ∧ ds ≠ []) ∨ ((j : Int) = 0 ∧ ds ≠ [])) := by
    rcases (show j = 0 ∨ j = 1 ∨ 2 ≤ j by omega) with h | h | h
    · exact .inr (.inr ⟨by omega, h0⟩)
    · exact .inl (by omega)
    · exact .inr (.inl ⟨by omega, by omega, h1, h0⟩)
  exact ⟨h3, by rw [Int.toNat_natCast]; exact q⟩
theorem gv_tadd {ds es : List D} (h : Gv ka S (.tup ds)) (hb : Gv kb S (.tup es)) (hl : ds.length + es.length ≤ 1000000) : Gv (kBin dAdd ka kb) S (.tup (ds ++ es)) := gv_bin h hb fun Q q => ⟨hl, q⟩
theorem gv_ladd {ds es : List D} (h : Gv ka S (.lst ds)) (hb : Gv kb S (.lst es)) (hl : ds.length + es.length ≤ 1000000) : Gv (kBin dAdd ka kb) S (.lst (ds ++ es)) := gv_bin h hb fun Q q => ⟨hl, q⟩
theorem gv_any {bs : List Bool} (h : Gv k S (.lst (bs.map D.bl))) : Gv (kCall bAny (kCons k kNil)) S (.bl (bs.any id)) := fun n Q q => h n _ (by
  show match D.bls (bs.map D.bl) with | some bs => Q (.bl (bs.any id)) S n | none => False
  rw [bls_bD]; exact q)
theorem gv_all {bs : List Bool} (h : Gv k S (.lst (bs.map D.bl))) : Gv (kCall bAll (kCons k kNil)) S (.bl (bs.all id)) := fun n Q q => h n _ (by
  show match D.bls (bs.map D.bl) with | some bs => Q (.bl (bs.all id)) S n | none => False
  rw [bls_bD]; exact q)
theorem gv_chain {op op' : D2} {kc : KE} {y z : D} {c1 : Bool} (ha : Gv ka S d) (hb : Gv kb S y) (ho : ∀ Q : D → Prop, Q (.bl true) → op d y Q) (hc : Gv kc S z) (ho2 : ∀ Q : D → Prop, Q (.bl c1) → op' y z Q) : Gv (kChain op op' ka kb kc) S (.bl c1) := fun n Q q => ha n _ (hb n _ (ho _ (hc n _ (ho2 _ q))))
theorem lookup_tl {k k' : Str} {e : D} {r : List (Str × D)} (h : (k == k') = false) : ((k', e) :: r).lookup k = r.lookup k := by
  rw [List.lookup_cons, h]
theorem enumD_map {α : Type} (f : α → D) : ∀ (xs : List α) (k : Nat), enumD k (xs.map f) = (xs.zipIdx k).map fun p => D.tup [.int (p.2 : Nat), f p.1]
  | [], _ => rfl
  | x :: xs, k => by rw [List.map_cons, List.zipIdx_cons, List.map_cons, ← enumD_map f xs (k + 1)]; rfl
/-- a comprehension over a pair of names -/
theorem gv_comp2 {α : Type} {ke : KE} {v w : Nat} {f1 f2 g : α → D} {xs : List α} (hi : GvA ki S (xs.map fun x => D.tup [f1 x, f2 x])) (hl : xs.length ≤ 1000000) (ok : DL.okW S [v, w] = true) (he : ∀ x ∈ xs, Gv ke (((wipeD S [v, w]).set v (.val (f1 x))).set w (.val (f2 x))) (g x))
    (hw : ∀ d e, wipeD (((wipeD S [v, w]).set v (.val d)).set w (.val e)) [v, w] = wipeD S [v, w]) :
    Gv (kOut (kCompO ki (gTupD 2 (gsCons (gN v) (gsCons (gN w) gsNil))) kYes ke [v, w])) S (.lst (xs.map g)) := fun n Q q => hi n _ ⟨by rw [List.length_map]; exact hl, ok, comps_all (fun x => D.tup [f1 x, f2 x]) g xs [] (fun x hx R r => ⟨rfl, hw _ _, he x hx n _ ⟨rfl, r⟩⟩) (by rw [List.nil_append]; exact q)⟩
theorem gv_lmul {j : Nat} (h : Gv ka S (.lst ds)) (hb : Gv kb S (.int (j : Nat))) (h1 : ds.length * j ≤ 1000000) (h2 : j ≤ 1000000) : Gv (kBin dMulX ka kb) S (.lst (List.replicate j ds).flatten) := gv_bin h hb fun Q q => ⟨by omega, by omega, by rw [Int.toNat_natCast]; exact h1, by rw [Int.toNat_natCast]; exact q⟩
theorem gv_repO {j : Nat} (h : Gv ka S (.lst ds)) (hb : Gv kb S (.int (j : Nat))) (h1 : ds.length * j ≤ 1000000) (h2 : j ≤ 1000000) : GvA (kRepO ka kb) S (List.replicate j ds).flatten := fun n Q q => h n _ (hb n _ ⟨⟨by omega, by omega, by rw [Int.toNat_natCast]; exact h1⟩, by rw [Int.toNat_natCast]; exact q⟩)
theorem kq_own (h : GvA ki S ds) (q : k2 E S' n) (hs : S.set ii (.own ds) = S' := by rfl) : kSeq (kOwnS ii ki) k2 E S n := h n _ (by subst hs; exact q)
theorem ks_sub {m : Nat} (h : Gv k S d) (hs : S[ii]? = some (.own ds)) (hb : Gv kb S (.int (m : Nat))) (hm : m < ds.length) (q : E.nx (S.set ii (.own (ds.set m d))) n) : kSub ii k kb E S n := h n _ (by
  show (match S[ii]? with | some (.own _) => kb S n fun z S2 n2 => (match S2[ii]?, z with | some (.own ds), .int j => (match ixN ds.length j with | some m => E.nx (S2.set ii (.own (ds.set m d))) n2 | none => False) | _, _ => False) | _ => False)
  rw [hs]
  refine hb n _ ?_
  show (match S[ii]?, D.int (m : Nat) with | some (.own ds), .int j => (match ixN ds.length j with | some m => E.nx (S.set ii (.own (ds.set m d))) n | none => False) | _, _ => False)
  rw [hs]
  show (match ixN ds.length (m : Int) with | some m => E.nx (S.set ii (.own (ds.set m d))) n | none => False)
  have e : ixN ds.length (m : Int) = some m := by
    unfold ixN
    rw [if_pos (by omega), if_pos (by omega), Int.toNat_natCast]
  rw [e]
  exact q)
theorem flat_one (p : Nat) (d : D) : (List.replicate p [d]).flatten = List.replicate p d := by
  induction p with
  | zero => rfl
  | succ p ih => rw [List.replicate_succ, List.flatten_cons, ih, List.replicate_succ]; rfl
end
theorem two_of {K : PySem.W.Frag} {C : Addr} {cd : ClassData} (h1 : PySem.W.clsIn K C = some cd) (h2 : cd.mro = [.ref C, .type "object"]) : LibOp.twoUp K C = true := by
  unfold LibOp.twoUp
  rw [h1]
  show (cd.mro == _) = true
  rw [h2]
  exact beq_self_eq_true _
theorem kit_out {K : PySem.W.Frag} {C : Addr} {t : Value} {b : Bool} (h1 : PySem.W.isClsIn K C = true) (h2 : PySem.W.typeIn K (.ref C) = some (.type "type")) (h3 : PySem.W.subIn K t (.ref C) = some b) (hn : (t == .ref C) = false) : PySem.W.kitOne K t (.ref C) = some b := by
  unfold PySem.W.kitOne PySem.W.kitCls
  rw [hn]
  have e : ((PySem.W.clsIn K C).isSome && PySem.W.typeIn K (.ref C) == some (.type "type")) = true := by
    rw [h2]
    have h1 : (PySem.W.clsIn K C).isSome = true := h1
    rw [h1, beq_self_eq_true]; rfl
  show (if ((PySem.W.clsIn K C).isSome && PySem.W.typeIn K (.ref C) == some (.type "type")) = true then PySem.W.subIn K t (.ref C) else none) = some b
  rw [if_pos e, h3]
theorem kit_self {K : PySem.W.Frag} {C : Addr} : PySem.W.kitOne K (.ref C) (.ref C) = some true := by
  unfold PySem.W.kitOne
  rw [if_pos (beq_self_eq_true _)]
/-! ### what gives one of some -/
def Gx (k : KE) (S : List Sl) (n : Nat) (P : D → Nat → Prop) : Prop := ∀ Q : D → List Sl → Nat → Prop, (∀ d n', P d n' → Q d S n') → k S n Q
section
variable {S S' : List Sl} {n ii jj : Nat} {k ka kb : KE} {P R : D → Nat → Prop} {d x e : D} {op : D2} {k2 : KS} {E : DEnds}
theorem Gv.gx (h : Gv k S d) (p : P d n) : Gx k S n P := fun Q q => h n _ (q d n p)
theorem Gx.mono (h : Gx k S n P) (hp : ∀ d n', P d n' → R d n') : Gx k S n R := fun Q q => h Q fun d n' p => q d n' (hp d n' p)
theorem gx_binR (ha : Gv ka S x) (hb : Gx kb S n P) (ho : ∀ y n', P y n' → ∀ Q : D → Prop, (∀ z, R z n' → Q z) → op x y Q) : Gx (kBin op ka kb) S n R := fun Q q => ha n _ (hb _ fun y n' p => ho y n' p _ fun z r => q z n' r)
theorem gx_binOR {own : List (Addr × DC)} {i : Int} (ha : Gv ka S (.int i)) (hb : Gx kb S n P) (ho : ∀ y n', P y n' → ∀ Q : D → Prop, (∀ z, R z n' → Q z) → op (.int i) y Q) : Gx (kBinO own op ka kb) S n R := fun Q q => ha n _ (hb _ fun y n' p => ho y n' p _ fun z r => q z n' r)
theorem kq_setx (h : Gx k S n P) (q : ∀ d n', P d n' → k2 E (S.set ii (.val d)) n') : kSeq (kAsg k (gN ii)) k2 E S n := h _ fun d n' p => q d n' p
theorem kq_parx (ha : Gx ka S n P) (hb : ∀ d n', P d n' → Gx kb S n' R) (q : ∀ d n1 e n2, P d n1 → R e n2 → k2 E ((S.set ii (.val d)).set jj (.val e)) n2) : kSeq (kPar ii jj (kCons ka (kCons kb kNil))) k2 E S n := ha _ fun d n1 p => hb d n1 p _ fun e n2 r => q d n1 e n2 p r
end
/-! ### << of great ints -/
def CShlW (i j : Int) : Prop := 0 ≤ j ∧ j ≤ 1000000 ∧ i.natAbs.log2 < 1000000
theorem op_shlW {X : Cx} : OpR X (binaryOp .LShift) (rI CShlW fun i j => .int (i * 2 ^ j.toNat)) := opI fun i j _ _ _ _ _ hc q => lshift_int hc.1 (by
  have b : Builtin.Int.intBits i ≤ i.natAbs.log2 + 1 := by
    unfold Builtin.Int.intBits
    split <;> omega
  have h1 := hc.2.1
  have h2 := hc.2.2
  omega) q
def dShlX : D2 := dInt (fun i j => i * 2 ^ j.toNat) CShlW
theorem d_shlX {X : Cx} : DOp X (rI CShlW fun i j => .int (i * 2 ^ j.toNat)) dShlX := d_int
theorem repr_int (i : Int) (h : i.natAbs.log2 < 1920) : (D.int i).py.showable = true ∧ (D.int i).py.shown.length ≤ 1000000 ∧ PyData.strOk (D.int i).py.shown = true := by
  refine ⟨decide_eq_true h, ?_, ?_⟩
  · show (PyData.int i).shown.length ≤ 1000000
    rw [PyData.shown_int, PySem.ofString_length]
    have := int_text_length_le (by decide) h
    omega
  · show PyData.strOk (PyData.int i).shown = true
    unfold PyData.strOk
    rw [← Array.all_toList, List.all_eq_true]
    intro c hc
    by_cases z : c < 0x110000
    · exact decide_eq_true z
    · exact absurd hc (shown_int_free' ⟨by omega, by omega⟩ i)
theorem gv_reprI {S : List Sl} {k : KE} {i : Int} (h : Gv k S (.int i)) (hi : i.natAbs.log2 < 1920) : Gv (kCall bRepr (kCons k kNil)) S (.str (D.int i).py.shown) := fun n Q q => h n _ ⟨by rw [pl_int]; trivial, (repr_int i hi).1, (repr_int i hi).2.1, q⟩
theorem eqb_str (x : Str) : D.eqb (.str x) (.str x) = true := by
  unfold D.eqb
  simp only [D.py, PyData.eqv, beq_self_eq_true]
theorem gv_maxL {S : List Sl} {k : KE} {a : List Int} {m : Int} (h : Gv k S (.lst (a.map D.int))) (hm : m ∈ a) (hx : ∀ y ∈ a, y ≤ m) : Gv (kCall bMax (kCons k kNil)) S (.int m) := fun n Q q => h n _ (by
  show match D.ints (a.map D.int) with | some ns => 0 < ns.length ∧ ∀ m, m ∈ ns → (∀ y, y ∈ ns → y ≤ m) → Q (.int m) S n | none => False
  rw [ints_iD]
  refine ⟨List.length_pos_of_mem hm, fun m' h1 h2 => ?_⟩
  have e : m' = m := by have := hx m' h1; have := h2 m hm; omega
  rw [e]; exact q)
theorem kq_ifx0 {S : List Sl} {n : Nat} {k : KE} {P : D → Nat → Prop} {k1 k2 : KS} {E : DEnds} (h : Gx k S n P) (q : ∀ d n', P d n' → d = .bl true ∧ k2 E S n') : kSeq (kIfS (kNotT (kTest k)) k1 kNext) k2 E S n := h _ fun d n' p => by
  obtain ⟨e, q⟩ := q d n' p
  subst e
  show (if (!true) = true then _ else _)
  rw [if_neg (by decide)]
  exact q
theorem kq_parg {S S' : List Sl} {n ii jj : Nat} {d e : D} {ks : KA} {k2 : KS} {E : DEnds} (h : GvA ks S [d, e]) (q : k2 E S' n) (hs : (S.set ii (.val d)).set jj (.val e) = S' := by rfl) : kSeq (kPar ii jj ks) k2 E S n := h n _ (by subst hs; exact q)
end DL
namespace DL
open PySem PySem.Spec PyProof.Rows L2
/-! ### an own __iter__ that hands out iter(self.f), f a tuple -/
def TiO (t it : Addr) : HO := .ext fun h => h.IsTupleIter it t 0
theorem tiO_ok {P : Program} {w : World} {H : Hp} {h : Heap} {t it : Addr} (e : h.IsTupleIter it t 0) : ObjOk P w H h it (TiO t it) := by
  obtain ⟨o, e1, e2, e3⟩ := e
  exact ⟨⟨o, e1, e2, e3⟩, ⟨_, e1⟩, fun h1 h2 ⟨o, q1, q2, q3⟩ k => ⟨o, k _ q1, q2, q3⟩⟩
def rIterT (K : PySem.W.Frag) (n : Nat) : List V → Hp → VK → Prop := fun xs H Q => ∃ t zs, xs = [.ref t] ∧ SqT K H t zs ∧ ∀ it, H it = none → n ≤ it → Q (.ref it) (upd H it (TiO t it))
theorem call_iter_tup {prog : Program} {w : World} {A : Around} {E : Value → Shared → Prop} {s : Shared} {t : Addr} {items : Array Value} {Q : Value → Shared → Prop} (ht : s.heap.IsTuple t items)
    (h : Q (.ref s.heap.objs.size) { s with heap := s.heap.push { cls := .type "tuple_iterator", data := .fields #[.ref t, .int 0 0] } }) : wpAny (model prog w) A (call (.builtin "iter") [.ref t]) Q E s := by
  have body : wpAny (model prog w) A.in1 (Builtin.«iter» ⟨[.ref t], []⟩) (fun fin s' => ∃ v, fin = .done (.ret v) ∧ Q v s') E s := by
    unfold Builtin.«iter»
    exact wpAny_bind (m := someArgs "iter" 1 2 _) (wpAny_of_eq (a := [Value.ref t]) (by first | rfl | kernel_rfl!)
      (show wpAny (model prog w) A.in1 (pyIter (.ref t) >>= _) _ E s from wpAny_bind (wpAny_pyIter_tuple ht (wpAny_pure ⟨_, rfl, h⟩))))
  exact Calls.call_function_entry (by decide +kernel)
    (by decide +kernel) PySem.W.kdk_entry_iter (PySem.W.kdk_args_iter _) body
theorem call_iterT {X : Cx} : CallR X (.builtin "iter") (rIterT X.K X.s_0.heap.objs.size) := by
  intro pins s σ H xs us Q I r h
  obtain ⟨t, zs, rfl, hq, q⟩ := h
  obtain rfl := Vals.ref1 r
  obtain ⟨its, rv, pl, hz⟩ := I.tuple hq
  refine call_iter_tup pl ?_
  exact ⟨.ref s.heap.objs.size, _, I.laid (t' := s.toks) (fun b u e => Heap.get?_push_of_some _ e) (Nat.le_refl _) (tiO_ok ⟨_, Heap.get?_push_size _ rfl, rfl, rfl⟩), rfl, q _ (I.hok.fresh (Nat.le_refl _)) I.sz⟩
/-- a def's run from one state, by its body -/
theorem body_at {P : Program} {w : World} {K : PySem.W.Frag} {mg : Str → Option Value} {base : Heap} {CX : CXT} {k : Nat} {f : Addr} {ps : List Str} {name qual : Str} {params : Arguments} {body : List Stmt} {scope : Scope} {dV kV doc pm cdv ct oc : Value} {an od : Option Addr} {osl : Array (Option Value)} {N : List Str}
    (lk : K.lookup f = some ⟨oc, od, .func (PySem.W.fnOf name qual params body scope dV kV doc pm an cdv ct), osl⟩) (hcd : PySem.W.codeIn K cdv qual = true)
    (S : FnScope N ps scope) {A : Around} {outer : List Env} {s : Shared} {H : Hp} {args : Args} {us : List Value} {vs : List V} {Q : VK} {E : XK} (hr : Room (k + 1) A) (e0 : Env0 P w K mg base A outer s H)
    (hb : BindsTo s (PySem.W.fnOf name qual params body scope dV kV doc pm an cdv ct) args (ps.zip us)) (r : Vals vs us) (long : vs.length = ps.length)
    (walk : Room k (A.deeper (envOfC qual scope s.heap.objs.size f cdv)) → ∃ t, PSs (cxOf CX P w K mg base N qual scope f cdv A outer s H E) body t ∧ t ⟨fun _ H' => Q .non H', Q, fun _ _ => False, fun _ _ => False⟩ (start N vs) H) :
    codeAny (model P w) A (.call (.ref f) args) (CR CX outer P w H s Q E) s := by
  have kept : ∀ b o, base.get? b = some o → s.heap.get? b = some o := fun b o z => (e0.bs b o z).1
  have inK : K.In s.heap := e0.mod.kin.keeps kept
  have cells : ∀ y ∈ ps.zip us, scope.names.lookup y.1 = some .local ∨
      (scope.names.lookup y.1 = some .cell ∧ ((cellsFrom (s.heap.objs.size + 1) scope.names []).lookup y.1).isSome = true) := by
    rintro ⟨n, v⟩ hy
    rcases S.par n (List.of_mem_zip hy).1 with z | z
    · exact Or.inl z
    · exact Or.inr ⟨z, PySem.W.cellsFrom_some _ _ _ (Or.inl z)⟩
  refine codeAny_call_function hr.depth (inK _ _ lk) rfl S.co S.gen rfl
    (PySem.W.codeRec_of inK hcd) (hb _ _ _ _ ?_)
  refine wpAny_newFunctionEnv_cells S.kind cells ?_
  intro env he s1 x
  subst he
  refine ⟨(e0.mod.nolimit.keeps kept).keeps x.toInCall.keep, codeAny_func ?_⟩
  obtain ⟨t, ht, hq⟩ := walk (hr.deeper _)
  have I := inv_start (CX := CX) (E := E) S hr.hd e0 long r x
  refine wpAny_mono (ht.run [] s1 _ H _ I hq) ?_ (fun _ _ z => z)
  intro fl s' z
  cases fl with
  | next => obtain ⟨σ', H', J, q⟩ := z; exact ⟨V.non, H', J.os, J.bare, J.base, J.hok, rfl, q⟩
  | ret u => obtain ⟨v, σ', H', J, rv, q⟩ := z; exact ⟨v, H', J.os, J.bare, J.base, J.hok, rv, q⟩
  | brk => obtain ⟨_, _, _, q⟩ := z; exact q.elim
  | cont => obtain ⟨_, _, _, q⟩ := z; exact q.elim
/-- what such an __iter__ promises -/
def ItP (P : Program) (w : World) (K : PySem.W.Frag) (mg : Str → Option Value) (base : Heap) (k : Nat) (f C : Addr) (fld : Str) : Prop :=
  ∀ (A : Around) (outer : List Env) (s : Shared) (H : Hp) (Q : VK) (a dx t : Addr) (fs : List (Str × V)) (zs : List V), Room k A → A.guards = some [] → Env0 P w K mg base A outer s H → H a = some (.ins C dx fs) → fs.lookup fld = some (.ref t) → SqT K H t zs →
    (∀ it, H it = none → s.heap.objs.size ≤ it → Q (.ref it) (upd H it (TiO t it))) → codeAny (model P w) A (.call (.ref f) ⟨[.ref a], []⟩) (CR CX0 outer P w H s Q E0) s
abbrev tIterD (K : PySem.W.Frag) (n : Nat) (fld : Str) : TS := tRet (tCB (rIterT K n) (tCons (tFld K (tVar 0) fld) tNil))
theorem iter_ok {P : Program} {w : World} {K : PySem.W.Frag} {mg : Str → Option Value} {base : Heap} {k : Nat} {f : Addr} {fd : FuncData} {x fld : Str} {qual : Str} {st : Stmt} {C : Addr}
    (F : Fun K x qual st f fd) (S : FnScope ["self"] ["self"] (defScope st)) (hb : Binds K fd ["self"] []) (hC : Cls K C) (hN : NoAttr K C fld)
    (walk : ∀ (cdv : Value) (A : Around) (outer : List Env) (s : Shared) (H : Hp) (E : XK), Stand (cxOf CX0 P w K mg base ["self"] qual (defScope st) f cdv A outer s H E).nox k →
      PSs (cxOf CX0 P w K mg base ["self"] qual (defScope st) f cdv A outer s H E).nox (defBody st) (tIterD K s.heap.objs.size fld)) :
    ItP P w K mg base (k + 1) f C fld := by
  obtain ⟨oc, od, kV, doc, pm, an, cdv, ct, osl, rfl, lk, hcd⟩ := F.ex
  intro A outer s H Q a dx t fs zs hr hg e0 h1 h2 h3 h4
  have KX : K.In s.heap := e0.mod.kin.keeps fun b o e => (e0.bs b o e).1
  have b := hb s [.ref a] KX rfl
  rw [List.append_nil] at b
  refine body_at (CX := CX0) (E := E0) lk hcd S (us := [.ref a]) (vs := [.ref a]) hr e0 b (.cons rfl .nil) rfl fun hr2 => ?_
  refine ⟨_, (walk cdv A outer s H E0 (Stand.of hr2 hg _ rfl)).nox, ?_⟩
  exact ⟨.ref a, rfl, a, C, dx, fs, _, rfl, h1, hC, hN, h2, t, zs, rfl, h3, h4⟩
structure IterC (prog : Program) (w : World) (K : PySem.W.Frag) (mg : Str → Option Value) (base : Heap) (j : Nat) (C : Addr) (fld : Str) : Prop where
  ex : ∃ (f : Addr) (k : Nat), PySem.W.findIn K (.ref C) "__iter__" = some (some (.ref f)) ∧ PySem.W.isFn K (.ref f) = true ∧ ItP prog w K mg base k f C fld ∧ k + 3 ≤ j
abbrev IterOk (X : Cx) (j : Nat) (C : Addr) (fld : Str) : Prop := IterC X.prog X.w X.K X.mg X.base j C fld
section
variable {X : Cx} {j : Nat} {pins : List (Addr × Obj)} {σ : L2.St} {H : Hp} {s : Shared} {a C dx t : Addr} {fs : List (Str × V)} {zs : List V} {fld : Str}
/-- its run: the iterator is ours alone, and tracked -/
theorem run_iter0 {A : Around} {Q : Value → Shared → Prop} (hr : Room (j - 3) A) (hg : A.guards = some []) (e0 : Env0 X.prog X.w X.K X.mg X.base A X.stack s H) (hi : IterOk X j C fld) (I : Inv X pins σ H s) (ha : H a = some (.ins C dx fs)) (hl : fs.lookup fld = some (.ref t)) (hq : SqT X.K H t zs)
    (h : ∀ it s', H it = none → X.s_0.heap.objs.size ≤ it → Inv X pins σ (upd H it (TiO t it)) s' → Q (.ref it) s') : wpAny (model X.prog X.w) A (pyIter (.ref a)) Q X.xe s := by
  obtain ⟨f, k, h1, h2, h3, h4⟩ := hi.ex
  obtain ⟨od, J⟩ := ins_at I ha
  obtain ⟨m, hF⟩ := I.fr
  refine PySem.W.owit_iter hF I.ok.mod.kin J h1 h2 ?_
  refine wpAny_call (codeAny_mono (h3 A X.stack s H (fun v H' => ∃ it, v = .ref it ∧ (H it = none ∧ s.heap.objs.size ≤ it) ∧ H' = upd H it (TiO t it)) a dx t fs zs (hr.mono (by omega)) hg e0 ha hl hq fun it hn hz => ⟨it, rfl, ⟨hn, hz⟩, rfl⟩) fun r s' hr => ?_)
  cases r with
  | error e => exact (show False from hr).elim
  | ok fl =>
    cases fl with
    | next => exact False.elim hr
    | brk => exact False.elim hr
    | cont => exact False.elim hr
    | ret u =>
      obtain ⟨v, H', os, bare, un, hok, rv, it, rfl, ⟨hn, hz⟩, rfl⟩ := id hr
      obtain ⟨v2, H2, I2, rv2, e1, e2⟩ := I.after (Q := fun v H' => v = .ref it ∧ H' = upd H it (TiO t it)) ⟨_, _, os, bare, un, hok, rv, rfl, rfl⟩
      subst e1 e2
      have eu : u = .ref it := rv
      subst eu
      have it0 : s'.heap.IsTupleIter it t 0 := (I2.hok it _ upd_same).1
      unfold PySem.W.OwitIt
      exact wpAny_specialOf (name := Str.ofString "__next__") it0.typeIs F.slot_tuple_iterator_next.lookup (h it s' hn (Nat.le_trans I.sz hz) I2)
/-- the iterator, forgotten -/
theorem it_drop {it : Addr} {s' : Shared} (hn : H it = none) (hy : X.s_0.heap.objs.size ≤ it) (I2 : Inv X pins σ (upd H it (TiO t it)) s') : Inv X pins σ H s' ∧ s'.heap.IsTupleIter it t 0 ∧ FpOk X pins H it := by
  have it0 : s'.heap.IsTupleIter it t 0 := (I2.hok it _ upd_same).1
  have I3 := ItX.inv_drop I2 upd_same
  have fp := ItX.inv_fp I2 upd_same hy
  rw [ItX.dropH_upd hn] at I3 fp
  exact ⟨I3, it0, fp⟩
theorem run_iter {A : Around} {Q : Value → Shared → Prop} (hr : Room (j - 3) A) (hg : A.guards = some []) (e0 : Env0 X.prog X.w X.K X.mg X.base A X.stack s H) (hi : IterOk X j C fld) (I : Inv X pins σ H s) (ha : H a = some (.ins C dx fs)) (hl : fs.lookup fld = some (.ref t)) (hq : SqT X.K H t zs)
    (h : ∀ it s', Inv X pins σ H s' → s'.heap.IsTupleIter it t 0 → FpOk X pins H it → Q (.ref it) s') : wpAny (model X.prog X.w) A (pyIter (.ref a)) Q X.xe s :=
  run_iter0 hr hg e0 hi I ha hl hq fun it s' hn hy I2 => h it s' (it_drop hn hy I2).1 (it_drop hn hy I2).2.1 (it_drop hn hy I2).2.2
end
/-! ### what is walked: a list, a tuple, an own instance -/
def iOwnT (X : Cx) (j : Nat) (tl : TE) : TI := fun σ H R => tl σ H fun x H1 => (∃ a, x = .ref a ∧ ((∃ xs, SqL X.K H1 a xs) ∧ R (Itl X.K a) H1 ∨ (∃ xs, SqT X.K H1 a xs) ∧ R (Itt X.K a) H1)) ∨
  ∃ a C dx fs fld t zs, x = .ref a ∧ H1 a = some (.ins C dx fs) ∧ IterOk X j C fld ∧ fs.lookup fld = some (.ref t) ∧ SqT X.K H1 t zs ∧ R (Itt X.K t) H1
section
variable {X : Cx} {j : Nat} {tg e : Expr} {t : TE} {k : KE} {own : List (Addr × Str)}
theorem pi_ownT {tl : TE} (st : Stand X j) (hl : PE X e tl) : PI X tg e (iOwnT X j tl) := by
  refine ⟨fun pins s σ H R I h => ?_⟩
  refine thn (hl.run pins s σ H _ I h) fun v s1 ⟨x, H1, I1, r1, q1⟩ => ?_
  rcases q1 with ⟨a, e, q⟩ | ⟨a, C, dx, fs, fld, t, zs, e, ea, hi, hlk, hq, q⟩
  · subst e
    cases r1
    have fr : ∀ b ∈ [s1.heap.objs.size], FpOk X pins H1 b := fun b hb => by
      have e : b = s1.heap.objs.size := List.mem_singleton.mp hb
      subst e
      exact I1.fpOk (Nat.le_refl _) (I1.hok.fresh (Nat.le_refl _))
    rcases q with ⟨⟨xs, hq⟩, q⟩ | ⟨⟨xs, hq⟩, q⟩
    · obtain ⟨its, rv, pl, hz⟩ := I1.list hq
      exact wpAny_pyIter_list pl.isList ⟨s1.heap.objs.size, _, _, _, H1, rfl, I1.kept (t' := s1.toks) fun b o e => Heap.get?_push_of_some _ e, turn_list a _, ⟨_, Heap.get?_push_size _ rfl, rfl, rfl⟩, fr, q⟩
    · obtain ⟨its, rv, pl, hz⟩ := I1.tuple hq
      exact wpAny_pyIter_tuple pl ⟨s1.heap.objs.size, _, _, _, H1, rfl, I1.kept (t' := s1.toks) fun b o e => Heap.get?_push_of_some _ e, turn_tuple a _, ⟨_, Heap.get?_push_size _ rfl, rfl, rfl⟩, fr, q⟩
  · subst e
    cases r1
    refine run_iter (st.room.mono (Nat.sub_le ..)) st.gd I1.env0 hi I1 ea hlk hq fun it s' I3 it0 fp => ?_
    refine ⟨it, [it], _, _, H1, rfl, I3, turn_tuple t it, it0, fun b hb => ?_, q⟩
    rw [List.mem_singleton.mp hb]
    exact fp
def selIt : List (Addr × Str) → Addr → (Str → Prop) → Prop
  | [], _, _ => False
  | p :: r, C, f => (p.1 = C ∧ f p.2) ∨ selIt r C f
def ItersOk (X : Cx) (j : Nat) : List (Addr × Str) → Prop
  | [] => True
  | p :: r => IterOk X j p.1 p.2 ∧ ItersOk X j r
theorem ItersOk.sel {X : Cx} {j : Nat} {C : Addr} {f : Str → Prop} : ∀ {own : List (Addr × Str)}, ItersOk X j own → selIt own C f → ∃ fld, IterOk X j C fld ∧ f fld
  | [], _, h => h.elim
  | p :: r, a, h => by
    rcases h with ⟨rfl, h⟩ | h
    · exact ⟨p.2, a.1, h⟩
    · exact ItersOk.sel a.2 h
theorem ItersOk.nil {X : Cx} {j : Nat} : ItersOk X j [] := trivial
theorem ItersOk.cons {X : Cx} {j : Nat} {C : Addr} {fld : Str} {own : List (Addr × Str)} (h : IterOk X j C fld) (r : ItersOk X j own) : ItersOk X j ((C, fld) :: own) := ⟨h, r⟩
def kIterO (own : List (Addr × Str)) (k : KE) : KA := fun S n Q => k S n fun d S1 n1 => match d with
  | .lst ds => Q ds S1 n1
  | .tup ds => Q ds S1 n1
  | .ins C gs => selIt own C fun fld => match gs.lookup fld with
    | some (.tup ds) => Q ds S1 n1
    | _ => False
  | _ => False
theorem di_ownT (st : Stand X j) (hm : ItersOk X j own) (h : DE X e t k) : DI X tg e (iOwnT X j t) (kIterO own k) := by
  refine ⟨pi_ownT st h.pe, fun W F n S σ H Q R hK A q fin => ?_⟩
  refine h.ok W F n S σ H _ _ hK A q fun v H1 F1 n1 S1 d g1 A1 r q1 => ?_
  cases d <;> try exact False.elim q1
  case lst ds =>
    cases r with
    | lst h r => exact .inl ⟨_, rfl, .inl ⟨⟨_, SqL.of (A1.w.sub _ _ h)⟩, hK ▸ fin _ H1 F1 n1 S1 ds g1 A1 (wd_list h r) q1⟩⟩
  case tup ds =>
    cases r with
    | tup h r => exact .inl ⟨_, rfl, .inr ⟨⟨_, hK ▸ same_sqT A1.w.sub h⟩, hK ▸ fin _ H1 F1 n1 S1 ds g1 A1 (wd_tup h r) q1⟩⟩
  case ins C gs =>
    obtain ⟨fld, hi, q2⟩ := hm.sel q1
    obtain ⟨a, dx, fs, rfl, e1, rf, ri⟩ := RB.ins A1.w.sub (.inl r)
    cases e : gs.lookup fld with
    | none => rw [e] at q2; exact q2.elim
    | some d =>
      rw [e] at q2
      obtain ⟨v, ev, rv⟩ := (repf_lookup (x := fld) rf).1 d e
      cases d <;> try exact False.elim q2
      case tup ds =>
        cases rv with
        | tup h r => exact .inr ⟨a, C, dx, fs, fld, _, _, rfl, e1, hi, ev, hK ▸ same_sqT A1.w.sub h, hK ▸ fin _ H1 F1 n1 S1 ds g1 A1 (wd_tup h r) q2⟩
end
end DL
namespace DL
open PySem PySem.Spec PyProof.Rows L2
/-! ### texts -/
theorem rb_str1 {W : Wd} {F H : Hp} {vs : List V} {x : Str} (r : RBs W F H vs [.str x]) : vs = [.str x] := by
  obtain ⟨v, rfl, rx⟩ := rb1 r
  rw [rx.str]
/-- str(n), n an int -/
def bStr : List D → (D → Prop) → Prop := fun ds Q => match ds with
  | [.int i] => i.natAbs.log2 < 1920 ∧ Q (.str (Str.ofString (toString i)))
  | _ => False
theorem d_str {X : Cx} : DCall X (fun xs H Q => ∃ i : Int, xs = [.int i] ∧ i.natAbs.log2 < 1920 ∧ Q (.str (Str.ofString (toString i))) H) bStr := by
  intro W F H n vs ds Q R hK w r q fin
  match ds, r, q with
  | [.int i], r, q =>
    obtain ⟨v, rfl, rx⟩ := rb1 r
    exact ⟨i, by rw [rx.int], q.1, fin _ F H _ (New.refl w.sub) (.str _) q.2⟩
/-- int(x), x an int, a bool, a text that is a number -/
def bIntX : List D → (D → Prop) → Prop := fun ds Q => match ds with
  | [.str a] => ∃ n, PySem.intText? a = some n ∧ a.length ≤ 640 ∧ Q (.int n)
  | _ => bInt ds Q
def rIntX (X : Cx) : List V → Hp → VK → Prop := fun xs H Q => ((∃ i, xs = [.int i] ∧ Q (.int i) H) ∨ ∃ k, xs = [.bl k] ∧ Q (.int (if k then 1 else 0)) H) ∨ (∃ a n, xs = [.str a] ∧ PySem.intText? a = some n ∧ a.length ≤ 640 ∧ Q (.int n) H)
theorem call_intX {X : Cx} : CallR X (.type "int") (rIntX X) := callR_or call_int1 call_int_str
theorem d_intX {X : Cx} : DCall X (rIntX X) bIntX := by
  intro W F H n vs ds Q R hK w r q fin
  have old : bInt ds Q → rIntX X vs H R := fun q => .inl (d_toInt (X := X) W F H n vs ds Q R hK w r q fin)
  match ds, r, q with
  | [], r, q => exact old q
  | [.str a], r, q =>
    obtain ⟨m, h1, h2, q⟩ := q
    exact .inr ⟨a, m, rb_str1 r, h1, h2, fin _ F H _ (New.refl w.sub) (.int _) q⟩
  | [.non], r, q => exact old q
  | [.bl _], r, q => exact old q
  | [.int _], r, q => exact old q
  | [.tup _], r, q => exact old q
  | [.lst _], r, q => exact old q
  | [.ty _], r, q => exact old q
  | [.ref _], r, q => exact old q
  | [.ins _ _], r, q => exact old q
  | [.pen _], r, q => exact old q
  | a :: b :: c, r, q => cases a <;> exact old q
theorem reps_strs {K : PySem.W.Frag} {pa : Option Pn} {F : Hp} : ∀ {ys : List Str} {vs : List V}, Reps K pa F vs (ys.map D.str) → vs = ys.map V.str
  | [], _, .nil => rfl
  | y :: ys, _, .cons (.str _) r => by rw [List.map_cons, ← reps_strs r]
theorem strs_reps {K : PySem.W.Frag} {pa : Option Pn} {F : Hp} : ∀ (ys : List Str), Reps K pa F (ys.map V.str) (ys.map D.str)
  | [] => .nil
  | y :: ys => .cons (.str _) (strs_reps ys)
/-- sep.join(texts) -/
def kJoin (ko ke : KE) : KE := fun S n Q => ko S n fun d S1 n1 => match d with
  | .str a => ke S1 n1 fun y S2 n2 => match y with
    | .lst ds => ∃ ys : List Str, ds = ys.map D.str ∧ (ys.map (·.length)).sum + ys.length * a.length ≤ 16777216 ∧ Q (.str (Txt.join a ys)) S2 n2
    | .tup ds => ∃ ys : List Str, ds = ys.map D.str ∧ (ys.map (·.length)).sum + ys.length * a.length ≤ 16777216 ∧ Q (.str (Txt.join a ys)) S2 n2
    | _ => False
  | _ => False
abbrev tJoinS (K : PySem.W.Frag) (to te : TE) : TE := tM1 (fun x xs H Q => ∃ a p, ∃ ys : List Str, x = .str a ∧ xs = [.ref p] ∧ (SqL K H p (ys.map V.str) ∨ SqT K H p (ys.map V.str)) ∧
      (ys.map (·.length)).sum + ys.length * a.length ≤ 16777216 ∧ Q (.str (Txt.join a ys)) H) to te
section
variable {X : Cx} {o e : Expr} {to te : TE} {ko ke : KE} {apos pos : Pos}
theorem de_join (ho : DB X o to ko) (he : DE X e te ke) (hp : PE X o to → PE X e te → PE X (.Call (.Attribute o "join" apos) [e] [] pos) (tJoinS X.K to te) := by intro a b; exact pe_join a b) : DE X (.Call (.Attribute o "join" apos) [e] [] pos) (tJoinS X.K to te) (kJoin ko ke) := by
  refine ⟨hp ho.pe he.pe, fun W F n S σ H Q R hK A q fin => ?_⟩
  refine ho.ok W F n S σ H _ _ hK A q fun x H1 F1 n1 S1 d g1 A1 r1 q1 => ?_
  cases d <;> try exact False.elim q1
  case str a =>
    have ex := r1.str
    subst ex
    refine ⟨⟨a, rfl⟩, ?_⟩
    refine he.ok W F1 n1 S1 σ H1 _ _ hK A1 q1 fun y H2 F2 n2 S2 d2 g2 A2 r2 q2 => ?_
    cases d2 <;> try exact False.elim q2
    case lst ds =>
      obtain ⟨ys, rfl, hz, q3⟩ := q2
      cases r2 with
      | lst h r => exact ⟨a, _, ys, rfl, rfl, .inl (by rw [← reps_strs r]; exact SqL.of (A2.w.sub _ _ h)), hz, fin _ H2 F2 n2 S2 _ (g1.trans g2) A2 (.str _) q3⟩
    case tup ds =>
      obtain ⟨ys, rfl, hz, q3⟩ := q2
      cases r2 with
      | tup h r => exact ⟨a, _, ys, rfl, rfl, .inr (by rw [← reps_strs r]; exact hK ▸ same_sqT A2.w.sub h), hz, fin _ H2 F2 n2 S2 _ (g1.trans g2) A2 (.str _) q3⟩
/-- s.split(sep) -/
def kSplit (ko ke : KE) : KE := fun S n Q => ko S n fun d S1 n1 => match d with
  | .str a => ke S1 n1 fun y S2 n2 => match y with
    | .str b => (b.length == 0) = false ∧ a.length ≤ 1000000 ∧ Q (.lst ((Txt.split a b).map D.str)) S2 n2
    | _ => False
  | _ => False
abbrev tSplitS (to te : TE) : TE := tM1 (fun x xs H Q => ∃ a b, x = .str a ∧ xs = [.str b] ∧ (b.length == 0) = false ∧ a.length + 2 ≤ sizeLine ∧ rNewStrs (Txt.split a b) H Q) to te
theorem big_ok2 {n : Nat} (h : n ≤ 1000000) : n + 2 ≤ sizeLine := by rw [sizeLine_eq]; omega
theorem de_split (ho : DB X o to ko) (he : DE X e te ke) (hp : PE X o to → PE X e te → PE X (.Call (.Attribute o "split" apos) [e] [] pos) (tSplitS to te) := by intro a b; exact pe_split a b) : DE X (.Call (.Attribute o "split" apos) [e] [] pos) (tSplitS to te) (kSplit ko ke) := by
  refine ⟨hp ho.pe he.pe, fun W F n S σ H Q R hK A q fin => ?_⟩
  refine ho.ok W F n S σ H _ _ hK A q fun x H1 F1 n1 S1 d g1 A1 r1 q1 => ?_
  cases d <;> try exact False.elim q1
  case str a =>
    have ex := r1.str
    subst ex
    refine ⟨⟨a, rfl⟩, ?_⟩
    refine he.ok W F1 n1 S1 σ H1 _ _ hK A1 q1 fun y H2 F2 n2 S2 d2 g2 A2 r2 q2 => ?_
    cases d2 <;> try exact False.elim q2
    case str b =>
      cases r2
      refine ⟨a, b, rfl, rfl, q2.1, big_ok2 q2.2.1, fun p hp => ?_⟩
      obtain ⟨g, r⟩ := new_lst A2.w hp (strs_reps (Txt.split a b))
      exact fin _ _ _ n2 S2 _ ((g1.trans g2).trans g.grow) (A2.new g) r q2.2.2
end
/-! slices, signs, walks of texts -/
def kSlX (k : KE) (kl kh : KO) : KE := fun S n Q => k S n fun d S1 n1 => kl S1 n1 fun l S2 n2 => kh S2 n2 fun h S3 n3 => match d with
  | .lst ds => Q (.lst (DL.cutD ds l h)) S3 n3
  | .tup ds => Q (.tup (DL.cutD ds l h)) S3 n3
  | .str z => z.length ≤ 1000000 ∧ Q (.str (cutS z l h)) S3 n3
  | _ => False
def rSlAll (K : PySem.W.Frag) : V → Option Int → Option Int → Hp → VK → Prop := fun x lo hi H Q => rSlBoth K x lo hi H Q ∨ rSlS x lo hi H Q
theorem de_sliceX {X : Cx} {e : Expr} {lo hi : Option Expr} {t : TE} {tl th : TO} {k : KE} {kl kh : KO} {pos p2 : Pos} (he : DB X e t k) (hl : DO X lo tl kl) (hh : DO X hi th kh) : DE X (.Subscript e (.Slice lo hi none p2) pos) (tSl (rSlAll X.K) t tl th) (kSlX k kl kh) := by
  refine ⟨pe_slice ((sl_list.or sl_tupA).or sl_str) he.pe hl.pe hh.pe, fun W F n S σ H Q R hK A q fin => ?_⟩
  refine he.ok W F n S σ H _ _ hK A q fun v H1 F1 n1 S1 d g1 A1 r1 q1 => ?_
  refine hl.ok W F1 n1 S1 σ H1 _ _ hK A1 q1 fun l H2 F2 n2 S2 g2 A2 q2 => ?_
  refine hh.ok W F2 n2 S2 σ H2 _ _ hK A2 q2 fun h H3 F3 n3 S3 g3 A3 q3 => ?_
  have r3 := (r1.grow g2).grow g3
  cases d <;> try exact False.elim q3
  case lst ds =>
    obtain ⟨p, vs, rfl, h1, h2⟩ := r3.lst A3.w.sub
    refine .inl (.inl ⟨p, vs, rfl, SqL.of h1, fun c hc => ?_⟩)
    obtain ⟨g, r⟩ := new_lst A3.w hc (reps_cut h2 l h)
    exact fin _ _ _ n3 S3 _ (((g1.trans g2).trans g3).trans g.grow) (A3.new g) r q3
  case tup ds =>
    obtain ⟨p, vs, rfl, h1, h0, h2⟩ := r3.tup A3.w.sub
    refine .inl (.inr ⟨p, vs, rfl, hK ▸ h1, fun hw => ?_, fun _ c hc => ?_⟩)
    · have e : DL.cutD ds l h = ds := by
        unfold DL.cutD
        rw [← h2.length, hw.1, hw.2, Nat.sub_zero, List.drop_zero, h2.length, List.take_length]
      have q3 : Q (.tup (DL.cutD ds l h)) S3 n3 := q3
      rw [e] at q3
      exact fin _ H3 F3 n3 S3 _ ((g1.trans g2).trans g3) A3 (.tup h0 h2) q3
    · obtain ⟨g, r⟩ := new_tup A3.w hc (reps_cut h2 l h)
      exact fin _ _ _ n3 S3 _ (((g1.trans g2).trans g3).trans g.grow) (A3.new g) r q3
  case str z =>
    rw [r3.str]
    exact .inr ⟨z, rfl, big_ok q3.1, fin _ H3 F3 n3 S3 _ ((g1.trans g2).trans g3) A3 (.str _) q3.2⟩
/-- c in s, c one sign; x in a list, a tuple -/
def dInX : D2 := fun a b Q => match a, b with
  | .str x, .str z => ∃ c : Nat, x = ⟨#[c]⟩ ∧ Q (.bl (decide (c ∈ z.cps.toList)))
  | _, _ => dIn a b Q
def rInX (K : PySem.W.Frag) : R2 := fun x y H Q => rInA K x y H Q ∨ ∃ (c : Nat) (z : Str), x = .str ⟨#[c]⟩ ∧ y = .str z ∧ Q (.bl (decide (c ∈ z.cps.toList))) H
theorem o_inX {X : Cx} (hu : X.A.units + 65 < cLine) : OpR X (compareOp .In) (rInX X.K) := (o_in hu).or op_in_sign
theorem d_inX {X : Cx} : DOp X (rInX X.K) dInX := by
  intro W F H n x y a b Q R hK w ra rb q fin
  have old : dIn a b Q → rInX X.K x y H R := fun q => .inl (d_in W F H n x y a b Q R hK w ra rb q fin)
  cases a <;> cases b <;> try exact old q
  case str.str x z =>
    obtain ⟨c, rfl, q⟩ := q
    exact .inr ⟨c, z, ra.str, rb.str, fin _ F H _ (New.refl w.sub) (.bl _) q⟩
/-- for c in s -/
def kIterS (k : KE) : KA := fun S n Q => k S n fun d S1 n1 => match d with
  | .str x => Q (x.cps.toList.map fun c => .str ⟨#[c]⟩) S1 n1
  | _ => False
theorem wd_str {W : Wd} {F : Hp} (x : Str) : WalkD W F (Its x) (x.cps.toList.map fun c => .str ⟨#[c]⟩) := by
  have e : (x.cps.toList.map fun c => D.str ⟨#[c]⟩).length = x.cps.size := by rw [List.length_map, Array.length_toList]
  refine ⟨fun F' H n i _ _ hi => ?_, fun F' H n _ _ => ?_, fun F' H n i v H' _ w hi y => ?_⟩
  · show i < x.cps.size
    rw [← e]; exact hi
  · show x.cps.size ≤ _
    rw [e]; exact Nat.le_refl _
  · obtain ⟨rfl, c, hc, rfl⟩ := y
    refine ⟨F', _, ?_, New.refl w.sub, .str _⟩
    rw [List.getElem?_map, Array.getElem?_toList, hc]; rfl
theorem di_str {X : Cx} {tg e : Expr} {t : TE} {k : KE} (h : DE X e t k) : DI X tg e (iStr t) (kIterS k) := by
  refine ⟨pi_str h.pe, fun W F n S σ H Q R hK A q fin => ?_⟩
  refine h.ok W F n S σ H _ _ hK A q fun v H1 F1 n1 S1 d g1 A1 r q1 => ?_
  cases d <;> try exact False.elim q1
  case str x =>
    cases r
    exact ⟨x, rfl, fin _ H1 F1 n1 S1 _ g1 A1 (wd_str x) q1⟩
end DL
namespace DL
open PySem PySem.Spec PyProof.Rows L2
/-! ### len, bool, str of own instances -/
section
variable {prog : Program} {w : World} {A : Around} {E : Value → Shared → Prop} {s : Shared} {K : PySem.W.Frag} {x C f : Addr} {ox : Obj} {od : Option Obj}
/-- what an own __len__ may answer -/
def LenAns (Q : Int → Shared → Prop) (v : Value) (s' : Shared) : Prop := match v with
  | .int n _ => (0 ≤ n ∧ n < 2 ^ 63) ∧ ∀ t, Q n { s' with toks := t }
  | _ => False
theorem len_own {Q : Int → Shared → Prop} (X : K.In s.heap) (I : PySem.W.InstAt s.heap x ox C od) (hs : PySem.W.findIn K (.ref C) "__len__" = some (some (.ref f))) (hf : PySem.W.isFn K (.ref f) = true)
    (h : wpAny (model prog w) A (call (.ref f) [.ref x]) (LenAns Q) E s) : wpAny (model prog w) A (Builtin.«len» ⟨[.ref x], []⟩) (fun fin s' => ∃ n t, fin = .done (.ret (.int n t)) ∧ Q n s') E s := by
  unfold Builtin.«len»
  refine wpAny_bind (m := oneArg "len" _) (wpAny_pure (wpAny_bind (m := callSpecial? (.ref x) (Str.ofString "__len__")) ?_))
  refine PySem.W.special_fn X I hs (beq_iff_eq.mp hf) (wpAny_mono h ?_ fun _ _ y => y)
  intro r s' hr
  cases r with
  | int n u =>
    obtain ⟨⟨h0, h1⟩, hq⟩ := hr
    refine wpAny_bind (wpAny_holding (wpAny_pure (wpAny_bind (wpAny_letGo ?_))))
    have l0 : ¬ n < 0 := by omega
    have l1 : ¬ n ≥ 2 ^ 63 := by omega
    show wpAny (model prog w) A (if n < 0 then _ else if n ≥ 2 ^ 63 then _ else _) _ E s'
    rw [if_neg l0, if_neg l1]
    exact wpAny_bind (wpAny_mkInt (wpAny_pure ⟨n, _, rfl, hq _⟩))
  | _ => exact hr.elim
theorem call_len_own {Q : Value → Shared → Prop} (X : K.In s.heap) (I : PySem.W.InstAt s.heap x ox C od) (hs : PySem.W.findIn K (.ref C) "__len__" = some (some (.ref f))) (hf : PySem.W.isFn K (.ref f) = true)
    (h : wpAny (model prog w) A.in1 (call (.ref f) [.ref x]) (LenAns fun n s' => ∀ t, Q (.int n t) s') E s) : wpAny (model prog w) A (call (.builtin "len") [.ref x]) Q E s :=
  Calls.call_function_entry kind_len plain_len entry_len (args_len1 _) (wpAny_mono (len_own X I hs hf h) (fun fin s' ⟨n, t, e, q⟩ => ⟨_, e, q t⟩) fun _ _ y => y)
/-- truth by __len__, where there is no __bool__ -/
theorem truth_own {Q : Bool → Shared → Prop} (X : K.In s.heap) (I : PySem.W.InstAt s.heap x ox C od) (hb : PySem.W.findIn K (.ref C) "__bool__" = some none) (hs : PySem.W.findIn K (.ref C) "__len__" = some (some (.ref f))) (hf : PySem.W.isFn K (.ref f) = true)
    (h : wpAny (model prog w) A.in1 (call (.ref f) [.ref x]) (LenAns fun n s' => Q (n != 0) s') E s) : wpAny (model prog w) A (truthy (.ref x)) Q E s := by
  unfold truthy
  refine wpAny_bind (m := callSpecial? (.ref x) (Str.ofString "__bool__")) (wpAny_bind (wpAny_bind (I.type.here ((PySem.W.looks_findIn X hb).here (wpAny_pure ?_)))))
  refine wpAny_bind (wpAny_bind (I.type.here ((PySem.W.looks_findIn X hs).here ?_)))
  have run : wpAny (model prog w) A (runValue (.builtin "len" ⟨[.ref x], []⟩)) (fun v s' => ∃ n t, v = .int n t ∧ Q (n != 0) s') E s := by
    refine wpAny_runValue (codeAny_builtin entry_len ?_)
    rw [Around.under_plainId plain_len _]
    refine wpAny_mono (len_own X I hs hf h) (fun fin s' hq => ?_) fun _ _ y => y
    obtain ⟨n, t, rfl, q⟩ := hq
    exact ⟨n, t, rfl, q⟩
  exact wpAny_bind (wpAny_mono run (fun v s' ⟨n, t, e, q⟩ => by subst e; exact wpAny_pure q) fun _ _ y => y)
end
end DL
namespace DL
open PySem PySem.Spec PyProof.Rows L2
/-! ### list(o) by own __iter__ and own __len__ -/
section
variable {prog : Program} {w : World} {A : Around} {E : Value → Shared → Prop} {s : Shared} {K : PySem.W.Frag} {x C f : Addr} {ox : Obj} {od : Option Obj}
theorem hint_len {Q : Bool → Shared → Prop} (X : K.In s.heap) (I : PySem.W.InstAt s.heap x ox C od) (hs : PySem.W.findIn K (.ref C) "__len__" = some (some (.ref f)))
    (h : wpAny (model prog w) A (call (.builtin "len") [.ref x]) (fun v s' => ∃ n t, v = .int n t ∧ Builtin.List.listTooLong n.toNat = false ∧ Q (n != 0) s') (fun _ _ => False) s) : wpAny (model prog w) A (Builtin.List.listLengthHint (.ref x)) Q E s := by
  unfold Builtin.List.listLengthHint
  refine wpAny_bind (wpAny_bind (I.type.here ((PySem.W.looks_findIn X hs).here ?_)))
  refine PySem.W.KFB.if_not rfl ?_
  show wpAny (model prog w) A (if true = true then _ else _) _ E s
  rw [if_pos rfl]
  refine wpAny_bind (wpAny_rule (wpAny_bind (wpAny_attempt ?_)))
  refine wpAny_mono h (fun v s' ⟨n, t, e, hl, q⟩ => ?_) fun _ _ z => z.elim
  subst e
  refine wpAny_bind (wpAny_pure ?_)
  show wpAny (model prog w) A (if Builtin.List.listTooLong n.toNat = true then _ else _) _ E s'
  rw [hl, if_neg Bool.false_ne_true]
  exact wpAny_pure q
end
section
variable {X : Cx} {j : Nat} {pins : List (Addr × Obj)} {σ : L2.St} {H : Hp} {s : Shared} {a C dx t q it : Addr} {fs : List (Str × V)} {zs : List V} {fld : Str} {A1 : Around}
/-- a tuple's iterator fills the list at q -/
theorem tup_loop {Rs : Result → Shared → Prop} (hh : A1.in1.handled = none) (ht : SqT X.K H t zs) (hq : H q = none) (hz : zs.length < sizeLine) (hdone : ∀ s, Inv X pins σ (upd H q (.lst zs)) s → Rs (.ok (.ret .none)) s) :
    ∀ (m i : Nat) (s : Shared), zs.length = i + m → Inv X pins σ (upd H q (.lst (zs.take i))) s → s.heap.IsTupleIter it t i → FpOk X pins (upd H q (.lst (zs.take i))) it →
    codeAny (model X.prog X.w) A1 (.builtin "list.extend.loop" ⟨[.ref q, .ref it, .none], []⟩) Rs s := by
  intro m
  induction m with
  | zero =>
    intro i s hl I ti fp
    have ent := PySem.F.entry_extend_loop
    refine codeAny_builtin ent ?_
    rw [Around.under_plainId (PySem.F.plain_extend_loop) _]
    show wpAny (model X.prog X.w) A1.in1 (pyNext (.ref it) >>= _) _ _ s
    obtain ⟨its, rv, pl, hsz⟩ := I.tuple (ht.ext (Ext.upd hq))
    obtain ⟨f0, f1, f2, f3, f4, f5⟩ := fp
    have hlen := rv.length
    refine wpAny_bind (wpAny_pyNext_tuple_end hh ti (show s.heap.IsTuple t its.toArray from pl) (by simp; omega) fun h' eb => ?_)
    have I2 := I.turned (t' := s.toks) (fun b o hb e => eb b o hb e) f0 f1 f3 f4 f5
    have e : zs.take i = zs := List.take_of_length_le (by omega)
    rw [e] at I2
    exact wpAny_pure (hdone _ I2)
  | succ m ih =>
    intro i s hl I ti fp
    have ent := PySem.F.entry_extend_loop
    refine codeAny_builtin ent ?_
    rw [Around.under_plainId (PySem.F.plain_extend_loop) _]
    show wpAny (model X.prog X.w) A1.in1 (pyNext (.ref it) >>= _) _ _ s
    obtain ⟨its, rv, pl, hsz⟩ := I.tuple (ht.ext (Ext.upd hq))
    obtain ⟨f0, f1, f2, f3, f4, f5⟩ := id fp
    have hi : i < zs.length := by omega
    obtain ⟨u, hu, ru⟩ := rv.get (i := i) (x := zs[i]) (List.getElem?_eq_getElem hi)
    refine wpAny_bind (wpAny_pyNext_tuple_item ti (show s.heap.IsTuple t its.toArray from pl) (x := u) (by simpa using hu) fun h' st' sb => ?_)
    have I2 := I.turned (t' := s.toks) (fun b o hb e => (sb.2 b hb).trans e) f0 f1 f3 f4 f5
    show wpAny (model X.prog X.w) A1.in1 (updateSeq q (·.push u) >>= _) _ _ _
    obtain ⟨z, its2, k, r2, hl2, e2⟩ := I2.lstM upd_same
    have nq : it ≠ q := fun z => by
      rw [z, upd_same] at f0
      cases f0
    have lt := List.length_take (i := i) (l := zs)
    have hr2 := r2.length
    refine wpAny_bind (wpAny_updateSeq e2 rfl (wpAny_pure ⟨plainId_quiet PySem.F.plain_extend_loop _, ?_⟩) (by rw [List.size_toArray]; omega) (by show (its2.toArray.push u).size ≤ sizeLine + 1; rw [Array.size_push, List.size_toArray]; omega))
    have I3 := I2.lset (f := (·.push u)) (its' := its2 ++ [u]) (t' := s.toks) (ys := zs.take i ++ [zs[i]]) upd_same e2 (by simp) (r2.append (.cons ru .nil)) (by rw [List.length_append, List.length_singleton]; omega)
    rw [upd_upd, List.take_append_getElem hi] at I3
    refine ih (i + 1) _ (by omega) I3 ?_ ⟨?_, f1, f2, f3, f4, f5⟩
    · obtain ⟨o, e1, e3, e4⟩ := st'
      exact ⟨o, (Heap.get?_update_other _ _ (Ne.symm nq)).trans e1, e3, e4⟩
    · rw [upd_ne nq]
      rw [upd_ne nq] at f0
      exact f0
end
/-! ### an own __len__ that answers len(self.f), f a tuple -/
def spLn (K : PySem.W.Frag) (C : Addr) (fld : Str) : Sp := fun vs H Q _ => ∃ a dx fs t zs, vs = [.ref a] ∧ H a = some (.ins C dx fs) ∧ fs.lookup fld = some (.ref t) ∧ SqT K H t zs ∧ Q (.int zs.length) H
abbrev tLenD (K : PySem.W.Frag) (fld : Str) : TS := tRet (tCB (rLenA K) (tCons (tFld K (tVar 0) fld) tNil))
theorem len_ok {P : Program} {w : World} {K : PySem.W.Frag} {mg : Str → Option Value} {base : Heap} {k : Nat} {f : Addr} {fd : FuncData} {x fld : Str} {qual : Str} {st : Stmt} {C : Addr}
    (F : Fun K x qual st f fd) (S : FnScope ["self"] ["self"] (defScope st)) (hC : Cls K C) (hN : NoAttr K C fld)
    (walk : ∀ (cdv : Value) (A : Around) (outer : List Env) (s : Shared) (H : Hp) (E : XK), Stand (cxOf CX0 P w K mg base ["self"] qual (defScope st) f cdv A outer s H E).nox k →
      PSs (cxOf CX0 P w K mg base ["self"] qual (defScope st) f cdv A outer s H E).nox (defBody st) (tLenD K fld)) :
    FnG P w K mg base CX0 (k + 1) f fd ["self"] (spLn K C fld) := by
  obtain ⟨oc, od, kV, doc, pm, an, cdv, ct, osl, rfl, lk, hcd⟩ := F.ex
  refine FnG.mk' lk hcd S (fun vs H Q E q => ?_) fun A outer s H vs Q E hr hg q => ?_
  · obtain ⟨a, dx, fs, t, zs, rfl, _⟩ := q; rfl
  · obtain ⟨a, dx, fs, t, zs, rfl, h1, h2, h3, h4⟩ := q
    refine ⟨_, (walk cdv A outer s H E (Stand.of hr hg _ rfl)).nox, ?_⟩
    exact ⟨.ref a, rfl, a, C, dx, fs, _, rfl, h1, hC, hN, h2, .inl ⟨t, zs, rfl, .inr h3, h4⟩⟩
structure LnC (prog : Program) (w : World) (K : PySem.W.Frag) (mg : Str → Option Value) (base : Heap) (j : Nat) (C : Addr) (fld : Str) : Prop where
  ex : ∃ (f : Addr) (k : Nat), PySem.W.findIn K (.ref C) "__len__" = some (some (.ref f)) ∧ PySem.W.isFn K (.ref f) = true ∧ FnP prog w K mg base k f (spLn K C fld) ∧ k + 3 ≤ j
abbrev LnOk (X : Cx) (j : Nat) (C : Addr) (fld : Str) : Prop := LnC X.prog X.w X.K X.mg X.base j C fld
section
variable {X : Cx} {j : Nat} {pins : List (Addr × Obj)} {σ : L2.St} {H : Hp} {s : Shared} {a C dx t : Addr} {fs : List (Str × V)} {zs : List V} {fld : Str} {A : Around}
/-- its run, at any place that has the room -/
theorem run_len {Q : Int → Shared → Prop} {E : Value → Shared → Prop} (hi : LnOk X j C fld) (hr : Room (j - 3) A) (hg : A.guards = some []) (e0 : Env0 X.prog X.w X.K X.mg X.base A X.stack s H) (I : Inv X pins σ H s) (ha : H a = some (.ins C dx fs)) (hl : fs.lookup fld = some (.ref t)) (hq : SqT X.K H t zs)
    (hz : (zs.length : Int) < 2 ^ 63) (h : ∀ s', Inv X pins σ H s' → Q zs.length s') : ∃ f, PySem.W.findIn X.K (.ref C) "__len__" = some (some (.ref f)) ∧ PySem.W.isFn X.K (.ref f) = true ∧ wpAny (model X.prog X.w) A (call (.ref f) [.ref a]) (LenAns Q) E s := by
  obtain ⟨f, k, h1, h2, h3, h4⟩ := hi.ex
  refine ⟨f, h1, h2, wpAny_call (codeAny_mono (h3 A X.stack s H [.ref a] [.ref a] (fun v H' => v = .int zs.length ∧ H' = H) E0 (hr.mono (by omega)) hg e0 (.cons rfl .nil) ⟨a, dx, fs, t, zs, rfl, ha, hl, hq, rfl, rfl⟩) fun r s' hr => ?_)⟩
  cases r with
  | error e => exact (show False from hr).elim
  | ok fl =>
    cases fl with
    | next => exact False.elim hr
    | brk => exact False.elim hr
    | cont => exact False.elim hr
    | ret u =>
      obtain ⟨v2, H2, I2, rv2, e1, e2⟩ := I.after (Q := fun v H' => v = .int zs.length ∧ H' = H) hr
      subst e1 e2
      obtain ⟨tk, rfl⟩ := (show ∃ tk, u = Value.int zs.length tk from rv2)
      exact ⟨⟨by omega, hz⟩, fun tk => h _ (I2.tok tk)⟩
end
section
variable {X : Cx} {j : Nat}
theorem room3 {hi : ∃ k, k + 3 ≤ j} (st : Stand X j) : Room (j - 3) X.A.in1 ∧ Room (j - 3) X.A.in1.in1 ∧ Room (j - 3) X.A.in1.in1.in1 := by
  obtain ⟨k, h⟩ := hi
  have r : Room (j - 3 + 1 + 1 + 1) X.A := st.room.mono (by omega)
  exact ⟨(Room.in1 r).mono (by omega), (Room.in1 (Room.in1 r)).mono (by omega), Room.in1 (Room.in1 (Room.in1 r))⟩
def rLenO (X : Cx) (j : Nat) : List V → Hp → VK → Prop := fun xs H Q => rLenA X.K xs H Q ∨ ∃ a C dx fs fld t zs, xs = [.ref a] ∧ H a = some (.ins C dx fs) ∧ LnOk X j C fld ∧ fs.lookup fld = some (.ref t) ∧ SqT X.K H t zs ∧ Q (.int (zs.length : Nat)) H
theorem call_lenO (st : Stand X j) : CallR X (.builtin "len") (rLenO X j) := by
  intro pins s σ H xs us Q I r h
  rcases h with h | ⟨a, C, dx, fs, fld, t, zs, rfl, ha, hi, hl, hq, q⟩
  · exact c_len pins s σ H xs us Q I r h
  · obtain rfl := Vals.ref1 r
    obtain ⟨its, rv, pl, hz⟩ := I.tuple hq
    obtain ⟨od, J⟩ := ins_at I ha
    have hz2 : (zs.length : Int) < 2 ^ 63 := by
      have h1 := rv.length
      have h2 := line63
      omega
    obtain ⟨_, k, _, _, _, hk⟩ := hi.ex
    obtain ⟨r1, r2, r3⟩ := room3 (hi := ⟨k, hk⟩) st
    obtain ⟨f, h1, h2, h3⟩ := run_len (A := X.A.in1) (Q := fun n s' => ∀ t, EP X pins σ Q (.int n t) s') (E := X.xe) hi r1 st.gd I.env0.in1 I ha hl hq hz2 fun s' I' t => ⟨.int _, H, I', ⟨t, rfl⟩, q⟩
    exact call_len_own I.kIn J h1 h2 h3
/-- the tuple that stands for an own instance -/
def kSeqO (own : List (Addr × Str)) (d : D) (Q : List D → Prop) : Prop := match d with
  | .ins C gs => selIt own C fun fld => match gs.lookup fld with
    | some (.tup ds) => Q ds
    | _ => False
  | _ => False
def kLenO (own : List (Addr × Str)) (k : KE) : KE := fun S n Q => k S n fun d S1 n1 => match d with
  | .ins C gs => kSeqO own (.ins C gs) fun ds => Q (.int ds.length) S1 n1
  | d => bLen [d] fun r => Q r S1 n1
def LnsOk (X : Cx) (j : Nat) : List (Addr × Str) → Prop
  | [] => True
  | p :: r => LnOk X j p.1 p.2 ∧ LnsOk X j r
theorem LnsOk.sel {C : Addr} {f : Str → Prop} : ∀ {own : List (Addr × Str)}, LnsOk X j own → selIt own C f → ∃ fld, LnOk X j C fld ∧ f fld
  | [], _, h => h.elim
  | p :: r, a, h => by
    rcases h with ⟨rfl, h⟩ | h
    · exact ⟨p.2, a.1, h⟩
    · exact LnsOk.sel a.2 h
theorem LnsOk.nil : LnsOk X j [] := trivial
theorem LnsOk.cons {C : Addr} {fld : Str} {own : List (Addr × Str)} (h : LnOk X j C fld) (r : LnsOk X j own) : LnsOk X j ((C, fld) :: own) := ⟨h, r⟩
/-- what stands behind such an instance -/
theorem seqO_at {W : Wd} {F H : Hp} {n : Nat} {S : List Sl} {σ : L2.St} {a C dx : Addr} {fs : List (Str × V)} {gs : List (Str × D)} {fld : Str} {K : PySem.W.Frag} {Qd : List D → Prop} (hK : W.K = K) (w : Same F H) (rf : Repf W.K W.pa F fs gs)
    (q : match gs.lookup fld with | some (.tup ds) => Qd ds | _ => False) : ∃ t vs ds, fs.lookup fld = some (.ref t) ∧ SqT K H t vs ∧ SqT W.K F t vs ∧ Reps W.K W.pa F vs ds ∧ Qd ds := by
  cases e : gs.lookup fld with
  | none => rw [e] at q; exact q.elim
  | some d =>
    rw [e] at q
    obtain ⟨v, ev, rv⟩ := (repf_lookup (x := fld) rf).1 d e
    cases d <;> try exact False.elim q
    case tup ds =>
      cases rv with
      | tup h r => exact ⟨_, _, ds, ev, hK ▸ same_sqT w h, h, r, q⟩
theorem de_lenO {own : List (Addr × Str)} {e : Expr} {t : TE} {k : KE} {p pos : Pos} (st : Stand X j) (hm : LnsOk X j own) (hg : X.mg "len" = none) (h : DB X e t k)
    (hp : Stand X j → X.mg "len" = none → PA X [e] (tCons t tNil) → PE X (.Call (.Name "len" p) [e] [] pos) (tCB (rLenO X j) (tCons t tNil)) := by intro a b c; exact pe_callB (call_lenO a) (by exact rfl) b (by decide +kernel) c)
    (hs : starEach [e] X.env = (false, eval e X.env) :: starEach [] X.env := by rfl) : DE X (.Call (.Name "len" p) [e] [] pos) (tCB (rLenO X j) (tCons t tNil)) (kLenO own k) := by
  refine ⟨hp st hg (pa_cons h.pe pa_nil hs), fun W F n S σ H Q R hK A q fin => ?_⟩
  refine h.ok W F n S σ H _ _ hK A q fun v H1 F1 n1 S1 d g1 A1 r q1 => ?_
  have other : bLen [d] (fun x => Q x S1 n1) → rLenA X.K [v] H1 R := fun q2 => d_len (X := X) W F1 H1 n1 [v] [d] _ _ hK A1.w (.cons r .nil) q2 fun v F3 H3 d g3 r3 q3 => fin v H3 F3 n1 S1 d (g1.trans g3.grow) (A1.new g3) r3 q3
  cases d with
  | ins C gs =>
    obtain ⟨fld, hi, q2⟩ := hm.sel q1
    obtain ⟨a, dx, fs, rfl, e1, rf, ri⟩ := RB.ins A1.w.sub r
    obtain ⟨t, vs, ds, ev, h1, _, rs, q3⟩ := seqO_at (σ := σ) (S := S) (n := n) (a := a) (C := C) (dx := dx) hK A1.w.sub rf q2
    refine .inr ⟨a, C, dx, fs, fld, t, vs, rfl, e1, hi, ev, h1, ?_⟩
    rw [rs.length]
    exact fin _ H1 F1 n1 S1 _ g1 A1 (.int _) q3
  | _ => exact .inl (other q1)
end
/-! ### list(o) -/
section
variable {X : Cx} {j : Nat} {pins : List (Addr × Obj)} {σ : L2.St} {H : Hp} {a C dx t l : Addr} {fs : List (Str × V)} {zs : List V} {fld : Str}
abbrev OutL (prog : Program) (w : World) (A1 : Around) (Rs : Result → Shared → Prop) : PySem.Fin → Shared → Prop := fun fin s' => match fin with | .done f => Rs (.ok f) s' | .again c' => c'.quiet = true ∧ codeAny (model prog w) A1 c' Rs s'
theorem extend_tup {A1 : Around} {Rs : Result → Shared → Prop} {s : Shared} (r2 : Room (j - 3) A1.in1) (r3 : Room (j - 3) A1.in1.in1) (hg : A1.guards = some []) (efr : A1.in1.frames = X.A.frames) (hi : IterOk X j C fld) (hL : LnOk X j C fld) (I : Inv X pins σ (upd H l (.lst [])) s) (hn : H l = none) (ha : H a = some (.ins C dx fs)) (hl : fs.lookup fld = some (.ref t)) (hq : SqT X.K H t zs) (hz : zs.length ≤ 1000000)
    (hdone : ∀ s, Inv X pins σ (upd H l (.lst zs)) s → Rs (.ok (.ret .none)) s) (herr : ∀ e s, X.xe e s → Rs (.error e) s) :
    wpAny (model X.prog X.w) A1.in1 (Builtin.List.listExtendWith (.ref l) (.ref a) .none) (OutL X.prog X.w A1 Rs) (fun e s' => Rs (.error e) s') s := by
  have zl : zs.length < sizeLine := by rw [sizeLine_eq]; omega
  have ne : l ≠ a := fun z => by rw [z, ha] at hn; cases hn
  have ha2 : upd H l (.lst []) a = some (.ins C dx fs) := by rw [upd_ne (Ne.symm ne)]; exact ha
  have hq2 : SqT X.K (upd H l (.lst [])) t zs := hq.ext (Ext.upd hn)
  have env : ∀ (A : Around) (s : Shared) (H' : Hp), A.frames = X.A.frames → Inv X pins σ H' s → Env0 X.prog X.w X.K X.mg X.base A X.stack s H' := fun A s H' ef I => by
    have e := I.env0
    exact ⟨by rw [ef]; exact e.frames, e.mod, e.bs, e.bsz, e.funs, e.frf, e.hok, e.bare⟩
  obtain ⟨od, J⟩ := ins_at I ha2
  unfold Builtin.List.listExtendWith
  refine wpAny_bind (J.type.here ?_)
  have c1 : Builtin.List.listSameRef (.ref l) (.ref a) = false := by simp [Builtin.List.listSameRef, ne]
  have c2 : (Value.ref C == Value.type "list") = false := rfl
  have c3 : (Value.ref C == Value.type "tuple") = false := rfl
  simp only [c1, c2, c3, Bool.or_false, Bool.false_eq_true, if_false]
  have run := run_iter0 (A := A1.in1) (Q := fun v s' => ∃ it, v = .ref it ∧ upd H l (.lst []) it = none ∧ X.s_0.heap.objs.size ≤ it ∧ Inv X pins σ (upd (upd H l (.lst [])) it (TiO t it)) s') r2 hg (env _ _ _ efr I) hi I ha2 hl hq2 fun it s' hn hy I' => ⟨it, rfl, hn, hy, I'⟩
  refine wpAny_bind (wpAny_mono run (fun v s' hv => ?_) fun e s' he => herr e s' he)
  obtain ⟨it, rfl, ni, hy, I'⟩ := hv
  have ha3 : upd (upd H l (.lst [])) it (TiO t it) a = some (.ins C dx fs) := by rw [upd_ne (ne_of_none ha2 ni)]; exact ha2
  obtain ⟨od', J'⟩ := ins_at I' ha3
  have go : ∀ s2, Inv X pins σ (upd (upd H l (.lst [])) it (TiO t it)) s2 → codeAny (model X.prog X.w) A1 (.builtin "list.extend.loop" ⟨[.ref l, .ref it, .none], []⟩) Rs s2 := fun s2 I2 => by
    obtain ⟨I3, t2, fp⟩ := it_drop ni hy I2
    exact tup_loop r2.hd hq hn zl hdone zs.length 0 s2 (by omega) I3 t2 fp
  have hz2 : (zs.length : Int) < 2 ^ 63 := by omega
  obtain ⟨f, f1, f2, f3⟩ := run_len (A := A1.in1.in1) (E := fun _ _ => False) (Q := fun n s2 => ∀ k : Tok, n = zs.length ∧ Inv X pins σ (upd (upd H l (.lst [])) it (TiO t it)) s2) hL r3 hg (env _ _ _ efr I') I' ha3 hl (hq2.ext (Ext.upd ni)) hz2 fun s2 I2 _ => ⟨rfl, I2⟩
  have room : wpAny (model X.prog X.w) A1.in1 (Builtin.List.listLengthHint (.ref a)) (fun _ s2 => Inv X pins σ (upd (upd H l (.lst [])) it (TiO t it)) s2) (fun e s' => Rs (.error e) s') s' := by
    refine hint_len I'.kIn J' f1 ?_
    refine call_len_own I'.kIn J' f1 f2 (wpAny_mono f3 (fun v s2 hv => ?_) fun _ _ z => z)
    cases v with
    | int n u => exact ⟨hv.1, fun tk => fun t2 => ⟨n, t2, rfl, by
        have e := (hv.2 tk 0).1
        unfold Builtin.List.listTooLong
        rw [decide_eq_false]
        omega, (hv.2 tk 0).2⟩⟩
    | _ => exact hv.elim
  refine wpAny_bind (wpAny_holding (wpAny_mono room (fun b s2 I2 => ?_) fun _ _ z => z))
  have fin : ∀ s3, Inv X pins σ (upd (upd H l (.lst [])) it (TiO t it)) s3 → wpAny (model X.prog X.w) A1.in1 (again (.builtin "list.extend.loop" ⟨[.ref l, .ref it, .none], []⟩)) (OutL X.prog X.w A1 Rs) (fun e s' => Rs (.error e) s') s3 := fun s3 I3 => wpAny_pure ⟨plainId_quiet PySem.F.plain_extend_loop _, go s3 I3⟩
  refine wpAny_ite_split (fun _ => ?_) (fun _ => fin s2 I2)
  refine wpAny_bind (wpAny_rule (wpAny_bind ?_))
  have el : upd (upd H l (.lst [])) it (TiO t it) l = some (.lst []) := by rw [upd_ne (fun z => by rw [z, upd_same] at ni; cases ni)]; exact upd_same
  obtain ⟨z, its, k, r4, hl4, e4⟩ := I2.lstM el
  cases r4
  show wpAny (model X.prog X.w) A1.in1 (updateSeq l (·.push .none) >>= fun _ => updateSeq l (·.pop)) _ _ s2
  refine wpAny_bind (wpAny_updateSeq e4 rfl ?_)
  have I5 := I2.lset (f := (·.push Value.none)) (its' := [Value.none]) (ys := [.non]) (t' := s2.toks) el e4 (by simp) (.cons rfl .nil) (by rw [List.length_singleton, sizeLine_eq]; decide)
  obtain ⟨z6, its6, k6, r6, hl6, e6⟩ := I5.lstM upd_same
  obtain ⟨u6, rfl, ru6⟩ := r6.one
  refine wpAny_updateSeq e6 rfl ?_ (by show 1 ≤ sizeLine; rw [sizeLine_eq]; decide) (by show 0 ≤ sizeLine + 1; exact Nat.zero_le _)
  have I7 := I5.lset (f := (·.pop)) (its := [u6]) (its' := []) (ys := []) (t' := s2.toks) upd_same e6 (by rfl) .nil (Nat.zero_le _)
  have hH : upd (upd (upd (upd H l (.lst [])) it (TiO t it)) l (.lst [V.non])) l (.lst []) = upd (upd H l (.lst [])) it (TiO t it) := by
    rw [upd_upd]
    funext b
    by_cases hb : b = l
    · rw [hb, upd_same, el]
    · rw [upd_ne hb]
  rw [hH] at I7
  exact fin _ I7
end
end DL
namespace DL
open PySem PySem.Spec PyProof.Rows L2
section
variable {X : Cx} {j : Nat}
def rListO (X : Cx) (j : Nat) : List V → Hp → VK → Prop := fun xs H Q => (∃ p ys, xs = [.ref p] ∧ (SqL X.K H p ys ∨ SqT X.K H p ys) ∧ ∀ l, H l = none → Q (.ref l) (upd H l (.lst ys))) ∨
  ∃ a C dx fs fld t zs, xs = [.ref a] ∧ H a = some (.ins C dx fs) ∧ IterOk X j C fld ∧ LnOk X j C fld ∧ fs.lookup fld = some (.ref t) ∧ SqT X.K H t zs ∧ zs.length ≤ 1000000 ∧ ∀ l, H l = none → Q (.ref l) (upd H l (.lst zs))
theorem call_listO (st : Stand X j) : CallR X (.type "list") (rListO X j) := by
  intro pins s σ H xs us Q I r h
  rcases h with h | ⟨a, C, dx, fs, fld, t, zs, rfl, ha, hi, hL, hl, hq, hz, q⟩
  · exact call_list_of pins s σ H xs us Q I r h
  obtain rfl := Vals.ref1 r
  obtain ⟨_, k, _, _, _, hk⟩ := hL.ex
  obtain ⟨r1, r2, r3⟩ := room3 (hi := ⟨k, hk⟩) st
  have fr : H s.heap.objs.size = none := I.hok.fresh (Nat.le_refl _)
  refine callType_codes (Q₁ := fun obj s₁ => obj = .ref s.heap.objs.size ∧ s₁ = { s with heap := s.heap.push { cls := .type "list", data := .seq #[] } })
    PySem.F.called_list (PySem.F.typeCall_list_1 _) PySem.F.entry_list_init
    (code_list_new (.ref a) ⟨rfl, rfl⟩) ?_
  intro obj s₁ h₁
  obtain ⟨eo, es⟩ := h₁
  subst eo es
  have at1 : (s.heap.push { cls := .type "list", data := .seq #[] }).get? s.heap.objs.size = some { cls := .type "list", data := .seq #[] } := Heap.get?_push_size _ rfl
  refine ⟨⟨_, at1, rfl⟩, PySem.F.args_list_init_2 _ _, ?_⟩
  have I1 : Inv X pins σ (upd H s.heap.objs.size (.lst [])) { s with heap := s.heap.push { cls := .type "list", data := .seq #[] } } := I.lnew (its := []) (t' := s.toks) .nil (Nat.zero_le _)
  have I2 := I1.lset (f := fun _ => #[]) (its := []) (its' := []) (ys := []) (t' := s.toks) upd_same at1 rfl .nil (Nat.zero_le _)
  rw [upd_upd] at I2
  have go := extend_tup (A1 := X.A.in1) (Rs := wants (fun r s₂ => r = .none ∧ EP X pins σ Q (.ref s.heap.objs.size) s₂) X.xe) r2 r3 st.gd rfl hi hL I2 fr ha hl hq hz
    (fun s' I' => ⟨rfl, .ref s.heap.objs.size, _, I', rfl, q _ fr⟩) (fun e s' he => he)
  show wpAny (model X.prog X.w) X.A.in1.in1 (do
    let old ← Builtin.List.listItems (.ref s.heap.objs.size)
    Builtin.List.listUpdate (.ref s.heap.objs.size) (fun _ => #[])
    letGo old.toList.reverse
    Builtin.List.listExtendWith (.ref s.heap.objs.size) (.ref a) .none) _ _ _
  refine wpAny_bind ?_
  unfold Builtin.List.listItems
  refine wpAny_bind (wpAny_seqItems at1 rfl (wpAny_pure (wpAny_bind ?_)))
  show wpAny (model X.prog X.w) X.A.in1.in1 (updateSeq s.heap.objs.size (fun _ => #[])) _ _ _
  exact wpAny_updateSeq at1 rfl (wpAny_bind (wpAny_letGo go))
def kListO (own : List (Addr × Str)) (k : KE) : KE := fun S n Q => k S n fun d S1 n1 => match d with
  | .ins C gs => kSeqO own (.ins C gs) fun ds => ds.length ≤ 1000000 ∧ Q (.lst ds) S1 n1
  | d => bList [d] fun r => Q r S1 n1
def SeqsOk (X : Cx) (j : Nat) : List (Addr × Str) → Prop
  | [] => True
  | p :: r => (IterOk X j p.1 p.2 ∧ LnOk X j p.1 p.2) ∧ SeqsOk X j r
theorem SeqsOk.sel {C : Addr} {f : Str → Prop} : ∀ {own : List (Addr × Str)}, SeqsOk X j own → selIt own C f → ∃ fld, (IterOk X j C fld ∧ LnOk X j C fld) ∧ f fld
  | [], _, h => h.elim
  | p :: r, a, h => by
    rcases h with ⟨rfl, h⟩ | h
    · exact ⟨p.2, a.1, h⟩
    · exact SeqsOk.sel a.2 h
theorem SeqsOk.nil : SeqsOk X j [] := trivial
theorem SeqsOk.cons {C : Addr} {fld : Str} {own : List (Addr × Str)} (h : IterOk X j C fld) (h2 : LnOk X j C fld) (r : SeqsOk X j own) : SeqsOk X j ((C, fld) :: own) := ⟨⟨h, h2⟩, r⟩
theorem de_listO {own : List (Addr × Str)} {e : Expr} {t : TE} {k : KE} {p pos : Pos} (st : Stand X j) (hm : SeqsOk X j own) (hg : X.mg "list" = none) (h : DB X e t k)
    (hp : Stand X j → X.mg "list" = none → PA X [e] (tCons t tNil) → PE X (.Call (.Name "list" p) [e] [] pos) (tCB (rListO X j) (tCons t tNil)) := by intro a b c; exact pe_callTy (call_listO a) (by exact rfl) b (by decide +kernel) c)
    (hs : starEach [e] X.env = (false, eval e X.env) :: starEach [] X.env := by rfl) : DE X (.Call (.Name "list" p) [e] [] pos) (tCB (rListO X j) (tCons t tNil)) (kListO own k) := by
  refine ⟨hp st hg (pa_cons h.pe pa_nil hs), fun W F n S σ H Q R hK A q fin => ?_⟩
  refine h.ok W F n S σ H _ _ hK A q fun v H1 F1 n1 S1 d g1 A1 r q1 => ?_
  have other : bList [d] (fun x => Q x S1 n1) → rListO X j [v] H1 R := fun q2 => .inl (d_list (X := X) W F1 H1 n1 [v] [d] _ _ hK A1.w (.cons r .nil) q2 fun v F3 H3 d g3 r3 q3 => fin v H3 F3 n1 S1 d (g1.trans g3.grow) (A1.new g3) r3 q3)
  cases d with
  | ins C gs =>
    obtain ⟨fld, ⟨hi, hL⟩, q2⟩ := hm.sel q1
    obtain ⟨a, dx, fs, rfl, e1, rf, ri⟩ := RB.ins A1.w.sub r
    obtain ⟨t, vs, ds, ev, h1, _, rs, hz, q3⟩ := seqO_at (σ := σ) (S := S) (n := n) (a := a) (C := C) (dx := dx) hK A1.w.sub rf q2
    refine .inr ⟨a, C, dx, fs, fld, t, vs, rfl, e1, hi, hL, ev, h1, by rw [rs.length]; exact hz, fun l hl => ?_⟩
    obtain ⟨g, r⟩ := new_lst A1.w hl rs
    exact fin _ _ _ n1 S1 _ (g1.trans g.grow) (A1.new g) r q3
  | _ => exact other q1
end
end DL
namespace DL
open PySem PySem.Spec PyProof.Rows L2
/-! ### bool(o), str(o) -/
theorem bool_tree (v : Value) : Builtin.«bool.__new__» ⟨[.type "bool", v], []⟩ = (do
    if !(← isType (.type "bool")) then
      rule "bool.__new__.no-type"; raiseError "TypeError" s!"bool.__new__(X): X is not a type object ({← typeNameOf (.type "bool")})"
    if !(← isSubtype (.type "bool") (.type "bool")) then
      rule "bool.__new__.no-subtype"; raiseError "TypeError" s!"bool.__new__({← typeName (.type "bool")}): {← typeName (.type "bool")} is not a subtype of bool"
    ret (.bool (← truthy v))) := rfl
theorem call_bool_truth {prog : Program} {w : World} {A : Around} {E : Value → Shared → Prop} {s : Shared} {v : Value} {Q : Value → Shared → Prop} (h : wpAny (model prog w) A.in1.in1 (truthy v) (fun b s' => Q (.bool b) s') E s) :
    wpAny (model prog w) A (call (.type "bool") [v]) Q E s := by
  have new : codeAny (model prog w) A.in1 (.call (.builtin "bool.__new__") ⟨[.type "bool", v], []⟩) (wants (fun r s₁ => ∃ b, r = .bool b ∧ Q r s₁) E) s := by
    refine codeAny_of_tree ?_
    show wpAny (model prog w) A.in1.in1 (do checkBuiltinCall "bool.__new__" ⟨[.type "bool", v], []⟩; again (.builtin "bool.__new__" ⟨[.type "bool", v], []⟩)) _ _ s
    refine wpAny_bind (wpAny_of_eq (PySem.F.newCall_bool_1 _) (wpAny_pure ⟨plainId_quiet (by decide +kernel) _, codeAny_builtin PySem.F.entry_bool_new ?_⟩))
    rw [Around.under_plainId (by decide +kernel) _, bool_tree]
    exact wpAny_bind (wpAny_pure (wpAny_bind (wpAny_of_eq PySem.F.conv_sub_bool (wpAny_bind (wpAny_mono h (fun b s' q => wpAny_pure ⟨b, rfl, q⟩) fun _ _ y => y)))))
  refine callType_codes (T := "bool") (Bi := Builtin.«object.__init__») (Q₁ := fun r s₁ => ∃ b, r = .bool b ∧ Q r s₁) PySem.F.called_bool (PySem.F.typeCall_bool_1 _) PySem.F.entry_object_init new ?_
  intro obj s₁ hq
  obtain ⟨b, rfl, q⟩ := hq
  exact ⟨rfl, PySem.F.args_object_init_2 _ _, object_init_meets PySem.F.called_bool.init.lookup PySem.F.called_bool.made (by decide) prog w A.in1 _ s₁ ⟨rfl, rfl, q⟩⟩
section
variable {X : Cx} {j : Nat}
/-- a class with __len__ and without __bool__ -/
structure TrC (prog : Program) (w : World) (K : PySem.W.Frag) (mg : Str → Option Value) (base : Heap) (j : Nat) (C : Addr) (fld : Str) : Prop where
  ln : LnC prog w K mg base j C fld
  nb : PySem.W.findIn K (.ref C) "__bool__" = some none
abbrev TrOk (X : Cx) (j : Nat) (C : Addr) (fld : Str) : Prop := TrC X.prog X.w X.K X.mg X.base j C fld
def rBoolO (X : Cx) (j : Nat) : List V → Hp → VK → Prop := fun xs H Q => ((∃ i, xs = [.int i] ∧ Q (.bl (i != 0)) H) ∨ ∃ k, xs = [.bl k] ∧ Q (.bl k) H) ∨
  ∃ a C dx fs fld t zs, xs = [.ref a] ∧ H a = some (.ins C dx fs) ∧ TrOk X j C fld ∧ fs.lookup fld = some (.ref t) ∧ SqT X.K H t zs ∧ Q (.bl (((zs.length : Nat) : Int) != 0)) H
theorem call_boolO (st : Stand X j) (hj : 4 ≤ j) : CallR X (.type "bool") (rBoolO X j) := by
  intro pins s σ H xs us Q I r h
  rcases h with h | ⟨a, C, dx, fs, fld, t, zs, rfl, ha, hi, hl, hq, q⟩
  · exact call_bool1 pins s σ H xs us Q I r h
  · obtain rfl := Vals.ref1 r
    obtain ⟨its, rv, pl, hz⟩ := I.tuple hq
    obtain ⟨od, J⟩ := ins_at I ha
    have hz2 : (zs.length : Int) < 2 ^ 63 := by
      have h1 := rv.length
      have h2 := line63
      omega
    obtain ⟨_, k, _, _, _, hk⟩ := hi.ln.ex
    obtain ⟨r1, r2, r3⟩ := room3 (hi := ⟨k, hk⟩) st
    obtain ⟨f, h1, h2, h3⟩ := run_len (A := X.A.in1.in1.in1) (Q := fun n s' => EP X pins σ Q (.bool (n != 0)) s') (E := X.xe) hi.ln r3 st.gd I.env0.in1.in1.in1 I ha hl hq hz2 fun s' I' => ⟨.bl _, H, I', rfl, q⟩
    exact call_bool_truth (truth_own I.kIn J hi.nb h1 h2 h3)
def TrsOk (X : Cx) (j : Nat) : List (Addr × Str) → Prop
  | [] => True
  | p :: r => TrOk X j p.1 p.2 ∧ TrsOk X j r
theorem TrsOk.sel {C : Addr} {f : Str → Prop} : ∀ {own : List (Addr × Str)}, TrsOk X j own → selIt own C f → ∃ fld, TrOk X j C fld ∧ f fld
  | [], _, h => h.elim
  | p :: r, a, h => by
    rcases h with ⟨rfl, h⟩ | h
    · exact ⟨p.2, a.1, h⟩
    · exact TrsOk.sel a.2 h
theorem TrsOk.nil : TrsOk X j [] := trivial
theorem TrsOk.cons {C : Addr} {fld : Str} {own : List (Addr × Str)} (h : TrOk X j C fld) (r : TrsOk X j own) : TrsOk X j ((C, fld) :: own) := ⟨h, r⟩
def kBoolO (own : List (Addr × Str)) (k : KE) : KE := fun S n Q => k S n fun d S1 n1 => match d with
  | .ins C gs => kSeqO own (.ins C gs) fun ds => Q (.bl (((ds.length : Nat) : Int) != 0)) S1 n1
  | .int i => Q (.bl (i != 0)) S1 n1
  | .bl b => Q (.bl b) S1 n1
  | _ => False
theorem de_boolO {own : List (Addr × Str)} {e : Expr} {t : TE} {k : KE} {p pos : Pos} (st : Stand X j) (hj : 4 ≤ j) (hm : TrsOk X j own) (hg : X.mg "bool" = none) (h : DB X e t k)
    (hp : Stand X j → 4 ≤ j → X.mg "bool" = none → PA X [e] (tCons t tNil) → PE X (.Call (.Name "bool" p) [e] [] pos) (tCB (rBoolO X j) (tCons t tNil)) := by intro a b c d; exact pe_callTy (call_boolO a b) (by exact rfl) c (by decide +kernel) d)
    (hs : starEach [e] X.env = (false, eval e X.env) :: starEach [] X.env := by rfl) : DE X (.Call (.Name "bool" p) [e] [] pos) (tCB (rBoolO X j) (tCons t tNil)) (kBoolO own k) := by
  refine ⟨hp st hj hg (pa_cons h.pe pa_nil hs), fun W F n S σ H Q R hK A q fin => ?_⟩
  refine h.ok W F n S σ H _ _ hK A q fun v H1 F1 n1 S1 d g1 A1 r q1 => ?_
  cases d <;> try exact False.elim q1
  case int i => exact .inl (.inl ⟨i, by rw [r.int], fin _ H1 F1 n1 S1 _ g1 A1 (.bl _) q1⟩)
  case bl b => exact .inl (.inr ⟨b, by rw [r.bl], fin _ H1 F1 n1 S1 _ g1 A1 (.bl _) q1⟩)
  case ins C gs =>
    obtain ⟨fld, hi, q2⟩ := hm.sel q1
    obtain ⟨a, dx, fs, rfl, e1, rf, ri⟩ := RB.ins A1.w.sub r
    obtain ⟨t, vs, ds, ev, h1, _, rs, q3⟩ := seqO_at (σ := σ) (S := S) (n := n) (a := a) (C := C) (dx := dx) hK A1.w.sub rf q2
    refine .inr ⟨a, C, dx, fs, fld, t, vs, rfl, e1, hi, ev, h1, ?_⟩
    rw [rs.length]
    exact fin _ H1 F1 n1 S1 _ g1 A1 (.bl _) q3
end
end DL
namespace DL
open PySem PySem.Spec PyProof.Rows L2
/-! ### str(o) by an own __str__ -/
structure StrOC (prog : Program) (w : World) (K : PySem.W.Frag) (mg : Str → Option Value) (base : Heap) (j : Nat) (C : Addr) (c : DC) : Prop where
  ex : ∃ (f : Addr) (k : Nat), Meth K C "__str__" f ∧ FnP prog w K mg base k f (spD K c) ∧ k + 3 ≤ j
abbrev StrOOk (X : Cx) (j : Nat) (C : Addr) (c : DC) : Prop := StrOC X.prog X.w X.K X.mg X.base j C c
section
variable {X : Cx} {j : Nat}
def StrsOk (X : Cx) (j : Nat) : List (Addr × DC) → Prop
  | [] => True
  | p :: r => StrOOk X j p.1 p.2 ∧ StrsOk X j r
theorem StrsOk.sel {C : Addr} {f : DC → Prop} : ∀ {own : List (Addr × DC)}, StrsOk X j own → ownSel own C f → ∃ c, StrOOk X j C c ∧ f c
  | [], _, h => h.elim
  | p :: r, a, h => by
    rcases h with ⟨rfl, h⟩ | h
    · exact ⟨p.2, a.1, h⟩
    · exact StrsOk.sel a.2 h
theorem StrsOk.nil : StrsOk X j [] := trivial
theorem StrsOk.cons {C : Addr} {c : DC} {own : List (Addr × DC)} (h : StrOOk X j C c) (r : StrsOk X j own) : StrsOk X j ((C, c) :: own) := ⟨h, r⟩
def rStrO (X : Cx) (j : Nat) : List V → Hp → VK → Prop := fun xs H Q => (∃ i : Int, xs = [.int i] ∧ i.natAbs.log2 < 1920 ∧ Q (.str (Str.ofString (toString i))) H) ∨
  ∃ a C dx fs c, xs = [.ref a] ∧ H a = some (.ins C dx fs) ∧ StrOOk X j C c ∧ spD X.K c [.ref a] H (fun z H' => ∃ x, z = .str x ∧ Q (.str x) H') E0
theorem call_strO (st : Stand X j) : CallR X (.type "str") (rStrO X j) := by
  intro pins s σ H xs us Q I r h
  rcases h with h | ⟨a, C, dx, fs, c, rfl, ha, ⟨f, k, h1, h2, h3⟩, q⟩
  · exact call_str_int pins s σ H xs us Q I r h
  · obtain rfl := Vals.ref1 r
    obtain ⟨od, J⟩ := ins_at I ha
    obtain ⟨r1, r2, r3⟩ := room3 (hi := ⟨k, h3⟩) st
    have hu : X.A.in1.in1.units < cLine := by have := r2.un; omega
    refine PySem.W.kso_call hu I.kIn J h1.at_ h1.fn (thn (h2.go (us := [.ref a]) (vs := [.ref a]) (r2.mono (by omega)) st.gd I.env0.in1.in1 I (.cons rfl .nil) q) fun v s' ⟨z, H', I', rz, x, ez, qz⟩ => ?_)
    subst ez
    obtain ⟨t, rfl⟩ := (show ∃ t, v = Value.str x t from rz)
    exact ⟨.str x, H', I', ⟨t, rfl⟩, qz⟩
def kStrO (own : List (Addr × DC)) (k : KE) : KE := fun S n Q => k S n fun d S1 n1 => match d with
  | .int i => i.natAbs.log2 < 1920 ∧ Q (.str (Str.ofString (toString i))) S1 n1
  | .ins C _ => ownSel own C fun c => c [d] n1 fun r n2 => match r with
    | .str x => Q (.str x) S1 n2
    | _ => False
  | _ => False
theorem de_strO {own : List (Addr × DC)} {e : Expr} {t : TE} {k : KE} {p pos : Pos} (st : Stand X j) (hm : StrsOk X j own) (hg : X.mg "str" = none) (h : DB X e t k)
    (hp : Stand X j → X.mg "str" = none → PA X [e] (tCons t tNil) → PE X (.Call (.Name "str" p) [e] [] pos) (tCB (rStrO X j) (tCons t tNil)) := by intro a b c; exact pe_callTy (call_strO a) (by exact rfl) b (by decide +kernel) c)
    (hs : starEach [e] X.env = (false, eval e X.env) :: starEach [] X.env := by rfl) : DE X (.Call (.Name "str" p) [e] [] pos) (tCB (rStrO X j) (tCons t tNil)) (kStrO own k) := by
  refine ⟨hp st hg (pa_cons h.pe pa_nil hs), fun W F n S σ H Q R hK A q fin => ?_⟩
  refine h.ok W F n S σ H _ _ hK A q fun v H1 F1 n1 S1 d g1 A1 r q1 => ?_
  cases d <;> try exact False.elim q1
  case int i => exact .inl ⟨i, by rw [r.int], q1.1, fin _ H1 F1 n1 S1 _ g1 A1 (.str _) q1.2⟩
  case ins C gs =>
    obtain ⟨c, hc, q2⟩ := hm.sel q1
    obtain ⟨a, dx, fs, rfl, e1, rf, ri⟩ := RB.ins A1.w.sub r
    refine .inr ⟨a, C, dx, fs, c, rfl, e1, hc, ?_⟩
    rw [← hK]
    refine spD_call A1 (.cons ri .nil) q2 fun v H3 F3 n3 d g3 A3 r3 q5 => ?_
    cases d <;> try exact False.elim q5
    case str x =>
      cases r3
      exact ⟨x, rfl, fin _ H3 F3 n3 S1 _ (g1.trans g3) A3 (.str _) q5⟩
end
/-! ### o(k=v) -/
theorem callOK_of {M : Model} {A : Around} {E : Value → Shared → Prop} {s : Shared} {a : Addr} {pos : Pos} {Q : Value → Shared → Prop} {args : List (Bool × Sem Value)} {kws : List (Option Str × Sem Value)} (hplain : (args.any (·.1) || kws.any (·.1.isNone)) = false)
    (h : wpAny M A (evalArgs (.ref a) true args kws) (fun z s₁ => (∃ C ox od, PySem.W.InstAt s₁.heap a ox C od ∧ ox.data = .plain) ∧ wpAny M A (call (.ref a) ([] ++ z.pos) z.kw) Q E s₁) E s) : wpAny M A (callWith pos (.ref a) [] args kws) Q E s := by
  unfold callWith
  refine wpAny_bind (wpAny_holding (wpAny_mono h (fun z s₁ hz => wpAny_bind (wpAny_standAt ?_)) fun _ _ y => y))
  obtain ⟨⟨C, ox, od, J, hd⟩, run⟩ := hz
  have keeper := PySem.W.kco_keeper (M := M) J hd
  simp only [hplain]
  refine wpAny_bind (keeper.here ?_)
  exact wpAny_bind (wpAny_mono (wpAny_operateT run) (fun r s₂ hr => wpAny_bind (wpAny_holding (wpAny_point (wpAny_pure hr)))) fun _ _ y => y)
structure CoKwC (prog : Program) (w : World) (K : PySem.W.Frag) (mg : Str → Option Value) (base : Heap) (j : Nat) (C : Addr) (ks : List Str) (perm : List Nat) (c : DC) : Prop where
  ex : ∃ (g : Addr) (fd : FuncData) (ps : List Str) (k : Nat), StX.CallO K C g ∧ FnG prog w K mg base CX0 k g fd ps (spD K c) ∧ KwB K fd ps 1 ks perm ∧ k ≤ j
abbrev CoKw (X : Cx) (j : Nat) (C : Addr) (ks : List Str) (perm : List Nat) (c : DC) : Prop := CoKwC X.prog X.w X.K X.mg X.base j C ks perm c
def tCoK (X : Cx) (j : Nat) (C : Addr) (ks : List Str) (perm : List Nat) (tf : TE) (tk : TA) : TE := fun σ H Q => tf σ H fun y H1 => ∃ a c, y = V.ref a ∧ CoKw X j C ks perm c ∧ tk σ H1 fun zs H2 => ∃ dx fs, H2 a = some (.ins C dx fs) ∧ zs.length = ks.length ∧ spD X.K c (permed V.non perm (V.ref a :: zs)) H2 Q E0
section
variable {X : Cx} {j : Nat} {fe : Expr} {tf : TE} {tk : TA} {pos : Pos} {C : Addr} {ks : List Str} {perm : List Nat} {kws : List Keyword} {c : DC}
theorem pe_coK (st : Stand X j) (hf : PE X fe tf) (hkw : PK X kws tk) (hall : (backToKw pos (keywordEach kws X.env)).all (·.1.isSome) = true := by rfl) (hks : (backToKw pos (keywordEach kws X.env)).filterMap (·.1) = ks := by rfl)
    (hpl : ((backTo pos (starEach [] X.env)).any (·.1) || (backToKw pos (keywordEach kws X.env)).any (·.1.isNone)) = false := by rfl)
    (ht : eval (.Call fe [] kws pos) X.env = (do callWith pos (← eval fe X.env) [] (backTo pos (starEach [] X.env)) (backToKw pos (keywordEach kws X.env))) := by rfl) : PE X (.Call fe [] kws pos) (tCoK X j C ks perm tf tk) := by
  refine ⟨fun pins s σ H Q I h => ?_⟩
  rw [ht]
  refine wpAny_bind (thn (hf.run pins s σ H _ I h) fun u s1 ⟨y, H1, I1, ry, a, c, ey, ⟨g, fd, ps, k, hc, F, hb, hj⟩, q⟩ => ?_)
  subst ey
  obtain rfl : u = Value.ref a := ry
  refine callOK_of hpl (evalArgs_kw2_nil hall (thn (hkw.run pos pins s1 σ H1 _ I1 q) ?_))
  rintro ws s2 ⟨zs, H2, I2, rz, dx, fs, ea, l2, q2⟩
  obtain ⟨od, J⟩ := ins_at I2 ea
  refine ⟨⟨C, _, _, J, rfl⟩, ?_⟩
  rw [hks]
  have rr : Vals (permed V.non perm (V.ref a :: zs)) (permed Value.none perm (Value.ref a :: ws)) := vals_permed (vs := V.ref a :: zs) (us := Value.ref a :: ws) (.cons rfl rz) perm
  have bb := hb.to s2 [.ref a] ws rfl (rz.length.symm.trans l2)
  exact wpAny_call (PySem.W.kco_code I2.kIn J rfl hc.at_ hc.fn hc.fi (codeAny_mono (F.call (us := [.ref a]) (vs := [.ref a]) (st.room.mono hj) st.gd pass0 I2 bb rr q2) fun res s' z => by
    cases res with
    | error e => exact z
    | ok fl => cases fl <;> first | exact z | exact False.elim z))
def kCoK (C : Addr) (c : DC) (perm : List Nat) (mm : Nat) (ko : KE) (kz : KA) : KE := fun S n Q => ko S n fun d S1 n1 => match d with
  | .ins C' _ => C' = C ∧ kz S1 n1 fun zs S2 n2 => zs.length = mm ∧ c (permed D.non perm (d :: zs)) n2 fun r n3 => Q r S2 n3
  | _ => False
theorem de_coK {ko : KE} {kz : KA} (st : Stand X j) (hm : CoKw X j C ks perm c) (h : DB X fe tf ko) (hz : DK X kws tk kz)
    (hp : Stand X j → PE X fe tf → PK X kws tk → PE X (.Call fe [] kws pos) (tCoK X j C ks perm tf tk) := by intro a b c; exact pe_coK a b c) : DE X (.Call fe [] kws pos) (tCoK X j C ks perm tf tk) (kCoK C c perm ks.length ko kz) := by
  refine ⟨hp st h.pe hz.pe, fun W F n S σ H Q R hK A q fin => ?_⟩
  refine h.ok W F n S σ H _ _ hK A q fun x H1 F1 n1 S1 d g1 A1 r1 q1 => ?_
  cases d <;> try exact False.elim q1
  case ins C' gs =>
    obtain ⟨q0, q2⟩ := q1
    subst q0
    obtain ⟨a, dx, fs, rfl, e1, rf, ri⟩ := RB.ins A1.w.sub r1
    refine ⟨a, c, rfl, hm, ?_⟩
    refine hz.ok W F1 n1 S1 σ H1 _ _ hK A1 q2 fun zs H2 F2 n2 S2 es g2 A2 r2 q3 => ?_
    obtain ⟨a', dx', fs', ea, e2, _, _⟩ := RB.ins A2.w.sub (.inl (Rep.mono g2.f ri))
    cases ea
    refine ⟨dx', fs', e2, r2.length.trans q3.1, ?_⟩
    rw [← hK]
    refine spD_call A2 (reps_permed (.cons (Rep.mono g2.f ri) r2) perm) q3.2 fun v H3 F3 n3 d g3 A3 r3 q5 => ?_
    exact fin v H3 F3 n3 S2 d ((g1.trans g2).trans g3) A3 r3 q5
end
end DL
namespace DL
open PySem PySem.Spec PyProof.Rows L2
/-! ### a tuple many times -/
def rRepW (K : PySem.W.Frag) : R2 := fun x y H Q => ∃ l k xs, x = .ref l ∧ y = .int k ∧ SqT K H l xs ∧ xs ≠ [] ∧ 2 ≤ k ∧ k.toNat * xs.length ≤ 1000000 ∧ ∀ p, H p = none → Q (.ref p) (upd H p (.tup (List.replicate k.toNat xs).flatten))
theorem op_repW {X : Cx} : OpR X (binaryOp .Mult) (rRepW X.K) := by
  rintro pins s σ H x y v u Q I rx ry ⟨l, k, xs, rfl, rfl, hT, hne, h1, hz, q⟩
  cases (show v = Value.ref l from rx)
  obtain ⟨t, rfl⟩ := (show ∃ t, u = Value.int k t from ry)
  obtain ⟨its, r, ⟨⟨cls, dd, data, sl⟩, ho, hc, n, hd⟩, hs⟩ := I.tuple hT
  cases (show cls = _ from hc)
  cases (show data = _ from hd)
  have ln : its.length = xs.length := r.length.symm
  have sz : its.toArray.size = xs.length := by rw [List.size_toArray, ln]
  have pos : 0 < xs.length := List.length_pos_iff.mpr hne
  have em : its.toArray.isEmpty = false := by
    cases its with
    | nil => rw [List.length_nil] at ln; omega
    | cons a b => rfl
  have prod : ((its.toArray.size : Nat) : Int) * k ≤ 1000000 := by
    rw [sz, Int.mul_comm]
    have e : k = ((k.toNat : Nat) : Int) := by omega
    rw [e, ← Int.natCast_mul]
    omega
  have kle : k.toNat ≤ 1000000 := Nat.le_trans (Nat.le_mul_of_pos_right _ pos) hz
  have flat : (List.replicate k.toNat its).flatten.length ≤ sizeLine := by
    rw [PyProof.Rows.lm_len_rep_flat, ln, sizeLine_eq]
    omega
  have d0 : (decide (k < -(2 ^ 63)) || decide (k ≥ 2 ^ 63)) = false := by rw [decide_eq_false (p := k < -(2 ^ 63)) (by omega), decide_eq_false (p := k ≥ 2 ^ 63) (by omega)]; rfl
  have d1 : (its.toArray.isEmpty || k == 1) = false := by rw [em]; exact beq_eq_false_iff_ne.mpr (by omega)
  have d2 : (decide (k ≤ 0) || its.toArray.isEmpty) = false := by rw [em, decide_eq_false (p := k ≤ 0) (by omega)]; rfl
  have d4 : Builtin.Tuple.tupleTooMany (((its.toArray.size : Nat) : Int) * k) = false := by
    unfold Builtin.Tuple.tupleTooMany
    exact decide_eq_false (by rw [sizeLine_eq]; omega)
  have mul := tuple_mulW l its.toArray n dd sl k t d0 d1 d2 (by omega) d4 (by rw [size_rep, List.size_toArray]; exact flat)
  have rmul := int_rmul_tuple k t l its.toArray n dd sl
  have last : EP X pins σ Q (.ref s.heap.objs.size) { s with heap := s.heap.push { cls := Value.type "tuple", data := Data.seq (List.foldl (fun x1 x2 => x1 ++ x2) #[] (List.replicate k.toNat its.toArray)) }, toks := s.toks } := by
    rw [size_rep]
    refine ⟨.ref s.heap.objs.size, _, I.laid (t' := s.toks) (o := .tup (List.replicate k.toNat xs).flatten) (fun b ob q => Heap.get?_push_of_some _ q) (Nat.le_refl _) ?_, rfl, q _ (I.hok.fresh (Nat.le_refl _))⟩
    exact ⟨by rw [PyProof.Rows.lm_len_rep_flat, sizeLine_eq]; omega, _, r.rep k.toNat, IsTup.new _ _⟩
  exact wpAny_binaryOp_repeat_ref (T := "tuple") (U := "int") (by decide) ⟨_, ho, rfl⟩ (fun s' => typeIs_int s' k t) noFill_tuple_mul F.fills_int_mul F.slot_int_rmul repeat_tuple F.slot_int_index.lookup
    (call_meets F.slot_int_rmul (typeIs_int s k t) F.entry_int_rmul (F.args_int_rmul_2 _ _) rmul
      ⟨ho, rfl, ⟨_, ho, rfl⟩, call_meets F.slot_tuple_mul ⟨_, ho, rfl⟩ F.entry_tuple_mul (F.args_tuple_mul_2 _ _) mul ⟨ho, last⟩⟩)
/-- * of data, tuples many times too -/
def dMulY : D2 := fun a b Q => match a, b with
  | .tup x, .int j => if 2 ≤ j ∧ x ≠ [] then j.toNat * x.length ≤ 1000000 ∧ Q (.tup (List.replicate j.toNat x).flatten) else dMul (.tup x) (.int j) Q
  | _, _ => dMulX a b Q
def rMulY (K : PySem.W.Frag) : R2 := fun x y H Q => rMulX K x y H Q ∨ rRepW K x y H Q
theorem o_mulY {X : Cx} : OpR X (binaryOp .Mult) (rMulY X.K) := o_mulX.or op_repW
theorem d_mulY {X : Cx} : DOp X (rMulY X.K) dMulY := by
  intro W F H n x y a b Q R hK w ra rb q fin
  have old : dMulX a b Q → rMulY X.K x y H R := fun q => .inl (d_mulX W F H n x y a b Q R hK w ra rb q fin)
  cases a <;> cases b <;> try exact old q
  case tup.int xs j =>
    have q : (if 2 ≤ j ∧ xs ≠ [] then j.toNat * xs.length ≤ 1000000 ∧ Q (.tup (List.replicate j.toNat xs).flatten) else dMul (.tup xs) (.int j) Q) := q
    by_cases z : 2 ≤ j ∧ xs ≠ []
    · rw [if_pos z] at q
      obtain ⟨p, vs, rfl, h1, h0, h2⟩ := ra.tup w.sub
      refine .inr ⟨p, j, vs, rfl, rb.int, hK ▸ h1, fun e => ?_, z.1, by rw [h2.length]; exact q.1, fun c hc => ?_⟩
      · subst e
        have := h2.length
        exact z.2 (List.eq_nil_of_length_eq_zero this.symm)
      · obtain ⟨g, r⟩ := new_tup w hc (Reps.rep j.toNat h2)
        exact fin _ _ _ _ g r q.2
    · rw [if_neg z] at q
      exact old q
/-! ### constants of a class -/
def kCon (C : Addr) (d : D) (k : KE) : KE := fun S n Q => k S n fun x S1 n1 => match x with
  | .ref C' => C' = C ∧ Q d S1 n1
  | _ => False
theorem de_con {X : Cx} {C : Addr} {mc : Value} {f : Str} {v : V} {u : Value} {d : D} {o : Expr} {ta : TE} {ko : KE} {pos : Pos} (r : ClX.CRead X.K C mc) (c : ClX.CVal X.K C mc f v u) (hd : ∀ (pa : Option Pn) (F : Hp), Rep X.K pa F v d) (h : DB X o ta ko) (hb : attributeBase o f X.env (eval o X.env) = eval o X.env := by rfl) :
    DE X (.Attribute o f pos) (ClX.tCVal X.K ta f) (kCon C d ko) := by
  refine ⟨ClX.pe_cval h.pe hb, fun W F n S σ H Q R hK A q fin => ?_⟩
  refine h.ok W F n S σ H _ _ hK A q fun x H1 F1 n1 S1 dx g1 A1 r1 q1 => ?_
  cases dx <;> try exact False.elim q1
  case ref C' =>
    obtain ⟨e, q2⟩ := q1
    subst e
    exact ⟨C', mc, v, u, r1.ref', r, c, fin _ H1 F1 n1 S1 _ g1 A1 (hK ▸ hd W.pa F1) q2⟩
/-! ### x op= e of instances alone -/
def kAugN (own : List (Addr × DC)) (i : Nat) (k : KE) : KS := fun E S n => match S[i]? with
  | some (.val (.ins C gs)) => k S n fun y S1 n1 => yOk C y ∧ ownSel own C fun c => c [.ins C gs, y] n1 fun d n2 => E.nx (S1.set i (.val d)) n2
  | _ => False
section
variable {X : Cx} {j : Nat} {op : Operator} {own : List (Addr × DC)} {e : Expr} {te : TE} {k : KE}
theorem augN_ok (i : Nat) (st : Stand X j) (hm : BinsOk X j op own) (h : SpE X.K te k) : SpS X.K (tAug i te (rOwnA X j op)) (kAugN own i k) := by
  intro W F n S σ H E R hK A q fin
  unfold kAugN at q
  cases e1 : S[i]? with
  | none => rw [e1] at q; exact q.elim
  | some s =>
    rw [e1] at q
    cases s with
    | val d =>
      obtain ⟨v, e2, ok⟩ := slot_of A e1
      cases v with
      | none => exact ok.elim
      | some v =>
        have ok : Rep W.K W.pa F v d := ok
        cases d with
        | ins C gs =>
          refine ⟨_, e2, h W F n S σ H _ _ hK A q fun w H1 F1 n1 S1 d2 g1 A1 r q1 => ?_⟩
          have ok1 := Rep.mono g1.f ok
          obtain ⟨q2, q3⟩ := q1
          obtain ⟨c, hc, q4⟩ := hm.sel q3
          obtain ⟨a, dx, fs, rfl, ea, rf, ri⟩ := RB.ins A1.w.sub (.inl ok1)
          obtain ⟨y1, y2⟩ := q2.v A1.w.sub (.inl r)
          refine ⟨a, C, dx, fs, c, rfl, ea, hc, y1, ?_⟩
          rw [← hK]
          exact spD_call A1 (.cons ri (.cons y2 .nil)) q4 fun v H3 F3 n3 d g3 A3 r3 q5 => fin.nx F3 n3 _ _ H3 (g1.f.trans g3.f) (A3.set r3 i) q5
        | _ => exact False.elim q
    | _ => exact q.elim
theorem ds_augN {st : Stmt} (i : Nat) (sd : Stand X j) (hm : BinsOk X j op own) (h : DE X e te k)
    (hp : PE X e te → PIp X op (rOwnA X j op) → PS X st (tAug i te (rOwnA X j op))) : DS X st (tAug i te (rOwnA X j op)) (kAugN own i k) := ⟨hp h.pe (ip_ownA sd), augN_ok i sd hm h.ok⟩
end
end DL
namespace L54
open PySem L2 DL
structure Cl where
  Amount : Addr
/-! ### what each def answers -/
abbrev iD (a : List Int) : List D := a.map D.int
/-- how far a row reaches: the zeros at its end are no part of it -/
def sizeL (a : List Int) : Nat → Nat
  | 0 => 0
  | n + 1 => if a.getD n 0 = 0 then sizeL a n else n + 1
def trimL (a : List Int) : List Int := a.take (sizeL a a.length)
def addL : List Int → List Int → List Int
  | [], b => b
  | a, [] => a
  | x :: a, y :: b => (x + y) :: addL a b
def plusL (a b : List Int) : List Int := trimL (addL a b)
def scaleL (a : List Int) (f : Int) : List Int := trimL (a.map fun x => x * f)
def atP (a b : List Int) (p : Nat) : Int := ((List.range' (p + 1 - b.length) ((if p < a.length then p + 1 else a.length) - (p + 1 - b.length))).map fun i => a.getD i 0 * b.getD (p - i) 0).sum
def mulL (a b : List Int) : List Int := if a.length = 0 ∨ b.length = 0 then [] else trimL ((List.range' 0 (a.length + b.length - 1)).map (atP a b))
def callL (a : List Int) (x : Int) : Int := a.reverse.foldl (fun s c => s * x + c) 0
def byL (a b : List Int) : List Int := trimL ((a.zipIdx 0).foldl (fun f p => (b.zipIdx 0).foldl (fun f q => f.set (p.2 + q.2) (f.getD (p.2 + q.2) 0 + p.1 * q.1)) f) (List.replicate (a.length + b.length) 0))
/-- the size of a row's numbers -/
def bd (N : Nat) (a : List Int) : Prop := ∀ c ∈ a, c.natAbs < 2 ^ N
def am (Z : Cl) (a : List Int) : D := .ins Z.Amount [("integers", .tup (iD a)), ("degree", .int ((a.length : Int) - 1))]
def seqIs (a : List Int) (d : D) : Prop := d = .tup (iD a) ∨ d = .lst (iD a)
def c_is_integer (Z : Cl) : DC := fun ds n Q => ∃ i : Int, ds = [.int i] ∧ Q (.bl true) n
def c_need_number (Z : Cl) : DC := fun ds n Q => ∃ i j : Int, ds = [.int i, .int j] ∧ j ≤ i ∧ Q .non n
def c_trimmed (Z : Cl) : DC := fun ds n Q => ∃ a d, ds = [d] ∧ seqIs a d ∧ a.length ≤ 10000 ∧ Q (.tup (iD (trimL a))) n
def c_at_power (Z : Cl) : DC := fun ds n Q => ∃ (a : List Int) (p : Nat), ds = [.tup (iD a), .int p] ∧ Q (.int (a.getD p 0)) n
def c_plus (Z : Cl) : DC := fun ds n Q => ∃ a b : List Int, ds = [.tup (iD a), .tup (iD b)] ∧ a.length ≤ 5000 ∧ b.length ≤ 5000 ∧ Q (.tup (iD (plusL a b))) n
def c_scaled (Z : Cl) : DC := fun ds n Q => ∃ (a : List Int) (f : Int) (N M : Nat), ds = [.tup (iD a), .int f] ∧ a.length ≤ 5000 ∧ bd N a ∧ f.natAbs < 2 ^ M ∧ N + M < 1000000 ∧ Q (.tup (iD (scaleL a f))) n
def c_at_product (Z : Cl) : DC := fun ds n Q => ∃ (a b : List Int) (p N M : Nat), ds = [.tup (iD a), .tup (iD b), .int p] ∧ a.length ≤ 5000 ∧ b.length ≤ 5000 ∧ p < a.length + b.length ∧ bd N a ∧ bd M b ∧ N + M < 1000000 ∧ Q (.int (atP a b p)) n
def c_multiplied (Z : Cl) : DC := fun ds n Q => ∃ (a b : List Int) (N M : Nat), ds = [.tup (iD a), .tup (iD b)] ∧ a.length ≤ 2000 ∧ b.length ≤ 2000 ∧ bd N a ∧ bd M b ∧ N + M < 1000000 ∧ Q (.tup (iD (mulL a b))) n
def c_need_amount (Z : Cl) : DC := fun ds n Q => ∃ a, ds = [am Z a] ∧ Q .non n
def c_Amount_init (Z : Cl) : DC := fun ds n Q => ∃ a : List Int, ds = iD a ∧ a.length ≤ 2001 ∧ Q (am Z (trimL a)) n
def c_Amount_of (Z : Cl) : DC := fun ds n Q => ∃ a d, ds = [d] ∧ seqIs a d ∧ a.length ≤ 2001 ∧ Q (am Z (trimL a)) n
def c_Amount_call (Z : Cl) : DC := fun ds n Q => ∃ (a : List Int) (x : Int), ds = [am Z a, .int x] ∧ (-(2 ^ 64) < x ∧ x < 2 ^ 64) ∧ Q (.int (callL a x)) n
def c_Amount_add (Z : Cl) : DC := fun ds n Q => ∃ a b : List Int, ds = [am Z a, am Z b] ∧ a.length ≤ 2001 ∧ b.length ≤ 2001 ∧ Q (am Z (plusL a b)) n
def c_Amount_sub (Z : Cl) : DC := fun ds n Q => ∃ (a b : List Int) (N : Nat), ds = [am Z a, am Z b] ∧ a.length ≤ 2001 ∧ b.length ≤ 2001 ∧ bd N b ∧ N < 100000 ∧ Q (am Z (plusL a (scaleL b (-1)))) n
def c_Amount_mul (Z : Cl) : DC := fun ds n Q => ∃ (a b : List Int) (N : Nat), ds = [am Z a, am Z b] ∧ a.length ≤ 1000 ∧ b.length ≤ 1000 ∧ bd N a ∧ bd N b ∧ N < 100000 ∧ Q (am Z (mulL a b)) n
def c_Amount_neg (Z : Cl) : DC := fun ds n Q => ∃ (a : List Int) (N : Nat), ds = [am Z a] ∧ a.length ≤ 2001 ∧ bd N a ∧ N < 100000 ∧ Q (am Z (scaleL a (-1))) n
def shiftL (a : List Int) (p : Nat) : List Int := if 0 < a.length then List.replicate p 0 ++ a else []
def c_Amount_floordiv (Z : Cl) : DC := fun ds n Q => ∃ (a : List Int) (k : Nat), ds = [am Z a, .int ((k : Nat) : Int)] ∧ 1 ≤ k ∧ k < 2 ^ 1000 ∧ a.length ≤ 1000 ∧ (∀ c ∈ a, c % (k : Int) = 0) ∧ Q (am Z (trimL (a.map fun x => x / (k : Int)))) n
def c_Amount_cut (Z : Cl) : DC := fun ds n Q => ∃ (a : List Int) (p : Nat), ds = [am Z a, .int p] ∧ a.length ≤ 2001 ∧ p ≤ 1000 ∧ Q (am Z (trimL (a.take (p + 1)))) n
def big30 : Int := 1000000000000000000000000000000
def c_law_draw (Z : Cl) : DC := fun ds n Q => ∃ (cs : List Int) (m : Int), ds = [.pen cs, .int m] ∧ (0 < m ∧ m ≤ big30) ∧ n ≤ 100000 ∧ ∀ d : Int, 0 ≤ d → d < m → ∀ n', n' ≤ n + 1 → Q (.int d) n'
def c_law_pick (Z : Cl) : DC := fun ds n Q => ∃ cs xs, ds = [.pen cs, .lst xs] ∧ xs ≠ [] ∧ xs.length ≤ 1000 ∧ n ≤ 100000 ∧ ∀ d ∈ xs, ∀ n', n' ≤ n + 1 → Q d n'
def c_law_cut (Z : Cl) : DC := fun ds n Q => ∃ a d, ds = [d] ∧ seqIs a d ∧ a.length ≤ 10000 ∧ Q (.tup (iD (trimL a))) n
def c_law_plus (Z : Cl) : DC := fun ds n Q => ∃ (a b : List Int) (x y : D), ds = [x, y] ∧ seqIs a x ∧ seqIs b y ∧ a.length ≤ 1000 ∧ b.length ≤ 1000 ∧ Q (.tup (iD (plusL a b))) n
def c_law_by (Z : Cl) : DC := fun ds n Q => ∃ (a b : List Int) (x y : D) (N M : Nat), ds = [x, y] ∧ seqIs a x ∧ seqIs b y ∧ a.length ≤ 1000 ∧ b.length ≤ 1000 ∧ bd N a ∧ bd M b ∧ N + M < 1000000 ∧ Q (.tup (iD (byL a b))) n
theorem l_is_integer (Z : Cl) : ∀ ds n Q, c_is_integer Z ds n Q → ds.length = 1 := by rintro ds n Q ⟨_, rfl, _⟩; rfl
theorem l_need_number (Z : Cl) : ∀ ds n Q, c_need_number Z ds n Q → ds.length = 2 := by rintro ds n Q ⟨_, _, rfl, _⟩; rfl
theorem l_trimmed (Z : Cl) : ∀ ds n Q, c_trimmed Z ds n Q → ds.length = 1 := by rintro ds n Q ⟨_, _, rfl, _⟩; rfl
theorem l_at_power (Z : Cl) : ∀ ds n Q, c_at_power Z ds n Q → ds.length = 2 := by rintro ds n Q ⟨_, _, rfl, _⟩; rfl
theorem l_plus (Z : Cl) : ∀ ds n Q, c_plus Z ds n Q → ds.length = 2 := by rintro ds n Q ⟨_, _, rfl, _⟩; rfl
theorem l_scaled (Z : Cl) : ∀ ds n Q, c_scaled Z ds n Q → ds.length = 2 := by rintro ds n Q ⟨_, _, _, _, rfl, _⟩; rfl
theorem l_at_product (Z : Cl) : ∀ ds n Q, c_at_product Z ds n Q → ds.length = 3 := by rintro ds n Q ⟨_, _, _, _, _, rfl, _⟩; rfl
theorem l_multiplied (Z : Cl) : ∀ ds n Q, c_multiplied Z ds n Q → ds.length = 2 := by rintro ds n Q ⟨_, _, _, _, rfl, _⟩; rfl
theorem l_need_amount (Z : Cl) : ∀ ds n Q, c_need_amount Z ds n Q → ds.length = 1 := by rintro ds n Q ⟨_, rfl, _⟩; rfl
theorem l_Amount_init (Z : Cl) : ∀ ds n Q, c_Amount_init Z ds n Q → ds.length ≤ 1000000 := by rintro ds n Q ⟨_, rfl, h, _⟩; rw [List.length_map]; omega
theorem l_Amount_of (Z : Cl) : ∀ ds n Q, c_Amount_of Z ds n Q → ds.length = 1 := by rintro ds n Q ⟨_, _, rfl, _⟩; rfl
theorem l_Amount_call (Z : Cl) : ∀ ds n Q, c_Amount_call Z ds n Q → ds.length = 2 := by rintro ds n Q ⟨_, _, rfl, _⟩; rfl
theorem l_Amount_add (Z : Cl) : ∀ ds n Q, c_Amount_add Z ds n Q → ds.length = 2 := by rintro ds n Q ⟨_, _, rfl, _⟩; rfl
theorem l_Amount_sub (Z : Cl) : ∀ ds n Q, c_Amount_sub Z ds n Q → ds.length = 2 := by rintro ds n Q ⟨_, _, _, rfl, _⟩; rfl
theorem l_Amount_mul (Z : Cl) : ∀ ds n Q, c_Amount_mul Z ds n Q → ds.length = 2 := by rintro ds n Q ⟨_, _, _, rfl, _⟩; rfl
theorem l_Amount_neg (Z : Cl) : ∀ ds n Q, c_Amount_neg Z ds n Q → ds.length = 1 := by rintro ds n Q ⟨_, _, rfl, _⟩; rfl
theorem l_Amount_floordiv (Z : Cl) : ∀ ds n Q, c_Amount_floordiv Z ds n Q → ds.length = 2 := by rintro ds n Q ⟨_, _, rfl, _⟩; rfl
theorem l_Amount_cut (Z : Cl) : ∀ ds n Q, c_Amount_cut Z ds n Q → ds.length = 2 := by rintro ds n Q ⟨_, _, rfl, _⟩; rfl
theorem l_law_draw (Z : Cl) : ∀ ds n Q, c_law_draw Z ds n Q → ds.length = 2 := by rintro ds n Q ⟨_, _, rfl, _⟩; rfl
theorem l_law_pick (Z : Cl) : ∀ ds n Q, c_law_pick Z ds n Q → ds.length = 2 := by rintro ds n Q ⟨_, _, rfl, _⟩; rfl
theorem l_law_cut (Z : Cl) : ∀ ds n Q, c_law_cut Z ds n Q → ds.length = 1 := by rintro ds n Q ⟨_, _, rfl, _⟩; rfl
theorem l_law_plus (Z : Cl) : ∀ ds n Q, c_law_plus Z ds n Q → ds.length = 2 := by rintro ds n Q ⟨_, _, _, _, rfl, _⟩; rfl
theorem l_law_by (Z : Cl) : ∀ ds n Q, c_law_by Z ds n Q → ds.length = 2 := by rintro ds n Q ⟨_, _, _, _, _, _, rfl, _⟩; rfl
/-- an amount's text -/
def wordL (i : Int) : Str := Str.ofString (toString i)
def textL (a : List Int) : Str := if a = [] then "0" else Txt.join " " (a.map wordL)
def normal (a : List Int) : Prop := a = [] ∨ a.getD (a.length - 1) 0 ≠ 0
def c_words_of (Z : Cl) : DC := fun ds n Q => ∃ t : Str, ds = [.str t] ∧ t.length ≤ 1000000 ∧ Q (.lst ((Txt.split t " ").map D.str)) n
def c_is_written (Z : Cl) : DC := fun ds n Q => ∃ x : Int, ds = [.str (wordL x)] ∧ x.natAbs.log2 < 1900 ∧ Q (.bl true) n
def c_Amount_read (Z : Cl) : DC := fun ds n Q => ∃ a : List Int, ds = [.ref Z.Amount, .str (textL a)] ∧ normal a ∧ a.length ≤ 100 ∧ bd 1000 a ∧ Q (am Z a) n
def c_Amount_str (Z : Cl) : DC := fun ds n Q => ∃ a : List Int, ds = [am Z a] ∧ a.length ≤ 100 ∧ bd 1000 a ∧ Q (.str (textL a)) n
def c_Amount_eq (Z : Cl) : DC := fun ds n Q => ∃ (a : List Int) (y : D), ds = [am Z a, y] ∧ ((∃ b, y = am Z b ∧ Q (.bl (decide (a = b))) n) ∨ ((∀ C gs, y ≠ .ins C gs) ∧ y.tyn ≠ "" ∧ Q (.bl false) n))
def c_Amount_getitem (Z : Cl) : DC := fun ds n Q => ∃ (a : List Int) (p : Int), ds = [am Z a, .int p] ∧ 0 ≤ p ∧ Q (.int (a.getD p.toNat 0)) n
def c_Amount_lshift (Z : Cl) : DC := fun ds n Q => ∃ (a : List Int) (p : Nat), ds = [am Z a, .int p] ∧ a.length ≤ 1000 ∧ p ≤ 2000 ∧ a.length + p ≤ 2001 ∧ Q (am Z (trimL (shiftL a p))) n
def c_law_row (Z : Cl) : DC := fun ds n Q => ∃ cs : List Int, ds = [.pen cs] ∧ n ≤ 50000 ∧ ∀ (a : List Int) (n' : Nat), a.length < 8 → bd 100 a → n' ≤ n + 100 → Q (.lst (iD a)) n'
def c_law_is (Z : Cl) : DC := fun ds n Q => ∃ (r : List Int) (d : D), ds = [am Z (trimL r), d] ∧ seqIs r d ∧ r.length ≤ 100 ∧ bd 1000 r ∧ Q (.bl true) n
def c_law_value (Z : Cl) : DC := fun ds n Q => ∃ (a : List Int) (x : Int), ds = [.lst (iD a), .int x] ∧ (-(2 ^ 64) < x ∧ x < 2 ^ 64) ∧ Q (.int (callL a x)) n
def c_law_right (Z : Cl) : DC := fun ds n Q => ∃ (cs a b : List Int), ds = [.pen cs, .lst (iD a), .lst (iD b)] ∧ (a.length < 8 ∧ b.length < 8) ∧ (bd 100 a ∧ bd 100 b) ∧ n ≤ 50000 ∧ ∀ n', n' ≤ n + 10 → Q (.bl true) n'
theorem l_words_of (Z : Cl) : ∀ ds n Q, c_words_of Z ds n Q → ds.length = 1 := by rintro ds n Q ⟨_, rfl, _⟩; rfl
theorem l_is_written (Z : Cl) : ∀ ds n Q, c_is_written Z ds n Q → ds.length = 1 := by rintro ds n Q ⟨_, rfl, _⟩; rfl
theorem l_Amount_read (Z : Cl) : ∀ ds n Q, c_Amount_read Z ds n Q → ds.length = 2 := by rintro ds n Q ⟨_, rfl, _⟩; rfl
theorem l_Amount_str (Z : Cl) : ∀ ds n Q, c_Amount_str Z ds n Q → ds.length = 1 := by rintro ds n Q ⟨_, rfl, _⟩; rfl
theorem l_Amount_eq (Z : Cl) : ∀ ds n Q, c_Amount_eq Z ds n Q → ds.length = 2 := by rintro ds n Q ⟨_, _, rfl, _⟩; rfl
theorem l_Amount_getitem (Z : Cl) : ∀ ds n Q, c_Amount_getitem Z ds n Q → ds.length = 2 := by rintro ds n Q ⟨_, _, rfl, _⟩; rfl
theorem l_Amount_lshift (Z : Cl) : ∀ ds n Q, c_Amount_lshift Z ds n Q → ds.length = 2 := by rintro ds n Q ⟨_, _, rfl, _⟩; rfl
theorem l_law_row (Z : Cl) : ∀ ds n Q, c_law_row Z ds n Q → ds.length = 1 := by rintro ds n Q ⟨_, rfl, _⟩; rfl
theorem l_law_is (Z : Cl) : ∀ ds n Q, c_law_is Z ds n Q → ds.length = 2 := by rintro ds n Q ⟨_, _, rfl, _⟩; rfl
theorem l_law_value (Z : Cl) : ∀ ds n Q, c_law_value Z ds n Q → ds.length = 2 := by rintro ds n Q ⟨_, _, rfl, _⟩; rfl
theorem l_law_right (Z : Cl) : ∀ ds n Q, c_law_right Z ds n Q → ds.length = 3 := by rintro ds n Q ⟨_, _, _, rfl, _⟩; rfl
end L54
namespace L54
open PySem L2 DL
/-- words_of: 0 text -/
def kb_words_of (Z : Cl) : KS := (kSeq (kIfS (kNotT (kTest (kCall bIsi (kCons (kB 0) (kCons (kC (.ty "str")) kNil)))))
    kNever
    kNext)
    (kRet (kSplit (kB 0) (kC (.str (Str.ofString " "))))))
/-- is_integer: 0 value -/
def kb_is_integer (Z : Cl) : KS := (kRet (kAndV (kCall bIsi (kCons (kB 0) (kCons (kC (.ty "int")) kNil))) (kNotV (kCall bIsi (kCons (kB 0) (kCons (kC (.ty "bool")) kNil))))))
/-- need_number: 0 value, 1 least -/
def kb_need_number (Z : Cl) : KS := (kIfS (kOrT (kNotT (kTest (kFn (c_is_integer Z) (kCons (kV 0) kNil)))) (kTest (kBin dLt (kB 0) (kB 1))))
    kNever
    kNext)
/-- trimmed: 0 numbers, 1 size -/
def kb_trimmed (Z : Cl) : KS := (kSeq (kAsg (kCall bLen (kCons (kB 0) kNil)) (gN 1))
    (kSeq (kWhile (kAndT (kTest (kBin dGt (kB 1) (kC (.int 0)))) (kTest (kBin dEq (kBin dIx (kB 0) (kBin dSub (kB 1) (kC (.int 1)))) (kC (.int 0)))))
    (kAug 1 (fun i j => i - j) (kC (.int 1))))
    (kRet (kCall bTuple (kCons (kSl (kB 0) kNoPart (kPart (kV 1))) kNil)))))
/-- at_power: 0 row, 1 power -/
def kb_at_power (Z : Cl) : KS := (kRet (kIf (kTest (kBin dLt (kB 1) (kCall bLen (kCons (kB 0) kNil)))) (kBin dIx (kB 0) (kB 1)) (kC (.int 0))))
def kg_plus_1 (Z : Cl) : KG := (gN 3)
def ke_plus_2 (Z : Cl) : KE := (kBin dAdd (kFn (c_at_power Z) (kCons (kV 0) (kCons (kV 3) kNil))) (kFn (c_at_power Z) (kCons (kV 1) (kCons (kV 3) kNil))))
/-- plus: 0 one, 1 other, 2 size, 3 power -/
def kb_plus (Z : Cl) : KS := (kSeq (kAsg (kIf (kTest (kBin dGe (kCall bLen (kCons (kB 0) kNil)) (kCall bLen (kCons (kB 1) kNil)))) (kCall bLen (kCons (kB 0) kNil)) (kCall bLen (kCons (kB 1) kNil))) (gN 2))
    (kRet (kFn (c_trimmed Z) (kCons (kOut (kCompO (kRng1 (kCons (kV 2) kNil)) (kg_plus_1 Z) kYes (ke_plus_2 Z) [3])) kNil))))
def kg_scaled_1 (Z : Cl) : KG := (gN 2)
def ke_scaled_2 (Z : Cl) : KE := (kBin dMulY (kB 2) (kB 1))
/-- scaled: 0 one, 1 factor, 2 number -/
def kb_scaled (Z : Cl) : KS := (kRet (kFn (c_trimmed Z) (kCons (kOut (kCompO (kIter (kV 0)) (kg_scaled_1 Z) kYes (ke_scaled_2 Z) [2])) kNil)))
def kg_at_product_1 (Z : Cl) : KG := (gN 5)
def ke_at_product_2 (Z : Cl) : KE := (kBin dMulY (kBin dIx (kB 0) (kB 5)) (kBin dIx (kB 1) (kBin dSub (kB 2) (kB 5))))
/-- at_product: 0 one, 1 other, 2 power, 3 begin, 4 end, 5 at -/
def kb_at_product (Z : Cl) : KS := (kSeq (kAsg (kIf (kTest (kBin dGt (kBin dAdd (kB 2) (kC (.int 1))) (kCall bLen (kCons (kB 1) kNil)))) (kBin dSub (kBin dAdd (kB 2) (kC (.int 1))) (kCall bLen (kCons (kB 1) kNil))) (kC (.int 0))) (gN 3))
    (kSeq (kAsg (kIf (kTest (kBin dLt (kB 2) (kCall bLen (kCons (kB 0) kNil)))) (kBin dAdd (kB 2) (kC (.int 1))) (kCall bLen (kCons (kB 0) kNil))) (gN 4))
    (kRet (kCall bSum (kCons (kOut (kCompO (kRng2 (kCons (kV 3) (kCons (kV 4) kNil))) (kg_at_product_1 Z) kYes (ke_at_product_2 Z) [5])) kNil)))))
def kg_multiplied_1 (Z : Cl) : KG := (gN 2)
def ke_multiplied_2 (Z : Cl) : KE := (kFn (c_at_product Z) (kCons (kV 0) (kCons (kV 1) (kCons (kV 2) kNil))))
/-- multiplied: 0 one, 1 other, 2 power -/
def kb_multiplied (Z : Cl) : KS := (kSeq (kIfS (kOrT (kTest (kBin dEq (kCall bLen (kCons (kB 0) kNil)) (kC (.int 0)))) (kTest (kBin dEq (kCall bLen (kCons (kB 1) kNil)) (kC (.int 0)))))
    (kRet (kTup kNil))
    kNext)
    (kRet (kFn (c_trimmed Z) (kCons (kOut (kCompO (kRng1 (kCons (kBin dSub (kBin dAdd (kCall bLen (kCons (kB 0) kNil)) (kCall bLen (kCons (kB 1) kNil))) (kC (.int 1))) kNil)) (kg_multiplied_1 Z) kYes (ke_multiplied_2 Z) [2])) kNil))))
def kg_is_written_1 (Z : Cl) : KG := (gN 2)
def ke_is_written_2 (Z : Cl) : KE := (kBin dInX (kB 2) (kC (.str (Str.ofString "0123456789"))))
/-- is_written: 0 word, 1 figures, 2 figure -/
def kb_is_written (Z : Cl) : KS := (kSeq (kAsg (kIf (kTest (kBin dEq (kSlX (kB 0) kNoPart (kPart (kC (.int 1)))) (kC (.str (Str.ofString "-"))))) (kSlX (kB 0) (kPart (kC (.int 1))) kNoPart) (kV 0)) (gN 1))
    (kSeq (kIfS (kOrT (kTest (kBin dEq (kB 1) (kC (.str (Str.ofString ""))))) (kNotT (kTest (kCall bAll (kCons (kOut (kCompO (kIterS (kV 1)) (kg_is_written_1 Z) kYes (ke_is_written_2 Z) [2])) kNil)))))
    (kRet (kC (.bl false)))
    kNext)
    (kRet (kOrV (kBin dNe (kBin dIx (kB 1) (kC (.int 0))) (kC (.str (Str.ofString "0")))) (kBin dEq (kB 0) (kC (.str (Str.ofString "0"))))))))
/-- need_amount: 0 value -/
def kb_need_amount (Z : Cl) : KS := (kIfS (kNotT (kTest (kIsiC [(Z.Amount, true)] (kB 0))))
    kNever
    kNext)
def kg_Amount_init_1 (Z : Cl) : KG := (gN 2)
def kb_Amount_init_2 (Z : Cl) : KS := (kIfS (kNotT (kTest (kFn (c_is_integer Z) (kCons (kV 2) kNil))))
    kNever
    kNext)
/-- Amount_init: 0 self, 1 numbers, 2 number -/
def kb_Amount_init (Z : Cl) : KS := (kSeq (kFor (kIter (kV 1)) (kg_Amount_init_1 Z)
    (kb_Amount_init_2 Z))
    (kSeq (kSetF [Z.Amount] 0 "integers" (kFn (c_trimmed Z) (kCons (kV 1) kNil)))
    (kSeq (kSetF [Z.Amount] 0 "degree" (kBin dSub (kCall bLen (kCons (kFldO [Z.Amount] 0 "integers") kNil)) (kC (.int 1))))
    (kIfS (kTest (kBin dGt (kFldO [Z.Amount] 0 "degree") (kC (.int 2000))))
    kNever
    kNext))))
/-- Amount_of: 0 numbers -/
def kb_Amount_of (Z : Cl) : KS := (kSeq (kIfS (kNotT (kTest (kIsi2 (kB 0) "list" "tuple")))
    kNever
    kNext)
    (kRet (kFn (c_Amount_init Z) (kStar1 (kV 0)))))
def kg_Amount_read_1 (Z : Cl) : KG := (gTupD 2 (gsCons (gN 3) (gsCons (gN 4) gsNil)))
def kb_Amount_read_2 (Z : Cl) : KS := (kIfS (kNotT (kTest (kFn (c_is_written Z) (kCons (kV 4) kNil))))
    kNever
    kNext)
def kg_Amount_read_3 (Z : Cl) : KG := (gN 4)
def ke_Amount_read_4 (Z : Cl) : KE := (kCall bIntX (kCons (kB 4) kNil))
/-- Amount_read: 0 cls, 1 text, 2 words, 3 at, 4 word -/
def kb_Amount_read (Z : Cl) : KS := (kSeq (kAsg (kFn (c_words_of Z) (kCons (kV 1) kNil)) (gN 2))
    (kSeq (kFor (kEnum (kCons (kV 2) kNil)) (kg_Amount_read_1 Z)
    (kb_Amount_read_2 Z))
    (kSeq (kIfS (kAndT (kTest (kBin dGt (kCall bLen (kCons (kB 2) kNil)) (kC (.int 1)))) (kTest (kBin dEq (kBin dIx (kB 2) (kUn dNeg (kC (.int 1)))) (kC (.str (Str.ofString "0"))))))
    kNever
    kNext)
    (kRet (kStat Z.Amount (c_Amount_of Z) (kB 0) (kCons (kOut (kCompO (kIter (kV 2)) (kg_Amount_read_3 Z) kYes (ke_Amount_read_4 Z) [4])) kNil))))))
/-- Amount_getitem: 0 self, 1 power -/
def kb_Amount_getitem (Z : Cl) : KS := (kSeq (kDrop (kFn (c_need_number Z) (kCons (kV 1) (kCons (kC (.int 0)) kNil))))
    (kRet (kIf (kTest (kBin dLt (kB 1) (kCall bLen (kCons (kFld [Z.Amount] "integers" (kB 0)) kNil)))) (kBin dIx (kFld [Z.Amount] "integers" (kB 0)) (kB 1)) (kC (.int 0)))))
def kg_Amount_call_1 (Z : Cl) : KG := (gN 3)
def kb_Amount_call_2 (Z : Cl) : KS := (kAsg (kBin dAdd (kBin dMulY (kB 2) (kB 1)) (kB 3)) (gN 2))
/-- Amount_call: 0 self, 1 value, 2 found, 3 number -/
def kb_Amount_call (Z : Cl) : KS := (kSeq (kIfS (kNotT (kTest (kFn (c_is_integer Z) (kCons (kV 1) kNil))))
    kNever
    kNext)
    (kSeq (kAsg (kC (.int 0)) (gN 2))
    (kSeq (kFor (kIter (kRev (kFld [Z.Amount] "integers" (kB 0)))) (kg_Amount_call_1 Z)
    (kb_Amount_call_2 Z))
    (kRet (kV 2)))))
/-- Amount_add: 0 self, 1 other -/
def kb_Amount_add (Z : Cl) : KS := (kSeq (kDrop (kFn (c_need_amount Z) (kCons (kV 1) kNil)))
    (kRet (kStat Z.Amount (c_Amount_of Z) (kC (.ref Z.Amount)) (kCons (kFn (c_plus Z) (kCons (kFld [Z.Amount] "integers" (kB 0)) (kCons (kFld [Z.Amount] "integers" (kB 1)) kNil))) kNil))))
/-- Amount_sub: 0 self, 1 other -/
def kb_Amount_sub (Z : Cl) : KS := (kSeq (kDrop (kFn (c_need_amount Z) (kCons (kV 1) kNil)))
    (kRet (kStat Z.Amount (c_Amount_of Z) (kC (.ref Z.Amount)) (kCons (kFn (c_plus Z) (kCons (kFld [Z.Amount] "integers" (kB 0)) (kCons (kFn (c_scaled Z) (kCons (kFld [Z.Amount] "integers" (kB 1)) (kCons (kUn dNeg (kC (.int 1))) kNil))) kNil))) kNil))))
/-- Amount_mul: 0 self, 1 other -/
def kb_Amount_mul (Z : Cl) : KS := (kSeq (kDrop (kFn (c_need_amount Z) (kCons (kV 1) kNil)))
    (kRet (kStat Z.Amount (c_Amount_of Z) (kC (.ref Z.Amount)) (kCons (kFn (c_multiplied Z) (kCons (kFld [Z.Amount] "integers" (kB 0)) (kCons (kFld [Z.Amount] "integers" (kB 1)) kNil))) kNil))))
/-- Amount_neg: 0 self -/
def kb_Amount_neg (Z : Cl) : KS := (kRet (kStat Z.Amount (c_Amount_of Z) (kC (.ref Z.Amount)) (kCons (kFn (c_scaled Z) (kCons (kFld [Z.Amount] "integers" (kB 0)) (kCons (kUn dNeg (kC (.int 1))) kNil))) kNil)))
/-- Amount_lshift: 0 self, 1 power -/
def kb_Amount_lshift (Z : Cl) : KS := (kSeq (kDrop (kFn (c_need_number Z) (kCons (kV 1) (kCons (kC (.int 0)) kNil))))
    (kSeq (kIfS (kAndT (kTest (kBin dGt (kCall bLen (kCons (kFld [Z.Amount] "integers" (kB 0)) kNil)) (kC (.int 0)))) (kTest (kBin dGt (kBin dAdd (kFld [Z.Amount] "degree" (kB 0)) (kB 1)) (kC (.int 2000)))))
    kNever
    kNext)
    (kRet (kStat Z.Amount (c_Amount_of Z) (kC (.ref Z.Amount)) (kCons (kIf (kTest (kBin dGt (kCall bLen (kCons (kFld [Z.Amount] "integers" (kB 0)) kNil)) (kC (.int 0)))) (kBin dAdd (kBin dMulY (kTup (kCons (kC (.int 0)) kNil)) (kB 1)) (kFld [Z.Amount] "integers" (kB 0))) (kTup kNil)) kNil)))))
def kg_Amount_floordiv_1 (Z : Cl) : KG := (gN 2)
def ke_Amount_floordiv_2 (Z : Cl) : KE := (kBin dNe (kBin dMod (kB 2) (kB 1)) (kC (.int 0)))
def kg_Amount_floordiv_3 (Z : Cl) : KG := (gN 2)
def ke_Amount_floordiv_4 (Z : Cl) : KE := (kBin dDivX (kB 2) (kB 1))
/-- Amount_floordiv: 0 self, 1 number, 2 factor -/
def kb_Amount_floordiv (Z : Cl) : KS := (kSeq (kDrop (kFn (c_need_number Z) (kCons (kV 1) (kCons (kC (.int 1)) kNil))))
    (kSeq (kIfS (kTest (kCall bAny (kCons (kOut (kCompO (kIter (kFld [Z.Amount] "integers" (kB 0))) (kg_Amount_floordiv_1 Z) kYes (ke_Amount_floordiv_2 Z) [2])) kNil)))
    kNever
    kNext)
    (kRet (kStat Z.Amount (c_Amount_of Z) (kC (.ref Z.Amount)) (kCons (kOut (kCompO (kIter (kFld [Z.Amount] "integers" (kB 0))) (kg_Amount_floordiv_3 Z) kYes (ke_Amount_floordiv_4 Z) [2])) kNil)))))
/-- Amount_cut: 0 self, 1 most -/
def kb_Amount_cut (Z : Cl) : KS := (kSeq (kDrop (kFn (c_need_number Z) (kCons (kV 1) (kCons (kC (.int 0)) kNil))))
    (kRet (kStat Z.Amount (c_Amount_of Z) (kC (.ref Z.Amount)) (kCons (kSl (kFld [Z.Amount] "integers" (kB 0)) kNoPart (kPart (kBin dAdd (kB 1) (kC (.int 1))))) kNil))))
/-- Amount_eq: 0 self, 1 other -/
def kb_Amount_eq (Z : Cl) : KS := (kRet (kAndV (kIsiC [(Z.Amount, true)] (kB 1)) (kBin dEq (kFld [Z.Amount] "integers" (kB 0)) (kFld [Z.Amount] "integers" (kB 1)))))
def kg_Amount_str_1 (Z : Cl) : KG := (gN 1)
def ke_Amount_str_2 (Z : Cl) : KE := (kStrO [] (kB 1))
/-- Amount_str: 0 self, 1 number -/
def kb_Amount_str (Z : Cl) : KS := (kSeq (kIfS (kTest (kBin dEq (kCall bLen (kCons (kFld [Z.Amount] "integers" (kB 0)) kNil)) (kC (.int 0))))
    (kRet (kC (.str (Str.ofString "0"))))
    kNext)
    (kRet (kJoin (kC (.str (Str.ofString " "))) (kOut (kCompO (kIter (kFld [Z.Amount] "integers" (kB 0))) (kg_Amount_str_1 Z) kYes (ke_Amount_str_2 Z) [1])))))
def kr_law_draw_1 (Z : Cl) : KS := (kRet (kBin dMod (kCall bIntX (kCons (kBin dDivX (kB 6) (kC (.int 32))) kNil)) (kB 1)))
def kr_law_draw_2 (Z : Cl) : KS := (kSeq (kAsg (kBin dMod (kCall bIntX (kCons (kBin dPow (kBin dAdd (kBin dAdd (kBin dMulY (kB 6) (kBin dAdd (kBin dMulY (kC (.int 2)) (kB 3)) (kC (.int 313)))) (kBin dMulY (kBin dMulY (kC (.int 52371)) (kB 3)) (kB 3))) (kC (.int 25))) (kC (.int 3))) kNil)) (kC (.int 2147483587))) (gN 6))
    (kr_law_draw_1 Z))
def kr_law_draw_3 (Z : Cl) : KS := (kSeq (kAsg (kBin dMod (kCall bIntX (kCons (kBin dPow (kBin dAdd (kBin dAdd (kBin dMod (kCall bIntX (kCons (kB 4) kNil)) (kC (.int 2147483579))) (kBin dMulY (kC (.int 56139)) (kB 3))) (kC (.int 511))) (kC (.int 5))) kNil)) (kC (.int 2147483629))) (gN 6))
    (kr_law_draw_2 Z))
def kr_law_draw_4 (Z : Cl) : KS := (kSeq (kIfS (kAndT (kTest (kBin dLt (kB 3) (kCall bLen (kCons (kPen0 0) kNil)))) (kTest (kBin dGe (kCall bAbs (kCons (kB 4) kNil)) (kBin dPow (kC (.int 10)) (kC (.int 18))))))
    (kSeq (kAsg (kBin dAdd (kBin dMulY (kC (.int 2)) (kBin dSub (kCall bAbs (kCons (kB 4) kNil)) (kBin dPow (kC (.int 10)) (kC (.int 18))))) (kCall bIntX (kCons (kBin dLt (kB 4) (kC (.int 0))) kNil))) (gN 5))
    (kSeq (kInk2 0 (kBin dDivX (kCall bIntX (kCons (kB 5) kNil)) (kB 1)))
    (kRet (kBin dMod (kCall bIntX (kCons (kB 5) kNil)) (kB 1)))))
    kNext)
    (kr_law_draw_3 Z))
def kr_law_draw_5 (Z : Cl) : KS := (kSeq (kIfS (kTest (kBin dNe (kPen0 0) (kLst kNil)))
    (kAsg (kBin dIx (kPen0 0) (kBin dMod (kCall bIntX (kCons (kB 3) kNil)) (kCall bLen (kCons (kPen0 0) kNil)))) (gN 4))
    kNext)
    (kr_law_draw_4 Z))
def kr_law_draw_6 (Z : Cl) : KS := (kSeq (kAsg (kBin dAdd (kBin dMulY (kC (.int 66297)) (kB 3)) (kC (.int 217))) (gN 4))
    (kr_law_draw_5 Z))
def kr_law_draw_7 (Z : Cl) : KS := (kSeq (kInk1 0 (kBin dAdd (kB 3) (kC (.int 1))))
    (kr_law_draw_6 Z))
def kr_law_draw_8 (Z : Cl) : KS := (kSeq (kAsg (kPen1 0) (gN 3))
    (kr_law_draw_7 Z))
/-- law_draw: 0 pen, 1 many, 2 digit, 3 spot, 4 cell, 5 great, 6 mixed -/
def kb_law_draw (Z : Cl) : KS := (kSeq (kIfS (kTest (kBin dGt (kPen2 0) (kC (.int 0))))
    (kSeq (kAsg (kBin dMod (kCall bIntX (kCons (kPen2 0) kNil)) (kB 1)) (gN 2))
    (kSeq (kInk2 0 (kBin dDivX (kCall bIntX (kCons (kPen2 0) kNil)) (kB 1)))
    (kRet (kV 2))))
    kNext)
    (kr_law_draw_8 Z))
/-- law_pick: 0 pen, 1 some -/
def kb_law_pick (Z : Cl) : KS := (kRet (kBin dIx (kB 1) (kFn (c_law_draw Z) (kCons (kV 0) (kCons (kCall bLen (kCons (kB 1) kNil)) kNil)))))
/-- law_cut: 0 row, 1 size -/
def kb_law_cut (Z : Cl) : KS := (kSeq (kAsg (kCall bLen (kCons (kB 0) kNil)) (gN 1))
    (kSeq (kWhile (kAndT (kTest (kBin dGt (kB 1) (kC (.int 0)))) (kTest (kBin dEq (kBin dIx (kB 0) (kBin dSub (kB 1) (kC (.int 1)))) (kC (.int 0)))))
    (kAsg (kBin dSub (kB 1) (kC (.int 1))) (gN 1)))
    (kRet (kCall bTuple (kCons (kSl (kB 0) kNoPart (kPart (kV 1))) kNil)))))
def kg_law_plus_1 (Z : Cl) : KG := (gTupD 2 (gsCons (gN 4) (gsCons (gN 5) gsNil)))
def ke_law_plus_2 (Z : Cl) : KE := (kBin dAdd (kB 5) (kIf (kTest (kBin dLt (kB 4) (kCall bLen (kCons (kB 1) kNil)))) (kBin dIx (kB 1) (kB 4)) (kC (.int 0))))
/-- law_plus: 0 one, 1 other, 2 size, 3 longer, 4 at, 5 number -/
def kb_law_plus (Z : Cl) : KS := (kSeq (kAsg (kCall bMax (kCons (kCall bIntX (kCons (kCall bLen (kCons (kB 0) kNil)) kNil)) (kCons (kCall bIntX (kCons (kCall bLen (kCons (kB 1) kNil)) kNil)) kNil))) (gN 2))
    (kSeq (kAsg (kBin dAdd (kCall bList (kCons (kB 0) kNil)) (kBin dMulY (kLst (kCons (kC (.int 0)) kNil)) (kBin dSub (kB 2) (kCall bLen (kCons (kB 0) kNil))))) (gN 3))
    (kRet (kFn (c_law_cut Z) (kCons (kOut (kCompO (kEnum (kCons (kV 3) kNil)) (kg_law_plus_1 Z) kYes (ke_law_plus_2 Z) [4, 5])) kNil)))))
def kg_law_by_1 (Z : Cl) : KG := (gTupD 2 (gsCons (gN 5) (gsCons (gN 6) gsNil)))
def kb_law_by_2 (Z : Cl) : KS := (kSub 2 (kBin dAdd (kBin dIx (kB 2) (kBin dAdd (kB 3) (kB 5))) (kBin dMulY (kB 4) (kB 6))) (kBin dAdd (kB 3) (kB 5)))
def kg_law_by_3 (Z : Cl) : KG := (gTupD 2 (gsCons (gN 3) (gsCons (gN 4) gsNil)))
def kb_law_by_4 (Z : Cl) : KS := (kFor (kEnum (kCons (kV 1) kNil)) (kg_law_by_1 Z)
    (kb_law_by_2 Z))
/-- law_by: 0 one, 1 other, 2 found, 3 at, 4 number, 5 spot, 6 factor -/
def kb_law_by (Z : Cl) : KS := (kSeq (kOwnS 2 (kRepO (kLst (kCons (kC (.int 0)) kNil)) (kBin dAdd (kCall bLen (kCons (kB 0) kNil)) (kCall bLen (kCons (kB 1) kNil)))))
    (kSeq (kFor (kEnum (kCons (kV 0) kNil)) (kg_law_by_3 Z)
    (kb_law_by_4 Z))
    (kRet (kFn (c_law_cut Z) (kCons (kV 2) kNil)))))
def kg_law_row_1 (Z : Cl) : KG := (gN 2)
def ke_law_row_2 (Z : Cl) : KE := (kFn (c_law_pick Z) (kCons (kV 0) (kCons (kLst (kCons (kC (.int 0)) (kCons (kC (.int 1)) (kCons (kUn dNeg (kC (.int 1))) (kCons (kFn (c_law_draw Z) (kCons (kV 0) (kCons (kV 1) kNil))) (kCons (kBin dSub (kC (.int 0)) (kFn (c_law_draw Z) (kCons (kV 0) (kCons (kV 1) kNil)))) kNil)))))) kNil)))
/-- law_row: 0 pen, 1 most, 2 turn -/
def kb_law_row (Z : Cl) : KS := (kSeq (kAsg (kBin dIx (kLst (kCons (kC (.int 2)) (kCons (kC (.int 3)) (kCons (kC (.int 10)) (kCons (kBin dPow (kC (.int 10)) (kC (.int 30))) kNil))))) (kFn (c_law_draw Z) (kCons (kV 0) (kCons (kC (.int 4)) kNil)))) (gN 1))
    (kRet (kOut (kCompO (kRng1 (kCons (kFn (c_law_draw Z) (kCons (kV 0) (kCons (kC (.int 8)) kNil))) kNil)) (kg_law_row_1 Z) kYes (ke_law_row_2 Z) [2]))))
def kg_law_is_1 (Z : Cl) : KG := (gN 4)
def ke_law_is_2 (Z : Cl) : KE := (kStrO [(Z.Amount, (c_Amount_str Z))] (kB 4))
/-- law_is: 0 found, 1 row, 2 due, 3 text, 4 number -/
def kb_law_is (Z : Cl) : KS := (kSeq (kAsg (kFn (c_law_cut Z) (kCons (kV 1) kNil)) (gN 2))
    (kSeq (kIfS (kOrT (kNotT (kTest (kIsiC [(Z.Amount, true)] (kB 0)))) (kOrT (kTest (kEqO [(Z.Amount, (c_Amount_eq Z))] Bool.not dNe (kCall bRepr (kCons (kFld [Z.Amount] "integers" (kB 0)) kNil)) (kCall bRepr (kCons (kB 2) kNil)))) (kTest (kEqO [(Z.Amount, (c_Amount_eq Z))] Bool.not dNe (kCall bRepr (kCons (kFld [Z.Amount] "degree" (kB 0)) kNil)) (kCall bRepr (kCons (kBinO [(Z.Amount, (c_Amount_sub Z))] dSub (kLenO [(Z.Amount, "integers")] (kB 2)) (kC (.int 1))) kNil))))))
    (kRet (kC (.bl false)))
    kNext)
    (kSeq (kIfS (kOrT (kTest (kEqO [(Z.Amount, (c_Amount_eq Z))] Bool.not dNe (kLenO [(Z.Amount, "integers")] (kB 0)) (kLenO [(Z.Amount, "integers")] (kB 2)))) (kOrT (kTest (kEqO [(Z.Amount, (c_Amount_eq Z))] Bool.not dNe (kListO [(Z.Amount, "integers")] (kB 0)) (kListO [(Z.Amount, "integers")] (kB 2)))) (kTest (kEqO [(Z.Amount, (c_Amount_eq Z))] Bool.not dNe (kBoolO [(Z.Amount, "integers")] (kB 0)) (kEqO [(Z.Amount, (c_Amount_eq Z))] Bool.not dNe (kB 2) (kTup kNil))))))
    (kRet (kC (.bl false)))
    kNext)
    (kSeq (kAsg (kIf (kTest (kEqO [(Z.Amount, (c_Amount_eq Z))] Bool.not dNe (kB 2) (kTup kNil))) (kJoin (kC (.str (Str.ofString " "))) (kOut (kCompO (kIter (kV 2)) (kg_law_is_1 Z) kYes (ke_law_is_2 Z) [4]))) (kC (.str (Str.ofString "0")))) (gN 3))
    (kRet (kAndV (kEqO [(Z.Amount, (c_Amount_eq Z))] id dEq (kStrO [(Z.Amount, (c_Amount_str Z))] (kB 0)) (kV 3)) (kAndV (kEqO [(Z.Amount, (c_Amount_eq Z))] id dEq (kClsM Z.Amount (c_Amount_read Z) (kC (.ref Z.Amount)) (kCons (kV 3) kNil)) (kV 0)) (kAndV (kEqO [(Z.Amount, (c_Amount_eq Z))] id dEq (kB 0) (kStat Z.Amount (c_Amount_of Z) (kC (.ref Z.Amount)) (kCons (kListO [(Z.Amount, "integers")] (kB 1)) kNil))) (kEqO [(Z.Amount, (c_Amount_eq Z))] id dEq (kB 0) (kStat Z.Amount (c_Amount_of Z) (kC (.ref Z.Amount)) (kCons (kCall bTuple (kCons (kB 1) kNil)) kNil)))))))))))
def kg_law_value_1 (Z : Cl) : KG := (gN 3)
def kb_law_value_2 (Z : Cl) : KS := (kAsg (kBin dAdd (kBin dMulY (kB 2) (kB 1)) (kB 3)) (gN 2))
/-- law_value: 0 row, 1 value, 2 found, 3 number -/
def kb_law_value (Z : Cl) : KS := (kSeq (kAsg (kC (.int 0)) (gN 2))
    (kSeq (kFor (kIter (kRev (kB 0))) (kg_law_value_1 Z)
    (kb_law_value_2 Z))
    (kRet (kV 2))))
def kg_law_right_1 (Z : Cl) : KG := (gN 10)
def ke_law_right_2 (Z : Cl) : KE := (kBinO [(Z.Amount, (c_Amount_sub Z))] dSub (kC (.int 0)) (kB 10))
def kg_law_right_3 (Z : Cl) : KG := (gN 10)
def ke_law_right_4 (Z : Cl) : KE := (kBinO [(Z.Amount, (c_Amount_mul Z))] dMulY (kB 5) (kB 10))
def kg_law_right_5 (Z : Cl) : KG := (gN 11)
def ke_law_right_6 (Z : Cl) : KE := (kIxO [(Z.Amount, (c_Amount_getitem Z))] (kB 3) (kV 11))
def kg_law_right_7 (Z : Cl) : KG := (gN 11)
def ke_law_right_8 (Z : Cl) : KE := (kIf (kTest (kBin dLt (kB 11) (kLenO [(Z.Amount, "integers")] (kB 1)))) (kIxO [(Z.Amount, (c_Amount_getitem Z))] (kB 1) (kV 11)) (kC (.int 0)))
def kr_law_right_9 (Z : Cl) : KS := (kRet (kAndV (kFn (c_law_is Z) (kCons (kV 3) (kCons (kV 1) kNil))) (kFn (c_law_is Z) (kCons (kV 4) (kCons (kV 2) kNil)))))
def kr_law_right_10 (Z : Cl) : KS := (kSeq (kIfS (kOrT (kTest (kEqO [(Z.Amount, (c_Amount_eq Z))] Bool.not dNe (kEqO [(Z.Amount, (c_Amount_eq Z))] id dEq (kB 3) (kV 4)) (kEqO [(Z.Amount, (c_Amount_eq Z))] id dEq (kFn (c_law_cut Z) (kCons (kV 1) kNil)) (kFn (c_law_cut Z) (kCons (kV 2) kNil))))) (kOrT (kTest (kEqO [(Z.Amount, (c_Amount_eq Z))] id dEq (kEqO [(Z.Amount, (c_Amount_eq Z))] Bool.not dNe (kB 3) (kV 4)) (kEqO [(Z.Amount, (c_Amount_eq Z))] id dEq (kB 3) (kV 4)))) (kOrT (kTest (kEqO [(Z.Amount, (c_Amount_eq Z))] id dEq (kB 3) (kFn (c_law_cut Z) (kCons (kV 1) kNil)))) (kTest (kEqO [(Z.Amount, (c_Amount_eq Z))] id dEq (kB 3) (kStrO [(Z.Amount, (c_Amount_str Z))] (kB 3)))))))
    (kRet (kC (.bl false)))
    kNext)
    (kr_law_right_9 Z))
def kr_law_right_11 (Z : Cl) : KS := (kSeq (kIfS (kOrT (kTest (kEqO [(Z.Amount, (c_Amount_eq Z))] Bool.not dNe (kCall bRepr (kCons (kCo [(Z.Amount, (c_Amount_call Z))] (kB 3) (kCons (kV 8) kNil)) kNil)) (kCall bRepr (kCons (kFn (c_law_value Z) (kCons (kV 1) (kCons (kV 8) kNil))) kNil)))) (kTest (kEqO [(Z.Amount, (c_Amount_eq Z))] Bool.not dNe (kCall bRepr (kCons (kCoK Z.Amount (c_Amount_call Z) [0, 1] 1 (kB 4) (kCons (kV 8) kNil)) kNil)) (kCall bRepr (kCons (kFn (c_law_value Z) (kCons (kV 2) (kCons (kV 8) kNil))) kNil)))))
    (kRet (kC (.bl false)))
    kNext)
    (kr_law_right_10 Z))
def kr_law_right_12 (Z : Cl) : KS := (kSeq (kIfS (kOrT (kTest (kEqO [(Z.Amount, (c_Amount_eq Z))] Bool.not dNe (kCall bRepr (kCons (kOut (kCompO (kRng1 (kCons (kC (.int 9)) kNil)) (kg_law_right_5 Z) kYes (ke_law_right_6 Z) [11])) kNil)) (kCall bRepr (kCons (kOut (kCompO (kRng1 (kCons (kC (.int 9)) kNil)) (kg_law_right_7 Z) kYes (ke_law_right_8 Z) [11])) kNil)))) (kTest (kEqO [(Z.Amount, (c_Amount_eq Z))] Bool.not dNe (kIxO [(Z.Amount, (c_Amount_getitem Z))] (kB 3) (kBin dPow (kC (.int 10)) (kC (.int 60)))) (kC (.int 0)))))
    (kRet (kC (.bl false)))
    kNext)
    (kr_law_right_11 Z))
def kr_law_right_13 (Z : Cl) : KS := (kSeq (kIfS (kOrT (kNotT (kTest (kFn (c_law_is Z) (kCons (kBinO [(Z.Amount, (c_Amount_floordiv Z))] dDivX (kStat Z.Amount (c_Amount_of Z) (kC (.ref Z.Amount)) (kCons (kOut (kCompO (kIter (kV 1)) (kg_law_right_3 Z) kYes (ke_law_right_4 Z) [10])) kNil)) (kB 5)) (kCons (kV 1) kNil))))) (kNotT (kTest (kFn (c_law_is Z) (kCons (kMeth [(Z.Amount, (c_Amount_cut Z))] "cut" (kB 3) (kCons (kV 6) kNil)) (kCons (kSl (kB 1) kNoPart (kPart (kBinO [(Z.Amount, (c_Amount_add Z))] dAdd (kB 6) (kC (.int 1))))) kNil))))))
    (kRet (kC (.bl false)))
    kNext)
    (kr_law_right_12 Z))
def kr_law_right_14 (Z : Cl) : KS := (kSeq (kIfS (kOrT (kNotT (kTest (kFn (c_law_is Z) (kCons (kBinO [(Z.Amount, (c_Amount_mul Z))] dMulY (kB 3) (kB 4)) (kCons (kFn (c_law_by Z) (kCons (kV 1) (kCons (kV 2) kNil))) kNil))))) (kOrT (kNotT (kTest (kFn (c_law_is Z) (kCons (kUnO [(Z.Amount, (c_Amount_neg Z))] dNeg (kB 4)) (kCons (kV 9) kNil))))) (kNotT (kTest (kFn (c_law_is Z) (kCons (kBinO [(Z.Amount, (c_Amount_lshift Z))] dShlX (kB 3) (kB 7)) (kCons (kBinO [(Z.Amount, (c_Amount_add Z))] dAdd (kBinO [(Z.Amount, (c_Amount_mul Z))] dMulY (kLst (kCons (kC (.int 0)) kNil)) (kB 7)) (kB 1)) kNil)))))))
    (kRet (kC (.bl false)))
    kNext)
    (kr_law_right_13 Z))
def kr_law_right_15 (Z : Cl) : KS := (kSeq (kIfS (kOrT (kNotT (kTest (kFn (c_law_is Z) (kCons (kV 3) (kCons (kV 1) kNil))))) (kOrT (kNotT (kTest (kFn (c_law_is Z) (kCons (kBinO [(Z.Amount, (c_Amount_add Z))] dAdd (kB 3) (kB 4)) (kCons (kFn (c_law_plus Z) (kCons (kV 1) (kCons (kV 2) kNil))) kNil))))) (kNotT (kTest (kFn (c_law_is Z) (kCons (kBinO [(Z.Amount, (c_Amount_sub Z))] dSub (kB 3) (kB 4)) (kCons (kFn (c_law_plus Z) (kCons (kV 1) (kCons (kV 9) kNil))) kNil)))))))
    (kRet (kC (.bl false)))
    kNext)
    (kr_law_right_14 Z))
def kr_law_right_16 (Z : Cl) : KS := (kSeq (kAsg (kOut (kCompO (kIter (kV 2)) (kg_law_right_1 Z) kYes (ke_law_right_2 Z) [10])) (gN 9))
    (kr_law_right_15 Z))
def kr_law_right_17 (Z : Cl) : KS := (kSeq (kPar3 6 7 8 (kCons (kFn (c_law_draw Z) (kCons (kV 0) (kCons (kC (.int 9)) kNil))) (kCons (kFn (c_law_draw Z) (kCons (kV 0) (kCons (kC (.int 5)) kNil))) (kCons (kFn (c_law_pick Z) (kCons (kV 0) (kCons (kLst (kCons (kC (.int 0)) (kCons (kC (.int 1)) (kCons (kUn dNeg (kC (.int 1))) (kCons (kC (.int 2)) (kCons (kUn dNeg (kC (.int 3))) (kCons (kBin dPow (kC (.int 10)) (kC (.int 9))) kNil))))))) kNil))) kNil))))
    (kr_law_right_16 Z))
/-- law_right: 0 pen, 1 one, 2 other, 3 mine, 4 its, 5 part, 6 most, 7 move, 8 value, 9 opposite, 10 number, 11 at -/
def kb_law_right (Z : Cl) : KS := (kSeq (kAsg (kTup (kCons (kStat Z.Amount (c_Amount_of Z) (kC (.ref Z.Amount)) (kCons (kV 1) kNil)) (kCons (kStat Z.Amount (c_Amount_of Z) (kC (.ref Z.Amount)) (kCons (kV 2) kNil)) (kCons (kBinO [(Z.Amount, (c_Amount_add Z))] dAdd (kC (.int 1)) (kFn (c_law_draw Z) (kCons (kV 0) (kCons (kC (.int 9)) kNil)))) kNil)))) (gTupD 3 (gsCons (gN 3) (gsCons (gN 4) (gsCons (gN 5) gsNil)))))
    (kr_law_right_17 Z))
def kg_law_1 (Z : Cl) : KG := (gN 2)
def kb_law_2 (Z : Cl) : KS := (kSeq (kPar 3 4 (kCons (kFn (c_law_row Z) (kCons (kV 1) kNil)) (kCons (kFn (c_law_row Z) (kCons (kV 1) kNil)) kNil)))
    (kSeq (kIfS (kOrT (kNotT (kTest (kFn (c_law_right Z) (kCons (kV 1) (kCons (kV 3) (kCons (kV 4) kNil)))))) (kNotT (kTest (kFn (c_law_right Z) (kCons (kV 1) (kCons (kV 3) (kCons (kListO [(Z.Amount, "integers")] (kB 3)) kNil)))))))
    (kRet (kC (.bl false)))
    kNext)
    (kSeq (kAsg (kStat Z.Amount (c_Amount_of Z) (kC (.ref Z.Amount)) (kCons (kV 3) kNil)) (gN 5))
    (kSeq (kAsg (kV 5) (gN 6))
    (kSeq (kAugN [(Z.Amount, (c_Amount_add Z))] 5 (kStat Z.Amount (c_Amount_of Z) (kC (.ref Z.Amount)) (kCons (kV 4) kNil)))
    (kSeq (kAugN [(Z.Amount, (c_Amount_mul Z))] 5 (kFn (c_Amount_init Z) (kCons (kC (.int 0)) (kCons (kC (.int 2)) kNil))))
    (kSeq (kAugN [(Z.Amount, (c_Amount_sub Z))] 5 (kFn (c_Amount_init Z) (kCons (kC (.int 5)) kNil)))
    (kSeq (kAugN [(Z.Amount, (c_Amount_lshift Z))] 5 (kC (.int 1)))
    (kSeq (kAsg (kBinO [(Z.Amount, (c_Amount_add Z))] dAdd (kLst (kCons (kC (.int 0)) kNil)) (kListO [(Z.Amount, "integers")] (kFn (c_law_plus Z) (kCons (kFn (c_law_by Z) (kCons (kFn (c_law_plus Z) (kCons (kV 3) (kCons (kV 4) kNil))) (kCons (kTup (kCons (kC (.int 0)) (kCons (kC (.int 2)) kNil))) kNil))) (kCons (kTup (kCons (kUn dNeg (kC (.int 5))) kNil)) kNil))))) (gN 7))
    (kIfS (kOrT (kNotT (kTest (kFn (c_law_is Z) (kCons (kV 5) (kCons (kV 7) kNil))))) (kNotT (kTest (kFn (c_law_is Z) (kCons (kV 6) (kCons (kV 3) kNil))))))
    (kRet (kC (.bl false)))
    kNext))))))))))
/-- law: 0 script, 1 pen, 2 turn, 3 one, 4 other, 5 found, 6 kept, 7 due, 8 long -/
def kb_law (Z : Cl) : KS := (kSeq (kFor (kRng1 (kCons (kC (.int 6)) kNil)) (kg_law_1 Z)
    (kb_law_2 Z))
    (kSeq (kAsg (kStat Z.Amount (c_Amount_of Z) (kC (.ref Z.Amount)) (kCons (kBinO [(Z.Amount, (c_Amount_add Z))] dAdd (kBinO [(Z.Amount, (c_Amount_mul Z))] dMulY (kLst (kCons (kC (.int 0)) kNil)) (kC (.int 2000))) (kLst (kCons (kUn dNeg (kC (.int 7))) kNil))) kNil)) (gN 8))
    (kRet (kAndV (kEqO [(Z.Amount, (c_Amount_eq Z))] id dEq (kFld [Z.Amount] "degree" (kB 8)) (kC (.int 2000))) (kAndV (kEqO [(Z.Amount, (c_Amount_eq Z))] id dEq (kIxO [(Z.Amount, (c_Amount_getitem Z))] (kB 8) (kC (.int 2000))) (kUn dNeg (kC (.int 7)))) (kAndV (kEqO [(Z.Amount, (c_Amount_eq Z))] id dEq (kCon Z.Amount (.int 2000) (kC (.ref Z.Amount))) (kC (.int 2000))) (kAndV (kEqO [(Z.Amount, (c_Amount_eq Z))] id dEq (kB 8) (kBinO [(Z.Amount, (c_Amount_lshift Z))] dShlX (kFn (c_Amount_init Z) (kCons (kUn dNeg (kC (.int 7))) kNil)) (kC (.int 2000)))) (kAndV (kEqO [(Z.Amount, (c_Amount_eq Z))] id dEq (kCo [(Z.Amount, (c_Amount_call Z))] (kB 8) (kCons (kC (.int 1)) kNil)) (kUn dNeg (kC (.int 7)))) (kEqO [(Z.Amount, (c_Amount_eq Z))] id dEq (kFn (c_Amount_init Z) kNil) (kFn (c_Amount_init Z) (kCons (kC (.int 0)) (kCons (kC (.int 0)) kNil))))))))))))
end L54
namespace L54
open PySem L2 DL
/-! ### rows of whole numbers: places, ends -/
theorem getD_ge {a : List Int} {i : Nat} (h : a.length ≤ i) : a.getD i 0 = 0 := by
  rw [List.getD_eq_getElem?_getD, List.getElem?_eq_none h]; rfl
theorem sizeL_le (a : List Int) : ∀ n, sizeL a n ≤ n
  | 0 => Nat.le_refl _
  | n + 1 => by
    unfold sizeL
    have := sizeL_le a n
    split <;> omega
theorem sizeL_zero (a : List Int) : ∀ n i, sizeL a n ≤ i → i < n → a.getD i 0 = 0
  | 0, i, _, h => by omega
  | n + 1, i, h1, h2 => by
    unfold sizeL at h1
    split at h1
    · rename_i z
      by_cases e : i = n
      · rw [e]; exact z
      · exact sizeL_zero a n i h1 (by omega)
    · omega
theorem sizeL_end (a : List Int) : ∀ n, sizeL a n = 0 ∨ a.getD (sizeL a n - 1) 0 ≠ 0
  | 0 => .inl rfl
  | n + 1 => by
    unfold sizeL
    split
    · exact sizeL_end a n
    · rename_i z
      exact .inr z
theorem getD_take (a : List Int) (k i : Nat) : (a.take k).getD i 0 = if i < k then a.getD i 0 else 0 := by
  rw [List.getD_eq_getElem?_getD, List.getElem?_take]
  split
  · rw [List.getD_eq_getElem?_getD]
  · rfl
theorem trimL_len (a : List Int) : (trimL a).length = sizeL a a.length := by
  unfold trimL
  rw [List.length_take]
  have := sizeL_le a a.length
  omega
theorem trimL_le (a : List Int) : (trimL a).length ≤ a.length := by
  rw [trimL_len]; exact sizeL_le _ _
theorem getD_trim (a : List Int) (i : Nat) : (trimL a).getD i 0 = a.getD i 0 := by
  unfold trimL
  rw [getD_take]
  split
  · rfl
  · rename_i h
    by_cases e : i < a.length
    · exact (sizeL_zero a a.length i (by omega) e).symm
    · exact (getD_ge (by omega)).symm
theorem trimL_normal (a : List Int) : normal (trimL a) := by
  have h := sizeL_end a a.length
  rcases h with h | h
  · left
    apply List.eq_nil_of_length_eq_zero
    rw [trimL_len, h]
  · right
    rw [trimL_len, getD_trim]
    exact h
theorem ext_co {a b : List Int} (ha : normal a) (hb : normal b) (h : ∀ i, a.getD i 0 = b.getD i 0) : a = b := by
  have low : ∀ {a b : List Int}, normal b → (∀ i, a.getD i 0 = b.getD i 0) → b.length ≤ a.length := by
    intro a b hb h
    rcases hb with rfl | hb
    · exact Nat.zero_le _
    · by_cases z : b.length ≤ a.length
      · exact z
      · exfalso
        apply hb
        rw [← h]
        exact getD_ge (by omega)
  have l1 := low hb h
  have l2 := low ha fun i => (h i).symm
  refine List.ext_getElem (by omega) fun i h1 h2 => ?_
  have := h i
  rw [List.getD_eq_getElem?_getD, List.getD_eq_getElem?_getD, List.getElem?_eq_getElem h1, List.getElem?_eq_getElem h2] at this
  exact this
theorem trim_of_normal {a : List Int} (h : normal a) : trimL a = a := ext_co (trimL_normal a) h (getD_trim a)
theorem nil_normal : normal [] := .inl rfl
theorem bd_mono {N M : Nat} {a : List Int} (h : bd N a) (l : N ≤ M) : bd M a := fun c hc => Nat.lt_of_lt_of_le (h c hc) (Nat.pow_le_pow_right (by decide) l)
theorem bd_getD {N : Nat} {a : List Int} (h : bd N a) (i : Nat) : (a.getD i 0).natAbs < 2 ^ N := by
  by_cases e : i < a.length
  · rw [List.getD_eq_getElem?_getD, List.getElem?_eq_getElem e]
    exact h _ (List.getElem_mem e)
  · rw [getD_ge (by omega)]
    exact Nat.two_pow_pos N
theorem bd_of {N : Nat} {a : List Int} (h : ∀ i, (a.getD i 0).natAbs < 2 ^ N) : bd N a := by
  intro c hc
  obtain ⟨i, hi, rfl⟩ := List.getElem_of_mem hc
  have := h i
  rw [List.getD_eq_getElem?_getD, List.getElem?_eq_getElem hi] at this
  exact this
theorem bd_trim {N : Nat} {a : List Int} (h : bd N a) : bd N (trimL a) := bd_of fun i => by rw [getD_trim]; exact bd_getD h i
theorem bd_take {N k : Nat} {a : List Int} (h : bd N a) : bd N (a.take k) := fun c hc => h c (List.mem_of_mem_take hc)
theorem getD_add : ∀ (a b : List Int) (i : Nat), (addL a b).getD i 0 = a.getD i 0 + b.getD i 0
  | [], b, i => by rw [addL, getD_ge (a := []) (Nat.zero_le _), Int.zero_add]
  | x :: a, [], i => by rw [addL, getD_ge (a := []) (Nat.zero_le _), Int.add_zero]; intro h; cases h
  | x :: a, y :: b, 0 => by rw [addL]; rfl
  | x :: a, y :: b, i + 1 => by
    rw [addL, List.getD_cons_succ, List.getD_cons_succ, List.getD_cons_succ]
    exact getD_add a b i
theorem addL_len : ∀ (a b : List Int), (addL a b).length = max a.length b.length
  | [], b => by rw [addL, List.length_nil]; omega
  | x :: a, [] => by rw [addL, List.length_nil]; omega; intro h; cases h
  | x :: a, y :: b => by
    rw [addL, List.length_cons, addL_len a b, List.length_cons, List.length_cons]; omega
theorem bd_add {N : Nat} {a b : List Int} (ha : bd N a) (hb : bd N b) : bd (N + 1) (addL a b) := bd_of fun i => by
  rw [getD_add]
  have h1 := bd_getD ha i
  have h2 := bd_getD hb i
  rw [Nat.pow_succ]
  omega
theorem getD_map {f : Int → Int} (hf : f 0 = 0) (a : List Int) (i : Nat) : (a.map f).getD i 0 = f (a.getD i 0) := by
  rw [List.getD_eq_getElem?_getD, List.getD_eq_getElem?_getD, List.getElem?_map]
  cases a[i]? with
  | none => exact hf.symm
  | some x => rfl
theorem getD_scale (a : List Int) (f : Int) (i : Nat) : (scaleL a f).getD i 0 = a.getD i 0 * f := by
  unfold scaleL
  rw [getD_trim, getD_map (Int.zero_mul f)]
theorem getD_plus (a b : List Int) (i : Nat) : (plusL a b).getD i 0 = a.getD i 0 + b.getD i 0 := by
  unfold plusL
  rw [getD_trim, getD_add]
theorem plusL_len (a b : List Int) : (plusL a b).length ≤ max a.length b.length := by
  have := trimL_le (addL a b)
  rw [addL_len] at this
  exact this
theorem scaleL_len (a : List Int) (f : Int) : (scaleL a f).length ≤ a.length := by
  have := trimL_le (a.map fun x => x * f)
  rw [List.length_map] at this
  exact this
theorem natAbs_mul_lt {x y : Int} {N M : Nat} (h1 : x.natAbs < 2 ^ N) (h2 : y.natAbs < 2 ^ M) : (x * y).natAbs < 2 ^ (N + M) := by
  rw [Int.natAbs_mul, Nat.pow_add]
  have p1 := Nat.two_pow_pos M
  calc x.natAbs * y.natAbs ≤ x.natAbs * 2 ^ M := Nat.mul_le_mul_left _ (Nat.le_of_lt h2)
    _ < 2 ^ N * 2 ^ M := Nat.mul_lt_mul_of_pos_right h1 p1
theorem bd_scale {N M : Nat} {a : List Int} {f : Int} (h : bd N a) (hf : f.natAbs < 2 ^ M) : bd (N + M) (scaleL a f) := bd_of fun i => by
  rw [getD_scale]
  exact natAbs_mul_lt (bd_getD h i) hf
theorem bd_plus {N : Nat} {a b : List Int} (ha : bd N a) (hb : bd N b) : bd (N + 1) (plusL a b) := bd_trim (bd_add ha hb)
theorem log_lt {x : Int} {N : Nat} (h : x.natAbs < 2 ^ N) : x.natAbs.log2 ≤ N := by
  by_cases z : x.natAbs = 0
  · rw [z]; exact Nat.zero_le _
  · exact Nat.le_of_lt ((Nat.log2_lt z).mpr h)
/-! ### sums over ranges, products -/
def S (f : Nat → Int) (a n : Nat) : Int := ((List.range' a n).map f).sum
theorem S_zero_len (f : Nat → Int) (a : Nat) : S f a 0 = 0 := rfl
theorem S_succ (f : Nat → Int) (a n : Nat) : S f a (n + 1) = f a + S f (a + 1) n := by
  unfold S
  rw [List.range'_succ, List.map_cons, List.sum_cons]
theorem S_split (f : Nat → Int) : ∀ (m a n : Nat), S f a (m + n) = S f a m + S f (a + m) n
  | 0, a, n => by rw [Nat.zero_add, S_zero_len, Int.zero_add, Nat.add_zero]
  | m + 1, a, n => by
    rw [show m + 1 + n = (m + n) + 1 by omega, S_succ, S_split f m, S_succ, show a + 1 + m = a + (m + 1) by omega]
    omega
theorem S_none {f : Nat → Int} : ∀ (n a : Nat), (∀ i, a ≤ i → i < a + n → f i = 0) → S f a n = 0
  | 0, a, _ => rfl
  | n + 1, a, h => by
    rw [S_succ, h a (Nat.le_refl _) (by omega), S_none n (a + 1) fun i h1 h2 => h i (by omega) (by omega)]; rfl
theorem S_congr {f g : Nat → Int} : ∀ (n a : Nat), (∀ i, a ≤ i → i < a + n → f i = g i) → S f a n = S g a n
  | 0, a, _ => rfl
  | n + 1, a, h => by
    rw [S_succ, S_succ, h a (Nat.le_refl _) (by omega), S_congr n (a + 1) fun i h1 h2 => h i (by omega) (by omega)]
theorem S_shift (f : Nat → Int) : ∀ (n a : Nat), S f (a + 1) n = S (fun i => f (i + 1)) a n
  | 0, a => rfl
  | n + 1, a => by rw [S_succ, S_succ, S_shift f n (a + 1)]
theorem S_part {f : Nat → Int} {lo hi n : Nat} (hn : hi ≤ n) (h : ∀ i, i < n → i < lo ∨ hi ≤ i → f i = 0) : S f 0 n = S f lo (hi - lo) := by
  by_cases z : lo ≤ hi
  · have e : n = lo + ((hi - lo) + (n - hi)) := by omega
    have s : S f 0 n = S f 0 lo + (S f (0 + lo) (hi - lo) + S f (0 + lo + (hi - lo)) (n - hi)) := by
      conv => lhs; rw [e]
      rw [S_split, S_split]
    rw [s, S_none lo 0 fun i h1 h2 => h i (by omega) (by omega), S_none (n - hi) _ fun i h1 h2 => h i (by omega) (by omega), Nat.zero_add]
    omega
  · rw [show hi - lo = 0 by omega, S_zero_len]
    exact S_none n 0 fun i h1 h2 => h i (by omega) (by omega)
def conv (a b : List Int) (p : Nat) : Int := S (fun i => a.getD i 0 * b.getD (p - i) 0) 0 (p + 1)
theorem atP_conv (a b : List Int) (p : Nat) : atP a b p = conv a b p := by
  have e : atP a b p = S (fun i => a.getD i 0 * b.getD (p - i) 0) (p + 1 - b.length) ((if p < a.length then p + 1 else a.length) - (p + 1 - b.length)) := rfl
  rw [e]
  refine (S_part (by split <;> omega) fun i h1 h2 => ?_).symm
  rcases h2 with h2 | h2
  · have z : b.getD (p - i) 0 = 0 := getD_ge (by omega)
    show a.getD i 0 * b.getD (p - i) 0 = 0
    rw [z, Int.mul_zero]
  · have z : a.getD i 0 = 0 := getD_ge (by split at h2 <;> omega)
    show a.getD i 0 * b.getD (p - i) 0 = 0
    rw [z, Int.zero_mul]
theorem conv_far {a b : List Int} {p : Nat} (h : a.length + b.length ≤ p + 1) : conv a b p = 0 := by
  refine S_none _ _ fun i h1 h2 => ?_
  by_cases e : i < a.length
  · have z : b.getD (p - i) 0 = 0 := getD_ge (by omega)
    show a.getD i 0 * b.getD (p - i) 0 = 0
    rw [z, Int.mul_zero]
  · have z : a.getD i 0 = 0 := getD_ge (by omega)
    show a.getD i 0 * b.getD (p - i) 0 = 0
    rw [z, Int.zero_mul]
theorem conv_congr {a b a' b' : List Int} {p : Nat} (ha : ∀ i, i ≤ p → a.getD i 0 = a'.getD i 0) (hb : ∀ i, i ≤ p → b.getD i 0 = b'.getD i 0) : conv a b p = conv a' b' p := by
  refine S_congr _ _ fun i h1 h2 => ?_
  show a.getD i 0 * b.getD (p - i) 0 = a'.getD i 0 * b'.getD (p - i) 0
  rw [ha i (by omega), hb (p - i) (by omega)]
theorem conv_nil (b : List Int) (p : Nat) : conv [] b p = 0 := S_none _ _ fun i _ _ => by
  show ([] : List Int).getD i 0 * b.getD (p - i) 0 = 0
  rw [getD_ge (Nat.zero_le _), Int.zero_mul]
theorem conv_nil' (a : List Int) (p : Nat) : conv a [] p = 0 := S_none _ _ fun i _ _ => by
  show a.getD i 0 * ([] : List Int).getD (p - i) 0 = 0
  rw [getD_ge (a := []) (Nat.zero_le _), Int.mul_zero]
theorem conv_cons_zero (x : Int) (a b : List Int) : conv (x :: a) b 0 = x * b.getD 0 0 := by
  unfold conv
  rw [S_succ, S_zero_len, Int.add_zero]; rfl
theorem conv_cons_succ (x : Int) (a b : List Int) (p : Nat) : conv (x :: a) b (p + 1) = x * b.getD (p + 1) 0 + conv a b p := by
  unfold conv
  rw [S_succ, S_shift]
  rw [S_congr (g := fun i => a.getD i 0 * b.getD (p - i) 0) (p + 1) 0 fun i h1 h2 => by
    show (x :: a).getD (i + 1) 0 * b.getD (p + 1 - (i + 1)) 0 = _
    rw [List.getD_cons_succ, show p + 1 - (i + 1) = p - i by omega]]
  rfl
theorem getD_range (f : Nat → Int) (n p : Nat) : ((List.range' 0 n).map f).getD p 0 = if p < n then f p else 0 := by
  rw [List.getD_eq_getElem?_getD, List.getElem?_map]
  by_cases h : p < n
  · rw [List.getElem?_range' h, if_pos h, Nat.one_mul, Nat.zero_add]; rfl
  · rw [if_neg h, List.getElem?_eq_none (by rw [List.length_range']; omega)]; rfl
theorem getD_mul (a b : List Int) (p : Nat) : (mulL a b).getD p 0 = conv a b p := by
  unfold mulL
  split
  · rename_i h
    rw [getD_ge (Nat.zero_le _)]
    rcases h with h | h
    · rw [List.eq_nil_of_length_eq_zero h, conv_nil]
    · rw [List.eq_nil_of_length_eq_zero h, conv_nil']
  · rw [getD_trim, getD_range]
    split
    · exact atP_conv a b p
    · exact (conv_far (by omega)).symm
theorem mulL_normal (a b : List Int) : normal (mulL a b) := by
  unfold mulL
  split
  · exact nil_normal
  · exact trimL_normal _
theorem mulL_len (a b : List Int) : (mulL a b).length ≤ a.length + b.length - 1 := by
  unfold mulL
  split
  · exact Nat.zero_le _
  · have := trimL_le ((List.range' 0 (a.length + b.length - 1)).map (atP a b))
    rw [List.length_map, List.length_range'] at this
    exact this
theorem S_abs {f : Nat → Int} {B : Nat} : ∀ (n a : Nat), (∀ i, (f i).natAbs ≤ B) → (S f a n).natAbs ≤ n * B
  | 0, a, _ => by rw [S_zero_len]; exact Nat.zero_le _
  | n + 1, a, h => by
    rw [S_succ, Nat.succ_mul]
    have h1 := S_abs n (a + 1) h
    have h2 := h a
    generalize n * B = z at *
    omega
theorem bd_mul {N M : Nat} {a b : List Int} (ha : bd N a) (hb : bd M b) (hl : a.length + b.length ≤ 4000) : bd (N + M + 12) (mulL a b) := bd_of fun p => by
  rw [getD_mul]
  by_cases e : p + 1 ≤ 4000
  · have h := S_abs (f := fun i => a.getD i 0 * b.getD (p - i) 0) (B := 2 ^ (N + M)) (p + 1) 0 fun i => Nat.le_of_lt (natAbs_mul_lt (bd_getD ha i) (bd_getD hb (p - i)))
    have p1 := Nat.two_pow_pos (N + M)
    rw [Nat.pow_add]
    have h2 : (p + 1) * 2 ^ (N + M) ≤ 4000 * 2 ^ (N + M) := Nat.mul_le_mul_right _ e
    have h : (conv a b p).natAbs ≤ (p + 1) * 2 ^ (N + M) := h
    generalize 2 ^ (N + M) = z at *
    generalize (p + 1) * z = y at *
    omega
  · rw [conv_far (by omega)]
    exact Nat.two_pow_pos _
end L54
namespace L54
open PySem L2 DL
/-! ### a row at two numbers: x0 v^n + x1 u v^(n-1) + .. -/
def hom (u v : Int) : List Int → Nat → Int
  | [], _ => 0
  | x :: a, n => x * v ^ n + u * hom u v a (n - 1)
theorem hom_zero {u v : Int} : ∀ (a : List Int) (n : Nat), (∀ i, a.getD i 0 = 0) → hom u v a n = 0
  | [], _, _ => rfl
  | x :: a, n, h => by
    have h0 : x = 0 := h 0
    have ih := hom_zero (u := u) (v := v) a (n - 1) fun i => by have := h (i + 1); rw [List.getD_cons_succ] at this; exact this
    rw [hom, ih, h0]; simp
theorem hom_co {u v : Int} : ∀ (a b : List Int) (n : Nat), (∀ i, a.getD i 0 = b.getD i 0) → hom u v a n = hom u v b n
  | [], b, n, h => by
    rw [hom_zero b n fun i => (h i).symm]; rfl
  | x :: a, [], n, h => by
    rw [hom_zero (x :: a) n fun i => h i]; rfl
  | x :: a, y :: b, n, h => by
    have h0 : x = y := h 0
    have ih := hom_co (u := u) (v := v) a b (n - 1) fun i => by have := h (i + 1); rw [List.getD_cons_succ, List.getD_cons_succ] at this; exact this
    rw [hom, hom, ih, h0]
theorem hom_add {u v : Int} : ∀ (a b : List Int) (n : Nat), hom u v (addL a b) n = hom u v a n + hom u v b n
  | [], b, n => by rw [addL, hom, Int.zero_add]
  | x :: a, [], n => by rw [addL, hom, hom, Int.add_zero]; intro h; cases h
  | x :: a, y :: b, n => by
    rw [addL, hom, hom, hom, hom_add a b]
    grind
theorem hom_map {u v : Int} (f : Int) : ∀ (a : List Int) (n : Nat), hom u v (a.map fun x => x * f) n = hom u v a n * f
  | [], n => by rw [List.map_nil, hom, Int.zero_mul]
  | x :: a, n => by
    rw [List.map_cons, hom, hom, hom_map f a]
    grind
theorem hom_trim {u v : Int} (a : List Int) (n : Nat) : hom u v (trimL a) n = hom u v a n := hom_co _ _ _ (getD_trim a)
theorem hom_plus {u v : Int} (a b : List Int) (n : Nat) : hom u v (plusL a b) n = hom u v a n + hom u v b n := by
  unfold plusL
  rw [hom_trim, hom_add]
theorem hom_scale {u v : Int} (a : List Int) (f : Int) (n : Nat) : hom u v (scaleL a f) n = hom u v a n * f := by
  unfold scaleL
  rw [hom_trim, hom_map]
theorem hom_up {u v : Int} (k : Nat) : ∀ (b : List Int) (m : Nat), b.length ≤ m + 1 → hom u v b (m + k) = v ^ k * hom u v b m
  | [], m, _ => by rw [hom, hom, Int.mul_zero]
  | y :: b, 0, h => by
    rw [List.length_cons] at h
    have : b = [] := List.eq_nil_of_length_eq_zero (by omega)
    subst this
    rw [hom, hom, hom, hom, Nat.zero_add]
    grind
  | y :: b, m + 1, h => by
    rw [List.length_cons] at h
    have ih := hom_up (u := u) (v := v) k b m (by omega)
    rw [hom, hom, show m + 1 + k - 1 = m + k by omega, ih, Nat.add_sub_cancel, Int.pow_add]
    grind
def mulC : List Int → List Int → List Int
  | [], _ => []
  | x :: a, b => addL (b.map fun y => x * y) (0 :: mulC a b)
theorem getD_mulC : ∀ (a b : List Int) (p : Nat), (mulC a b).getD p 0 = conv a b p
  | [], b, p => by rw [mulC, conv_nil, getD_ge (a := []) (Nat.zero_le _)]
  | x :: a, b, 0 => by
    rw [mulC, getD_add, getD_map (Int.mul_zero x), conv_cons_zero]
    show x * b.getD 0 0 + 0 = _
    rw [Int.add_zero]
  | x :: a, b, p + 1 => by
    rw [mulC, getD_add, getD_map (Int.mul_zero x), List.getD_cons_succ, getD_mulC a b p, conv_cons_succ]
theorem hom_mapl {u v : Int} (f : Int) (a : List Int) (n : Nat) : hom u v (a.map fun x => f * x) n = f * hom u v a n := by
  have e : (a.map fun x => f * x) = a.map fun x => x * f := by
    apply List.map_congr_left
    intro x _
    exact Int.mul_comm _ _
  rw [e, hom_map, Int.mul_comm]
theorem hom_mulC {u v : Int} : ∀ (a b : List Int) (n m : Nat), a.length ≤ n + 1 → b.length ≤ m + 1 → hom u v (mulC a b) (n + m) = hom u v a n * hom u v b m
  | [], b, n, m, _, _ => by rw [mulC, hom, hom, Int.zero_mul]
  | x :: a, b, 0, m, h1, h2 => by
    rw [List.length_cons] at h1
    have : a = [] := List.eq_nil_of_length_eq_zero (by omega)
    subst this
    rw [mulC, hom_add, hom_mapl, mulC, hom, hom, hom, hom, Nat.zero_add]
    grind
  | x :: a, b, n + 1, m, h1, h2 => by
    rw [List.length_cons] at h1
    have ih := hom_mulC (u := u) (v := v) a b n m (by omega) h2
    rw [mulC, hom_add, hom_mapl, hom, hom, show n + 1 + m - 1 = n + m by omega, ih, show n + 1 + m = m + (n + 1) by omega, hom_up (n + 1) b m h2, Nat.add_sub_cancel]
    grind
theorem hom_mul {u v : Int} (a b : List Int) (n m : Nat) (h1 : a.length ≤ n + 1) (h2 : b.length ≤ m + 1) : hom u v (mulL a b) (n + m) = hom u v a n * hom u v b m := by
  rw [hom_co (mulL a b) (mulC a b) (n + m) fun i => by rw [getD_mul, getD_mulC], hom_mulC a b n m h1 h2]
/-- at one number -/
def ev (x : Int) : List Int → Int
  | [] => 0
  | c :: a => c + x * ev x a
theorem hom_one (x : Int) : ∀ (a : List Int) (n : Nat), hom x 1 a n = ev x a
  | [], _ => rfl
  | c :: a, n => by rw [hom, ev, hom_one x a, Int.one_pow, Int.mul_one]
theorem ev_mul (x : Int) (a b : List Int) : ev x (mulL a b) = ev x a * ev x b := by
  rw [← hom_one x _ (a.length + b.length), hom_mul a b _ _ (Nat.le_succ _) (Nat.le_succ _), hom_one, hom_one]
theorem ev_plus (x : Int) (a b : List Int) : ev x (plusL a b) = ev x a + ev x b := by
  rw [← hom_one x _ 0, hom_plus, hom_one, hom_one]
theorem ev_scale (x : Int) (a : List Int) (f : Int) : ev x (scaleL a f) = ev x a * f := by
  rw [← hom_one x _ 0, hom_scale, hom_one]
theorem ev_trim (x : Int) (a : List Int) : ev x (trimL a) = ev x a := by
  rw [← hom_one x _ 0, hom_trim, hom_one]
theorem only_zero {c : Int} {f : Int → Int} (h : ∀ x : Int, 1 ≤ x → c + x * f x = 0) : c = 0 := by
  by_cases z : c = 0
  · exact z
  · exfalso
    have h1 := h ((c.natAbs : Int) + 1) (by omega)
    have d : ((c.natAbs : Int) + 1) ∣ c := ⟨-f ((c.natAbs : Int) + 1), by rw [Int.mul_neg]; omega⟩
    have d2 := Int.natAbs_dvd_natAbs.mpr d
    have le := Nat.le_of_dvd (by omega) d2
    omega
theorem ev_zero : ∀ (a : List Int), (∀ x : Int, 1 ≤ x → ev x a = 0) → ∀ i, a.getD i 0 = 0
  | [], _, i => getD_ge (Nat.zero_le _)
  | c :: a, h, i => by
    have c0 : c = 0 := only_zero (f := fun x => ev x a) fun x hx => h x hx
    subst c0
    cases i with
    | zero => rfl
    | succ i =>
      rw [List.getD_cons_succ]
      refine ev_zero a (fun x hx => ?_) i
      have := h x hx
      rw [ev, Int.zero_add] at this
      rcases Int.mul_eq_zero.mp this with h | h
      · omega
      · exact h
theorem ev_inj {a b : List Int} (ha : normal a) (hb : normal b) (h : ∀ x : Int, 1 ≤ x → ev x a = ev x b) : a = b := by
  refine ext_co ha hb fun i => ?_
  have z := ev_zero (plusL a (scaleL b (-1))) (fun x hx => by rw [ev_plus, ev_scale, h x hx]; omega) i
  rw [getD_plus, getD_scale] at z
  omega
end L54
namespace L54
open PySem L2 DL
theorem plusL_normal (a b : List Int) : normal (plusL a b) := trimL_normal _
theorem scaleL_normal (a : List Int) (f : Int) : normal (scaleL a f) := trimL_normal _
theorem ev_set (x : Int) : ∀ (f : List Int) (k : Nat) (d : Int), k < f.length → ev x (f.set k (f.getD k 0 + d)) = ev x f + d * x ^ k
  | [], k, d, h => by cases h
  | c :: f, 0, d, h => by
    show (c + d) + x * ev x f = (c + x * ev x f) + d * x ^ 0
    grind
  | c :: f, k + 1, d, h => by
    have ih := ev_set x f k d (by rw [List.length_cons] at h; omega)
    show c + x * ev x (f.set k (f.getD k 0 + d)) = (c + x * ev x f) + d * x ^ (k + 1)
    rw [ih, Int.pow_succ]
    grind
abbrev in1 (k : Nat) (y : Int) (f : List Int) (q : Int × Nat) : List Int := f.set (k + q.2) (f.getD (k + q.2) 0 + y * q.1)
theorem ev_in (x : Int) (k : Nat) (y : Int) : ∀ (b : List Int) (s : Nat) (f : List Int), k + s + b.length ≤ f.length →
    ((b.zipIdx s).foldl (in1 k y) f).length = f.length ∧ ev x ((b.zipIdx s).foldl (in1 k y) f) = ev x f + y * (x ^ (k + s) * ev x b)
  | [], s, f, h => ⟨rfl, by rw [ev, Int.mul_zero, Int.mul_zero, Int.add_zero]; rfl⟩
  | c :: b, s, f, h => by
    rw [List.length_cons] at h
    have ih := ev_in x k y b (s + 1) (in1 k y f (c, s)) (by rw [List.length_set]; omega)
    rw [List.length_set] at ih
    rw [List.zipIdx_cons, List.foldl_cons]
    refine ⟨ih.1, ih.2.trans ?_⟩
    rw [in1, ev_set x f (k + s) (y * c) (by omega), ev, show k + (s + 1) = (k + s) + 1 by omega, Int.pow_succ]
    grind
theorem ev_out (x : Int) (b : List Int) : ∀ (a : List Int) (k : Nat) (f : List Int), k + a.length + b.length ≤ f.length →
    ((a.zipIdx k).foldl (fun f p => (b.zipIdx 0).foldl (in1 p.2 p.1) f) f).length = f.length ∧ ev x ((a.zipIdx k).foldl (fun f p => (b.zipIdx 0).foldl (in1 p.2 p.1) f) f) = ev x f + x ^ k * ev x a * ev x b
  | [], k, f, h => ⟨rfl, by rw [ev, Int.mul_zero, Int.zero_mul, Int.add_zero]; rfl⟩
  | c :: a, k, f, h => by
    rw [List.length_cons] at h
    have h1 := ev_in x k c b 0 f (by omega)
    have ih := ev_out x b a (k + 1) ((b.zipIdx 0).foldl (in1 k c) f) (by rw [h1.1]; omega)
    rw [h1.1] at ih
    rw [List.zipIdx_cons, List.foldl_cons]
    refine ⟨ih.1, ih.2.trans ?_⟩
    rw [h1.2, ev, Int.pow_succ, Nat.add_zero]
    grind
theorem ev_zeros (x : Int) : ∀ n, ev x (List.replicate n 0) = 0
  | 0 => rfl
  | n + 1 => by rw [List.replicate_succ, ev, ev_zeros x n]; simp
theorem byL_mul (a b : List Int) : byL a b = mulL a b := by
  refine ev_inj (trimL_normal _) (mulL_normal a b) fun x _ => ?_
  unfold byL
  have := ev_out x b a 0 (List.replicate (a.length + b.length) 0) (by rw [List.length_replicate]; omega)
  rw [ev_trim, this.2, ev_zeros, ev_mul]
  simp
theorem callL_ev (a : List Int) (x : Int) : callL a x = ev x a := by
  unfold callL
  rw [List.foldl_reverse]
  induction a with
  | nil => rfl
  | cons c a ih => rw [List.foldr_cons, ih, ev]; grind
theorem ev_shift (x : Int) (a : List Int) (p : Nat) : ev x (shiftL a p) = x ^ p * ev x a := by
  unfold shiftL
  split
  · induction p with
    | zero => simp
    | succ p ih => rw [List.replicate_succ, List.cons_append, ev, ih, Int.pow_succ]; grind
  · rename_i h
    have : a = [] := List.eq_nil_of_length_eq_zero (by omega)
    subst this
    rw [ev, Int.mul_zero]
theorem bd_shift {N : Nat} {a : List Int} (h : bd N a) (p : Nat) : bd N (shiftL a p) := by
  unfold shiftL
  split
  · intro c hc
    rcases List.mem_append.mp hc with hc | hc
    · rw [List.eq_of_mem_replicate hc]
      exact Nat.two_pow_pos _
    · exact h c hc
  · intro c hc; cases hc
theorem shift_len (a : List Int) (p : Nat) : (shiftL a p).length ≤ a.length + p := by
  unfold shiftL
  split
  · rw [List.length_append, List.length_replicate]; omega
  · exact Nat.zero_le _
theorem div_mul {a : List Int} {k : Int} (hk : k ≠ 0) : (a.map fun x => x * k).map (fun x => x / k) = a := by
  rw [List.map_map]
  conv => rhs; rw [← List.map_id a]
  apply List.map_congr_left
  intro x _
  exact Int.mul_ediv_cancel x hk
theorem getD_cut (a : List Int) (k i : Nat) : (trimL (a.take k)).getD i 0 = if i < k then a.getD i 0 else 0 := by
  rw [getD_trim, getD_take]
end L54
namespace L54
open PySem PySem.Spec PyProof.Rows L2 DL
section
variable {S : List Sl} {i j : Int} {k ka kb : KE} {ds : List D}
theorem gv_mul (ha : Gv ka S (.int i)) (hb : Gv kb S (.int j)) (h : CMul i j ∨ CMulW i j) : Gv (kBin dMulY ka kb) S (.int (i * j)) := gv_bin ha hb fun Q q => ⟨h, q⟩
theorem gv_int (h : Gv k S (.int i)) : Gv (kCall bIntX (kCons k kNil)) S (.int i) := fun n Q q => h n _ q
theorem gv_intB {c : Bool} (h : Gv k S (.bl c)) : Gv (kCall bIntX (kCons k kNil)) S (.int (if c then 1 else 0)) := fun n Q q => h n _ q
theorem gv_tmul {j : Nat} (h : Gv ka S (.tup ds)) (hb : Gv kb S (.int (j : Nat))) (h0 : ds ≠ []) (h1 : ds.length ≤ 1000) (h2 : j * ds.length ≤ 1000000) : Gv (kBin dMulY ka kb) S (.tup (List.replicate j ds).flatten) := gv_bin h hb fun Q q => by
  show (if 2 ≤ (j : Int) ∧ ds ≠ [] then ((j : Int).toNat * ds.length ≤ 1000000 ∧ Q (.tup (List.replicate (j : Int).toNat ds).flatten)) else dMul (.tup ds) (.int j) Q)
  rw [Int.toNat_natCast]
  by_cases z : 2 ≤ j
  · rw [if_pos ⟨by omega, h0⟩]; exact ⟨h2, q⟩
  · rw [if_neg (by omega)]
    rcases (show j = 0 ∨ j = 1 by omega) with rfl | rfl
    · exact ⟨.inr (.inr ⟨rfl, h0⟩), q⟩
    · exact ⟨.inl rfl, q⟩
theorem gv_lmul {j : Nat} (h : Gv ka S (.lst ds)) (hb : Gv kb S (.int (j : Nat))) (h1 : ds.length * j ≤ 1000000) (h2 : j ≤ 1000000) : Gv (kBin dMulY ka kb) S (.lst (List.replicate j ds).flatten) := gv_bin h hb fun Q q => ⟨by omega, by omega, by rw [Int.toNat_natCast]; exact h1, by rw [Int.toNat_natCast]; exact q⟩
end
abbrev E0 (Q : D → Nat → Prop) : DEnds := ⟨fun _ n' => Q .non n', Q, fun _ _ => False, fun _ _ => False⟩
/-- a def that only answers -/
theorem gv_isint {S : List Sl} {ka : KE} {Z : Cl} {i : Int} (h : Gv ka S (.int i)) : Gv (kFn (c_is_integer Z) (kCons ka kNil)) S (.bl true) := gv_fn (gv_cons h gv_nil) fun n Q q => ⟨i, rfl, q⟩
theorem m_is_integer (Z : Cl) : ∀ ds n Q, c_is_integer Z ds n Q → kb_is_integer Z ⟨fun _ n' => Q .non n', Q, fun _ _ => False, fun _ _ => False⟩ (startD ["value"] ds) n := by
  rintro ds n Q ⟨i, rfl, q⟩
  simp (maxSteps := 2000000) only [kb_is_integer, kSeq, kAsg, kRet, kIfS, kDrop, kNext, kNever, kOwnS, kApp, kSub, kPar, kAndV_e, kOrV_e, kNotV, kAndT, kOrT, kNotT, kTest_e, isB_bl, kBin, kUn, kChain_e, condV, kCall, kCons, kNil, kTup, kLst, kLstO, kOut, kCompO, kIter, kEnum, kZip, kRng1, DL.kV, kB, kC, kIf, kStar, kSl, kPart, kNoPart, kFn, kFnK, kIsi2, kFor, gN, gTupD, gsCons, gsNil, kYes, dNeg, dAdd, dSub, dMod, dDiv, dMul, dPow, dCmp, dInt, dEq, dNe, dIn, dNotIn, dIx, dIsN, bLen, bInt, bAbs, bTuple, bList, bAny, bAll, bIsi, startD, wipeD, List.map_cons, List.map_nil, List.cons_append, List.nil_append, List.getElem?_cons_zero, List.getElem?_cons_succ, List.set_cons_zero, List.set_cons_succ, List.length_cons, List.length_nil, List.replicate_succ, List.replicate_zero, List.all_cons, List.all_nil, Bool.and_true, Bool.true_and, tyn_int, tyn_bl, tyn_non, tyn_tup, tyn_lst, kit_ii, kit_ib, kit_tt, kit_ll, kit_lt, kit_tl, flat_int, v_int, pl_non, pl_bl, pl_int, pl_tup, pl_lst, eqb_int, eqb_nil, eqb_non, ne_eq, not_false_eq_true, true_and, and_true, if_true, if_false, Bool.false_eq_true, reduceCtorEq, String.reduceEq, Bool.not_true, Bool.not_false, Bool.or_false, Bool.false_or, Bool.or_true, Bool.true_or, Nat.zero_add, Nat.reduceAdd, Nat.reduceLeDiff, Nat.reduceSub, Nat.reduceEqDiff, DL.okW, kAug, dMulX, dDivX, dShl, dShlX, kFld, kFldO, kSetF, kBinO, kUnO, kEqO, kIsiC, kStat, kMeth, kCo, kIxO, kRev, kRngD, kRepO, kRng2, kStar1, ownSel, isSel, yOk, eqY, putD, startI, endI, bMax, bSum, kPar3, kRetN]
  exact q
theorem m_need_number (Z : Cl) : ∀ ds n Q, c_need_number Z ds n Q → kb_need_number Z ⟨fun _ n' => Q .non n', Q, fun _ _ => False, fun _ _ => False⟩ (startD ["value", "least"] ds) n := by
  rintro ds n Q ⟨i, j, rfl, h, q⟩
  unfold kb_need_number
  exact ks_if0 (S := [.val (.int i), .val (.int j)]) (gvt_orF (gvt_not (gvt_of (gv_isint (gv_v rfl)))) ((gvt_of (gv_lt (gv_b rfl) (gv_b rfl))).cast (decide_eq_false (by omega)))) (by exact q)
abbrev kTrim : KT := kAndT (kTest (kBin dGt (kB 1) (kC (.int 0)))) (kTest (kBin dEq (kBin dIx (kB 0) (kBin dSub (kB 1) (kC (.int 1)))) (kC (.int 0))))
theorem trim_test0 (d : D) : GvT kTrim [.val d, .val (.int 0)] false := gvt_andF (gvt_of (gv_gt (i := 0) (gv_b rfl) gv_c))
theorem trim_test1 (a : List Int) (d : D) (hd : seqIs a d) (m : Nat) (h : m < a.length) : GvT kTrim [.val d, .val (.int ((m + 1 : Nat) : Int))] (a.getD m 0 == 0) := by
  have e : ((m + 1 : Nat) : Int) - 1 = (m : Nat) := by omega
  refine gvt_andT ((gvt_of (gv_gt (gv_b rfl) gv_c)).cast (decide_eq_true (by omega))) (gvt_of ?_)
  rcases hd with rfl | rfl
  · exact gv_eqi (gv_ixI (gv_b rfl) ((gv_sub (gv_b rfl) gv_c).cast (by rw [e])) h) gv_c
  · exact gv_eqi (gv_ixIL (gv_b rfl) ((gv_sub (gv_b rfl) gv_c).cast (by rw [e])) h) gv_c
theorem trim_loop {kb : KS} (E : DEnds) (a : List Int) (d : D) (hd : seqIs a d) (hb : ∀ (E : DEnds) (x : Int) (n : Nat), E.nx [.val d, .val (.int (x - 1))] n → kb E [.val d, .val (.int x)] n) (n : Nat) : ∀ m, m ≤ a.length → E.nx [.val d, .val (.int (sizeL a m : Nat))] n →
    kWhiles kTrim kb E (m + 1) [.val d, .val (.int (m : Nat))] n
  | 0, h, q => trim_test0 d n _ (by rw [if_neg (by decide)]; exact q)
  | m + 1, h, q => by
    have ih := trim_loop E a d hd hb n m (by omega)
    refine trim_test1 a d hd m (by omega) n _ ?_
    unfold sizeL at q
    by_cases z : a.getD m 0 = 0
    · rw [if_pos z] at q
      rw [if_pos (by simpa using z)]
      refine hb _ _ n ?_
      rw [show ((m + 1 : Nat) : Int) - 1 = (m : Nat) by omega]
      exact ih (by exact q)
    · rw [if_neg z] at q
      rw [if_neg (by simpa using z)]
      exact q
theorem gv_lenS {S : List Sl} {k : KE} {a : List Int} {d : D} (hd : seqIs a d) (h : Gv k S d) : Gv (kCall bLen (kCons k kNil)) S (.int a.length) := by
  rcases hd with rfl | rfl
  · exact gv_lenI h
  · exact gv_lenIL h
theorem gv_cutS {S : List Sl} {k kb : KE} {a : List Int} {d : D} {p : Nat} (hd : seqIs a d) (h : Gv k S d) (hb : Gv kb S (.int (p : Nat))) : Gv (kCall bTuple (kCons (kSl k kNoPart (kPart kb)) kNil)) S (.tup (iD (a.take p))) := by
  rcases hd with rfl | rfl
  · exact gv_tupleT (gv_headT h hb)
  · exact gv_tupleL (gv_headL h hb)
theorem m_trimmed (Z : Cl) : ∀ ds n Q, c_trimmed Z ds n Q → kb_trimmed Z ⟨fun _ n' => Q .non n', Q, fun _ _ => False, fun _ _ => False⟩ (startD ["numbers", "size"] ds) n := by
  rintro ds n Q ⟨a, d, rfl, hd, hl, q⟩
  unfold kb_trimmed
  refine kq_set (S := [.val d, .no]) (gv_lenS hd (gv_b rfl)) ?_
  refine kq_while (trim_loop _ a d hd (fun E x n q => q) n a.length (Nat.le_refl _) ?_)
  dsimp only
  exact ks_ret (S := [.val d, .val (.int (sizeL a a.length : Nat))]) (gv_cutS hd (gv_b rfl) (gv_v rfl)) (by exact q)
theorem m_law_cut (Z : Cl) : ∀ ds n Q, c_law_cut Z ds n Q → kb_law_cut Z ⟨fun _ n' => Q .non n', Q, fun _ _ => False, fun _ _ => False⟩ (startD ["row", "size"] ds) n := by
  rintro ds n Q ⟨a, d, rfl, hd, hl, q⟩
  unfold kb_law_cut
  refine kq_set (S := [.val d, .no]) (gv_lenS hd (gv_b rfl)) ?_
  refine kq_while (trim_loop _ a d hd (fun E x n q => ks_asg (S := [.val d, .val (.int x)]) (gv_sub (gv_b rfl) gv_c) q) n a.length (Nat.le_refl _) ?_)
  dsimp only
  exact ks_ret (S := [.val d, .val (.int (sizeL a a.length : Nat))]) (gv_cutS hd (gv_b rfl) (gv_v rfl)) (by exact q)
theorem m_at_power (Z : Cl) : ∀ ds n Q, c_at_power Z ds n Q → kb_at_power Z ⟨fun _ n' => Q .non n', Q, fun _ _ => False, fun _ _ => False⟩ (startD ["row", "power"] ds) n := by
  rintro ds n Q ⟨a, p, rfl, q⟩
  unfold kb_at_power
  by_cases h : p < a.length
  · exact ks_ret (S := [.val (.tup (iD a)), .val (.int p)]) (gv_iteT ((gvt_of (gv_lt (gv_b rfl) (gv_lenI (gv_b rfl)))).cast (decide_eq_true (by omega))) (gv_ixI (gv_b rfl) (gv_b rfl) h)) (by exact q)
  · rw [getD_ge (by omega)] at q
    exact ks_ret (S := [.val (.tup (iD a)), .val (.int p)]) (gv_iteF ((gvt_of (gv_lt (gv_b rfl) (gv_lenI (gv_b rfl)))).cast (decide_eq_false (by omega))) gv_c) (by exact q)
section
variable {S : List Sl} {ka kb kc : KE} {Z : Cl} {a b : List Int} {d : D} {p : Nat}
theorem gv_trimmed (hd : seqIs a d) (h : Gv ka S d) (hl : a.length ≤ 10000) : Gv (kFn (c_trimmed Z) (kCons ka kNil)) S (.tup (iD (trimL a))) := gv_fn (gv_cons h gv_nil) fun n Q q => ⟨a, d, rfl, hd, hl, q⟩
theorem gv_at (h : Gv ka S (.tup (iD a))) (hb : Gv kb S (.int (p : Nat))) : Gv (kFn (c_at_power Z) (kCons ka (kCons kb kNil))) S (.int (a.getD p 0)) := gv_fn (gv_cons h (gv_cons hb gv_nil)) fun n Q q => ⟨a, p, rfl, q⟩
theorem gv_plusF (h : Gv ka S (.tup (iD a))) (hb : Gv kb S (.tup (iD b))) (h1 : a.length ≤ 5000) (h2 : b.length ≤ 5000) : Gv (kFn (c_plus Z) (kCons ka (kCons kb kNil))) S (.tup (iD (plusL a b))) := gv_fn (gv_cons h (gv_cons hb gv_nil)) fun n Q q => ⟨a, b, rfl, h1, h2, q⟩
theorem gv_scaledF {f : Int} {N M : Nat} (h : Gv ka S (.tup (iD a))) (hb : Gv kb S (.int f)) (h1 : a.length ≤ 5000) (h2 : bd N a) (h3 : f.natAbs < 2 ^ M) (h4 : N + M < 1000000) : Gv (kFn (c_scaled Z) (kCons ka (kCons kb kNil))) S (.tup (iD (scaleL a f))) := gv_fn (gv_cons h (gv_cons hb gv_nil)) fun n Q q => ⟨a, f, N, M, rfl, h1, h2, h3, h4, q⟩
theorem gv_multF {N M : Nat} (h : Gv ka S (.tup (iD a))) (hb : Gv kb S (.tup (iD b))) (h1 : a.length ≤ 2000) (h2 : b.length ≤ 2000) (h3 : bd N a) (h4 : bd M b) (h5 : N + M < 1000000) : Gv (kFn (c_multiplied Z) (kCons ka (kCons kb kNil))) S (.tup (iD (mulL a b))) := gv_fn (gv_cons h (gv_cons hb gv_nil)) fun n Q q => ⟨a, b, N, M, rfl, h1, h2, h3, h4, h5, q⟩
end
theorem add_range (a b : List Int) (n : Nat) (h : n = max a.length b.length) : (List.range' 0 n).map (fun i => a.getD i 0 + b.getD i 0) = addL a b := by
  refine List.ext_getElem (by rw [List.length_map, List.length_range', addL_len, h]) fun i h1 h2 => ?_
  have e := getD_add a b i
  rw [List.getElem_map, List.getElem_range', Nat.zero_add, Nat.one_mul, ← e, List.getD_eq_getElem?_getD, List.getElem?_eq_getElem h2]
  rfl
theorem m_plus (Z : Cl) : ∀ ds n Q, c_plus Z ds n Q → kb_plus Z ⟨fun _ n' => Q .non n', Q, fun _ _ => False, fun _ _ => False⟩ (startD ["one", "other", "size", "power"] ds) n := by
  rintro ds n Q ⟨a, b, rfl, h1, h2, q⟩
  unfold kb_plus
  refine kq_set (S := [.val (.tup (iD a)), .val (.tup (iD b)), .no, .no]) (d := .int ((max a.length b.length : Nat) : Int)) ?_ ?_
  · by_cases h : b.length ≤ a.length
    · exact gv_iteT ((gvt_of (gv_ge (gv_lenI (gv_b rfl)) (gv_lenI (gv_b rfl)))).cast (decide_eq_true (by omega))) ((gv_lenI (gv_b rfl)).cast (by rw [show max a.length b.length = a.length by omega]))
    · exact gv_iteF ((gvt_of (gv_ge (gv_lenI (gv_b rfl)) (gv_lenI (gv_b rfl)))).cast (decide_eq_false (by omega))) ((gv_lenI (gv_b rfl)).cast (by rw [show max a.length b.length = b.length by omega]))
  · refine ks_ret (S := [.val (.tup (iD a)), .val (.tup (iD b)), .val (.int ((max a.length b.length : Nat) : Int)), .no]) (gv_trimmed (a := addL a b) (.inr rfl) ?_ (by rw [addL_len]; omega)) (by exact q)
    refine (gv_compI (v := 3) (g := fun i => a.getD i 0 + b.getD i 0) (gi_rng1 (gv_v rfl) (by omega)) (by rw [List.length_range']; omega) rfl (fun i hi => ?_) (fun d => rfl)).cast (by rw [add_range a b _ rfl])
    exact gv_add (gv_at (gv_v rfl) (gv_v rfl)) (gv_at (gv_v rfl) (gv_v rfl))
theorem mulW {i j : Int} {N M : Nat} (h1 : i.natAbs < 2 ^ N) (h2 : j.natAbs < 2 ^ M) (h : N + M < 1000000) : CMul i j ∨ CMulW i j := .inr (by
  have := log_lt h1
  have := log_lt h2
  unfold CMulW
  omega)
theorem m_scaled (Z : Cl) : ∀ ds n Q, c_scaled Z ds n Q → kb_scaled Z ⟨fun _ n' => Q .non n', Q, fun _ _ => False, fun _ _ => False⟩ (startD ["one", "factor", "number"] ds) n := by
  rintro ds n Q ⟨a, f, N, M, rfl, h1, h2, h3, h4, q⟩
  unfold kb_scaled
  refine ks_ret (S := [.val (.tup (iD a)), .val (.int f), .no]) (gv_trimmed (a := a.map fun x => x * f) (.inr rfl) ?_ (by rw [List.length_map]; omega)) (by exact q)
  exact gv_compI (v := 2) (f := D.int) (g := fun x => x * f) (gi_T (gv_v rfl)) (by omega) rfl (fun x hx => L54.gv_mul (gv_b rfl) (gv_b rfl) (mulW (h2 x hx) h3 h4)) (fun d => rfl)
theorem m_at_product (Z : Cl) : ∀ ds n Q, c_at_product Z ds n Q → kb_at_product Z ⟨fun _ n' => Q .non n', Q, fun _ _ => False, fun _ _ => False⟩ (startD ["one", "other", "power", "begin", "end", "at"] ds) n := by
  rintro ds n Q ⟨a, b, p, N, M, rfl, h1, h2, h0, h3, h4, h5, q⟩
  unfold kb_at_product
  refine kq_set (S := [.val (.tup (iD a)), .val (.tup (iD b)), .val (.int p), .no, .no, .no]) (d := .int ((p + 1 - b.length : Nat) : Int)) ?_ ?_
  · by_cases h : b.length < p + 1
    · exact gv_iteT ((gvt_of (gv_gt (gv_add (gv_b rfl) gv_c) (gv_lenI (gv_b rfl)))).cast (decide_eq_true (by omega))) ((gv_sub (gv_add (gv_b rfl) gv_c) (gv_lenI (gv_b rfl))).cast (by congr 1; omega))
    · exact gv_iteF ((gvt_of (gv_gt (gv_add (gv_b rfl) gv_c) (gv_lenI (gv_b rfl)))).cast (decide_eq_false (by omega))) (gv_c.cast (by congr 1; omega))
  refine kq_set (S := [.val (.tup (iD a)), .val (.tup (iD b)), .val (.int p), .val (.int ((p + 1 - b.length : Nat) : Int)), .no, .no]) (d := .int ((if p < a.length then p + 1 else a.length : Nat) : Int)) ?_ ?_
  · by_cases h : p < a.length
    · rw [if_pos h]
      exact gv_iteT ((gvt_of (gv_lt (gv_b rfl) (gv_lenI (gv_b rfl)))).cast (decide_eq_true (by omega))) ((gv_add (gv_b rfl) gv_c).cast (by congr 1))
    · rw [if_neg h]
      exact gv_iteF ((gvt_of (gv_lt (gv_b rfl) (gv_lenI (gv_b rfl)))).cast (decide_eq_false (by omega))) (gv_lenI (gv_b rfl))
  have hh : (if p < a.length then p + 1 else a.length) ≤ p + 1 ∧ (if p < a.length then p + 1 else a.length) ≤ a.length := by split <;> omega
  generalize hg : (if p < a.length then p + 1 else a.length) = hi at hh
  refine ks_ret (S := [.val (.tup (iD a)), .val (.tup (iD b)), .val (.int p), .val (.int ((p + 1 - b.length : Nat) : Int)), .val (.int (hi : Nat)), .no]) (d := .int (atP a b p)) ?_ (by exact q)
  unfold atP
  rw [hg]
  refine gv_sum (gv_compI (v := 5) (g := fun i => a.getD i 0 * b.getD (p - i) 0) (gi_rng2 (gv_v rfl) (gv_v rfl) (by omega) (by omega)) (by rw [List.length_range']; omega) rfl (fun i hi => ?_) (fun d => rfl))
  rw [List.mem_range'_1] at hi
  exact L54.gv_mul (gv_ixI (gv_b rfl) (gv_b rfl) (by omega)) (gv_ixI (gv_b rfl) ((gv_sub (gv_b rfl) (gv_b rfl)).cast (by congr 1; omega)) (by omega)) (mulW (bd_getD h3 i) (bd_getD h4 _) h5)
theorem m_multiplied (Z : Cl) : ∀ ds n Q, c_multiplied Z ds n Q → kb_multiplied Z ⟨fun _ n' => Q .non n', Q, fun _ _ => False, fun _ _ => False⟩ (startD ["one", "other", "power"] ds) n := by
  rintro ds n Q ⟨a, b, N, M, rfl, h1, h2, h3, h4, h5, q⟩
  unfold kb_multiplied
  have t1 : Gv (kBin dEq (kCall bLen (kCons (kB 0) kNil)) (kC (.int 0))) [.val (.tup (iD a)), .val (.tup (iD b)), .no] (.bl ((a.length : Int) == 0)) := gv_eqi (gv_lenI (gv_b rfl)) gv_c
  have t2 : Gv (kBin dEq (kCall bLen (kCons (kB 1) kNil)) (kC (.int 0))) [.val (.tup (iD a)), .val (.tup (iD b)), .no] (.bl ((b.length : Int) == 0)) := gv_eqi (gv_lenI (gv_b rfl)) gv_c
  have em : a.length = 0 ∨ b.length = 0 → Q (.tup []) n := fun h => by
    unfold mulL at q
    rw [if_pos h] at q
    exact q
  by_cases za : a.length = 0
  · exact kq_if1 (gvt_orT ((gvt_of t1).cast (by rw [za]; rfl))) (ks_ret (gv_tup gv_nil (Nat.zero_le _)) (em (.inl za)))
  by_cases zb : b.length = 0
  · exact kq_if1 (gvt_orF ((gvt_of t1).cast (by simpa using za)) ((gvt_of t2).cast (by rw [zb]; rfl))) (ks_ret (gv_tup gv_nil (Nat.zero_le _)) (em (.inr zb)))
  refine kq_if0 (gvt_orF ((gvt_of t1).cast (by simpa using za)) ((gvt_of t2).cast (by simpa using zb))) ?_
  unfold mulL at q
  rw [if_neg (by omega)] at q
  refine ks_ret (S := [.val (.tup (iD a)), .val (.tup (iD b)), .no]) (gv_trimmed (a := (List.range' 0 (a.length + b.length - 1)).map (atP a b)) (.inr rfl) ?_ (by rw [List.length_map, List.length_range']; omega)) (by exact q)
  refine gv_compI (v := 2) (g := atP a b) (gi_rng1 ((gv_sub (gv_add (gv_lenI (gv_b rfl)) (gv_lenI (gv_b rfl))) gv_c).cast (by congr 1; omega)) (by omega)) (by rw [List.length_range']; omega) rfl (fun i hi => ?_) (fun d => rfl)
  rw [List.mem_range'_1] at hi
  exact gv_fn (gv_cons (gv_v rfl) (gv_cons (gv_v rfl) (gv_cons (gv_v rfl) gv_nil))) fun n Q q => ⟨a, b, i, N, M, rfl, by omega, by omega, by omega, h3, h4, h5, q⟩
end L54
namespace L54
open PySem PySem.Spec PyProof.Rows L2 DL
theorem m_need_amount (Z : Cl) : ∀ ds n Q, c_need_amount Z ds n Q → kb_need_amount Z ⟨fun _ n' => Q .non n', Q, fun _ _ => False, fun _ _ => False⟩ (startD ["value"] ds) n := by
  rintro ds n Q ⟨a, rfl, q⟩
  unfold kb_need_amount
  exact ks_if0 (S := [.val (am Z a)]) (gvt_not (gvt_of (gv_isiC (gv_b rfl)))) q
theorem put_two (d e : D) : putD "degree" e (putD "integers" d []) = ([("integers", d), ("degree", e)] : List (Str × D)) := by
  show putD "degree" e ([("integers", d)] : List (Str × D)) = _
  unfold putD
  rw [if_neg (by decide +kernel)]; rfl
theorem init_loop (Z : Cl) (E : DEnds) (n : Nat) (x : Addr) (w : D) : ∀ (a : List Int) (s : Sl), DL.isObj s = false → (∀ s, DL.isObj s = false → E.nx [.obj x Z.Amount [], .val w, s] n) → kFors (kg_Amount_init_1 Z) (kb_Amount_init_2 Z) E (iD a) [.obj x Z.Amount [], .val w, s] n
  | [], s, hs, q => q s hs
  | c :: a, s, hs, q => ks_if0 (S := [.obj x Z.Amount [], .val w, .val (.int c)]) (gvt_not (gvt_of (gv_isint (gv_v rfl)))) (init_loop Z E n x w a _ rfl q)
theorem m_Amount_init (Z : Cl) : ∀ x ds n Q, c_Amount_init Z ds n Q → kb_Amount_init Z (endI x Z.Amount Q) (startI ["self", "numbers", "number"] x Z.Amount [.tup ds]) n := by
  rintro x ds n Q ⟨a, rfl, hl, q⟩
  unfold kb_Amount_init
  refine kq_for (S := [.obj x Z.Amount [], .val (.tup (iD a)), .no]) (gi_T (gv_v rfl)) (init_loop Z _ n x _ a _ rfl fun s hs => ?_)
  dsimp only
  have l1 := trimL_le a
  have e := put_two (.tup (iD (trimL a))) (.int (((trimL a).length : Int) - 1))
  refine kq_setF (S' := [.obj x Z.Amount [("integers", .tup (iD (trimL a)))], .val (.tup (iD a)), s]) (gv_trimmed (.inl rfl) (gv_v rfl) (by omega)) rfl (List.mem_singleton.mpr rfl) (by show (!DL.isObj .no && (!DL.isObj (.val (D.tup (iD a))) && (!DL.isObj s && true))) = true; rw [hs]; rfl) (by decide) ?_
  refine kq_setF (S' := [.obj x Z.Amount [("integers", .tup (iD (trimL a))), ("degree", .int (((trimL a).length : Int) - 1))], .val (.tup (iD a)), s]) (gv_sub (gv_lenI (gv_fldO rfl (List.mem_singleton.mpr rfl) List.lookup_cons_self)) gv_c) rfl (List.mem_singleton.mpr rfl) (by show (!DL.isObj .no && (!DL.isObj (.val (D.tup (iD a))) && (!DL.isObj s && true))) = true; rw [hs]; rfl) (by show 1 < 1000; omega) ?_ (by rw [← e]; rfl)
  refine ks_if0 ((gvt_of (gv_gt (gv_fldO rfl (List.mem_singleton.mpr rfl) ((lookup_tl (by decide +kernel)).trans List.lookup_cons_self)) gv_c)).cast (decide_eq_false (by omega))) ?_
  exact ⟨rfl, rfl, q⟩
section
variable {S : List Sl} {k ka kb kc : KE} {Z : Cl} {a b : List Int} {d : D} {p : Nat}
theorem gv_num (h : Gv k S (am Z a)) : Gv (kFld [Z.Amount] "integers" k) S (.tup (iD a)) := gv_fld h (List.mem_singleton.mpr rfl) List.lookup_cons_self
theorem gv_deg (h : Gv k S (am Z a)) : Gv (kFld [Z.Amount] "degree" k) S (.int ((a.length : Int) - 1)) := gv_fld h (List.mem_singleton.mpr rfl) ((lookup_tl (by decide +kernel)).trans List.lookup_cons_self)
theorem gv_of (hd : seqIs a d) (h : Gv k S d) (hl : a.length ≤ 2001) : Gv (kStat Z.Amount (c_Amount_of Z) (kC (.ref Z.Amount)) (kCons k kNil)) S (am Z (trimL a)) := gv_stat gv_c (gv_cons h gv_nil) fun n Q q => ⟨a, d, rfl, hd, hl, q⟩
theorem gv_ofN (hn : normal a) (hd : seqIs a d) (h : Gv k S d) (hl : a.length ≤ 2001) : Gv (kStat Z.Amount (c_Amount_of Z) (kC (.ref Z.Amount)) (kCons k kNil)) S (am Z a) := (gv_of hd h hl).cast (by rw [trim_of_normal hn])
theorem gv_needA (h : Gv k S (am Z a)) : Gv (kFn (c_need_amount Z) (kCons k kNil)) S .non := gv_fn (gv_cons h gv_nil) fun n Q q => ⟨a, rfl, q⟩
theorem gv_needN {i j : Int} (h : Gv ka S (.int i)) (hb : Gv kb S (.int j)) (hh : j ≤ i) : Gv (kFn (c_need_number Z) (kCons ka (kCons kb kNil))) S .non := gv_fn (gv_cons h (gv_cons hb gv_nil)) fun n Q q => ⟨i, j, rfl, hh, q⟩
theorem gv_iter (hd : seqIs a d) (h : Gv k S d) : GvA (kStar1 k) S (iD a) := by
  rcases hd with rfl | rfl
  · exact gv_star1T h
  · exact gv_star1L h
end
theorem m_Amount_of (Z : Cl) : ∀ ds n Q, c_Amount_of Z ds n Q → kb_Amount_of Z ⟨fun _ n' => Q .non n', Q, fun _ _ => False, fun _ _ => False⟩ (startD ["numbers"] ds) n := by
  rintro ds n Q ⟨a, d, rfl, hd, hl, q⟩
  unfold kb_Amount_of
  refine kq_if0 (S := [.val d]) (gvt_not (gvt_of (b := true) ?_)) ?_
  · rcases hd with rfl | rfl
    · exact gv_isi2T (gv_b rfl)
    · exact gv_isi2L (gv_b rfl)
  · exact ks_ret (gv_fn (gv_iter hd (gv_v rfl)) fun n Q q => ⟨a, rfl, hl, q⟩) q
theorem gv_isiN {S : List Sl} {k : KE} {C : Addr} {b : Bool} {y : D} (h1 : ∀ C gs, y ≠ .ins C gs) (h2 : y.tyn ≠ "") (h : Gv k S y) : Gv (kIsiC [(C, b)] k) S (.bl false) := fun n Q q => h n _ (by
  cases y <;> first | exact ⟨h2, q⟩ | exact absurd rfl (h1 _ _))
theorem m_Amount_getitem (Z : Cl) : ∀ ds n Q, c_Amount_getitem Z ds n Q → kb_Amount_getitem Z ⟨fun _ n' => Q .non n', Q, fun _ _ => False, fun _ _ => False⟩ (startD ["self", "power"] ds) n := by
  rintro ds n Q ⟨a, p, rfl, hp, q⟩
  unfold kb_Amount_getitem
  obtain ⟨m, rfl⟩ := Int.eq_ofNat_of_zero_le hp
  rw [Int.toNat_natCast] at q
  refine kq_drop (S := [.val (am Z a), .val (.int (m : Nat))]) (gv_needN (gv_v rfl) gv_c (by omega)) ?_
  by_cases h : m < a.length
  · exact ks_ret (gv_iteT ((gvt_of (gv_lt (gv_b rfl) (gv_lenI (gv_num (gv_b rfl))))).cast (decide_eq_true (by omega))) (gv_ixI (gv_num (gv_b rfl)) (gv_b rfl) h)) q
  · rw [getD_ge (by omega)] at q
    exact ks_ret (gv_iteF ((gvt_of (gv_lt (gv_b rfl) (gv_lenI (gv_num (gv_b rfl))))).cast (decide_eq_false (by omega))) gv_c) q
theorem call_loop (Z : Cl) (E : DEnds) (n : Nat) (w : D) (x : Int) (hx : -(2 ^ 64) < x ∧ x < 2 ^ 64) : ∀ (a : List Int) (v : Int) (s : Sl), (∀ s, E.nx [.val w, .val (.int x), .val (.int (a.foldl (fun s c => s * x + c) v)), s] n) → kFors (kg_Amount_call_1 Z) (kb_Amount_call_2 Z) E (iD a) [.val w, .val (.int x), .val (.int v), s] n
  | [], v, s, q => q s
  | c :: a, v, s, q => ks_set (S := [.val w, .val (.int x), .val (.int v), .val (.int c)]) (gv_add (L54.gv_mul (gv_b rfl) (gv_b rfl) (.inl (.inr hx))) (gv_b rfl)) (call_loop Z E n w x hx a (v * x + c) _ q)
theorem m_Amount_call (Z : Cl) : ∀ ds n Q, c_Amount_call Z ds n Q → kb_Amount_call Z ⟨fun _ n' => Q .non n', Q, fun _ _ => False, fun _ _ => False⟩ (startD ["self", "value", "found", "number"] ds) n := by
  rintro ds n Q ⟨a, x, rfl, hx, q⟩
  unfold kb_Amount_call
  refine kq_if0 (S := [.val (am Z a), .val (.int x), .no, .no]) (gvt_not (gvt_of (gv_isint (gv_v rfl)))) ?_
  refine kq_set (S' := [.val (am Z a), .val (.int x), .val (.int 0), .no]) gv_c ?_
  refine kq_for (ds := iD a.reverse) (by rw [iD, List.map_reverse]; exact gi_T (gv_revT (gv_num (gv_b rfl)))) (call_loop Z _ n _ x hx a.reverse 0 _ fun s => ?_)
  dsimp only
  exact ks_ret (gv_v rfl) q
theorem m_Amount_add (Z : Cl) : ∀ ds n Q, c_Amount_add Z ds n Q → kb_Amount_add Z ⟨fun _ n' => Q .non n', Q, fun _ _ => False, fun _ _ => False⟩ (startD ["self", "other"] ds) n := by
  rintro ds n Q ⟨a, b, rfl, h1, h2, q⟩
  unfold kb_Amount_add
  have := plusL_len a b
  exact kq_drop (S := [.val (am Z a), .val (am Z b)]) (gv_needA (gv_v rfl)) (ks_ret (gv_ofN (plusL_normal a b) (.inl rfl) (gv_plusF (gv_num (gv_b rfl)) (gv_num (gv_b rfl)) (by omega) (by omega)) (by omega)) q)
theorem one_bd : (-1 : Int).natAbs < 2 ^ 1 := by decide
theorem m_Amount_sub (Z : Cl) : ∀ ds n Q, c_Amount_sub Z ds n Q → kb_Amount_sub Z ⟨fun _ n' => Q .non n', Q, fun _ _ => False, fun _ _ => False⟩ (startD ["self", "other"] ds) n := by
  rintro ds n Q ⟨a, b, N0, rfl, h1, h2, h3, h4, q⟩
  unfold kb_Amount_sub
  have l1 := scaleL_len b (-1)
  have := plusL_len a (scaleL b (-1))
  exact kq_drop (S := [.val (am Z a), .val (am Z b)]) (gv_needA (gv_v rfl)) (ks_ret (gv_ofN (plusL_normal _ _) (.inl rfl) (gv_plusF (gv_num (gv_b rfl)) (gv_scaledF (gv_num (gv_b rfl)) (gv_neg gv_c) (by omega) h3 one_bd (by omega)) (by omega) (by omega)) (by omega)) q)
theorem m_Amount_mul (Z : Cl) : ∀ ds n Q, c_Amount_mul Z ds n Q → kb_Amount_mul Z ⟨fun _ n' => Q .non n', Q, fun _ _ => False, fun _ _ => False⟩ (startD ["self", "other"] ds) n := by
  rintro ds n Q ⟨a, b, N0, rfl, h1, h2, h3, h4, h5, q⟩
  unfold kb_Amount_mul
  have := mulL_len a b
  exact kq_drop (S := [.val (am Z a), .val (am Z b)]) (gv_needA (gv_v rfl)) (ks_ret (gv_ofN (mulL_normal a b) (.inl rfl) (gv_multF (gv_num (gv_b rfl)) (gv_num (gv_b rfl)) (by omega) (by omega) h3 h4 (by omega)) (by omega)) q)
theorem m_Amount_neg (Z : Cl) : ∀ ds n Q, c_Amount_neg Z ds n Q → kb_Amount_neg Z ⟨fun _ n' => Q .non n', Q, fun _ _ => False, fun _ _ => False⟩ (startD ["self"] ds) n := by
  rintro ds n Q ⟨a, N0, rfl, h1, h3, h4, q⟩
  unfold kb_Amount_neg
  have l1 := scaleL_len a (-1)
  exact ks_ret (S := [.val (am Z a)]) (gv_ofN (scaleL_normal a _) (.inl rfl) (gv_scaledF (gv_num (gv_b rfl)) (gv_neg gv_c) (by omega) h3 one_bd (by omega)) (by omega)) q
theorem flat_rep (p : Nat) (d : D) : (List.replicate p [d]).flatten = List.replicate p d := by
  induction p with
  | zero => rfl
  | succ p ih => rw [List.replicate_succ, List.flatten_cons, ih, List.replicate_succ]; rfl
theorem m_Amount_lshift (Z : Cl) : ∀ ds n Q, c_Amount_lshift Z ds n Q → kb_Amount_lshift Z ⟨fun _ n' => Q .non n', Q, fun _ _ => False, fun _ _ => False⟩ (startD ["self", "power"] ds) n := by
  rintro ds n Q ⟨a, p, rfl, h1, h2, h3, q⟩
  unfold kb_Amount_lshift
  refine kq_drop (S := [.val (am Z a), .val (.int p)]) (gv_needN (gv_v rfl) gv_c (by omega)) ?_
  have t0 : Gv (kBin dGt (kCall bLen (kCons (kFld [Z.Amount] "integers" (kB 0)) kNil)) (kC (.int 0))) [.val (am Z a), .val (.int p)] (.bl (decide (0 < (a.length : Int)))) := gv_gt (gv_lenI (gv_num (gv_b rfl))) gv_c
  have sl := shift_len a p
  by_cases h : 0 < a.length
  · refine kq_if0 (gvt_andT ((gvt_of t0).cast (decide_eq_true (by omega))) ((gvt_of (gv_gt (gv_add (gv_deg (gv_b rfl)) (gv_b rfl)) gv_c)).cast (decide_eq_false (by omega)))) ?_
    refine ks_ret (gv_of (a := shiftL a p) (.inl rfl) ?_ (by omega)) q
    refine gv_iteT ((gvt_of t0).cast (decide_eq_true (by omega))) ?_
    refine (gv_tadd (L54.gv_tmul (gv_tup (gv_cons gv_c gv_nil) (by show 1 ≤ 1000000; omega)) (gv_b rfl) (by simp) (by show 1 ≤ 1000; omega) (by show p * 1 ≤ 1000000; omega)) (gv_num (gv_b rfl)) (by rw [flat_rep, List.length_replicate, List.length_map]; omega)).cast ?_
    unfold shiftL
    rw [if_pos h, flat_rep]
    show _ = D.tup (List.map D.int _)
    rw [List.map_append, List.map_replicate]
  · refine kq_if0 (gvt_andF ((gvt_of t0).cast (decide_eq_false (by omega)))) ?_
    refine ks_ret (gv_of (a := shiftL a p) (.inl rfl) ?_ (by omega)) q
    refine gv_iteF ((gvt_of t0).cast (decide_eq_false (by omega))) ?_
    unfold shiftL
    rw [if_neg h]
    exact gv_tup gv_nil (Nat.zero_le _)
theorem m_Amount_floordiv (Z : Cl) : ∀ ds n Q, c_Amount_floordiv Z ds n Q → kb_Amount_floordiv Z ⟨fun _ n' => Q .non n', Q, fun _ _ => False, fun _ _ => False⟩ (startD ["self", "number", "factor"] ds) n := by
  rintro ds n Q ⟨a, k, rfl, h1, h2, h3, h4, q⟩
  unfold kb_Amount_floordiv
  refine kq_drop (S := [.val (am Z a), .val (.int k), .no]) (gv_needN (gv_v rfl) gv_c (by omega)) ?_
  have none : ∀ xs : List Int, (∀ c ∈ xs, c % (k : Int) = 0) → (xs.map fun c => !(c % (k : Int) == 0)).any id = false := by
    intro xs h
    rw [List.any_map, List.any_eq_false]
    intro c hc
    simp [h c hc]
  have lk : CDiv 0 (k : Int) ∨ CDivW 0 (k : Int) := .inr ⟨by omega, by
    have : (k : Int).natAbs < 2 ^ 1000 := by rw [Int.natAbs_natCast]; exact h2
    have := log_lt this
    omega⟩
  refine kq_if0 ((gvt_of (gv_any (bs := a.map fun c => !(c % (k : Int) == 0)) ?_)).cast (none a h4)) ?_
  · refine (gv_comp (v := 2) (f := D.int) (g := fun c => D.bl (!(c % (k : Int) == 0))) (gi_T (gv_num (gv_b rfl))) (by omega) rfl (fun x hx => ?_) (fun d => rfl)).cast (by rw [List.map_map]; rfl)
    exact gv_nei (gv_mod (gv_b rfl) (gv_b rfl) (by omega)) gv_c
  · refine ks_ret (gv_of (a := a.map fun x => x / (k : Int)) (.inr rfl) ?_ (by rw [List.length_map]; omega)) q
    refine gv_compI (v := 2) (f := D.int) (g := fun x => x / (k : Int)) (gi_T (gv_num (gv_b rfl))) (by omega) rfl (fun x hx => ?_) (fun d => rfl)
    exact gv_div (gv_b rfl) (gv_b rfl) lk
theorem m_Amount_cut (Z : Cl) : ∀ ds n Q, c_Amount_cut Z ds n Q → kb_Amount_cut Z ⟨fun _ n' => Q .non n', Q, fun _ _ => False, fun _ _ => False⟩ (startD ["self", "most"] ds) n := by
  rintro ds n Q ⟨a, p, rfl, h1, h2, q⟩
  unfold kb_Amount_cut
  exact kq_drop (S := [.val (am Z a), .val (.int p)]) (gv_needN (gv_v rfl) gv_c (by omega)) (ks_ret (gv_of (.inl rfl) (gv_headT (p := p + 1) (gv_num (gv_b rfl)) ((gv_add (gv_b rfl) gv_c).cast (by congr 1))) (by rw [List.length_take]; omega)) q)
theorem m_Amount_eq (Z : Cl) : ∀ ds n Q, c_Amount_eq Z ds n Q → kb_Amount_eq Z ⟨fun _ n' => Q .non n', Q, fun _ _ => False, fun _ _ => False⟩ (startD ["self", "other"] ds) n := by
  rintro ds n Q ⟨a, y, rfl, h⟩
  unfold kb_Amount_eq
  rcases h with ⟨b, rfl, q⟩ | ⟨h1, h2, q⟩
  · exact ks_ret (S := [.val (am Z a), .val (am Z b)]) (gv_andT (gv_isiC (gv_b rfl)) ((gv_eq (gv_num (gv_b rfl)) (gv_num (gv_b rfl)) (pl_iT _ _) (pl_iT _ _)).cast (by rw [eqb_iT]))) q
  · exact ks_ret (S := [.val (am Z a), .val y]) (gv_andF (gv_isiN h1 h2 (gv_b rfl))) q
end L54
namespace L54
open PySem PySem.Spec PyProof.Rows L2 DL
theorem cmul_l {i j : Int} (h : -(2 ^ 64) < i ∧ i < 2 ^ 64) : CMul i j ∨ CMulW i j := .inl (.inl h)
theorem divW (i j : Int) (h : 0 < j ∧ j ≤ big30) : CDiv i j ∨ CDivW i j := .inr ⟨h.1, by
  have : j.natAbs < 2 ^ 100 := by
    have := h.2
    unfold big30 at this
    have e : (2 : Nat) ^ 100 = 1267650600228229401496703205376 := by decide
    rw [e]
    omega
  have := log_lt this
  omega⟩
theorem dr1 (Z : Cl) (E : DEnds) (p s2 s3 s4 s5 : Sl) (m x : Int) (n : Nat) (hm : 0 < m) (q : ∀ d : Int, 0 ≤ d → d < m → E.rt (.int d) n) : kr_law_draw_1 Z E [p, .val (.int m), s2, s3, s4, s5, .val (.int x)] n := by
  unfold kr_law_draw_1
  exact ks_ret (gv_mod (L54.gv_int (gv_div (gv_b rfl) gv_c (.inl ⟨by decide, by decide⟩))) (gv_b rfl) hm) (q _ (Int.emod_nonneg _ (by omega)) (Int.emod_lt_of_pos _ hm))
theorem dr2 (Z : Cl) (E : DEnds) (p s2 s4 s5 : Sl) (m x t : Int) (n : Nat) (hm : 0 < m) (ht : 0 ≤ t ∧ t ≤ 100000) (hx : 0 ≤ x ∧ x < 2147483629) (q : ∀ d : Int, 0 ≤ d → d < m → E.rt (.int d) n) : kr_law_draw_2 Z E [p, .val (.int m), s2, .val (.int t), s4, s5, .val (.int x)] n := by
  unfold kr_law_draw_2
  have a1 : x * (2 * t + 313) ≤ 2147483629 * 200313 := Int.mul_le_mul (by omega) (by omega) (by omega) (by omega)
  have a2 : 0 ≤ x * (2 * t + 313) := Int.mul_nonneg (by omega) (by omega)
  have a3 : (52371 * t) * t ≤ (52371 * 100000) * 100000 := Int.mul_le_mul (by omega) (by omega) (by omega) (by omega)
  have a4 : 0 ≤ (52371 * t) * t := Int.mul_nonneg (by omega) (by omega)
  refine kq_set (S' := [p, .val (.int m), s2, .val (.int t), s4, s5, .val (.int ((x * (2 * t + 313) + 52371 * t * t + 25) ^ (3 : Int).toNat % 2147483587))])
    (gv_mod (L54.gv_int (gv_pow (gv_add (gv_add (L54.gv_mul (gv_b rfl) (gv_add (L54.gv_mul gv_c (gv_b rfl) (cmul_l (by omega))) gv_c) (cmul_l (by omega))) (L54.gv_mul (L54.gv_mul gv_c (gv_b rfl) (cmul_l (by omega))) (gv_b rfl) (cmul_l (by omega)))) gv_c) gv_c ?_)) gv_c (by decide)) (dr1 Z E _ _ _ _ _ _ _ _ hm q)
  generalize x * (2 * t + 313) = y at *
  generalize 52371 * t * t = z at *
  exact ⟨by decide, by decide, by omega⟩
theorem dr3 (Z : Cl) (E : DEnds) (p s2 s5 s6 : Sl) (m c t : Int) (n : Nat) (hm : 0 < m) (ht : 0 ≤ t ∧ t ≤ 100000) (q : ∀ d : Int, 0 ≤ d → d < m → E.rt (.int d) n) : kr_law_draw_3 Z E [p, .val (.int m), s2, .val (.int t), .val (.int c), s5, s6] n := by
  unfold kr_law_draw_3
  have b1 : 0 ≤ c % 2147483579 := Int.emod_nonneg _ (by decide)
  have b2 : c % 2147483579 < 2147483579 := Int.emod_lt_of_pos _ (by decide)
  exact kq_set (S' := [p, .val (.int m), s2, .val (.int t), .val (.int c), s5, .val (.int ((c % 2147483579 + 56139 * t + 511) ^ (5 : Int).toNat % 2147483629))])
    (gv_mod (L54.gv_int (gv_pow (gv_add (gv_add (gv_mod (L54.gv_int (gv_b rfl)) gv_c (by decide)) (L54.gv_mul gv_c (gv_b rfl) (cmul_l (by omega)))) gv_c) gv_c ⟨by decide, by decide, by omega⟩)) gv_c (by decide)) (dr2 Z E _ _ _ _ _ _ _ _ hm ht ⟨Int.emod_nonneg _ (by decide), Int.emod_lt_of_pos _ (by decide)⟩ q)
theorem gv_pen0 {S : List Sl} {i : Nat} {cs : List Int} (h : S[i]? = some (.val (.pen cs))) : Gv (kPen0 i) S (.lst (cs.map D.int)) := fun n Q q => by unfold kPen0; rw [h]; exact q
theorem gv_abs {S : List Sl} {k : KE} {i : Int} (h : Gv k S (.int i)) : Gv (kCall bAbs (kCons k kNil)) S (.int (if i < 0 then -i else i)) := fun n Q q => h n _ q
theorem kq_ink2 {S : List Sl} {i : Nat} {cs : List Int} {k : KE} {t : Int} {k2 : KS} {E : DEnds} {n : Nat} (h : Gv k S (.int t)) (hp : S[i]? = some (.val (.pen cs))) (ht : 0 ≤ t) (q : k2 E S n) : kSeq (kInk2 i k) k2 E S n := h n _ (by
  show (match S[i]? with | some (.val (.pen _)) => asInt (.int t) fun t => 0 ≤ t ∧ k2 E S n | _ => False)
  rw [hp]
  exact ⟨ht, q⟩)
theorem kq_ink1 {S : List Sl} {i : Nat} {cs : List Int} {k : KE} {t : Int} {k2 : KS} {E : DEnds} {n : Nat} (h : Gv k S (.int t)) (hp : S[i]? = some (.val (.pen cs))) (ht : 0 ≤ t ∧ t ≤ (n : Int) + 1) (q : k2 E S (n + 1)) : kSeq (kInk1 i k) k2 E S n := h n _ (by
  show (match S[i]? with | some (.val (.pen _)) => asInt (.int t) fun t => (0 ≤ t ∧ t ≤ (n : Int) + 1) ∧ k2 E S (n + 1) | _ => False)
  rw [hp]
  exact ⟨ht, q⟩)
theorem dr4 (Z : Cl) (E : DEnds) (s2 s5 s6 : Sl) (cs : List Int) (m c t : Int) (n : Nat) (hm : 0 < m ∧ m ≤ big30) (ht : 0 ≤ t ∧ t ≤ 100000) (q : ∀ d : Int, 0 ≤ d → d < m → E.rt (.int d) n) : kr_law_draw_4 Z E [.val (.pen cs), .val (.int m), s2, .val (.int t), .val (.int c), s5, s6] n := by
  unfold kr_law_draw_4
  have e18 : (10 : Int) ^ (18 : Int).toNat = 1000000000000000000 := by decide
  have cp : CPow 10 18 := ⟨by decide, by decide, by decide⟩
  have r3 := dr3 Z E (.val (.pen cs)) s2 s5 s6 m c t n hm.1 ht q
  have t1 : GvT (kTest (kBin dLt (kB 3) (kCall bLen (kCons (kPen0 0) kNil)))) [.val (.pen cs), .val (.int m), s2, .val (.int t), .val (.int c), s5, s6] (decide (t < (cs.length : Int))) := gvt_of (gv_lt (gv_b rfl) (gv_lenIL (gv_pen0 rfl)))
  have t2 : GvT (kTest (kBin dGe (kCall bAbs (kCons (kB 4) kNil)) (kBin dPow (kC (.int 10)) (kC (.int 18))))) [.val (.pen cs), .val (.int m), s2, .val (.int t), .val (.int c), s5, s6] (decide (1000000000000000000 ≤ (if c < 0 then -c else c))) := gvt_of ((gv_ge (gv_abs (gv_b rfl)) (gv_pow gv_c gv_c cp)).cast (by rw [e18]))
  by_cases h1 : t < (cs.length : Int)
  · by_cases h2 : 1000000000000000000 ≤ (if c < 0 then -c else c)
    · refine kq_if1 (gvt_andT (t1.cast (decide_eq_true h1)) (t2.cast (decide_eq_true h2))) ?_
      have nn : 0 ≤ 2 * ((if c < 0 then -c else c) - 1000000000000000000) + (if decide (c < 0) = true then 1 else 0) := by
        have h3 : (0 : Int) ≤ if decide (c < 0) = true then 1 else 0 := by split <;> decide
        omega
      refine kq_set (S' := [.val (.pen cs), .val (.int m), s2, .val (.int t), .val (.int c), .val (.int (2 * ((if c < 0 then -c else c) - 1000000000000000000) + (if decide (c < 0) = true then 1 else 0))), s6]) (gv_add (L54.gv_mul gv_c ((gv_sub (gv_abs (gv_b rfl)) (gv_pow gv_c gv_c cp)).cast (by rw [e18])) (cmul_l (by decide))) (L54.gv_intB (gv_lt (gv_b rfl) gv_c))) ?_
      refine kq_ink2 (gv_div (L54.gv_int (gv_b rfl)) (gv_b rfl) (divW _ _ hm)) rfl (Int.ediv_nonneg nn (by omega)) ?_
      exact ks_ret (gv_mod (L54.gv_int (gv_b rfl)) (gv_b rfl) hm.1) (q _ (Int.emod_nonneg _ (by omega)) (Int.emod_lt_of_pos _ hm.1))
    · exact kq_if0 (gvt_andT (t1.cast (decide_eq_true h1)) (t2.cast (decide_eq_false h2))) r3
  · exact kq_if0 (gvt_andF (t1.cast (decide_eq_false h1))) r3
theorem dr5 (Z : Cl) (E : DEnds) (s2 s5 s6 : Sl) (cs : List Int) (m c t : Int) (n : Nat) (hm : 0 < m ∧ m ≤ big30) (ht : 0 ≤ t ∧ t ≤ 100000) (q : ∀ d : Int, 0 ≤ d → d < m → E.rt (.int d) n) : kr_law_draw_5 Z E [.val (.pen cs), .val (.int m), s2, .val (.int t), .val (.int c), s5, s6] n := by
  unfold kr_law_draw_5
  have t1 : GvT (kTest (kBin dNe (kPen0 0) (kLst kNil))) [.val (.pen cs), .val (.int m), s2, .val (.int t), .val (.int c), s5, s6] (!decide (cs = [])) := gvt_of ((gv_ne (gv_pen0 rfl) (gv_lst gv_nil (Nat.zero_le _)) (pl_iL 6 cs) (pl_iL 6 [])).cast (by rw [show ([] : List D) = ([] : List Int).map D.int from rfl, eqb_iL]))
  by_cases h : cs = []
  · exact kq_if0 (t1.cast (by rw [decide_eq_true h]; rfl)) (dr4 Z E s2 s5 s6 cs m c t n hm ht q)
  · refine kq_if1 (t1.cast (by rw [decide_eq_false h]; rfl)) ?_
    have hl : 0 < cs.length := List.length_pos_iff.mpr h
    have h1 : 0 ≤ t % (cs.length : Int) := Int.emod_nonneg _ (by omega)
    have h2 : t % (cs.length : Int) < cs.length := Int.emod_lt_of_pos _ (by omega)
    refine ks_set (gv_ixIL (p := (t % (cs.length : Int)).toNat) (gv_pen0 rfl) ((gv_mod (L54.gv_int (gv_b rfl)) (gv_lenIL (gv_pen0 rfl)) (by omega)).cast (by congr 1; omega)) (by omega)) ?_
    exact dr4 Z E s2 s5 s6 cs m _ t n hm ht q
theorem dr8 (Z : Cl) (E : DEnds) (s2 s3 s4 s5 s6 : Sl) (cs : List Int) (m : Int) (n : Nat) (hm : 0 < m ∧ m ≤ big30) (hn : n ≤ 100000) (q : ∀ d : Int, 0 ≤ d → d < m → ∀ n', n' ≤ n + 1 → E.rt (.int d) n') : kr_law_draw_8 Z E [.val (.pen cs), .val (.int m), s2, s3, s4, s5, s6] n := by
  unfold kr_law_draw_8
  intro t h1 h2
  show kr_law_draw_7 Z E [.val (.pen cs), .val (.int m), s2, .val (.int t), s4, s5, s6] n
  unfold kr_law_draw_7
  refine kq_ink1 (gv_add (gv_b rfl) gv_c) rfl (by omega) ?_
  unfold kr_law_draw_6
  refine kq_set (S' := [.val (.pen cs), .val (.int m), s2, .val (.int t), .val (.int (66297 * t + 217)), s5, s6]) (gv_add (L54.gv_mul gv_c (gv_b rfl) (cmul_l (by omega))) gv_c) ?_
  exact dr5 Z E _ _ _ _ _ _ _ _ hm ⟨h1, by omega⟩ fun d a b => q d a b _ (Nat.le_refl _)
theorem m_law_draw (Z : Cl) : ∀ ds n Q, c_law_draw Z ds n Q → kb_law_draw Z ⟨fun _ n' => Q .non n', Q, fun _ _ => False, fun _ _ => False⟩ (startD ["pen", "many", "digit", "spot", "cell", "great", "mixed"] ds) n := by
  rintro ds n Q ⟨cs, m, rfl, hm, hn, q⟩
  unfold kb_law_draw
  intro t ht
  show (if decide (0 < t) = true then _ else _)
  by_cases h : 0 < t
  · rw [if_pos (decide_eq_true h)]
    intro r hr
    refine ⟨hm.1, ?_⟩
    intro r2 hr2
    exact ⟨divW _ _ hm, Int.ediv_nonneg hr2 (by omega), q _ (Int.emod_nonneg _ (by omega)) (Int.emod_lt_of_pos _ hm.1) n (by omega)⟩
  · rw [if_neg (by simpa using h)]
    exact dr8 Z _ _ _ _ _ _ _ _ _ hm hn q
theorem m_law_pick (Z : Cl) : ∀ ds n Q, c_law_pick Z ds n Q → kb_law_pick Z ⟨fun _ n' => Q .non n', Q, fun _ _ => False, fun _ _ => False⟩ (startD ["pen", "some"] ds) n := by
  rintro ds n Q ⟨cs, xs, rfl, h1, h2, h3, q⟩
  have hl : 0 < xs.length := List.length_pos_iff.mpr h1
  simp (maxSteps := 2000000) only [kb_law_pick, c_law_draw, kSeq, kAsg, kRet, kIfS, kDrop, kNext, kNever, kOwnS, kApp, kSub, kPar, kAndV_e, kOrV_e, kNotV, kAndT, kOrT, kNotT, kTest_e, isB_bl, kBin, kUn, kChain_e, condV, kCall, kCons, kNil, kTup, kLst, kLstO, kOut, kCompO, kIter, kEnum, kZip, kRng1, DL.kV, kB, kC, kIf, kStar, kSl, kPart, kNoPart, kFn, kFnK, kIsi2, kFor, gN, gTupD, gsCons, gsNil, kYes, dNeg, dAdd, dSub, dMod, dDiv, dMul, dPow, dCmp, dInt, dEq, dNe, dIn, dNotIn, dIx, dIsN, bLen, bInt, bAbs, bTuple, bList, bAny, bAll, bIsi, startD, wipeD, List.map_cons, List.map_nil, List.cons_append, List.nil_append, List.getElem?_cons_zero, List.getElem?_cons_succ, List.set_cons_zero, List.set_cons_succ, List.length_cons, List.length_nil, List.replicate_succ, List.replicate_zero, List.all_cons, List.all_nil, Bool.and_true, Bool.true_and, tyn_int, tyn_bl, tyn_non, tyn_tup, tyn_lst, kit_ii, kit_ib, kit_tt, kit_ll, kit_lt, kit_tl, flat_int, v_int, pl_non, pl_bl, pl_int, pl_tup, pl_lst, eqb_int, eqb_nil, eqb_non, ne_eq, not_false_eq_true, true_and, and_true, if_true, if_false, Bool.false_eq_true, reduceCtorEq, String.reduceEq, Bool.not_true, Bool.not_false, Bool.or_false, Bool.false_or, Bool.or_true, Bool.true_or, Nat.zero_add, Nat.reduceAdd, Nat.reduceLeDiff, Nat.reduceSub, Nat.reduceEqDiff, DL.okW, kAug, dMulX, dDivX, dShl, dShlX, kFld, kFldO, kSetF, kBinO, kUnO, kEqO, kIsiC, kStat, kMeth, kCo, kIxO, kRev, kRngD, kRepO, kRng2, kStar1, ownSel, isSel, yOk, eqY, putD, startI, endI, bMax, bSum, kPar3, kRetN]
  refine ⟨cs, xs.length, rfl, ⟨by omega, by unfold big30; omega⟩, h3, fun d a b n' hn' => ?_⟩
  have hi : d.toNat < xs.length := by omega
  have e : atI xs d = some (xs[d.toNat]'hi) := by
    unfold atI ixN
    rw [if_pos a, if_pos b]
    exact List.getElem?_eq_getElem hi
  rw [e]
  exact q _ (List.getElem_mem hi) n' hn'
end L54
namespace L54
open PySem PySem.Spec PyProof.Rows L2 DL
theorem long_add (a b : List Int) : ((a ++ List.replicate (max a.length b.length - a.length) 0).zipIdx 0).map (fun p : Int × Nat => p.1 + b.getD p.2 0) = addL a b := by
  have l1 : (a ++ List.replicate (max a.length b.length - a.length) (0 : Int)).length = max a.length b.length := by rw [List.length_append, List.length_replicate]; omega
  refine List.ext_getElem (by rw [List.length_map, List.length_zipIdx, l1, addL_len]) fun i h1 h2 => ?_
  have e := getD_add a b i
  rw [List.getD_eq_getElem?_getD, List.getElem?_eq_getElem h2] at e
  rw [List.getElem_map, List.getElem_zipIdx]
  show _ = (addL a b)[i]
  have e : (addL a b)[i] = a.getD i 0 + b.getD i 0 := e
  rw [e, Nat.zero_add]
  congr 1
  by_cases h : i < a.length
  · rw [List.getElem_append_left h, List.getD_eq_getElem?_getD, List.getElem?_eq_getElem h]; rfl
  · rw [List.getElem_append_right (by omega), List.getElem_replicate, getD_ge (by omega)]
section
variable {S : List Sl} {ka kb kc : KE} {Z : Cl} {a b : List Int} {d : D} {p : Nat}
theorem gv_cutF (hd : seqIs a d) (h : Gv ka S d) (hl : a.length ≤ 10000) : Gv (kFn (c_law_cut Z) (kCons ka kNil)) S (.tup (iD (trimL a))) := gv_fn (gv_cons h gv_nil) fun n Q q => ⟨a, d, rfl, hd, hl, q⟩
theorem gv_byF {N M : Nat} {x y : D} (hx : seqIs a x) (hy : seqIs b y) (h : Gv ka S x) (hb : Gv kb S y) (h1 : a.length ≤ 1000) (h2 : b.length ≤ 1000) (h3 : bd N a) (h4 : bd M b) (h5 : N + M < 1000000) : Gv (kFn (c_law_by Z) (kCons ka (kCons kb kNil))) S (.tup (iD (byL a b))) := gv_fn (gv_cons h (gv_cons hb gv_nil)) fun n Q q => ⟨a, b, x, y, N, M, rfl, hx, hy, h1, h2, h3, h4, h5, q⟩
theorem gv_lplus {x y : D} (hx : seqIs a x) (hy : seqIs b y) (h : Gv ka S x) (hb : Gv kb S y) (h1 : a.length ≤ 1000) (h2 : b.length ≤ 1000) : Gv (kFn (c_law_plus Z) (kCons ka (kCons kb kNil))) S (.tup (iD (plusL a b))) := gv_fn (gv_cons h (gv_cons hb gv_nil)) fun n Q q => ⟨a, b, x, y, rfl, hx, hy, h1, h2, q⟩
theorem gv_listS (hd : seqIs a d) (h : Gv ka S d) : Gv (kCall bList (kCons ka kNil)) S (.lst (iD a)) := by
  rcases hd with rfl | rfl
  · exact gv_listT h
  · exact gv_listL h
theorem gv_ixS2 (hd : seqIs a d) (h : Gv ka S d) (hb : Gv kb S (.int (p : Nat))) (hp : p < a.length) : Gv (kBin dIx ka kb) S (.int (a.getD p 0)) := by
  rcases hd with rfl | rfl
  · exact gv_ixI h hb hp
  · exact gv_ixIL h hb hp
theorem gi_enumS (hd : seqIs a d) (h : Gv ka S d) : GvA (kEnum (kCons ka kNil)) S (enumD 0 (iD a)) := by
  rcases hd with rfl | rfl
  · exact gi_enumT h
  · exact gi_enumL h
end
theorem m_law_plus (Z : Cl) : ∀ ds n Q, c_law_plus Z ds n Q → kb_law_plus Z ⟨fun _ n' => Q .non n', Q, fun _ _ => False, fun _ _ => False⟩ (startD ["one", "other", "size", "longer", "at", "number"] ds) n := by
  rintro ds n Q ⟨a, b, x, y, rfl, hx, hy, h1, h2, q⟩
  unfold kb_law_plus
  refine kq_set (d := .int ((max a.length b.length : Nat) : Int)) (S := [.val x, .val y, .no, .no, .no, .no]) (S' := [.val x, .val y, .val (.int ((max a.length b.length : Nat) : Int)), .no, .no, .no]) ((gv_max2 (L54.gv_int (gv_lenS hx (gv_b rfl))) (L54.gv_int (gv_lenS hy (gv_b rfl)))).cast (by congr 1; split <;> omega)) ?_
  refine kq_set (d := .lst (iD (a ++ List.replicate (max a.length b.length - a.length) 0))) (S' := [.val x, .val y, .val (.int ((max a.length b.length : Nat) : Int)), .val (.lst (iD (a ++ List.replicate (max a.length b.length - a.length) 0))), .no, .no]) ((gv_ladd (gv_listS hx (gv_b rfl)) (L54.gv_lmul (j := max a.length b.length - a.length) (gv_lst (gv_cons gv_c gv_nil) (by show 1 ≤ 1000000; omega)) ((gv_sub (gv_b rfl) (gv_lenS hx (gv_b rfl))).cast (by congr 1; omega)) (by show 1 * _ ≤ 1000000; omega) (by omega)) (by rw [flat_one, List.length_replicate, List.length_map]; omega)).cast (by
    rw [flat_one]
    show D.lst (List.map D.int a ++ _) = D.lst (List.map D.int _)
    rw [List.map_append, List.map_replicate])) ?_
  refine ks_ret (gv_cutF (a := addL a b) (.inr rfl) ?_ (by rw [addL_len]; omega)) q
  refine (gv_comp2 (v := 4) (w := 5) (f1 := fun p : Int × Nat => D.int (p.2 : Nat)) (f2 := fun p => D.int p.1) (g := fun p => D.int (p.1 + b.getD p.2 0)) (xs := (a ++ List.replicate (max a.length b.length - a.length) 0).zipIdx 0) ?_ (by rw [List.length_zipIdx, List.length_append, List.length_replicate]; omega) rfl (fun p hp => ?_) (fun d e => rfl)).cast (by
    rw [← long_add a b, iD, List.map_map]; rfl)
  · rw [← enumD_map D.int]
    exact gi_enumL (gv_v rfl)
  · by_cases h : p.2 < b.length
    · exact gv_add (gv_b rfl) (gv_iteT ((gvt_of (gv_lt (gv_b rfl) (gv_lenS hy (gv_b rfl)))).cast (decide_eq_true (by omega))) (gv_ixS2 hy (gv_b rfl) (gv_b rfl) h))
    · exact (gv_add (gv_b rfl) (gv_iteF ((gvt_of (gv_lt (gv_b rfl) (gv_lenS hy (gv_b rfl)))).cast (decide_eq_false (by omega))) gv_c)).cast (by rw [getD_ge (a := b) (by omega)])
abbrev bst (A B : D) (f : List Int) (s3 s4 s5 s6 : Sl) : List Sl := [.val A, .val B, .own (iD f), s3, s4, s5, s6]
theorem set_iD (f : List Int) (m : Nat) (v : Int) : (iD f).set m (.int v) = iD (f.set m v) := (List.map_set ..).symm
theorem by_in (Z : Cl) (E : DEnds) (A B : D) (n k : Nat) (y : Int) (N M : Nat) (hy : y.natAbs < 2 ^ N) (hNM : N + M < 1000000) : ∀ (b : List Int) (s : Nat) (f : List Int) (s5 s6 : Sl), bd M b → k + s + b.length ≤ f.length →
    (∀ s5 s6, E.nx (bst A B ((b.zipIdx s).foldl (in1 k y) f) (.val (.int (k : Nat))) (.val (.int y)) s5 s6) n) → kFors (kg_law_by_1 Z) (kb_law_by_2 Z) E (enumD s (iD b)) (bst A B f (.val (.int (k : Nat))) (.val (.int y)) s5 s6) n
  | [], s, f, s5, s6, hb, h, q => q s5 s6
  | c :: b, s, f, s5, s6, hb, h, q => by
    rw [List.length_cons] at h
    refine ⟨rfl, ?_⟩
    show kb_law_by_2 Z _ (bst A B f (.val (.int (k : Nat))) (.val (.int y)) (.val (.int (s : Nat))) (.val (.int c))) n
    unfold kb_law_by_2
    refine ks_sub (ds := iD f) (m := k + s) (d := .int (f.getD (k + s) 0 + y * c)) (gv_add (gv_ixIL (gv_bo rfl) ((gv_add (gv_b rfl) (gv_b rfl)).cast (by congr 1)) (by omega)) (L54.gv_mul (gv_b rfl) (gv_b rfl) (mulW hy (hb c (List.mem_cons_self ..)) hNM))) rfl ((gv_add (gv_b rfl) (gv_b rfl)).cast (by congr 1)) (by rw [List.length_map]; omega) ?_
    rw [set_iD]
    exact by_in Z E A B n k y N M hy hNM b (s + 1) (in1 k y f (c, s)) _ _ (fun x hx => hb x (List.mem_cons_of_mem _ hx)) (by rw [List.length_set]; omega) q
theorem by_out (Z : Cl) (E : DEnds) (A : D) (n : Nat) (b : List Int) (y : D) (hy : seqIs b y) (N M : Nat) (hb : bd M b) (hNM : N + M < 1000000) : ∀ (a : List Int) (k : Nat) (f : List Int) (s3 s4 s5 s6 : Sl), bd N a → k + a.length + b.length ≤ f.length →
    (∀ s3 s4 s5 s6, E.nx (bst A y ((a.zipIdx k).foldl (fun f p => (b.zipIdx 0).foldl (in1 p.2 p.1) f) f) s3 s4 s5 s6) n) → kFors (kg_law_by_3 Z) (kb_law_by_4 Z) E (enumD k (iD a)) (bst A y f s3 s4 s5 s6) n
  | [], k, f, s3, s4, s5, s6, ha, h, q => q s3 s4 s5 s6
  | c :: a, k, f, s3, s4, s5, s6, ha, h, q => by
    rw [List.length_cons] at h
    refine ⟨rfl, ?_⟩
    show kb_law_by_4 Z _ (bst A y f (.val (.int (k : Nat))) (.val (.int c)) s5 s6) n
    unfold kb_law_by_4
    refine gi_enumS hy (gv_v rfl) n _ ?_
    have l := (ev_in 0 k c b 0 f (by omega)).1
    refine by_in Z _ A y n k c N M (ha c (List.mem_cons_self ..)) hNM b 0 f s5 s6 hb (by omega) fun s5 s6 => ?_
    exact by_out Z E A n b y hy N M hb hNM a (k + 1) ((b.zipIdx 0).foldl (in1 k c) f) _ _ _ _ (fun x hx => ha x (List.mem_cons_of_mem _ hx)) (by rw [l]; omega) q
theorem m_law_by (Z : Cl) : ∀ ds n Q, c_law_by Z ds n Q → kb_law_by Z ⟨fun _ n' => Q .non n', Q, fun _ _ => False, fun _ _ => False⟩ (startD ["one", "other", "found", "at", "number", "spot", "factor"] ds) n := by
  rintro ds n Q ⟨a, b, x, y, N0, M0, rfl, hx, hy, h1, h2, h3, h4, h5, q⟩
  unfold kb_law_by
  refine kq_own (S := [.val x, .val y, .no, .no, .no, .no, .no]) (S' := bst x y (List.replicate (a.length + b.length) 0) .no .no .no .no) (gv_repO (j := a.length + b.length) (gv_lst (gv_cons gv_c gv_nil) (by show 1 ≤ 1000000; omega)) ((gv_add (gv_lenS hx (gv_b rfl)) (gv_lenS hy (gv_b rfl))).cast (by congr 1)) (by show 1 * _ ≤ 1000000; omega) (by omega)) ?_ (by rw [flat_one]; show [_, _, Sl.own _, _, _, _, _] = [_, _, Sl.own _, _, _, _, _]; rw [show iD (List.replicate (a.length + b.length) 0) = List.replicate (a.length + b.length) (D.int 0) from List.map_replicate])
  have l := (ev_out 0 b a 0 (List.replicate (a.length + b.length) 0) (by rw [List.length_replicate]; omega)).1
  rw [List.length_replicate] at l
  refine kq_for (gi_enumS hx (gv_v rfl)) (by_out Z _ x n b y hy N0 M0 h4 h5 a 0 (List.replicate (a.length + b.length) 0) _ _ _ _ h3 (by rw [List.length_replicate]; omega) fun s3 s4 s5 s6 => ?_)
  dsimp only
  exact ⟨_, _, rfl, .inr rfl, by rw [l]; omega, q⟩
end L54
namespace L54
open PySem PySem.Spec PyProof.Rows L2 DL
def GxA (ks : KA) (S : List Sl) (n : Nat) (P : List D → Nat → Prop) : Prop := ∀ Q : List D → List Sl → Nat → Prop, (∀ ds n', P ds n' → Q ds S n') → ks S n Q
section
variable {S : List Sl} {n : Nat} {k k1 k2 : KE} {ks : KA} {P R : D → Nat → Prop} {PA RA : List D → Nat → Prop} {d d1 : D} {c : DC}
theorem gxA_nil (h : PA [] n) : GxA kNil S n PA := fun Q q => q _ _ h
theorem gxA_cons (h : Gv k S d) (hs : GxA ks S n PA) (hr : ∀ r n', PA r n' → RA (d :: r) n') : GxA (kCons k ks) S n RA := fun Q q => h n _ (hs _ fun r n' p => q _ _ (hr r n' p))
theorem gxA_consx (h : Gx k S n P) (hs : ∀ d n1, P d n1 → GxA ks S n1 fun r n' => RA (d :: r) n') : GxA (kCons k ks) S n RA := fun Q q => h _ fun d n1 p => hs d n1 p _ fun r n' p2 => q _ _ p2
theorem gx_lst (h : GxA ks S n PA) (hr : ∀ ds n', PA ds n' → ds.length ≤ 1000000 ∧ R (.lst ds) n') : Gx (kLst ks) S n R := fun Q q => h _ fun ds n' p => ⟨(hr ds n' p).1, q _ _ (hr ds n' p).2⟩
theorem gx_fn2 (h1 : Gv k1 S d1) (h2 : Gx k2 S n P) (hc : ∀ d n', P d n' → ∀ Q : D → Nat → Prop, (∀ z n2, R z n2 → Q z n2) → c [d1, d] n' Q) : Gx (kFn c (kCons k1 (kCons k2 kNil))) S n R := fun Q q => h1 n _ (h2 _ fun d n' p => hc d n' p _ fun z n2 r => q z n2 r)
end
theorem draw_k {Z : Cl} {S : List Sl} {kp km : KE} {cs : List Int} {m : Int} {n : Nat} {Q : D → List Sl → Nat → Prop} (hp : Gv kp S (.pen cs)) (hm : Gv km S (.int m)) (h1 : 0 < m ∧ m ≤ big30) (h2 : n ≤ 100000) (q : ∀ d : Int, 0 ≤ d → d < m → ∀ n', n' ≤ n + 1 → Q (.int d) S n') : kFn (c_law_draw Z) (kCons kp (kCons km kNil)) S n Q :=
  hp n _ (hm n _ ⟨cs, m, rfl, h1, h2, q⟩)
theorem gx_draw {Z : Cl} {S : List Sl} {kp km : KE} {cs : List Int} {m : Int} {n : Nat} (hp : Gv kp S (.pen cs)) (hm : Gv km S (.int m)) (h1 : 0 < m ∧ m ≤ big30) (h2 : n ≤ 100000) : Gx (kFn (c_law_draw Z) (kCons kp (kCons km kNil))) S n (fun d n' => ∃ i : Int, d = .int i ∧ (0 ≤ i ∧ i < m) ∧ n' ≤ n + 1) :=
  fun Q q => draw_k hp hm h1 h2 fun d a b n' h => q _ _ ⟨d, rfl, ⟨a, b⟩, h⟩
theorem row_elt {Z : Cl} {cs : List Int} {s2 : D} {hi : Int} {n : Nat} (h1 : 0 < hi ∧ hi ≤ big30) (h2 : n ≤ 90000) : Gx (ke_law_row_2 Z) [.val (.pen cs), .val (.int hi), .val s2] n (fun d n' => ∃ i : Int, d = .int i ∧ i.natAbs < 2 ^ 100 ∧ n' ≤ n + 3) := by
  unfold ke_law_row_2
  have e : (2 : Nat) ^ 100 = 1267650600228229401496703205376 := by decide
  unfold big30 at h1
  refine gx_fn2 (P := fun d n' => ∃ xs : List D, d = .lst xs ∧ (xs ≠ [] ∧ xs.length ≤ 1000) ∧ (∀ x ∈ xs, ∃ i : Int, x = .int i ∧ i.natAbs < 2 ^ 100) ∧ n' ≤ n + 2) (gv_v rfl) (gx_lst (PA := fun xs n' => (xs ≠ [] ∧ xs.length ≤ 1000) ∧ (∀ x ∈ xs, ∃ i : Int, x = .int i ∧ i.natAbs < 2 ^ 100) ∧ n' ≤ n + 2) ?_ fun ds n' p => ⟨by have := p.1.2; omega, ds, rfl, p⟩) ?_
  · refine gxA_cons (PA := fun xs n' => xs.length ≤ 4 ∧ (∀ x ∈ xs, ∃ i : Int, x = .int i ∧ i.natAbs < 2 ^ 100) ∧ n' ≤ n + 2) gv_c ?_ fun r n' p => ⟨⟨by simp, by rw [List.length_cons]; omega⟩, fun x hx => ?_, p.2.2⟩
    · refine gxA_cons (PA := fun xs n' => xs.length ≤ 3 ∧ (∀ x ∈ xs, ∃ i : Int, x = .int i ∧ i.natAbs < 2 ^ 100) ∧ n' ≤ n + 2) gv_c ?_ fun r n' p => ⟨by rw [List.length_cons]; omega, fun x hx => ?_, p.2.2⟩
      · refine gxA_cons (PA := fun xs n' => xs.length ≤ 2 ∧ (∀ x ∈ xs, ∃ i : Int, x = .int i ∧ i.natAbs < 2 ^ 100) ∧ n' ≤ n + 2) (gv_neg gv_c) ?_ fun r n' p => ⟨by rw [List.length_cons]; omega, fun x hx => ?_, p.2.2⟩
        · refine gxA_consx (gx_draw (n := n) (gv_v rfl) (gv_v rfl) (by unfold big30; exact h1) (by omega)) ?_
          rintro d n1 ⟨i, rfl, hb, k1⟩
          refine gxA_consx (gx_binR (P := fun d n' => ∃ i : Int, d = .int i ∧ (0 ≤ i ∧ i < hi) ∧ n' ≤ n1 + 1) (R := fun d n' => ∃ i : Int, d = .int i ∧ i.natAbs < 2 ^ 100 ∧ n' ≤ n1 + 1) gv_c (gx_draw (n := n1) (gv_v rfl) (gv_v rfl) (by unfold big30; exact h1) (by omega)) ?_) ?_
          · rintro y n2 ⟨i2, rfl, hi2, k2⟩ Q q
            exact ⟨trivial, q _ ⟨0 - i2, rfl, by rw [e]; omega, k2⟩⟩
          · rintro d n2 ⟨i2, rfl, hi2, k2⟩
            refine gxA_nil ⟨by simp, fun x hx => ?_, by omega⟩
            rcases List.mem_cons.mp hx with rfl | hx
            · exact ⟨i, rfl, by rw [e]; omega⟩
            · rw [List.mem_singleton.mp hx]
              exact ⟨i2, rfl, hi2⟩
        · rcases List.mem_cons.mp hx with rfl | hx
          · exact ⟨-1, rfl, by decide⟩
          · exact p.2.1 x hx
      · rcases List.mem_cons.mp hx with rfl | hx
        · exact ⟨1, rfl, by decide⟩
        · exact p.2.1 x hx
    · rcases List.mem_cons.mp hx with rfl | hx
      · exact ⟨0, rfl, by decide⟩
      · exact p.2.1 x hx
  · rintro d n1 ⟨xs, rfl, ⟨x1, x2⟩, x3, k1⟩ Q q
    exact ⟨cs, xs, rfl, x1, x2, by omega, fun d hd n' hn' => by
      obtain ⟨i, rfl, hi⟩ := x3 d hd
      exact q _ _ ⟨i, rfl, hi, by omega⟩⟩
theorem row_comp {Z : Cl} {cs : List Int} {hi : Int} (h1 : 0 < hi ∧ hi ≤ big30) : ∀ (ds : List D) (acc : List Int) (n : Nat) (Q : List D → Nat → Prop), n + 3 * ds.length ≤ 90000 → bd 100 acc →
    (∀ (a : List Int) (n' : Nat), a.length = acc.length + ds.length → bd 100 a → n' ≤ n + 3 * ds.length → Q (iD a) n') → kComps (kg_law_row_1 Z) kYes (ke_law_row_2 Z) [2] [.val (.pen cs), .val (.int hi), .no] ds (iD acc) n Q
  | [], acc, n, Q, hn, hb, q => q acc n rfl hb (by omega)
  | d :: ds, acc, n, Q, hn, hb, q => by
    rw [List.length_cons] at hn
    refine ⟨rfl, rfl, ?_⟩
    rw [if_pos rfl]
    refine row_elt (s2 := d) h1 (by omega) _ ?_
    rintro y n' ⟨x, rfl, hx, hn'⟩
    refine ⟨rfl, ?_⟩
    have e : iD acc ++ [.int x] = iD (acc ++ [x]) := by
      show _ = List.map D.int _
      rw [List.map_append]; rfl
    rw [e]
    refine row_comp h1 ds (acc ++ [x]) n' Q (by omega) (fun c hc => ?_) fun a n2 l2 b2 k2 => q a n2 ?_ b2 ?_
    · rcases List.mem_append.mp hc with hc | hc
      · exact hb c hc
      · rw [List.mem_singleton.mp hc]; exact hx
    · rw [l2, List.length_append, List.length_cons, List.length_cons, List.length_nil]; omega
    · rw [List.length_cons]; omega
theorem m_law_row (Z : Cl) : ∀ ds n Q, c_law_row Z ds n Q → kb_law_row Z ⟨fun _ n' => Q .non n', Q, fun _ _ => False, fun _ _ => False⟩ (startD ["pen", "most", "turn"] ds) n := by
  rintro ds n Q ⟨cs, rfl, hn, q⟩
  unfold kb_law_row
  have e30 : (10 : Int) ^ (30 : Int).toNat = big30 := by decide +kernel
  have hl : Gv (kLst (kCons (kC (.int 2)) (kCons (kC (.int 3)) (kCons (kC (.int 10)) (kCons (kBin dPow (kC (.int 10)) (kC (.int 30))) kNil))))) [.val (.pen cs), .no, .no] (.lst [.int 2, .int 3, .int 10, .int big30]) := gv_lst (gv_cons gv_c (gv_cons gv_c (gv_cons gv_c (gv_cons ((gv_pow gv_c gv_c ⟨by decide, by decide, by decide⟩).cast (by rw [e30])) gv_nil)))) (by show 4 ≤ 1000000; omega)
  have rest : ∀ (hi : Int) (n1 : Nat), (0 < hi ∧ hi ≤ big30) → n1 ≤ n + 1 → kRet (kOut (kCompO (kRng1 (kCons (kFn (c_law_draw Z) (kCons (DL.kV 0) (kCons (kC (.int 8)) kNil))) kNil)) (kg_law_row_1 Z) kYes (ke_law_row_2 Z) [2])) (E0 Q) [.val (.pen cs), .val (.int hi), .no] n1 := by
    intro hi n1 h1 k1
    refine draw_k (n := n1) (m := 8) (gv_v rfl) gv_c ⟨by omega, by unfold big30; omega⟩ (by omega) fun d a b n2 k2 => ?_
    refine ⟨⟨by omega, by omega⟩, by rw [rngD_len]; omega, rfl, ?_⟩
    refine row_comp h1 _ [] n2 _ (by rw [rngD_len]; omega) (fun c hc => by cases hc) fun a' n' l' b' k' => q a' n' ?_ b' ?_
    · rw [l', rngD_len, List.length_nil]; omega
    · rw [rngD_len] at k'; omega
  have dr : Gx (kBin dIx (kLst (kCons (kC (.int 2)) (kCons (kC (.int 3)) (kCons (kC (.int 10)) (kCons (kBin dPow (kC (.int 10)) (kC (.int 30))) kNil))))) (kFn (c_law_draw Z) (kCons (DL.kV 0) (kCons (kC (.int 4)) kNil)))) [.val (.pen cs), .no, .no] n (fun d n' => ∃ hi : Int, d = .int hi ∧ (0 < hi ∧ hi ≤ big30) ∧ n' ≤ n + 1) := by
    refine gx_binR (P := fun d n' => ∃ i : Int, d = .int i ∧ (0 ≤ i ∧ i < 4) ∧ n' ≤ n + 1) hl (gx_draw (gv_v rfl) gv_c ⟨by decide, by decide⟩ (by omega)) ?_
    rintro y n' ⟨i, rfl, hi, hn'⟩ Q q
    rcases (show i = 0 ∨ i = 1 ∨ i = 2 ∨ i = 3 by omega) with rfl | rfl | rfl | rfl
    · exact q _ ⟨2, rfl, ⟨by decide, by decide⟩, hn'⟩
    · exact q _ ⟨3, rfl, ⟨by decide, by decide⟩, hn'⟩
    · exact q _ ⟨10, rfl, ⟨by decide, by decide⟩, hn'⟩
    · exact q _ ⟨big30, rfl, ⟨by decide, Int.le_refl _⟩, hn'⟩
  refine kq_setx dr ?_
  rintro d n1 ⟨hi, rfl, h1, k1⟩
  exact rest hi n1 h1 k1
theorem value_loop (Z : Cl) (E : DEnds) (n : Nat) (w : D) (x : Int) (hx : -(2 ^ 64) < x ∧ x < 2 ^ 64) : ∀ (a : List Int) (v : Int) (s : Sl), (∀ s, E.nx [.val w, .val (.int x), .val (.int (a.foldl (fun s c => s * x + c) v)), s] n) → kFors (kg_law_value_1 Z) (kb_law_value_2 Z) E (iD a) [.val w, .val (.int x), .val (.int v), s] n
  | [], v, s, q => q s
  | c :: a, v, s, q => ks_set (S := [.val w, .val (.int x), .val (.int v), .val (.int c)]) (gv_add (L54.gv_mul (gv_b rfl) (gv_b rfl) (.inl (.inr hx))) (gv_b rfl)) (value_loop Z E n w x hx a (v * x + c) _ q)
theorem m_law_value (Z : Cl) : ∀ ds n Q, c_law_value Z ds n Q → kb_law_value Z ⟨fun _ n' => Q .non n', Q, fun _ _ => False, fun _ _ => False⟩ (startD ["row", "value", "found", "number"] ds) n := by
  rintro ds n Q ⟨a, x, rfl, hx, q⟩
  unfold kb_law_value
  refine kq_set (S := [.val (.lst (iD a)), .val (.int x), .no, .no]) (S' := [.val (.lst (iD a)), .val (.int x), .val (.int 0), .no]) gv_c ?_
  refine kq_for (ds := iD a.reverse) (by show GvA _ _ (List.map D.int a.reverse); rw [List.map_reverse]; exact gi_L (gv_revL (gv_b rfl))) (value_loop Z _ n _ x hx a.reverse 0 _ fun s => ?_)
  dsimp only
  exact ks_ret (gv_v rfl) q
end L54
namespace L54
open PySem PySem.Spec PyProof.Rows L2 DL
open TL
theorem pl_str (k : Nat) {x : Str} (h : PyData.strOk x = true) : D.pl k (.str x) := by cases k <;> exact h
theorem eqb_strs (x y : Str) : D.eqb (.str x) (.str y) = (x == y) := by
  unfold D.eqb
  simp only [D.py, PyData.eqv]
theorem ok_signs {x : Str} (h : ∀ c ∈ x.cps.toList, c < 1000) : PyData.strOk x = true := by
  unfold PyData.strOk
  rw [← Array.all_toList, List.all_eq_true]
  intro c hc
  have := h c hc
  exact decide_eq_true (by omega)
theorem str_ext {x y : Str} (h : x.cps.toList = y.cps.toList) : x = y := by
  cases x; cases y
  congr 1
  exact Array.toList_inj.mp h
theorem word_tl (x : Int) : (wordL x).cps.toList = if x < 0 then 45 :: numL x.natAbs else numL x.natAbs := by
  unfold wordL
  cases x with
  | ofNat n =>
    rw [if_neg (by have := Int.natCast_nonneg n; show ¬ ((n : Int) < 0); omega)]
    exact tl_num n
  | negSucc n =>
    rw [if_pos (Int.negSucc_lt_zero n), signs_ofString]
    show ("-" ++ Nat.repr (n + 1)).toList.map Char.toNat = 45 :: numL (n + 1)
    rw [String.toList_append, List.map_append, Nat.toList_repr]
    rfl
theorem numL_head (n : Nat) (h0 : 0 < n) : ∃ c cs, numL n = c :: cs ∧ c ≠ 48 := by
  induction n using Nat.strongRecOn with
  | _ n ih =>
    by_cases h : n < 10
    · exact ⟨48 + n, [], numL_lt h, by omega⟩
    · obtain ⟨c, cs, e, hc⟩ := ih (n / 10) (by omega) (by omega)
      exact ⟨c, cs ++ [48 + n % 10], by rw [numL_step (by omega), e]; rfl, hc⟩
theorem word_signs (x : Int) : ∀ c ∈ (wordL x).cps.toList, c = 45 ∨ (48 ≤ c ∧ c ≤ 57) := by
  intro c hc
  rw [word_tl] at hc
  split at hc
  · rcases List.mem_cons.mp hc with e | hc
    · exact .inl e
    · exact .inr (numL_digits _ c hc)
  · exact .inr (numL_digits _ c hc)
theorem word_ok (x : Int) : PyData.strOk (wordL x) = true := ok_signs fun c hc => by have := word_signs x c hc; omega
theorem word_len {x : Int} (h : x.natAbs.log2 < 1920) : (wordL x).length ≤ 1921 := int_text_len_1921 h
theorem word_back {x : Int} (h : x.natAbs.log2 < 1920) : PySem.intText? (wordL x) = some x := by
  have hl := word_len h
  have e := word_tl x
  by_cases hx : x < 0
  · rw [if_pos hx] at e
    rw [intText_neg e (numL_digits _) (numL_ne _) (by omega), numL_val]
    congr 1
    omega
  · rw [if_neg hx] at e
    rw [intText_digits (by rw [e]; exact numL_digits _) (by rw [e]; exact numL_ne _) (by omega), e, numL_val]
    congr 1
    omega
theorem head1 {z : Str} {c : Nat} {cs : List Nat} (h : z.cps.toList = c :: cs) : cutS z none (some 1) = ⟨#[c]⟩ := by
  have hl : z.length = cs.length + 1 := by
    show z.cps.size = _
    rw [← Array.length_toList, h]; rfl
  unfold cutS
  rw [h, hl]
  rfl
theorem tail1 {z : Str} {c : Nat} {cs : List Nat} (h : z.cps.toList = c :: cs) : cutS z (some 1) none = ⟨cs.toArray⟩ := by
  have hl : z.length = cs.length + 1 := by
    show z.cps.size = _
    rw [← Array.length_toList, h]; rfl
  unfold cutS
  rw [h, hl]
  have e : HT.sIx (cs.length + 1) 0 (some 1) = 1 := by unfold HT.sIx; simp
  have e2 : HT.sIx (cs.length + 1) (cs.length + 1) none = cs.length + 1 := rfl
  rw [e, e2, List.drop_one, List.tail_cons, Nat.add_sub_cancel, List.take_length]
end L54
namespace L54
open PySem PySem.Spec PyProof.Rows L2 DL
open TL
theorem word_zero : wordL 0 = Str.ofString "0" := by
  refine str_ext ?_
  rw [word_tl]
  decide
theorem word_ne {x : Int} (hx : x ≠ 0) (h : x.natAbs.log2 < 1920) : (wordL x == Str.ofString "0") = false := by
  refine beq_eq_false_iff_ne.mpr fun e => hx ?_
  have e1 := word_back h
  rw [e, ← word_zero, word_back (by decide)] at e1
  injection e1 with e1
  exact e1.symm
theorem gv_str {S : List Sl} {x : Str} : Gv (kC (.str x)) S (.str x) := gv_c
theorem tyn_str (x : Str) : (D.str x).tyn = "str" := rfl
theorem kit_ss : kitB "str" "str" = some true := by decide +kernel
section
variable {S : List Sl} {k : KE} {z : Str} {c : Nat} {cs : List Nat}
theorem gv_headS (h : Gv k S (.str z)) (e : z.cps.toList = c :: cs) (hl : z.length ≤ 1000000) : Gv (kSlX k kNoPart (kPart (kC (.int 1)))) S (.str ⟨#[c]⟩) := fun n Q q => h n _ (show z.length ≤ 1000000 ∧ Q (.str (cutS z none (some 1))) S n from ⟨hl, by rw [head1 e]; exact q⟩)
theorem gv_tailS (h : Gv k S (.str z)) (e : z.cps.toList = c :: cs) (hl : z.length ≤ 1000000) : Gv (kSlX k (kPart (kC (.int 1))) kNoPart) S (.str ⟨cs.toArray⟩) := fun n Q q => h n _ (show z.length ≤ 1000000 ∧ Q (.str (cutS z (some 1) none)) S n from ⟨hl, by rw [tail1 e]; exact q⟩)
theorem gv_isS (h : Gv k S (.str z)) : Gv (kCall bIsi (kCons k (kCons (kC (.ty "str")) kNil))) S (.bl true) := fun n Q q => h n _ ⟨by rw [tyn_str]; decide, by rw [tyn_str, kit_ss]; exact q⟩
theorem gv_ixS (h : Gv k S (.str z)) (e : z.cps.toList = c :: cs) (hl : z.length ≤ 1000000) : Gv (kBin dIx k (kC (.int 0))) S (.str ⟨#[c]⟩) := gv_bin h gv_c fun Q q => ⟨hl, by
  have e2 : atI (c :: cs) 0 = some c := by
    unfold atI ixN
    rw [List.length_cons, if_pos (by omega), if_pos (by omega)]
    rfl
  rw [e, e2]
  exact q⟩
end
theorem gv_orT {S : List Sl} {ka kb : KE} (h1 : Gv ka S (.bl true)) : Gv (kOrV ka kb) S (.bl true) := fun n Q q => h1 n _ q
theorem gv_orF {S : List Sl} {ka kb : KE} {d : D} (h1 : Gv ka S (.bl false)) (h2 : Gv kb S d) : Gv (kOrV ka kb) S d := fun n Q q => h1 n _ (h2 n _ q)
theorem m_words_of (Z : Cl) : ∀ ds n Q, c_words_of Z ds n Q → kb_words_of Z ⟨fun _ n' => Q .non n', Q, fun _ _ => False, fun _ _ => False⟩ (startD ["text"] ds) n := by
  rintro ds n Q ⟨t, rfl, hl, q⟩
  unfold kb_words_of
  refine kq_if0 (S := [.val (.str t)]) (gvt_not (gvt_of (gv_isS (gv_b rfl)))) ?_
  exact ⟨by decide +kernel, hl, q⟩
theorem m_is_written (Z : Cl) : ∀ ds n Q, c_is_written Z ds n Q → kb_is_written Z ⟨fun _ n' => Q .non n', Q, fun _ _ => False, fun _ _ => False⟩ (startD ["word", "figures", "figure"] ds) n := by
  rintro ds n Q ⟨x, rfl, hx, q⟩
  unfold kb_is_written
  have hl := word_len (x := x) (by omega)
  have e := word_tl x
  obtain ⟨c0, cs0, e0⟩ : ∃ c cs, numL x.natAbs = c :: cs := by
    cases h : numL x.natAbs with
    | nil => exact absurd h (numL_ne _)
    | cons c cs => exact ⟨c, cs, rfl⟩
  have hd : ∀ c ∈ numL x.natAbs, 48 ≤ c ∧ c ≤ 57 := fun c hc => numL_digits _ c hc
  have hlen : (numL x.natAbs).length ≤ 1921 := by
    have := len_tl (wordL x)
    rw [show tl (wordL x) = _ from e] at this
    split at this
    · rw [List.length_cons] at this; omega
    · omega
  have figs : Gv (kIf (kTest (kBin dEq (kSlX (kB 0) kNoPart (kPart (kC (.int 1)))) (kC (.str (Str.ofString "-"))))) (kSlX (kB 0) (kPart (kC (.int 1))) kNoPart) (kV 0)) [.val (.str (wordL x)), .no, .no] (.str ⟨(numL x.natAbs).toArray⟩) := by
    have sl : ∀ (c : Nat) (cs : List Nat), (wordL x).cps.toList = c :: cs → c < 1000 → Gv (kBin dEq (kSlX (kB 0) kNoPart (kPart (kC (.int 1)))) (kC (.str (Str.ofString "-")))) [.val (.str (wordL x)), .no, .no] (.bl ((⟨#[c]⟩ : Str) == Str.ofString "-")) := by
      intro c cs h hc
      refine (gv_eq (x := .str ⟨#[c]⟩) (y := .str (Str.ofString "-")) (gv_headS (gv_b rfl) h (by omega)) gv_c (pl_str 8 (ok_signs fun d hd => by rw [List.mem_singleton.mp hd]; exact hc)) (pl_str 8 (by decide +kernel))).cast (by rw [eqb_strs])
    by_cases z : x < 0
    · rw [if_pos z] at e
      refine gv_iteT ((gvt_of (sl 45 _ e (by decide))).cast (by decide +kernel)) (gv_tailS (gv_b rfl) e (by omega))
    · rw [if_neg z] at e
      refine gv_iteF ((gvt_of (sl c0 cs0 (e.trans e0) (by have := hd c0 (by rw [e0]; exact List.mem_cons_self ..); omega))).cast ?_) ((gv_v rfl).cast ?_)
      · refine beq_eq_false_iff_ne.mpr fun h => ?_
        have h2 := hd c0 (by rw [e0]; exact List.mem_cons_self ..)
        have h3 : ([c0] : List Nat) = [45] := by
          have := congrArg (fun s : Str => s.cps.toList) h
          exact this.trans (by decide)
        injection h3 with h3
        omega
      · congr 1
        exact str_ext e
  refine kq_set (S' := [.val (.str (wordL x)), .val (.str ⟨(numL x.natAbs).toArray⟩), .no]) figs ?_
  have okf : PyData.strOk ⟨(numL x.natAbs).toArray⟩ = true := ok_signs fun c hc => by have := hd c (by simpa using hc); omega
  have all1 : Gv (kOut (kCompO (kIterS (kV 1)) (kg_is_written_1 Z) kYes (ke_is_written_2 Z) [2])) [.val (.str (wordL x)), .val (.str ⟨(numL x.natAbs).toArray⟩), .no] (.lst (((numL x.natAbs).map fun _ => true).map D.bl)) := by
    refine (gv_comp (f := fun c : Nat => D.str ⟨#[c]⟩) (g := fun _ => D.bl true) (xs := numL x.natAbs) (fun n Q q => gv_v rfl n _ q) (by omega) rfl (fun c hc => ?_) fun d => rfl).cast (by rw [List.map_map]; rfl)
    refine gv_bin (gv_b rfl) gv_c fun Q q => ⟨c, rfl, ?_⟩
    have hc := hd c hc
    have : decide (c ∈ (Str.ofString "0123456789").cps.toList) = true := by
      rcases (show c = 48 ∨ c = 49 ∨ c = 50 ∨ c = 51 ∨ c = 52 ∨ c = 53 ∨ c = 54 ∨ c = 55 ∨ c = 56 ∨ c = 57 by omega) with rfl | rfl | rfl | rfl | rfl | rfl | rfl | rfl | rfl | rfl <;> decide
    rw [this]
    exact q
  refine kq_if0 (gvt_orF ((gvt_of (gv_eq (gv_b rfl) gv_c (pl_str 8 okf) (pl_str 8 (by decide +kernel)))).cast ?_) ((gvt_not (gvt_of (gv_all all1))).cast ?_)) ?_
  · rw [eqb_strs]
    refine beq_eq_false_iff_ne.mpr fun h => ?_
    have := congrArg (fun s : Str => s.cps.toList) h
    have h3 : (c0 :: cs0 : List Nat) = [] := e0.symm.trans (this.trans (by decide))
    cases h3
  · have : (((numL x.natAbs).map fun _ => true).all id) = true := by
      rw [List.all_eq_true]
      intro b hb
      obtain ⟨_, _, rfl⟩ := List.mem_map.mp hb
      rfl
    rw [this]; rfl
  · have ix : Gv (kBin dNe (kBin dIx (kB 1) (kC (.int 0))) (kC (.str (Str.ofString "0")))) [.val (.str (wordL x)), .val (.str ⟨(numL x.natAbs).toArray⟩), .no] (.bl (!((⟨#[c0]⟩ : Str) == Str.ofString "0"))) := by
      refine (gv_ne (x := .str ⟨#[c0]⟩) (gv_ixS (gv_b rfl) e0 (by show (numL x.natAbs).toArray.size ≤ _; rw [List.size_toArray]; omega)) gv_c (pl_str 8 (ok_signs fun d hd2 => by rw [List.mem_singleton.mp hd2]; have := hd c0 (by rw [e0]; exact List.mem_cons_self ..); omega)) (pl_str 8 (by decide +kernel))).cast (by rw [eqb_strs])
    rcases Nat.eq_zero_or_pos x.natAbs with z | z
    · have c48 : c0 = 48 := by
        rw [z] at e0
        have : numL 0 = [48] := by decide
        rw [this] at e0
        injection e0 with e0
        exact e0.symm
      have x0 : x = 0 := by omega
      subst x0
      rw [c48] at ix
      refine ks_ret (d := .bl true) (gv_orF (ix.cast (congrArg (fun b => D.bl (!b)) (by decide +kernel : ((⟨#[48]⟩ : Str) == Str.ofString "0") = true))) ((gv_eq (gv_b rfl) gv_c (pl_str 8 (word_ok 0)) (pl_str 8 (by decide +kernel))).cast ?_)) q
      rw [eqb_strs, word_zero]
      exact congrArg D.bl (beq_self_eq_true _)
    · obtain ⟨c, cs, e1, h1⟩ := numL_head x.natAbs z
      rw [e0] at e1
      injection e1 with e1 _
      subst e1
      refine ks_ret (gv_orT (ix.cast ?_)) q
      have : ((⟨#[c0]⟩ : Str) == Str.ofString "0") = false := by
        refine beq_eq_false_iff_ne.mpr fun h => h1 ?_
        have h3 : ([c0] : List Nat) = [48] := (congrArg (fun s : Str => s.cps.toList) h).trans (by decide)
        injection h3
      rw [this]; rfl
theorem word0 : wordL 0 = Str.ofString "0" := word_zero
/-- the words of an amount's text -/
def wordsL (a : List Int) : List Int := if a = [] then [0] else a
theorem log_of {N : Nat} {x : Int} (h : x.natAbs < 2 ^ N) (h0 : 0 < N) : x.natAbs.log2 < N := by
  by_cases z : x.natAbs = 0
  · rw [z]; exact Nat.lt_of_le_of_lt (by decide) h0
  · exact (Nat.log2_lt z).mpr h
theorem bd_log {a : List Int} (h : bd 1000 a) : ∀ x ∈ a, x.natAbs.log2 < 1900 := fun x hx => Nat.lt_trans (log_of (h x hx) (by decide)) (by decide)
theorem text_words (a : List Int) : textL a = Txt.join (Str.ofString " ") ((wordsL a).map wordL) := by
  unfold textL wordsL
  by_cases z : a = []
  · rw [if_pos z, if_pos z, List.map_singleton, TL.join_eq, word_zero]; rfl
  · rw [if_neg z, if_neg z]
theorem words_ne (a : List Int) : wordsL a ≠ [] := by
  unfold wordsL
  split
  · simp
  · assumption
theorem word_free (x : Int) : 32 ∉ tl (wordL x) := fun h => by
  have := word_signs x 32 h
  omega
theorem words_split (a : List Int) : Txt.split (textL a) (Str.ofString " ") = (wordsL a).map wordL := by
  rw [text_words]
  refine TL.split_join (s := 32) (S := []) (by decide +kernel) (by decide +kernel) (fun e => words_ne a (List.map_eq_nil_iff.mp e)) fun p hp => ?_
  obtain ⟨x, _, rfl⟩ := List.mem_map.mp hp
  exact word_free x
theorem joinL_len (y : List Nat) : ∀ (l : List (List Nat)) (K : Nat), (∀ p ∈ l, p.length ≤ K) → (joinL y l).length ≤ l.length * (K + y.length)
  | [], K, h => Nat.zero_le _
  | [p], K, h => by
    show p.length ≤ 1 * _
    have := h p (List.mem_singleton.mpr rfl)
    omega
  | p :: r :: l, K, h => by
    show (p ++ (y ++ joinL y (r :: l))).length ≤ _
    have ih := joinL_len y (r :: l) K fun q hq => h q (List.mem_cons_of_mem _ hq)
    have := h p (List.mem_cons_self ..)
    rw [List.length_append, List.length_append, List.length_cons, Nat.succ_mul]
    omega
theorem text_len {a : List Int} (h : a.length ≤ 100) (hb : bd 1000 a) : (textL a).length ≤ 1000000 := by
  have hb' : ∀ x ∈ wordsL a, x.natAbs.log2 < 1900 := by
    unfold wordsL
    split
    · intro x hx
      rw [List.mem_singleton.mp hx]
      decide
    · exact bd_log hb
  have hl : (wordsL a).length ≤ 101 := by
    unfold wordsL
    split
    · decide
    · omega
  rw [text_words, len_tl, TL.join_eq, tl_join]
  refine Nat.le_trans (joinL_len _ _ 1921 fun p hp => ?_) ?_
  · obtain ⟨z, hz, rfl⟩ := List.mem_map.mp hp
    obtain ⟨x, hx, rfl⟩ := List.mem_map.mp hz
    rw [← len_tl]
    exact word_len (Nat.lt_trans (hb' x hx) (by decide))
  · rw [List.length_map, List.length_map, show (tl (Str.ofString " ")).length = 1 by decide +kernel]
    omega
theorem trim_words {a : List Int} (h : normal a) : trimL (wordsL a) = a := by
  unfold wordsL
  split
  · rename_i z
    rw [z]; decide
  · exact trim_of_normal h
end L54
namespace L54
open PySem PySem.Spec PyProof.Rows L2 DL
open TL
def soft (s : Sl) : Prop := s = .no ∨ ∃ d, s = .val d
theorem read_loop (Z : Cl) (E : DEnds) (n : Nat) (c t w : D) : ∀ (ws : List Int) (k : Nat) (s3 s4 : Sl), soft s3 → soft s4 → (∀ x ∈ ws, x.natAbs.log2 < 1900) → (∀ s3 s4, soft s3 → soft s4 → E.nx [.val c, .val t, .val w, s3, s4] n) → kFors (kg_Amount_read_1 Z) (kb_Amount_read_2 Z) E (enumD k (ws.map fun x => D.str (wordL x))) [.val c, .val t, .val w, s3, s4] n
  | [], k, s3, s4, h3, h4, h, q => q s3 s4 h3 h4
  | x :: ws, k, s3, s4, h3, h4, h, q => by
    refine ⟨rfl, ?_⟩
    show kb_Amount_read_2 Z _ [.val c, .val t, .val w, .val (.int (k : Nat)), .val (.str (wordL x))] n
    unfold kb_Amount_read_2
    exact ks_if0 (gvt_not (gvt_of (b := true) (gv_fn (gv_cons (gv_v rfl) gv_nil) fun n Q q => ⟨x, rfl, h x (List.mem_cons_self ..), q⟩))) (read_loop Z E n c t w ws (k + 1) _ _ (.inr ⟨_, rfl⟩) (.inr ⟨_, rfl⟩) (fun y hy => h y (List.mem_cons_of_mem _ hy)) q)
theorem last_at (l : List D) (d : D) (h : l.getLast? = some d) : atI l (-1) = some d := by
  have hl : l ≠ [] := fun e => by rw [e] at h; cases h
  have hp := List.length_pos_iff.mpr hl
  unfold atI ixN
  rw [if_neg (by omega), if_pos (by omega)]
  rw [List.getLast?_eq_getElem?] at h
  show l[((-1 : Int) + (l.length : Nat)).toNat]? = some d
  rw [show ((-1 : Int) + (l.length : Nat)).toNat = l.length - 1 by omega]
  exact h
theorem word_short {x : Int} (h : x.natAbs < 2 ^ 1000) : (wordL x).length ≤ 640 := by
  have h1 : x.natAbs < 10 ^ 400 := Nat.lt_trans h (by decide +kernel)
  have := int_text_length_le10 (by decide) h1
  unfold wordL
  rw [PySem.ofString_length]
  omega
theorem gv_intS {S : List Sl} {k : KE} {x : Int} (h : Gv k S (.str (wordL x))) (hx : x.natAbs < 2 ^ 1000) : Gv (kCall bIntX (kCons k kNil)) S (.int x) := gv_call (gv_cons h gv_nil) fun Q q => ⟨x, word_back (Nat.lt_trans (log_of hx (by decide)) (by decide)), word_short hx, q⟩
theorem gv_strI {S : List Sl} {k : KE} {x : Int} (own : List (Addr × DC)) (h : Gv k S (.int x)) (hx : x.natAbs.log2 < 1900) : Gv (kStrO own k) S (.str (wordL x)) := fun n Q q => h n _ ⟨Nat.lt_trans hx (by decide), q⟩
theorem m_Amount_read (Z : Cl) : ∀ ds n Q, c_Amount_read Z ds n Q → kb_Amount_read Z ⟨fun _ n' => Q .non n', Q, fun _ _ => False, fun _ _ => False⟩ (startD ["cls", "text", "words", "at", "word"] ds) n := by
  rintro ds n Q ⟨a, rfl, hn, hl, hb, q⟩
  unfold kb_Amount_read
  have hw : ∀ x ∈ wordsL a, x.natAbs.log2 < 1900 := by
    unfold wordsL
    split
    · intro x hx
      rw [List.mem_singleton.mp hx]
      decide
    · exact bd_log hb
  have hz : ∀ x ∈ wordsL a, x.natAbs < 2 ^ 1000 := by
    unfold wordsL
    split
    · intro x hx
      rw [List.mem_singleton.mp hx]
      exact Nat.two_pow_pos _
    · exact hb
  have hwl : (wordsL a).length ≤ 101 := by
    unfold wordsL
    split
    · decide
    · omega
  refine kq_set (d := .lst ((wordsL a).map fun x => D.str (wordL x))) (S := [.val (.ref Z.Amount), .val (.str (textL a)), .no, .no, .no]) (S' := [.val (.ref Z.Amount), .val (.str (textL a)), .val (.lst ((wordsL a).map fun x => D.str (wordL x))), .no, .no]) (gv_fn (gv_cons (gv_v rfl) gv_nil) fun n Q q => ⟨textL a, rfl, text_len hl hb, by
    rw [words_split, List.map_map]; exact q⟩) ?_
  refine kq_for (gi_enumL (gv_v rfl)) (read_loop Z _ n _ _ _ (wordsL a) 0 _ _ (.inl rfl) (.inl rfl) hw fun s3 s4 h3 h4 => ?_)
  dsimp only
  have fin : GvT (kAndT (kTest (kBin dGt (kCall bLen (kCons (kB 2) kNil)) (kC (.int 1)))) (kTest (kBin dEq (kBin dIx (kB 2) (kUn dNeg (kC (.int 1)))) (kC (.str (Str.ofString "0")))))) [.val (.ref Z.Amount), .val (.str (textL a)), .val (.lst ((wordsL a).map fun x => D.str (wordL x))), s3, s4] false := by
    by_cases z : 1 < (wordsL a).length
    · have e : wordsL a = a := by
        unfold wordsL at z ⊢
        split
        · rename_i h; rw [if_pos h] at z; exact absurd z (by decide)
        · rfl
      have hne : a ≠ [] := fun h => by rw [e, h] at z; cases z
      have hlast : a.getLast? = some (a.getD (a.length - 1) 0) := by
        rw [List.getLast?_eq_getElem?, List.getD_eq_getElem?_getD]
        have : a.length - 1 < a.length := by have := List.length_pos_iff.mpr hne; omega
        rw [List.getElem?_eq_getElem this]; rfl
      have h0 : a.getD (a.length - 1) 0 ≠ 0 := hn.resolve_left hne
      have hm : a.getD (a.length - 1) 0 ∈ a := List.mem_of_getLast? hlast
      refine gvt_andT ((gvt_of (gv_gt (gv_lenL (gv_b rfl)) gv_c)).cast (decide_eq_true (by rw [List.length_map]; omega))) ((gvt_of (gv_eq (x := .str (wordL (a.getD (a.length - 1) 0))) (gv_ixL (gv_b rfl) (gv_neg gv_c) (last_at _ _ ?_)) gv_c (pl_str 8 (word_ok _)) (pl_str 8 (by decide +kernel)))).cast ?_)
      · rw [List.getLast?_map, e, hlast]; rfl
      · rw [eqb_strs]
        exact word_ne h0 (Nat.lt_trans (bd_log hb _ hm) (by decide))
    · exact gvt_andF ((gvt_of (gv_gt (gv_lenL (gv_b rfl)) gv_c)).cast (decide_eq_false (by rw [List.length_map]; omega)))
  refine kq_if0 fin ?_
  refine ks_ret (gv_stat (z := am Z a) (ds := [.lst (iD (wordsL a))]) (gv_b rfl) (gv_cons ?_ gv_nil) fun n Q q => ⟨wordsL a, _, rfl, .inr rfl, by omega, by rw [trim_words hn]; exact q⟩) q
  have ok : DL.okW [.val (.ref Z.Amount), .val (.str (textL a)), .val (.lst ((wordsL a).map fun x => D.str (wordL x))), s3, s4] [4] = true := by
    rcases h4 with rfl | ⟨_, rfl⟩ <;> rfl
  refine (gv_compI (f := fun x => D.str (wordL x)) (g := fun x => x) (xs := wordsL a) (gi_L (gv_v rfl)) (by omega) ok (fun x hx => ?_) fun d => rfl).cast (by rw [List.map_id'])
  exact gv_intS (gv_b rfl) (hz x hx)
theorem m_Amount_str (Z : Cl) : ∀ ds n Q, c_Amount_str Z ds n Q → kb_Amount_str Z ⟨fun _ n' => Q .non n', Q, fun _ _ => False, fun _ _ => False⟩ (startD ["self", "number"] ds) n := by
  rintro ds n Q ⟨a, rfl, hl, hb, q⟩
  unfold kb_Amount_str
  have hw := bd_log hb
  by_cases z : a = []
  · subst z
    exact kq_if1 (S := [.val (am Z []), .no]) ((gvt_of (gv_eqi (gv_lenI (a := []) (gv_num (gv_b rfl))) gv_c)).cast rfl) (ks_ret gv_c q)
  · refine kq_if0 (S := [.val (am Z a), .no]) ((gvt_of (gv_eqi (gv_lenI (gv_num (gv_b rfl))) gv_c)).cast ?_) ?_
    · have := List.length_pos_iff.mpr z
      exact beq_eq_false_iff_ne.mpr (by omega)
    · refine ks_ret (d := .str (textL a)) (fun n Q q => gv_c n _ ?_) q
      refine gv_comp (f := D.int) (g := fun x => D.str (wordL x)) (xs := a) (S := [.val (am Z a), .no]) (v := 1) (gi_T (gv_num (gv_b rfl))) (by omega) rfl (fun x hx => gv_strI _ (gv_b rfl) (hw x hx)) (fun d => rfl) n _ ?_
      refine ⟨a.map wordL, by rw [List.map_map]; rfl, ?_, ?_⟩
      · have : ∀ l : List Int, (∀ x ∈ l, x.natAbs.log2 < 1900) → ((l.map wordL).map (·.length)).sum ≤ l.length * 1921 := by
          intro l
          induction l with
          | nil => intro _; exact Nat.le_refl _
          | cons x l ih =>
            intro h
            have h1 := word_len (x := x) (Nat.lt_trans (h x (List.mem_cons_self ..)) (by decide))
            have h2 := ih fun y hy => h y (List.mem_cons_of_mem _ hy)
            rw [List.map_cons, List.map_cons, List.sum_cons, List.length_cons, Nat.succ_mul]
            omega
        have h1 := this a hw
        rw [List.length_map, show (Str.ofString " ").length = 1 by decide +kernel]
        omega
      · have e : textL a = Txt.join (Str.ofString " ") (a.map wordL) := by unfold textL; rw [if_neg z]
        rw [← e]
        exact q
end L54
namespace L54
open PySem PySem.Spec PyProof.Rows L2 DL
open TL
theorem pys_ints : ∀ a : List Int, D.pys (iD a) = a.map PyData.int
  | [] => rfl
  | x :: a => by show D.py (.int x) :: D.pys (iD a) = _; rw [pys_ints a]; rfl
theorem joinL_signs (y : List Nat) (hy : ∀ c ∈ y, c < 1000) : ∀ (l : List (List Nat)), (∀ p ∈ l, ∀ c ∈ p, c < 1000) → ∀ c ∈ joinL y l, c < 1000
  | [], h, c, hc => by cases hc
  | [p], h, c, hc => h p (List.mem_singleton.mpr rfl) c hc
  | p :: r :: l, h, c, hc => by
    have hc : c ∈ p ++ (y ++ joinL y (r :: l)) := hc
    rcases List.mem_append.mp hc with hc | hc
    · exact h p (List.mem_cons_self ..) c hc
    · rcases List.mem_append.mp hc with hc | hc
      · exact hy c hc
      · exact joinL_signs y hy (r :: l) (fun q hq => h q (List.mem_cons_of_mem _ hq)) c hc
theorem join_facts (a : List Int) (hb : ∀ x ∈ a, x.natAbs.log2 < 1900) : (Str.join ", " (PyData.shownAll (a.map PyData.int))).length ≤ a.length * 1923 ∧ ∀ c ∈ tl (Str.join ", " (PyData.shownAll (a.map PyData.int))), c < 1000 := by
  rw [PyData.shownAll_ints, len_tl, tl_join, show tl (", " : Str) = [44, 32] by decide +kernel]
  have e : ∀ p ∈ (a.map fun n => ((toString n : String) : Str)).map tl, ∃ x ∈ a, p = tl (wordL x) := fun p hp => by
    obtain ⟨z, hz, rfl⟩ := List.mem_map.mp hp
    obtain ⟨x, hx, rfl⟩ := List.mem_map.mp hz
    exact ⟨x, hx, rfl⟩
  constructor
  · refine Nat.le_trans (joinL_len _ _ 1921 fun p hp => ?_) ?_
    · obtain ⟨x, hx, rfl⟩ := e p hp
      rw [← len_tl]
      exact word_len (Nat.lt_trans (hb x hx) (by decide))
    · rw [List.length_map, List.length_map]
      exact Nat.le_refl _
  · refine joinL_signs _ (by decide) _ fun p hp c hc => ?_
    obtain ⟨x, hx, rfl⟩ := e p hp
    have := word_signs x c hc
    omega
theorem wrap_facts {o z : Str} {t : Str} {K : Nat} (h1 : o.length ≤ 2) (h2 : z.length ≤ 2) (h3 : ∀ c ∈ tl o, c < 1000) (h4 : ∀ c ∈ tl z, c < 1000) (h5 : t.length ≤ K) (h6 : ∀ c ∈ tl t, c < 1000) : (o ++ t ++ z).length ≤ K + 4 ∧ PyData.strOk (o ++ t ++ z) = true := by
  constructor
  · rw [len_tl, tl_append, tl_append, List.length_append, List.length_append, ← len_tl, ← len_tl, ← len_tl]
    omega
  · refine ok_signs fun c hc => ?_
    have hc : c ∈ tl (o ++ t ++ z) := hc
    rw [tl_append, tl_append] at hc
    rcases List.mem_append.mp hc with hc | hc
    · rcases List.mem_append.mp hc with hc | hc
      · exact h3 c hc
      · exact h6 c hc
    · exact h4 c hc
theorem rep_T {a : List Int} (hl : a.length ≤ 200) (hb : ∀ x ∈ a, x.natAbs.log2 < 1900) : (D.tup (iD a)).py.showable = true ∧ (D.tup (iD a)).py.shown.length ≤ 1000000 ∧ PyData.strOk (D.tup (iD a)).py.shown = true := by
  show PyData.showable (.tuple (D.pys (iD a))) = true ∧ (PyData.tuple (D.pys (iD a))).shown.length ≤ 1000000 ∧ PyData.strOk (PyData.tuple (D.pys (iD a))).shown = true
  rw [pys_ints, PyData.shown_tuple]
  have f := join_facts a hb
  refine ⟨?_, ?_⟩
  · show PyData.showableAll (a.map PyData.int) = true
    exact PyData.showableAll_ints a fun x hx => Nat.lt_trans (hb x hx) (by decide)
  · have w := fun (z : Str) h2 h4 => wrap_facts (o := ("(" : Str)) (z := z) (by decide +kernel) h2 (by decide +kernel) h4 f.1 f.2
    split
    · have w := w (",)" : Str) (by decide +kernel) (by decide +kernel)
      exact ⟨Nat.le_trans w.1 (by omega), w.2⟩
    · have w := w (")" : Str) (by decide +kernel) (by decide +kernel)
      exact ⟨Nat.le_trans w.1 (by omega), w.2⟩
theorem rep_L {a : List Int} (hl : a.length ≤ 200) (hb : ∀ x ∈ a, x.natAbs.log2 < 1900) : (D.lst (iD a)).py.showable = true ∧ (D.lst (iD a)).py.shown.length ≤ 1000000 ∧ PyData.strOk (D.lst (iD a)).py.shown = true := by
  show PyData.showable (.list (D.pys (iD a))) = true ∧ (PyData.list (D.pys (iD a))).shown.length ≤ 1000000 ∧ PyData.strOk (PyData.list (D.pys (iD a))).shown = true
  rw [pys_ints, PyData.shown_list]
  have f := join_facts a hb
  refine ⟨?_, ?_⟩
  · show PyData.showableAll (a.map PyData.int) = true
    exact PyData.showableAll_ints a fun x hx => Nat.lt_trans (hb x hx) (by decide)
  · have w := wrap_facts (o := ("[" : Str)) (z := ("]" : Str)) (by decide +kernel) (by decide +kernel) (by decide +kernel) (by decide +kernel) f.1 f.2
    exact ⟨Nat.le_trans w.1 (by omega), w.2⟩
section
variable {S : List Sl} {k ka kb : KE} {a b : List Int} {Z : Cl} {d : D}
theorem gv_reprT (h : Gv k S (.tup (iD a))) (hl : a.length ≤ 200) (hb : ∀ x ∈ a, x.natAbs.log2 < 1900) : Gv (kCall bRepr (kCons k kNil)) S (.str (D.tup (iD a)).py.shown) := fun n Q q => h n _ ⟨pl_iT 6 a, (rep_T hl hb).1, (rep_T hl hb).2.1, q⟩
theorem gv_reprL (h : Gv k S (.lst (iD a))) (hl : a.length ≤ 200) (hb : ∀ x ∈ a, x.natAbs.log2 < 1900) : Gv (kCall bRepr (kCons k kNil)) S (.str (D.lst (iD a)).py.shown) := fun n Q q => h n _ ⟨pl_iL 6 a, (rep_L hl hb).1, (rep_L hl hb).2.1, q⟩
theorem gv_neSame {own : List (Addr × DC)} {g : Bool → Bool} {x : D} (ha : Gv ka S x) (hb : Gv kb S x) (hp : D.pl 8 x) (e : D.eqb x x = true) (hx : ∀ C gs, x ≠ .ins C gs) : Gv (kEqO own g dNe ka kb) S (.bl false) := gv_eqI hx ha hb fun Q q => ⟨hp, hp, by rw [e]; exact q⟩
theorem gv_eqSame {own : List (Addr × DC)} {g : Bool → Bool} {x : D} (ha : Gv ka S x) (hb : Gv kb S x) (hp : D.pl 8 x) (e : D.eqb x x = true) (hx : ∀ C gs, x ≠ .ins C gs) : Gv (kEqO own g dEq ka kb) S (.bl true) := gv_eqI hx ha hb fun Q q => ⟨hp, hp, by rw [e]; exact q⟩
theorem gv_eqXY {own : List (Addr × DC)} {g : Bool → Bool} {x y : D} {c : Bool} (ha : Gv ka S x) (hb : Gv kb S y) (hp : D.pl 8 x) (hp2 : D.pl 8 y) (e : D.eqb x y = c) (hx : ∀ C gs, x ≠ .ins C gs) : Gv (kEqO own g dEq ka kb) S (.bl c) := gv_eqI hx ha hb fun Q q => ⟨hp, hp2, by rw [e]; exact q⟩
theorem gv_neXY {own : List (Addr × DC)} {g : Bool → Bool} {x y : D} {c : Bool} (ha : Gv ka S x) (hb : Gv kb S y) (hp : D.pl 8 x) (hp2 : D.pl 8 y) (e : D.eqb x y = c) (hx : ∀ C gs, x ≠ .ins C gs) : Gv (kEqO own g dNe ka kb) S (.bl (!c)) := gv_eqI hx ha hb fun Q q => ⟨hp, hp2, by rw [e]; exact q⟩
theorem gv_eqA {g : Bool → Bool} {op : D2} (ha : Gv ka S (am Z a)) (hb : Gv kb S (am Z b)) : Gv (kEqO [(Z.Amount, c_Amount_eq Z)] g op ka kb) S (.bl (g (decide (a = b)))) := gv_eqO ha hb (show eqY Z.Amount (.ins Z.Amount _) from rfl) fun n Q q => ⟨a, _, rfl, .inl ⟨b, rfl, q⟩⟩
theorem gv_eqAN {g : Bool → Bool} {op : D2} {y : D} (ha : Gv ka S (am Z a)) (hb : Gv kb S y) (h1 : ∀ C gs, y ≠ .ins C gs) (h2 : y.tyn ≠ "") : Gv (kEqO [(Z.Amount, c_Amount_eq Z)] g op ka kb) S (.bl (g false)) := gv_eqO ha hb (by cases y <;> first | exact h2 | exact absurd rfl (h1 _ _)) fun n Q q => ⟨a, _, rfl, .inr ⟨h1, h2, q⟩⟩
theorem gv_strA (h : Gv k S (am Z a)) (hl : a.length ≤ 100) (hb : bd 1000 a) : Gv (kStrO [(Z.Amount, c_Amount_str Z)] k) S (.str (textL a)) := fun n Q q => h n _ (.inl ⟨rfl, a, rfl, hl, hb, q⟩)
theorem gv_lenA (h : Gv k S (am Z a)) : Gv (kLenO [(Z.Amount, "integers")] k) S (.int a.length) := fun n Q q => h n _ (.inl ⟨rfl, by
  show Q (.int ((iD a).length : Nat)) S n
  rw [List.length_map]; exact q⟩)
theorem gv_lenTO {own : List (Addr × Str)} (h : Gv k S (.tup (iD a))) : Gv (kLenO own k) S (.int a.length) := fun n Q q => h n _ (by
  show Q (.int ((iD a).length : Nat)) S n
  rw [List.length_map]; exact q)
theorem gv_lenLO {own : List (Addr × Str)} (h : Gv k S (.lst (iD a))) : Gv (kLenO own k) S (.int a.length) := fun n Q q => h n _ (by
  show Q (.int ((iD a).length : Nat)) S n
  rw [List.length_map]; exact q)
theorem gv_listA (h : Gv k S (am Z a)) (hl : a.length ≤ 1000000) : Gv (kListO [(Z.Amount, "integers")] k) S (.lst (iD a)) := fun n Q q => h n _ (.inl ⟨rfl, by rw [List.length_map]; exact hl, q⟩)
theorem gv_listTO {own : List (Addr × Str)} (h : Gv k S (.tup (iD a))) : Gv (kListO own k) S (.lst (iD a)) := fun n Q q => h n _ q
theorem gv_listLO {own : List (Addr × Str)} (h : Gv k S (.lst (iD a))) : Gv (kListO own k) S (.lst (iD a)) := fun n Q q => h n _ q
theorem gv_boolA (h : Gv k S (am Z a)) : Gv (kBoolO [(Z.Amount, "integers")] k) S (.bl (!decide (a = []))) := fun n Q q => h n _ (.inl ⟨rfl, by
  show Q (.bl ((((iD a).length : Nat) : Int) != 0)) S n
  rw [List.length_map]
  have : (((a.length : Nat) : Int) != 0) = !decide (a = []) := by cases a <;> simp; omega
  rw [this]; exact q⟩)
theorem gv_readA (h : Gv k S (.str (textL a))) (hn : normal a) (hl : a.length ≤ 100) (hb : bd 1000 a) : Gv (kClsM Z.Amount (c_Amount_read Z) (kC (.ref Z.Amount)) (kCons k kNil)) S (am Z a) := fun n Q q => h n _ |> fun f => ⟨rfl, f ⟨a, rfl, hn, hl, hb, q⟩⟩
theorem gv_join {ke : KE} (h : Gv ke S (.lst (a.map fun x => D.str (wordL x)))) (z : a ≠ []) (hl : a.length ≤ 100) (hb : bd 1000 a) : Gv (kJoin (kC (.str (Str.ofString " "))) ke) S (.str (textL a)) := fun n Q q => gv_c n _ (h n _ (by
  have hw := bd_log hb
  refine ⟨a.map wordL, by rw [List.map_map]; rfl, ?_, ?_⟩
  · have : ∀ l : List Int, (∀ x ∈ l, x.natAbs.log2 < 1900) → ((l.map wordL).map (·.length)).sum ≤ l.length * 1921 := by
      intro l
      induction l with
      | nil => intro _; exact Nat.le_refl _
      | cons x l ih =>
        intro h
        have h1 := word_len (x := x) (Nat.lt_trans (h x (List.mem_cons_self ..)) (by decide))
        have h2 := ih fun y hy => h y (List.mem_cons_of_mem _ hy)
        rw [List.map_cons, List.map_cons, List.sum_cons, List.length_cons, Nat.succ_mul]
        omega
    have h1 := this a hw
    rw [List.length_map, show (Str.ofString " ").length = 1 by decide +kernel]
    omega
  · have e : textL a = Txt.join (Str.ofString " ") (a.map wordL) := by unfold textL; rw [if_neg z]
    rw [← e]
    exact q))
end
theorem text_ok (a : List Int) : PyData.strOk (textL a) = true := by
  refine ok_signs fun c hc => ?_
  have hc : c ∈ tl (textL a) := hc
  rw [text_words, TL.join_eq, tl_join] at hc
  refine joinL_signs _ (by decide +kernel) _ (fun p hp c hc => ?_) c hc
  obtain ⟨z, hz, rfl⟩ := List.mem_map.mp hp
  obtain ⟨x, hx, rfl⟩ := List.mem_map.mp hz
  have := word_signs x c hc
  omega
theorem eqb_bl (b : Bool) : D.eqb (.bl b) (.bl b) = true := by cases b <;> decide +kernel
theorem trim_len (a : List Int) : (trimL a).length ≤ a.length := by unfold trimL; rw [List.length_take]; omega
end L54
namespace L54
open PySem PySem.Spec PyProof.Rows L2 DL
theorem gv_eqT {S : List Sl} {ka kb : KE} {a : List Int} {Z : Cl} {op : D2} (ha : Gv ka S (am Z a)) (hb : Gv kb S (am Z a)) : Gv (kEqO [(Z.Amount, c_Amount_eq Z)] id op ka kb) S (.bl true) := (gv_eqA ha hb).cast (congrArg D.bl (decide_eq_true rfl))
theorem m_law_is (Z : Cl) : ∀ ds n Q, c_law_is Z ds n Q → kb_law_is Z ⟨fun _ n' => Q .non n', Q, fun _ _ => False, fun _ _ => False⟩ (startD ["found", "row", "due", "text", "number"] ds) n := by
  rintro ds n Q ⟨r, d, rfl, hd, hl, hb, q⟩
  unfold kb_law_is
  obtain ⟨t, ht⟩ : ∃ t, t = trimL r := ⟨_, rfl⟩
  rw [← ht]
  have tn : normal t := ht ▸ trimL_normal r
  have tl' : t.length ≤ 100 := by have := trim_len r; rw [← ht] at this; omega
  have tb : bd 1000 t := ht ▸ bd_trim hb
  have tg := bd_log tb
  refine kq_set (d := .tup (iD t)) (S := [.val (am Z t), .val d, .no, .no, .no]) (S' := [.val (am Z t), .val d, .val (.tup (iD t)), .no, .no]) ((gv_cutF hd (gv_v rfl) (by omega)).cast (by rw [ht])) ?_
  have pT : D.pl 8 (.tup (iD t)) := pl_iT 6 t
  have lg : ((t.length : Int) - 1).natAbs.log2 < 1920 := by
    have e : (2 : Nat) ^ 10 = 1024 := by decide
    have h : ((t.length : Int) - 1).natAbs < 2 ^ 10 := by omega
    exact Nat.lt_trans (log_of h (by decide)) (by decide)
  have okT := (rep_T (a := t) (by omega) tg).2.2
  refine kq_if0 (gvt_orF (gvt_not (gvt_of (gv_isiC (gv_b rfl)))) (gvt_orF (gvt_of (gv_neSame (gv_reprT (gv_num (gv_b rfl)) (by omega) tg) (gv_reprT (gv_b rfl) (by omega) tg) (pl_str 8 okT) (eqb_str _) (by intro C gs h; cases h)))
    (gvt_of (gv_neSame (gv_reprI (gv_deg (gv_b rfl)) ?_) (gv_reprI (gv_binI (gv_lenTO (gv_b rfl)) (hb := gv_c) (ho := fun Q q => ⟨trivial, q⟩)) ?_) (pl_str 8 (repr_int _ ?_).2.2) (eqb_str _) (by intro C gs h; cases h))))) ?_
  iterate 3 exact lg
  have em : Gv (kEqO [(Z.Amount, (c_Amount_eq Z))] Bool.not dNe (kB 2) (kTup kNil)) [.val (am Z t), .val d, .val (.tup (iD t)), .no, .no] (.bl (!decide (t = []))) := gv_neXY (y := .tup (iD [])) (gv_b rfl) (gv_tup gv_nil (by decide)) pT (pl_iT 6 []) (eqb_iT t []) (by intro C gs h; cases h)
  refine kq_if0 (gvt_orF (gvt_of (gv_neSame (gv_lenA (gv_b rfl)) (gv_lenTO (gv_b rfl)) (by rw [pl_int]; trivial) (by rw [eqb_int]; exact beq_self_eq_true _) (by intro C gs h; cases h)))
    (gvt_orF (gvt_of (gv_neSame (gv_listA (gv_b rfl) (by omega)) (gv_listTO (gv_b rfl)) (pl_iL 6 t) ((eqb_iL t t).trans (decide_eq_true rfl)) (by intro C gs h; cases h)))
    (gvt_of (gv_neSame (gv_boolA (gv_b rfl)) em (by rw [pl_bl]; trivial) (eqb_bl _) (by intro C gs h; cases h))))) ?_
  have tx : Gv (kIf (kTest (kEqO [(Z.Amount, (c_Amount_eq Z))] Bool.not dNe (kB 2) (kTup kNil))) (kJoin (kC (.str (Str.ofString " "))) (kOut (kCompO (kIter (kV 2)) (kg_law_is_1 Z) kYes (ke_law_is_2 Z) [4]))) (kC (.str (Str.ofString "0")))) [.val (am Z t), .val d, .val (.tup (iD t)), .no, .no] (.str (textL t)) := by
    by_cases z : t = []
    · refine gv_iteF ((gvt_of em).cast (by rw [decide_eq_true z]; rfl)) (gv_c.cast ?_)
      rw [z]; rfl
    · refine gv_iteT ((gvt_of em).cast (by rw [decide_eq_false z]; rfl)) (gv_join ?_ z tl' tb)
      exact gv_comp (f := D.int) (g := fun x => D.str (wordL x)) (xs := t) (v := 4) (gi_T (gv_v rfl)) (by omega) rfl (fun x hx => gv_strI _ (gv_b rfl) (tg x hx)) (fun d => rfl)
  refine kq_set (S' := [.val (am Z t), .val d, .val (.tup (iD t)), .val (.str (textL t)), .no]) tx ?_
  have pX := pl_str 8 (text_ok t)
  refine ks_ret (d := .bl true) (gv_andT (gv_eqSame (gv_strA (gv_b rfl) tl' tb) (gv_v rfl) pX (eqb_str _) (by intro C gs h; cases h)) (gv_andT (gv_eqT (gv_readA (gv_v rfl) tn tl' tb) (gv_v rfl)) (gv_andT (gv_eqT (gv_b rfl) ((gv_of (a := r) (.inr rfl) ?_ (by omega)).cast (by rw [← ht]))) (gv_eqT (gv_b rfl) ((gv_of (a := r) (.inl rfl) ?_ (by omega)).cast (by rw [← ht])))))) q
  · rcases hd with rfl | rfl
    · exact gv_listTO (gv_b rfl)
    · exact gv_listLO (gv_b rfl)
  · rcases hd with rfl | rfl
    · exact gv_tupleT (gv_b rfl)
    · exact gv_tupleL (gv_b rfl)
end L54
namespace L54
open PySem L2 DL
abbrev oppL (b : List Int) : List Int := b.map fun c => 0 - c
theorem getD_opp (b : List Int) (i : Nat) : (oppL b).getD i 0 = - b.getD i 0 := by
  rw [getD_map (by rfl)]; omega
theorem t_plus (a b : List Int) : plusL (trimL a) (trimL b) = trimL (plusL a b) := by
  refine ext_co (plusL_normal _ _) (trimL_normal _) fun i => ?_
  rw [getD_plus, getD_trim, getD_trim, getD_trim, getD_plus]
theorem t_sub (a b : List Int) : plusL (trimL a) (scaleL (trimL b) (-1)) = trimL (plusL a (oppL b)) := by
  refine ext_co (plusL_normal _ _) (trimL_normal _) fun i => ?_
  rw [getD_plus, getD_trim, getD_scale, getD_trim, getD_trim, getD_plus, getD_opp]
  omega
theorem t_neg (b : List Int) : scaleL (trimL b) (-1) = trimL (oppL b) := by
  refine ext_co (scaleL_normal _ _) (trimL_normal _) fun i => ?_
  rw [getD_scale, getD_trim, getD_trim, getD_opp]
  omega
theorem t_mul (a b : List Int) : mulL (trimL a) (trimL b) = trimL (byL a b) := by
  rw [byL_mul, trim_of_normal (mulL_normal a b)]
  refine ev_inj (mulL_normal _ _) (mulL_normal _ _) fun x _ => ?_
  rw [ev_mul, ev_mul, ev_trim, ev_trim]
theorem t_cut (a : List Int) (k : Nat) : trimL ((trimL a).take k) = trimL (a.take k) := by
  refine ext_co (trimL_normal _) (trimL_normal _) fun i => ?_
  rw [getD_cut, getD_cut, getD_trim]
theorem t_div (a : List Int) {p : Int} (hp : p ≠ 0) : trimL ((trimL (a.map fun x => p * x)).map fun x => x / p) = trimL a := by
  refine ext_co (trimL_normal _) (trimL_normal _) fun i => ?_
  rw [getD_trim, getD_trim, getD_map (f := fun x => x / p) (Int.zero_ediv p), getD_trim, getD_map (f := fun x => p * x) (Int.mul_zero p)]
  exact Int.mul_ediv_cancel_left _ hp
theorem rest_zero {a : List Int} {p : Int} : ∀ c ∈ trimL (a.map fun x => p * x), c % p = 0 := fun c hc => by
  have hc := List.mem_of_mem_take hc
  obtain ⟨x, _, rfl⟩ := List.mem_map.mp hc
  exact Int.mul_emod_right p x
theorem ev_zpre (x : Int) (a : List Int) : ∀ m : Nat, ev x (List.replicate m 0 ++ a) = x ^ m * ev x a
  | 0 => by simp
  | m + 1 => by
    rw [List.replicate_succ, List.cons_append, ev, ev_zpre x a m, Int.pow_succ]
    grind
theorem t_shift (a : List Int) (m : Nat) : trimL (shiftL (trimL a) m) = trimL (List.replicate m 0 ++ a) := by
  refine ev_inj (trimL_normal _) (trimL_normal _) fun x _ => ?_
  rw [ev_trim, ev_shift, ev_trim, ev_trim, ev_zpre]
theorem t_call (a : List Int) (x : Int) : callL (trimL a) x = callL a x := by rw [callL_ev, callL_ev, ev_trim]
theorem ev_bd (x : Int) (hx : x.natAbs < 2 ^ 64) : ∀ (a : List Int), bd 100 a → (ev x a).natAbs < 2 ^ (100 + 65 * a.length)
  | [], _ => Nat.two_pow_pos _
  | c :: a, h => by
    have ih := ev_bd x hx a fun y hy => h y (List.mem_cons_of_mem _ hy)
    have hc := h c (List.mem_cons_self ..)
    show (c + x * ev x a).natAbs < _
    have e1 : (c + x * ev x a).natAbs ≤ c.natAbs + (x * ev x a).natAbs := Int.natAbs_add_le _ _
    have e2 : (x * ev x a).natAbs < 2 ^ (100 + 65 * a.length + 64) := by
      rw [Int.natAbs_mul, Nat.add_comm _ 64, Nat.pow_add]
      exact Nat.mul_lt_mul'' hx ih
    have e3 : (2 : Nat) ^ 100 ≤ 2 ^ (100 + 65 * a.length + 64) := Nat.pow_le_pow_right (by decide) (by omega)
    have e4 : (2 : Nat) ^ (100 + 65 * (c :: a).length) = 2 ^ (100 + 65 * a.length + 64) * 2 := by
      rw [List.length_cons, ← Nat.pow_succ]; congr 1
    omega
theorem call_log {a : List Int} {x : Int} (h : bd 100 a) (hl : a.length < 8) (hx : x.natAbs < 2 ^ 64) : (callL a x).natAbs.log2 < 1920 := by
  rw [callL_ev]
  refine Nat.lt_trans (log_of (N := 1000) (Nat.lt_of_lt_of_le (ev_bd x hx a h) (Nat.pow_le_pow_right (by decide) (by omega))) (by decide)) (by decide)
theorem bd_opp {N : Nat} {b : List Int} (h : bd N b) : bd N (oppL b) := fun c hc => by
  obtain ⟨x, hx, rfl⟩ := List.mem_map.mp hc
  have := h x hx
  omega
theorem bd_pre {N : Nat} {b : List Int} (h : bd N b) (m : Nat) : bd N (List.replicate m 0 ++ b) := fun c hc => by
  rcases List.mem_append.mp hc with hc | hc
  · rw [List.eq_of_mem_replicate hc]; exact Nat.two_pow_pos _
  · exact h c hc
theorem bd_by {N M : Nat} {a b : List Int} (ha : bd N a) (hb : bd M b) (hl : a.length + b.length ≤ 4000) : bd (N + M + 12) (byL a b) := by
  rw [byL_mul]; exact bd_mul ha hb hl
theorem byL_len (a b : List Int) : (byL a b).length ≤ a.length + b.length - 1 := by
  rw [byL_mul]; exact mulL_len a b
end L54
namespace L54
open PySem PySem.Spec PyProof.Rows L2 DL
structure RightH (cs a b : List Int) (p mo mv v : Int) : Prop where
  al : a.length < 8
  bl : b.length < 8
  ab : bd 100 a
  bb : bd 100 b
  p1 : 1 ≤ p ∧ p ≤ 9
  mo1 : 0 ≤ mo ∧ mo < 9
  mv1 : 0 ≤ mv ∧ mv < 5
  v1 : -(2 ^ 64) < v ∧ v < 2 ^ 64
abbrev RS (Z : Cl) (cs a b : List Int) (p mo mv v : Int) : List Sl := [.val (.pen cs), .val (.lst (iD a)), .val (.lst (iD b)), .val (am Z (trimL a)), .val (am Z (trimL b)), .val (.int p), .val (.int mo), .val (.int mv), .val (.int v), .val (.lst (iD (oppL b))), .no, .no]
section
variable {S : List Sl} {ka kb : KE} {Z : Cl} {x y r : List Int} {d : D}
theorem gv_is (hd : seqIs r d) (h1 : Gv ka S (am Z x)) (h2 : Gv kb S d) (e : x = trimL r) (hl : r.length ≤ 100) (hb : bd 1000 r) : Gv (kFn (c_law_is Z) (kCons ka (kCons kb kNil))) S (.bl true) := gv_fn (gv_cons h1 (gv_cons h2 gv_nil)) fun n Q q => ⟨r, d, by rw [e], hd, hl, hb, q⟩
theorem gvt_is (hd : seqIs r d) (h1 : Gv ka S (am Z x)) (h2 : Gv kb S d) (e : x = trimL r) (hl : r.length ≤ 100) (hb : bd 1000 r) : GvT (kNotT (kTest (kFn (c_law_is Z) (kCons ka (kCons kb kNil))))) S false := gvt_not (gvt_of (gv_is hd h1 h2 e hl hb))
theorem gv_bA {c : DC} {op : D2} {z : D} (ha : Gv ka S (am Z x)) (hb : Gv kb S (am Z y)) (hc : ∀ n Q, Q z n → c [am Z x, am Z y] n Q) : Gv (kBinO [(Z.Amount, c)] op ka kb) S z := gv_binO ha hb (show yOk Z.Amount (.ins Z.Amount _) from rfl) hc
theorem gv_bAI {c : DC} {op : D2} {z : D} {i : Int} (ha : Gv ka S (am Z x)) (hb : Gv kb S (.int i)) (hc : ∀ n Q, Q z n → c [am Z x, .int i] n Q) : Gv (kBinO [(Z.Amount, c)] op ka kb) S z := gv_binO ha hb (show yOk Z.Amount (.int i) from trivial) hc
end
theorem right9 {Z : Cl} {Q : D → Nat → Prop} {n : Nat} {cs a b : List Int} {p mo mv v : Int} (h : RightH cs a b p mo mv v) (q : Q (.bl true) n) : kr_law_right_9 Z (E0 Q) (RS Z cs a b p mo mv v) n := by
  unfold kr_law_right_9
  have h1 := h.al
  have h2 := h.bl
  exact ks_ret (gv_andT (gv_is (.inr rfl) (gv_v rfl) (gv_v rfl) rfl (by omega) (bd_mono h.ab (by decide))) (gv_is (.inr rfl) (gv_v rfl) (gv_v rfl) rfl (by omega) (bd_mono h.bb (by decide)))) q
theorem eqb_nbl (b : Bool) : D.eqb (.bl (!b)) (.bl b) = false := by cases b <;> decide +kernel
theorem right10 {Z : Cl} {Q : D → Nat → Prop} {n : Nat} {cs a b : List Int} {p mo mv v : Int} (h : RightH cs a b p mo mv v) (q : Q (.bl true) n) : kr_law_right_10 Z (E0 Q) (RS Z cs a b p mo mv v) n := by
  unfold kr_law_right_10
  have h1 := h.al
  have h2 := h.bl
  have hl : (trimL a).length ≤ 100 := by have := trim_len a; omega
  have e1 : Gv (kEqO [(Z.Amount, (c_Amount_eq Z))] id dEq (kB 3) (kV 4)) (RS Z cs a b p mo mv v) (.bl (decide (trimL a = trimL b))) := gv_eqA (g := id) (gv_b rfl) (gv_v rfl)
  have e2 : Gv (kEqO [(Z.Amount, (c_Amount_eq Z))] id dEq (kFn (c_law_cut Z) (kCons (kV 1) kNil)) (kFn (c_law_cut Z) (kCons (kV 2) kNil))) (RS Z cs a b p mo mv v) (.bl (decide (trimL a = trimL b))) := gv_eqXY (gv_cutF (.inr rfl) (gv_v rfl) (by omega)) (gv_cutF (.inr rfl) (gv_v rfl) (by omega)) (pl_iT 6 _) (pl_iT 6 _) (eqb_iT _ _) (by intro C gs h; cases h)
  have e3 : Gv (kEqO [(Z.Amount, (c_Amount_eq Z))] Bool.not dNe (kB 3) (kV 4)) (RS Z cs a b p mo mv v) (.bl (!decide (trimL a = trimL b))) := gv_eqA (g := Bool.not) (gv_b rfl) (gv_v rfl)
  refine kq_if0 (gvt_orF (gvt_of (gv_neSame e1 e2 (by rw [pl_bl]; trivial) (eqb_bl _) (by intro C gs h; cases h))) (gvt_orF (gvt_of (gv_eqXY e3 e1 (by rw [pl_bl]; trivial) (by rw [pl_bl]; trivial) (eqb_nbl _) (by intro C gs h; cases h))) (gvt_orF (gvt_of (gv_eqAN (g := id) (gv_b rfl) (gv_cutF (.inr rfl) (gv_v rfl) (by omega)) (by intro C gs h; cases h) (by rw [tyn_tup]; decide))) (gvt_of (gv_eqAN (g := id) (gv_b rfl) (gv_strA (gv_b rfl) hl (bd_trim (bd_mono h.ab (by decide)))) (by intro C gs h; cases h) (by rw [tyn_str]; decide)))))) ?_
  exact right9 h q
end L54
namespace L54
open PySem PySem.Spec PyProof.Rows L2 DL
section
variable {S : List Sl} {ka kb : KE} {Z : Cl} {a : List Int} {i : Int}
theorem gv_callA (ha : Gv ka S (am Z a)) (hb : Gv kb S (.int i)) (hi : -(2 ^ 64) < i ∧ i < 2 ^ 64) : Gv (kCo [(Z.Amount, c_Amount_call Z)] ka (kCons kb kNil)) S (.int (callL a i)) := gv_co ha (gv_cons hb gv_nil) fun n Q q => ⟨a, i, rfl, hi, q⟩
theorem gv_callK (ha : Gv ka S (am Z a)) (hb : Gv kb S (.int i)) (hi : -(2 ^ 64) < i ∧ i < 2 ^ 64) : Gv (kCoK Z.Amount (c_Amount_call Z) [0, 1] 1 ka (kCons kb kNil)) S (.int (callL a i)) := fun n Q q => ha n _ ⟨rfl, hb n _ ⟨rfl, a, i, rfl, hi, q⟩⟩
theorem gv_valF (ha : Gv ka S (.lst (iD a))) (hb : Gv kb S (.int i)) (hi : -(2 ^ 64) < i ∧ i < 2 ^ 64) : Gv (kFn (c_law_value Z) (kCons ka (kCons kb kNil))) S (.int (callL a i)) := gv_fn (gv_cons ha (gv_cons hb gv_nil)) fun n Q q => ⟨a, i, rfl, hi, q⟩
theorem gv_getA (ha : Gv ka S (am Z a)) (hb : Gv kb S (.int i)) (hi : 0 ≤ i) : Gv (kIxO [(Z.Amount, c_Amount_getitem Z)] ka kb) S (.int (a.getD i.toNat 0)) := gv_ixO ha hb fun n Q q => ⟨a, i, rfl, hi, q⟩
end
theorem v_abs {v : Int} (h : -(2 ^ 64) < v ∧ v < 2 ^ 64) : v.natAbs < 2 ^ 64 := by
  have e1 : (2 : Int) ^ 64 = 18446744073709551616 := by decide
  have e2 : (2 : Nat) ^ 64 = 18446744073709551616 := by decide
  omega
theorem right11 {Z : Cl} {Q : D → Nat → Prop} {n : Nat} {cs a b : List Int} {p mo mv v : Int} (h : RightH cs a b p mo mv v) (q : Q (.bl true) n) : kr_law_right_11 Z (E0 Q) (RS Z cs a b p mo mv v) n := by
  unfold kr_law_right_11
  have g1 := call_log h.ab h.al (v_abs h.v1)
  have g2 := call_log h.bb h.bl (v_abs h.v1)
  have one : ∀ (k1 k2 : KE) (x : Int), x.natAbs.log2 < 1920 → Gv k1 (RS Z cs a b p mo mv v) (.int x) → Gv k2 (RS Z cs a b p mo mv v) (.int x) → Gv (kEqO [(Z.Amount, (c_Amount_eq Z))] Bool.not dNe (kCall bRepr (kCons k1 kNil)) (kCall bRepr (kCons k2 kNil))) (RS Z cs a b p mo mv v) (.bl false) := fun k1 k2 x hx a1 a2 => gv_neSame (gv_reprI a1 hx) (gv_reprI a2 hx) (pl_str 8 (repr_int _ hx).2.2) (eqb_str _) (by intro C gs h; cases h)
  refine kq_if0 (gvt_orF (gvt_of (one _ _ (callL a v) g1 ((gv_callA (gv_b rfl) (gv_v rfl) h.v1).cast (by rw [t_call])) (gv_valF (gv_v rfl) (gv_v rfl) h.v1))) (gvt_of (one _ _ (callL b v) g2 ((gv_callK (gv_b rfl) (gv_v rfl) h.v1).cast (by rw [t_call])) (gv_valF (gv_v rfl) (gv_v rfl) h.v1)))) ?_
  exact right10 h q
theorem right12 {Z : Cl} {Q : D → Nat → Prop} {n : Nat} {cs a b : List Int} {p mo mv v : Int} (h : RightH cs a b p mo mv v) (q : Q (.bl true) n) : kr_law_right_12 Z (E0 Q) (RS Z cs a b p mo mv v) n := by
  unfold kr_law_right_12
  have h1 := h.al
  have c1 : Gv (kOut (kCompO (kRng1 (kCons (kC (.int 9)) kNil)) (kg_law_right_5 Z) kYes (ke_law_right_6 Z) [11])) (RS Z cs a b p mo mv v) (.lst (iD ((List.range' 0 9).map fun i => a.getD i 0))) := by
    refine gv_compI (f := fun i : Nat => D.int (i : Int)) (g := fun i => a.getD i 0) (xs := List.range' 0 9) (gi_rng1 (p := 9) gv_c (by decide)) (by decide) rfl (fun i hi => ?_) (fun d => rfl)
    exact (gv_getA (gv_b rfl) (gv_v rfl) (Int.natCast_nonneg i)).cast (by rw [Int.toNat_natCast, getD_trim])
  have c2 : Gv (kOut (kCompO (kRng1 (kCons (kC (.int 9)) kNil)) (kg_law_right_7 Z) kYes (ke_law_right_8 Z) [11])) (RS Z cs a b p mo mv v) (.lst (iD ((List.range' 0 9).map fun i => a.getD i 0))) := by
    refine gv_compI (f := fun i : Nat => D.int (i : Int)) (g := fun i => a.getD i 0) (xs := List.range' 0 9) (gi_rng1 (p := 9) gv_c (by decide)) (by decide) rfl (fun i hi => ?_) (fun d => rfl)
    by_cases z : i < a.length
    · refine gv_iteT ((gvt_of (gv_lt (gv_b rfl) (gv_lenLO (gv_b rfl)))).cast (decide_eq_true (by omega))) ?_
      exact fun n Q q => gv_b rfl n _ (gv_v rfl n _ (by
        show dIx (.lst (iD a)) (.int (i : Int)) fun d => Q d _ n
        show match atI (a.map D.int) (i : Int) with | some d => Q d _ n | none => False
        rw [atI_ints a i z]
        exact q))
    · exact gv_iteF ((gvt_of (gv_lt (gv_b rfl) (gv_lenLO (gv_b rfl)))).cast (decide_eq_false (by omega))) (gv_c.cast (by rw [getD_ge (by omega)]))
  have lg : ∀ x ∈ (List.range' 0 9).map fun i => a.getD i 0, x.natAbs.log2 < 1900 := fun x hx => by
    obtain ⟨i, _, rfl⟩ := List.mem_map.mp hx
    exact Nat.lt_trans (log_of (bd_getD h.ab i) (by decide)) (by decide)
  have l9 : ((List.range' 0 9).map fun i => a.getD i 0).length ≤ 200 := by rw [List.length_map, List.length_range']; decide
  have ten : Gv (kIxO [(Z.Amount, (c_Amount_getitem Z))] (kB 3) (kBin dPow (kC (.int 10)) (kC (.int 60)))) (RS Z cs a b p mo mv v) (.int 0) := by
    have e : (10 : Int) ^ (60 : Int).toNat = 1000000000000000000000000000000000000000000000000000000000000 := by decide +kernel
    refine (gv_getA (gv_b rfl) ((gv_pow gv_c gv_c ⟨by decide, by decide, by decide⟩).cast (by rw [e])) (by decide)).cast ?_
    have := trim_len a
    rw [getD_ge (by omega)]
  refine kq_if0 (gvt_orF (gvt_of (gv_neSame (gv_reprL c1 l9 lg) (gv_reprL c2 l9 lg) (pl_str 8 (rep_L l9 lg).2.2) (eqb_str _) (by intro C gs h; cases h))) (gvt_of (gv_neSame ten gv_c (by rw [pl_int]; trivial) (by rw [eqb_int]; rfl) (by intro C gs h; cases h)))) ?_
  exact right11 h q
end L54
namespace L54
open PySem PySem.Spec PyProof.Rows L2 DL
theorem gv_binX {S : List Sl} {ka kb : KE} {own : List (Addr × DC)} {op : D2} {x y z : D} (hx : ∀ C gs, x ≠ .ins C gs) (ha : Gv ka S x) (hb : Gv kb S y) (ho : ∀ Q : D → Prop, Q z → op x y Q) : Gv (kBinO own op ka kb) S z := fun n Q q => ha n _ (hb n _ (by
  cases x <;> first | exact ho _ q | exact absurd rfl (hx _ _)))
theorem gv_rep0 {S : List Sl} {ka kb : KE} {own : List (Addr × DC)} {m : Nat} (ha : Gv ka S (.lst [.int 0])) (hb : Gv kb S (.int (m : Nat))) (hm : m ≤ 100000) : Gv (kBinO own dMulY ka kb) S (.lst (iD (List.replicate m 0))) := gv_binX (by intro C gs h; cases h) ha hb fun Q q => ⟨by omega, by omega, by rw [Int.toNat_natCast]; show 1 * m ≤ _; omega, by
  rw [Int.toNat_natCast, flat_one]
  rw [show iD (List.replicate m 0) = List.replicate m (D.int 0) from List.map_replicate] at q
  exact q⟩
theorem gv_cat0 {S : List Sl} {ka kb : KE} {own : List (Addr × DC)} {x y : List Int} (ha : Gv ka S (.lst (iD x))) (hb : Gv kb S (.lst (iD y))) (hm : x.length + y.length ≤ 100000 := by omega) : Gv (kBinO own dAdd ka kb) S (.lst (iD (x ++ y))) := gv_binX (by intro C gs h; cases h) ha hb fun Q q => ⟨by rw [List.length_map, List.length_map]; omega, by
  rw [iD, List.map_append] at q
  exact q⟩
theorem right13 {Z : Cl} {Q : D → Nat → Prop} {n : Nat} {cs a b : List Int} {p mo mv : Nat} {v : Int} (h : RightH cs a b p mo mv v) (q : Q (.bl true) n) : kr_law_right_13 Z (E0 Q) (RS Z cs a b p mo mv v) n := by
  unfold kr_law_right_13
  have h1 := h.al
  have h2 := h.p1
  have h3 := h.mo1
  have la : (trimL a).length ≤ 100 := by have := trim_len a; omega
  have e4 : (2 : Nat) ^ 4 = 16 := by decide
  have e1000 : (2 : Nat) ^ 4 ≤ 2 ^ 1000 := Nat.pow_le_pow_right (by decide) (by decide)
  have c1 : Gv (kOut (kCompO (kIter (kV 1)) (kg_law_right_3 Z) kYes (ke_law_right_4 Z) [10])) (RS Z cs a b p mo mv v) (.lst (iD (a.map fun x => (p : Int) * x))) := by
    refine gv_compI (f := D.int) (g := fun x => (p : Int) * x) (xs := a) (gi_L (gv_v rfl)) (by omega) rfl (fun x hx => ?_) (fun d => rfl)
    exact gv_binI (gv_b rfl) (hb := gv_b rfl) (ho := fun Q q => ⟨mulW (N := 4) (M := 100) (by omega) (h.ab x hx) (by decide), q⟩)
  have ld : (trimL (a.map fun x => (p : Int) * x)).length ≤ 1000 := by have := trim_len (a.map fun x => (p : Int) * x); rw [List.length_map] at this; omega
  refine kq_if0 (gvt_orF (gvt_is (r := a) (.inr rfl) (gv_bAI (i := (p : Nat)) (gv_of (.inr rfl) c1 (by rw [List.length_map]; omega)) (gv_b rfl) fun n Q q => ⟨_, p, rfl, by omega, by omega, ld, rest_zero, q⟩) (gv_v rfl) (t_div a (by omega)) (by omega) (bd_mono h.ab (by decide)))
    (gvt_is (r := a.take (mo + 1)) (.inr rfl) (gv_meth (gv_b rfl) rfl (gv_cons (gv_v rfl) gv_nil) fun n Q q => ⟨trimL a, mo, rfl, by omega, by omega, q⟩) (gv_headL (gv_b rfl) (gv_binI (gv_b rfl) (hb := gv_c) (ho := fun Q q => q))) (t_cut a (mo + 1)) (by rw [List.length_take]; omega) (bd_take (bd_mono h.ab (by decide))))) ?_
  exact right12 h q
theorem right14 {Z : Cl} {Q : D → Nat → Prop} {n : Nat} {cs a b : List Int} {p mo mv : Nat} {v : Int} (h : RightH cs a b p mo mv v) (q : Q (.bl true) n) : kr_law_right_14 Z (E0 Q) (RS Z cs a b p mo mv v) n := by
  unfold kr_law_right_14
  have h1 := h.al
  have h2 := h.bl
  have h3 := h.mv1
  have la : (trimL a).length ≤ 100 := by have := trim_len a; omega
  have lb : (trimL b).length ≤ 100 := by have := trim_len b; omega
  have lby := byL_len a b
  have bby := bd_by h.ab h.bb (by omega)
  refine kq_if0 (gvt_orF (gvt_is (r := byL a b) (.inl rfl) (gv_bA (gv_b rfl) (gv_b rfl) fun n Q q => ⟨_, _, 100, rfl, by omega, by omega, bd_trim h.ab, bd_trim h.bb, by decide, q⟩) (gv_byF (.inr rfl) (.inr rfl) (gv_v rfl) (gv_v rfl) (by omega) (by omega) h.ab h.bb (by decide)) (t_mul a b) (by omega) (bd_mono bby (by decide)))
    (gvt_orF (gvt_is (r := oppL b) (.inr rfl) (gv_unO (gv_b rfl) fun n Q q => ⟨trimL b, 100, rfl, by omega, bd_trim h.bb, by decide, q⟩) (gv_v rfl) (t_neg b) (by rw [List.length_map]; omega) (bd_mono (bd_opp h.bb) (by decide)))
    (gvt_is (r := List.replicate mv 0 ++ a) (.inr rfl) (gv_bAI (i := (mv : Nat)) (gv_b rfl) (gv_b rfl) fun n Q q => ⟨trimL a, mv, rfl, by omega, by omega, by omega, q⟩) ?_ (t_shift a mv) (by rw [List.length_append, List.length_replicate]; omega) (bd_pre (bd_mono h.ab (by decide)) mv)))) ?_
  · refine gv_cat0 (gv_rep0 (gv_lst (gv_cons gv_c gv_nil) (by show 1 ≤ 1000000; omega)) (gv_b rfl) (by omega)) (gv_b rfl) (by rw [List.length_replicate]; omega)
  · exact right13 h q
theorem right15 {Z : Cl} {Q : D → Nat → Prop} {n : Nat} {cs a b : List Int} {p mo mv : Nat} {v : Int} (h : RightH cs a b p mo mv v) (q : Q (.bl true) n) : kr_law_right_15 Z (E0 Q) (RS Z cs a b p mo mv v) n := by
  unfold kr_law_right_15
  have h1 := h.al
  have h2 := h.bl
  have la : (trimL a).length ≤ 100 := by have := trim_len a; omega
  have lb : (trimL b).length ≤ 100 := by have := trim_len b; omega
  have l1 := plusL_len a b
  have l2 := plusL_len a (oppL b)
  have l3 : (oppL b).length = b.length := List.length_map ..
  refine kq_if0 (gvt_orF (gvt_is (r := a) (.inr rfl) (gv_v rfl) (gv_v rfl) rfl (by omega) (bd_mono h.ab (by decide)))
    (gvt_orF (gvt_is (r := plusL a b) (.inl rfl) (gv_bA (gv_b rfl) (gv_b rfl) fun n Q q => ⟨_, _, rfl, by omega, by omega, q⟩) (gv_lplus (.inr rfl) (.inr rfl) (gv_v rfl) (gv_v rfl) (by omega) (by omega)) (t_plus a b) (by omega) (bd_mono (bd_plus h.ab h.bb) (by decide)))
    (gvt_is (r := plusL a (oppL b)) (.inl rfl) (gv_bA (gv_b rfl) (gv_b rfl) fun n Q q => ⟨_, _, 100, rfl, by omega, by omega, bd_trim h.bb, by decide, q⟩) (gv_lplus (.inr rfl) (.inr rfl) (gv_v rfl) (gv_v rfl) (by omega) (by omega)) (t_sub a b) (by omega) (bd_mono (bd_plus h.ab (bd_opp h.bb)) (by decide))))) ?_
  exact right14 h q
end L54
namespace L54
open PySem PySem.Spec PyProof.Rows L2 DL
theorem right16 {Z : Cl} {Q : D → Nat → Prop} {n : Nat} {cs a b : List Int} {p mo mv : Nat} {v : Int} (h : RightH cs a b p mo mv v) (q : Q (.bl true) n) : kr_law_right_16 Z (E0 Q) [.val (.pen cs), .val (.lst (iD a)), .val (.lst (iD b)), .val (am Z (trimL a)), .val (am Z (trimL b)), .val (.int (p : Nat)), .val (.int (mo : Nat)), .val (.int (mv : Nat)), .val (.int v), .no, .no, .no] n := by
  unfold kr_law_right_16
  have h2 := h.bl
  refine kq_set (S' := RS Z cs a b p mo mv v) (gv_compI (v := 10) (f := D.int) (g := fun x => 0 - x) (xs := b) (gi_L (gv_v rfl)) (by omega) rfl (fun x hx => ?_) (fun d => rfl)) ?_
  · exact gv_binI gv_c (hb := gv_b rfl) (ho := fun Q q => ⟨trivial, q⟩)
  · exact right15 h q
theorem nat_of {d m : Int} (h : 0 ≤ d ∧ d < m) : ∃ k : Nat, d = (k : Nat) ∧ (k : Int) < m := ⟨d.toNat, by omega, by omega⟩
theorem right17 {Z : Cl} {Q : D → Nat → Prop} {n : Nat} {cs a b : List Int} {p : Nat} (ha : a.length < 8 ∧ b.length < 8) (hb : bd 100 a ∧ bd 100 b) (hp : 1 ≤ p ∧ p ≤ 9) (hn : n ≤ 90000) (q : ∀ n', n' ≤ n + 3 → Q (.bl true) n') : kr_law_right_17 Z (E0 Q) [.val (.pen cs), .val (.lst (iD a)), .val (.lst (iD b)), .val (am Z (trimL a)), .val (am Z (trimL b)), .val (.int (p : Nat)), .no, .no, .no, .no, .no, .no] n := by
  unfold kr_law_right_17
  refine draw_k (gv_v rfl) gv_c ⟨by decide, by decide⟩ (by omega) fun d1 x1 y1 n1 k1 => ?_
  refine draw_k (n := n1) (gv_v rfl) gv_c ⟨by decide, by decide⟩ (by omega) fun d2 x2 y2 n2 k2 => ?_
  have e9 : (10 : Int) ^ (9 : Int).toNat = 1000000000 := by decide +kernel
  have pw : ∀ S, Gv (kBin dPow (kC (.int 10)) (kC (.int 9))) S (.int 1000000000) := fun S => (gv_pow gv_c gv_c ⟨by decide, by decide, by decide⟩).cast (by rw [e9])
  have pk : Gx (kFn (c_law_pick Z) (kCons (kV 0) (kCons (kLst (kCons (kC (.int 0)) (kCons (kC (.int 1)) (kCons (kUn dNeg (kC (.int 1))) (kCons (kC (.int 2)) (kCons (kUn dNeg (kC (.int 3))) (kCons (kBin dPow (kC (.int 10)) (kC (.int 9))) kNil))))))) kNil))) [.val (.pen cs), .val (.lst (iD a)), .val (.lst (iD b)), .val (am Z (trimL a)), .val (am Z (trimL b)), .val (.int (p : Nat)), .no, .no, .no, .no, .no, .no] n2 (fun d n' => ∃ v : Int, d = .int v ∧ (-(2 ^ 64) < v ∧ v < 2 ^ 64) ∧ n' ≤ n2 + 1) := by
    refine gx_fn2 (P := fun d n' => d = .lst [.int 0, .int 1, .int (-1), .int 2, .int (-3), .int 1000000000] ∧ n' = n2) (gv_v (d := .pen cs) rfl) (Gv.gx (gv_lst (gv_cons gv_c (gv_cons gv_c (gv_cons (gv_neg gv_c) (gv_cons gv_c (gv_cons (gv_neg gv_c) (gv_cons (pw _) gv_nil)))))) (by show 6 ≤ 1000000; omega)) ⟨rfl, rfl⟩) ?_
    rintro d n' ⟨rfl, rfl⟩ Q q
    refine ⟨cs, _, rfl, by simp, by show 6 ≤ 1000; omega, by omega, fun d hd n3 k3 => q d n3 ?_⟩
    simp only [List.mem_cons, List.not_mem_nil, or_false] at hd
    rcases hd with rfl | rfl | rfl | rfl | rfl | rfl <;> exact ⟨_, rfl, ⟨by decide, by decide⟩, k3⟩
  refine pk _ fun d n3 hd => ?_
  obtain ⟨v, rfl, hv, k3⟩ := hd
  obtain ⟨m1, rfl, z1⟩ := nat_of ⟨x1, y1⟩
  obtain ⟨m2, rfl, z2⟩ := nat_of ⟨x2, y2⟩
  exact right16 (h := ⟨ha.1, ha.2, hb.1, hb.2, ⟨by omega, by omega⟩, ⟨by omega, by omega⟩, ⟨by omega, by omega⟩, hv⟩) (q n3 (by omega))
theorem m_law_right (Z : Cl) : ∀ ds n Q, c_law_right Z ds n Q → kb_law_right Z ⟨fun _ n' => Q .non n', Q, fun _ _ => False, fun _ _ => False⟩ (startD ["pen", "one", "other", "mine", "its", "part", "most", "move", "value", "opposite", "number", "at"] ds) n := by
  rintro ds n Q ⟨cs, a, b, rfl, hl, hb, hn, q⟩
  unfold kb_law_right
  refine gv_of (a := a) (S := [.val (.pen cs), .val (.lst (iD a)), .val (.lst (iD b)), .no, .no, .no, .no, .no, .no, .no, .no, .no]) (.inr rfl) (gv_v rfl) (by omega) n _ ?_
  refine gv_of (a := b) (.inr rfl) (gv_v rfl) (by omega) n _ ?_
  have dr : Gx (kBinO [(Z.Amount, (c_Amount_add Z))] dAdd (kC (.int 1)) (kFn (c_law_draw Z) (kCons (kV 0) (kCons (kC (.int 9)) kNil)))) [.val (.pen cs), .val (.lst (iD a)), .val (.lst (iD b)), .no, .no, .no, .no, .no, .no, .no, .no, .no] n (fun d n' => ∃ m : Nat, d = .int (1 + (m : Int)) ∧ (m : Int) < 9 ∧ n' ≤ n + 1) := by
    refine gx_binOR gv_c (gx_draw (m := 9) (gv_v rfl) gv_c ⟨by decide, by decide⟩ (by omega)) ?_
    rintro y n' ⟨i, rfl, hi, k⟩ Q q
    obtain ⟨m, rfl, z⟩ := nat_of hi
    exact q _ ⟨m, rfl, z, k⟩
  refine dr _ fun d n' hd => ?_
  obtain ⟨m, rfl, z, k⟩ := hd
  refine ⟨by show 3 ≤ 1000000; omega, rfl, ?_⟩
  have e : (1 : Int) + (m : Nat) = ((1 + m : Nat) : Int) := by omega
  show kr_law_right_17 Z _ [.val (.pen cs), .val (.lst (iD a)), .val (.lst (iD b)), .val (am Z (trimL a)), .val (am Z (trimL b)), .val (.int (1 + (m : Nat))), .no, .no, .no, .no, .no, .no] n'
  rw [e]
  exact right17 hl hb ⟨by omega, by omega⟩ (by omega) fun n2 k2 => q n2 (by omega)
end L54
namespace L54
open PySem PySem.Spec PyProof.Rows L2 DL
section
variable {S : List Sl} {ka kb : KE} {Z : Cl} {a b : List Int}
theorem gv_mkA {ks : KA} (h : GvA ks S (iD a)) (hl : a.length ≤ 2001) : Gv (kFn (c_Amount_init Z) ks) S (am Z (trimL a)) := gv_fn h fun n Q q => ⟨a, rfl, hl, q⟩
theorem kq_aug {c : DC} {ii : Nat} {k2 : KS} {E : DEnds} {n : Nat} {y z : D} {S' : List Sl} (hs : S[ii]? = some (.val (am Z a))) (hb : Gv kb S y) (hy : yOk Z.Amount y) (hc : ∀ n Q, Q z n → c [am Z a, y] n Q) (q : k2 E S' n) (e : S.set ii (.val z) = S' := by rfl) : kSeq (kAugN [(Z.Amount, c)] ii kb) k2 E S n := by
  show kAugN [(Z.Amount, c)] ii kb { E with nx := k2 E } S n
  unfold kAugN
  rw [hs]
  exact hb n _ ⟨hy, .inl ⟨rfl, hc n _ (by subst e; exact q)⟩⟩
end
abbrev lst9 (cs : List Int) (s2 s3 s4 s5 s6 s7 s8 : Sl) : List Sl := [.no, .val (.pen cs), s2, s3, s4, s5, s6, s7, s8]
theorem gv_right {S : List Sl} {Z : Cl} {cs a b : List Int} {n : Nat} {k1 k2 k3 : KE} (h1 : Gv k1 S (.pen cs)) (h2 : Gv k2 S (.lst (iD a))) (h3 : Gv k3 S (.lst (iD b))) (hl : a.length < 8 ∧ b.length < 8) (hb : bd 100 a ∧ bd 100 b) (hn : n ≤ 50000) : Gx (kFn (c_law_right Z) (kCons k1 (kCons k2 (kCons k3 kNil)))) S n (fun d n' => d = .bl true ∧ n' ≤ n + 10) := fun Q q => h1 n _ (h2 n _ (h3 n _ ⟨cs, a, b, rfl, hl, hb, hn, fun n' k => q _ n' ⟨rfl, k⟩⟩))
theorem gx_row {S : List Sl} {Z : Cl} {cs : List Int} {n : Nat} {k1 : KE} (h1 : Gv k1 S (.pen cs)) (hn : n ≤ 50000) : Gx (kFn (c_law_row Z) (kCons k1 kNil)) S n (fun d n' => ∃ a : List Int, d = .lst (iD a) ∧ a.length < 8 ∧ bd 100 a ∧ n' ≤ n + 100) := fun Q q => h1 n _ ⟨cs, rfl, hn, fun a n' h2 h3 h4 => q _ n' ⟨a, rfl, h2, h3, h4⟩⟩
/-- what the chain of reckonings gives -/
theorem t_chain (a b : List Int) : trimL (shiftL (plusL (mulL (plusL (trimL a) (trimL b)) (trimL [0, 2])) (scaleL (trimL [5]) (-1))) 1) = trimL (0 :: plusL (byL (plusL a b) [0, 2]) [-5]) := by
  refine ev_inj (trimL_normal _) (trimL_normal _) fun x _ => ?_
  rw [ev_trim, ev_shift, ev_plus, ev_mul, ev_plus, ev_trim, ev_trim, ev_trim, ev_scale, ev_trim, ev_trim]
  show _ = 0 + x * ev x (plusL (byL (plusL a b) [0, 2]) [-5])
  rw [ev_plus, byL_mul, ev_mul, ev_plus]
  show x ^ 1 * ((ev x a + ev x b) * ev x [0, 2] + (5 + x * 0) * -1) = 0 + x * ((ev x a + ev x b) * ev x [0, 2] + (-5 + x * 0))
  grind
theorem kq_ifxx {S : List Sl} {n m : Nat} {k1 k2 : KE} {kk k3 : KS} {E : DEnds} (h1 : Gx k1 S n (fun d n' => d = .bl true ∧ n' ≤ n + m)) (h2 : ∀ n1, n1 ≤ n + m → Gx k2 S n1 (fun d n' => d = .bl true ∧ n' ≤ n1 + m)) (q : ∀ n2, n2 ≤ n + 2 * m → k3 E S n2) : kSeq (kIfS (kOrT (kNotT (kTest k1)) (kNotT (kTest k2))) kk kNext) k3 E S n := by
  refine h1 _ fun d n1 p => ?_
  obtain ⟨rfl, l1⟩ := p
  show (if (!true) = true then _ else _)
  rw [if_neg (by decide)]
  refine h2 n1 l1 _ fun d n2 p => ?_
  obtain ⟨rfl, l2⟩ := p
  show (if (!true) = true then _ else _)
  rw [if_neg (by decide)]
  exact q n2 (by omega)
theorem lap (Z : Cl) (E : DEnds) (cs : List Int) (n : Nat) (s2 s3 s4 s5 s6 s7 s8 : Sl) (hn : n ≤ 40000) (q : ∀ s3 s4 s5 s6 s7 n', n' ≤ n + 300 → E.nx (lst9 cs s2 s3 s4 s5 s6 s7 s8) n') : kb_law_2 Z E (lst9 cs s2 s3 s4 s5 s6 s7 s8) n := by
  unfold kb_law_2
  refine kq_parx (gx_row (gv_v rfl) (by omega)) (R := fun d n' => ∃ a : List Int, d = .lst (iD a) ∧ a.length < 8 ∧ bd 100 a ∧ n' ≤ n + 200) (fun d n1 p => (gx_row (gv_v rfl) (by obtain ⟨_, _, _, _, h⟩ := p; omega)).mono fun d' n' p' => by
    obtain ⟨a, e, h1, h2, h3⟩ := p'
    obtain ⟨_, _, _, _, h⟩ := p
    exact ⟨a, e, h1, h2, by omega⟩) ?_
  rintro d n1 e n2 ⟨a, rfl, la, ba, k1⟩ ⟨b, rfl, lb, bb, k2⟩
  refine kq_ifxx (S := lst9 cs s2 (.val (.lst (iD a))) (.val (.lst (iD b))) s5 s6 s7 s8) (m := 10) (gv_right (gv_v rfl) (gv_v rfl) (gv_v rfl) ⟨la, lb⟩ ⟨ba, bb⟩ (by omega)) (fun n3 k3 => gv_right (gv_v rfl) (gv_v rfl) (gv_listLO (a := a) (gv_b rfl)) ⟨la, la⟩ ⟨ba, ba⟩ (by omega)) fun n4 k4 => ?_
  have h2a := trim_len a
  have h2b := trim_len b
  have h02 := trim_len [0, 2]
  have h5 := trim_len [5]
  have lp := plusL_len (trimL a) (trimL b)
  have lm := mulL_len (plusL (trimL a) (trimL b)) (trimL [0, 2])
  have lsc := scaleL_len (trimL [5]) (-1)
  have ls := plusL_len (mulL (plusL (trimL a) (trimL b)) (trimL [0, 2])) (scaleL (trimL [5]) (-1))
  have e02 : ([0, 2] : List Int).length = 2 := rfl
  have e5 : ([5] : List Int).length = 1 := rfl
  have b02 : bd 101 [0, 2] := fun c hc => by
    simp only [List.mem_cons, List.not_mem_nil, or_false] at hc
    rcases hc with rfl | rfl <;> decide
  have b5 : bd 101 [5] := fun c hc => by rw [List.mem_singleton.mp hc]; decide
  have bm5 : bd 101 [-5] := fun c hc => by rw [List.mem_singleton.mp hc]; decide
  refine kq_set (S' := lst9 cs s2 (.val (.lst (iD a))) (.val (.lst (iD b))) (.val (am Z (trimL a))) s6 s7 s8) (gv_of (a := a) (.inr rfl) (gv_v rfl) (by omega)) ?_
  refine kq_set (S' := lst9 cs s2 (.val (.lst (iD a))) (.val (.lst (iD b))) (.val (am Z (trimL a))) (.val (am Z (trimL a))) s7 s8) (gv_v rfl) ?_
  refine kq_aug (Z := Z) (a := trimL a) (z := am Z (plusL (trimL a) (trimL b))) (S' := lst9 cs s2 (.val (.lst (iD a))) (.val (.lst (iD b))) (.val (am Z (plusL (trimL a) (trimL b)))) (.val (am Z (trimL a))) s7 s8) rfl (gv_of (a := b) (.inr rfl) (gv_v rfl) (by omega)) rfl (fun n Q q => ⟨_, _, rfl, by omega, by omega, q⟩) ?_
  refine kq_aug (Z := Z) (a := plusL (trimL a) (trimL b)) (z := am Z (mulL (plusL (trimL a) (trimL b)) (trimL [0, 2]))) (S' := lst9 cs s2 (.val (.lst (iD a))) (.val (.lst (iD b))) (.val (am Z (mulL (plusL (trimL a) (trimL b)) (trimL [0, 2])))) (.val (am Z (trimL a))) s7 s8) rfl (gv_mkA (a := [0, 2]) (gv_cons gv_c (gv_cons gv_c gv_nil)) (by decide)) rfl (fun n Q q => ⟨_, _, 101, rfl, by omega, by omega, bd_plus (bd_trim ba) (bd_trim bb), bd_trim b02, by decide, q⟩) ?_
  refine kq_aug (Z := Z) (a := mulL (plusL (trimL a) (trimL b)) (trimL [0, 2])) (z := am Z (plusL (mulL (plusL (trimL a) (trimL b)) (trimL [0, 2])) (scaleL (trimL [5]) (-1)))) (S' := lst9 cs s2 (.val (.lst (iD a))) (.val (.lst (iD b))) (.val (am Z (plusL (mulL (plusL (trimL a) (trimL b)) (trimL [0, 2])) (scaleL (trimL [5]) (-1))))) (.val (am Z (trimL a))) s7 s8) rfl (gv_mkA (a := [5]) (gv_cons gv_c gv_nil) (by decide)) rfl (fun n Q q => ⟨_, _, 101, rfl, by omega, by omega, bd_trim b5, by decide, q⟩) ?_
  refine kq_aug (Z := Z) (a := plusL (mulL (plusL (trimL a) (trimL b)) (trimL [0, 2])) (scaleL (trimL [5]) (-1))) (z := am Z (trimL (0 :: plusL (byL (plusL a b) [0, 2]) [-5]))) (S' := lst9 cs s2 (.val (.lst (iD a))) (.val (.lst (iD b))) (.val (am Z (trimL (0 :: plusL (byL (plusL a b) [0, 2]) [-5])))) (.val (am Z (trimL a))) s7 s8) rfl gv_c trivial (fun n Q q => ⟨_, 1, rfl, by omega, by omega, by omega, by rw [t_chain]; exact q⟩) ?_
  have l1 := plusL_len a b
  have l2 := byL_len (plusL a b) [0, 2]
  have l3 := plusL_len (byL (plusL a b) [0, 2]) [-5]
  have em5 : ([-5] : List Int).length = 1 := rfl
  have bp : bd 101 (plusL a b) := bd_plus ba bb
  have bby := bd_by bp b02 (by omega)
  have bq : bd 1000 (0 :: plusL (byL (plusL a b) [0, 2]) [-5]) := fun c hc => by
    rcases List.mem_cons.mp hc with rfl | hc
    · exact Nat.two_pow_pos _
    · exact bd_mono (bd_plus bby (bd_mono bm5 (by decide))) (by decide) c hc
  refine kq_set (d := .lst (iD ([0] ++ plusL (byL (plusL a b) [0, 2]) [-5]))) (S' := lst9 cs s2 (.val (.lst (iD a))) (.val (.lst (iD b))) (.val (am Z (trimL (0 :: plusL (byL (plusL a b) [0, 2]) [-5])))) (.val (am Z (trimL a))) (.val (.lst (iD (0 :: plusL (byL (plusL a b) [0, 2]) [-5])))) s8) (gv_cat0 (x := [0]) (gv_lst (gv_cons gv_c gv_nil) (by show 1 ≤ 1000000; omega)) (gv_listTO (gv_lplus (.inl rfl) (.inl rfl) (gv_byF (N := 101) (M := 101) (.inl rfl) (.inl rfl) (gv_lplus (.inr rfl) (.inr rfl) (gv_v rfl) (gv_v rfl) (by omega) (by omega)) (gv_tup (gv_cons gv_c (gv_cons gv_c gv_nil)) (by show 2 ≤ 1000000; omega)) (by omega) (by omega) bp b02 (by decide)) (gv_tup (gv_cons (gv_neg gv_c) gv_nil) (by show 1 ≤ 1000000; omega)) (by omega) (by omega))) (by show 1 + _ ≤ _; omega)) ?_
  refine ks_if0 (gvt_orF (gvt_is (r := 0 :: plusL (byL (plusL a b) [0, 2]) [-5]) (.inr rfl) (gv_v rfl) (gv_v rfl) rfl (by rw [List.length_cons]; omega) bq) (gvt_is (r := a) (.inr rfl) (gv_v rfl) (gv_v rfl) rfl (by omega) (bd_mono ba (by decide)))) ?_
  exact q _ _ _ _ _ n4 (by omega)
theorem laps (Z : Cl) (E : DEnds) (cs : List Int) (s8 : Sl) (q : ∀ s2 s3 s4 s5 s6 s7 n', E.nx (lst9 cs s2 s3 s4 s5 s6 s7 s8) n') : ∀ (ds : List D) (n : Nat) (s2 s3 s4 s5 s6 s7 : Sl), n + 300 * ds.length ≤ 40000 → kFors (kg_law_1 Z) (kb_law_2 Z) E ds (lst9 cs s2 s3 s4 s5 s6 s7 s8) n
  | [], n, s2, s3, s4, s5, s6, s7, h => q _ _ _ _ _ _ n
  | d :: ds, n, s2, s3, s4, s5, s6, s7, h => by
    rw [List.length_cons] at h
    show kb_law_2 Z _ (lst9 cs (.val d) s3 s4 s5 s6 s7 s8) n
    exact lap Z _ cs n _ _ _ _ _ _ _ (by omega) fun s3 s4 s5 s6 s7 n' h' => laps Z E cs s8 q ds n' _ _ _ _ _ _ (by omega)
theorem long_facts : ∃ L : List Int, L = List.replicate 2000 0 ++ [-7] ∧ L.length = 2001 ∧ L.getD 2000 0 = -7 ∧ callL L 1 = -7 := by
  refine ⟨_, rfl, ?_, ?_, ?_⟩
  · rw [List.length_append, List.length_replicate]; rfl
  · rw [List.getD_eq_getElem?_getD, List.getElem?_append_right (by rw [List.length_replicate]; exact Nat.le_refl _), List.length_replicate]; rfl
  · rw [callL_ev, ev_zpre, Int.one_pow]; rfl
theorem m_law (Z : Cl) : ∀ cs : List Int, kb_law Z ⟨fun _ _ => False, fun d _ => d = .bl true, fun _ _ => False, fun _ _ => False⟩ (.no :: .val (.pen cs) :: List.replicate 7 .no) 0 := by
  intro cs
  unfold kb_law
  refine kq_for (S := lst9 cs .no .no .no .no .no .no .no) (gi_rng1 (p := 6) gv_c (by omega)) (laps Z _ cs _ (fun s2 s3 s4 s5 s6 s7 n => ?_) _ 0 _ _ _ _ _ _ (by rw [List.length_map, List.length_range']; omega))
  dsimp only
  obtain ⟨L, hL, h1, h2, h3⟩ := long_facts
  have hn : normal L := .inr (by rw [h1]; show L.getD 2000 0 ≠ 0; rw [h2]; decide)
  refine kq_set (d := am Z L) (S' := lst9 cs s2 s3 s4 s5 s6 s7 (.val (am Z L))) (gv_ofN hn (.inr rfl) ?_ (by omega)) ?_
  · rw [hL]
    exact gv_cat0 (y := [-7]) (gv_rep0 (m := 2000) (gv_lst (gv_cons gv_c gv_nil) (by show 1 ≤ 1000000; omega)) gv_c (by omega)) (gv_lst (gv_cons (gv_neg gv_c) gv_nil) (by show 1 ≤ 1000000; omega)) (by rw [List.length_replicate]; show 2000 + 1 ≤ _; omega)
  have eqI : ∀ (k1 k2 : KE) (x y : Int), Gv k1 (lst9 cs s2 s3 s4 s5 s6 s7 (.val (am Z L))) (.int x) → Gv k2 (lst9 cs s2 s3 s4 s5 s6 s7 (.val (am Z L))) (.int y) → x = y → Gv (kEqO [(Z.Amount, (c_Amount_eq Z))] id dEq k1 k2) (lst9 cs s2 s3 s4 s5 s6 s7 (.val (am Z L))) (.bl true) := fun k1 k2 x y a1 a2 e => gv_eqXY a1 a2 (by rw [pl_int]; trivial) (by rw [pl_int]; trivial) (by rw [eqb_int, e]; exact beq_self_eq_true _) (by intro C gs h; cases h)
  refine ks_ret (gv_andT (eqI _ _ _ _ (gv_deg (gv_b rfl)) gv_c (by rw [h1]; rfl)) (gv_andT (eqI _ _ _ _ (gv_getA (gv_b rfl) gv_c (by decide)) (gv_neg gv_c) h2) (gv_andT (eqI _ _ 2000 2000 (fun n Q q => ⟨rfl, q⟩) gv_c rfl) (gv_andT (gv_eqT (gv_b rfl) (gv_bAI (i := ((2000 : Nat) : Int)) (gv_mkA (a := [-7]) (gv_cons (gv_neg gv_c) gv_nil) (by decide)) gv_c fun n Q q => ⟨trimL [-7], 2000, rfl, by decide, by decide, by decide, ?_⟩)) (gv_andT (eqI _ _ _ _ (gv_callA (gv_b rfl) gv_c (by decide)) (gv_neg gv_c) h3) (gv_eqT (gv_mkA (a := []) gv_nil (by decide)) ((gv_mkA (a := [0, 0]) (gv_cons gv_c (gv_cons gv_c gv_nil)) (by decide)).cast (congrArg (am Z) (by decide))))))))) rfl
  rw [t_shift, ← hL, trim_of_normal hn]
  exact q
end L54
namespace L54
open PySem PySem.Spec PyProof.Rows L2 DL
def topS (i : Nat) : Stmt := PySem.Challenge.pw_spreadchecks_k54_amounts_reckoned_with.main.body.getD i (.Pass ⟨0, 0, 0, 0⟩)
abbrev s_words_of : Stmt := topS 10
theorem sc_words_of : FnScope ["text"] ["text"] (defScope s_words_of) := ⟨rfl, rfl, rfl, by decide +kernel, rfl, by decide +kernel, by decide +kernel⟩
abbrev s_is_integer : Stmt := topS 12
theorem sc_is_integer : FnScope ["value"] ["value"] (defScope s_is_integer) := ⟨rfl, rfl, rfl, by decide +kernel, rfl, by decide +kernel, by decide +kernel⟩
abbrev s_need_number : Stmt := topS 13
theorem sc_need_number : FnScope ["value", "least"] ["value", "least"] (defScope s_need_number) := ⟨rfl, rfl, rfl, by decide +kernel, rfl, by decide +kernel, by decide +kernel⟩
abbrev s_trimmed : Stmt := topS 16
theorem sc_trimmed : FnScope ["numbers", "size"] ["numbers"] (defScope s_trimmed) := ⟨rfl, rfl, rfl, by decide +kernel, rfl, by decide +kernel, by decide +kernel⟩
abbrev s_at_power : Stmt := topS 17
theorem sc_at_power : FnScope ["row", "power"] ["row", "power"] (defScope s_at_power) := ⟨rfl, rfl, rfl, by decide +kernel, rfl, by decide +kernel, by decide +kernel⟩
abbrev s_plus : Stmt := topS 18
theorem sc_plus : FnScope ["one", "other", "size", "power"] ["one", "other"] (defScope s_plus) := ⟨rfl, rfl, rfl, by decide +kernel, rfl, by decide +kernel, by decide +kernel⟩
abbrev s_scaled : Stmt := topS 19
theorem sc_scaled : FnScope ["one", "factor", "number"] ["one", "factor"] (defScope s_scaled) := ⟨rfl, rfl, rfl, by decide +kernel, rfl, by decide +kernel, by decide +kernel⟩
abbrev s_at_product : Stmt := topS 20
theorem sc_at_product : FnScope ["one", "other", "power", "begin", "end", "at"] ["one", "other", "power"] (defScope s_at_product) := ⟨rfl, rfl, rfl, by decide +kernel, rfl, by decide +kernel, by decide +kernel⟩
abbrev s_multiplied : Stmt := topS 21
theorem sc_multiplied : FnScope ["one", "other", "power"] ["one", "other"] (defScope s_multiplied) := ⟨rfl, rfl, rfl, by decide +kernel, rfl, by decide +kernel, by decide +kernel⟩
abbrev s_is_written : Stmt := topS 22
theorem sc_is_written : FnScope ["word", "figures", "figure"] ["word"] (defScope s_is_written) := ⟨rfl, rfl, rfl, by decide +kernel, rfl, by decide +kernel, by decide +kernel⟩
abbrev s_need_amount : Stmt := topS 23
theorem sc_need_amount : FnScope ["value"] ["value"] (defScope s_need_amount) := ⟨rfl, rfl, rfl, by decide +kernel, rfl, by decide +kernel, by decide +kernel⟩
abbrev s_Amount_init : Stmt := inClass (topS 24) 1
theorem sc_Amount_init : FnScope ["self", "numbers", "number"] ["self", "numbers"] (defScope s_Amount_init) := ⟨rfl, rfl, rfl, by decide +kernel, rfl, by decide +kernel, by decide +kernel⟩
abbrev s_Amount_of : Stmt := inClass (topS 24) 2
theorem sc_Amount_of : FnScope ["numbers"] ["numbers"] (defScope s_Amount_of) := ⟨rfl, rfl, rfl, by decide +kernel, rfl, by decide +kernel, by decide +kernel⟩
abbrev s_Amount_read : Stmt := inClass (topS 24) 3
theorem sc_Amount_read : FnScope ["cls", "text", "words", "at", "word"] ["cls", "text"] (defScope s_Amount_read) := ⟨rfl, rfl, rfl, by decide +kernel, rfl, by decide +kernel, by decide +kernel⟩
abbrev s_Amount_len : Stmt := inClass (topS 24) 4
theorem sc_Amount_len : FnScope ["self"] ["self"] (defScope s_Amount_len) := ⟨rfl, rfl, rfl, by decide +kernel, rfl, by decide +kernel, by decide +kernel⟩
abbrev s_Amount_iter : Stmt := inClass (topS 24) 5
theorem sc_Amount_iter : FnScope ["self"] ["self"] (defScope s_Amount_iter) := ⟨rfl, rfl, rfl, by decide +kernel, rfl, by decide +kernel, by decide +kernel⟩
abbrev s_Amount_getitem : Stmt := inClass (topS 24) 6
theorem sc_Amount_getitem : FnScope ["self", "power"] ["self", "power"] (defScope s_Amount_getitem) := ⟨rfl, rfl, rfl, by decide +kernel, rfl, by decide +kernel, by decide +kernel⟩
abbrev s_Amount_call : Stmt := inClass (topS 24) 7
theorem sc_Amount_call : FnScope ["self", "value", "found", "number"] ["self", "value"] (defScope s_Amount_call) := ⟨rfl, rfl, rfl, by decide +kernel, rfl, by decide +kernel, by decide +kernel⟩
abbrev s_Amount_add : Stmt := inClass (topS 24) 8
theorem sc_Amount_add : FnScope ["self", "other"] ["self", "other"] (defScope s_Amount_add) := ⟨rfl, rfl, rfl, by decide +kernel, rfl, by decide +kernel, by decide +kernel⟩
abbrev s_Amount_sub : Stmt := inClass (topS 24) 9
theorem sc_Amount_sub : FnScope ["self", "other"] ["self", "other"] (defScope s_Amount_sub) := ⟨rfl, rfl, rfl, by decide +kernel, rfl, by decide +kernel, by decide +kernel⟩
abbrev s_Amount_mul : Stmt := inClass (topS 24) 10
theorem sc_Amount_mul : FnScope ["self", "other"] ["self", "other"] (defScope s_Amount_mul) := ⟨rfl, rfl, rfl, by decide +kernel, rfl, by decide +kernel, by decide +kernel⟩
abbrev s_Amount_neg : Stmt := inClass (topS 24) 11
theorem sc_Amount_neg : FnScope ["self"] ["self"] (defScope s_Amount_neg) := ⟨rfl, rfl, rfl, by decide +kernel, rfl, by decide +kernel, by decide +kernel⟩
abbrev s_Amount_lshift : Stmt := inClass (topS 24) 12
theorem sc_Amount_lshift : FnScope ["self", "power"] ["self", "power"] (defScope s_Amount_lshift) := ⟨rfl, rfl, rfl, by decide +kernel, rfl, by decide +kernel, by decide +kernel⟩
abbrev s_Amount_floordiv : Stmt := inClass (topS 24) 13
theorem sc_Amount_floordiv : FnScope ["self", "number", "factor"] ["self", "number"] (defScope s_Amount_floordiv) := ⟨rfl, rfl, rfl, by decide +kernel, rfl, by decide +kernel, by decide +kernel⟩
abbrev s_Amount_cut : Stmt := inClass (topS 24) 14
theorem sc_Amount_cut : FnScope ["self", "most"] ["self", "most"] (defScope s_Amount_cut) := ⟨rfl, rfl, rfl, by decide +kernel, rfl, by decide +kernel, by decide +kernel⟩
abbrev s_Amount_eq : Stmt := inClass (topS 24) 16
theorem sc_Amount_eq : FnScope ["self", "other"] ["self", "other"] (defScope s_Amount_eq) := ⟨rfl, rfl, rfl, by decide +kernel, rfl, by decide +kernel, by decide +kernel⟩
abbrev s_Amount_str : Stmt := inClass (topS 24) 17
theorem sc_Amount_str : FnScope ["self", "number"] ["self"] (defScope s_Amount_str) := ⟨rfl, rfl, rfl, by decide +kernel, rfl, by decide +kernel, by decide +kernel⟩
abbrev s_law_pen : Stmt := topS 26
theorem sc_law_pen : FnScope ["script"] ["script"] (defScope s_law_pen) := ⟨rfl, rfl, rfl, by decide +kernel, rfl, by decide +kernel, by decide +kernel⟩
abbrev s_law_draw : Stmt := topS 27
theorem sc_law_draw : FnScope ["pen", "many", "digit", "spot", "cell", "great", "mixed"] ["pen", "many"] (defScope s_law_draw) := ⟨rfl, rfl, rfl, by decide +kernel, rfl, by decide +kernel, by decide +kernel⟩
abbrev s_law_pick : Stmt := topS 28
theorem sc_law_pick : FnScope ["pen", "some"] ["pen", "some"] (defScope s_law_pick) := ⟨rfl, rfl, rfl, by decide +kernel, rfl, by decide +kernel, by decide +kernel⟩
abbrev s_law_cut : Stmt := topS 29
theorem sc_law_cut : FnScope ["row", "size"] ["row"] (defScope s_law_cut) := ⟨rfl, rfl, rfl, by decide +kernel, rfl, by decide +kernel, by decide +kernel⟩
abbrev s_law_plus : Stmt := topS 30
theorem sc_law_plus : FnScope ["one", "other", "size", "longer", "at", "number"] ["one", "other"] (defScope s_law_plus) := ⟨rfl, rfl, rfl, by decide +kernel, rfl, by decide +kernel, by decide +kernel⟩
abbrev s_law_by : Stmt := topS 31
theorem sc_law_by : FnScope ["one", "other", "found", "at", "number", "spot", "factor"] ["one", "other"] (defScope s_law_by) := ⟨rfl, rfl, rfl, by decide +kernel, rfl, by decide +kernel, by decide +kernel⟩
abbrev s_law_row : Stmt := topS 32
theorem sc_law_row : FnScope ["pen", "most", "turn"] ["pen"] (defScope s_law_row) := ⟨rfl, rfl, rfl, by decide +kernel, rfl, by decide +kernel, by decide +kernel⟩
abbrev s_law_is : Stmt := topS 33
theorem sc_law_is : FnScope ["found", "row", "due", "text", "number"] ["found", "row"] (defScope s_law_is) := ⟨rfl, rfl, rfl, by decide +kernel, rfl, by decide +kernel, by decide +kernel⟩
abbrev s_law_value : Stmt := topS 34
theorem sc_law_value : FnScope ["row", "value", "found", "number"] ["row", "value"] (defScope s_law_value) := ⟨rfl, rfl, rfl, by decide +kernel, rfl, by decide +kernel, by decide +kernel⟩
abbrev s_law_right : Stmt := topS 35
theorem sc_law_right : FnScope ["pen", "one", "other", "mine", "its", "part", "most", "move", "value", "opposite", "number", "at"] ["pen", "one", "other"] (defScope s_law_right) := ⟨rfl, rfl, rfl, by decide +kernel, rfl, by decide +kernel, by decide +kernel⟩
abbrev s_law : Stmt := topS 36
theorem sc_law : FnScope ["script", "pen", "turn", "one", "other", "found", "kept", "due", "long"] ["script"] (defScope s_law) := ⟨rfl, rfl, rfl, by decide +kernel, rfl, by decide +kernel, by decide +kernel⟩
structure Adr where
  Z : Cl
  f_words_of : Addr
  d_words_of : FuncData
  f_is_integer : Addr
  d_is_integer : FuncData
  f_need_number : Addr
  d_need_number : FuncData
  f_trimmed : Addr
  d_trimmed : FuncData
  f_at_power : Addr
  d_at_power : FuncData
  f_plus : Addr
  d_plus : FuncData
  f_scaled : Addr
  d_scaled : FuncData
  f_at_product : Addr
  d_at_product : FuncData
  f_multiplied : Addr
  d_multiplied : FuncData
  f_is_written : Addr
  d_is_written : FuncData
  f_need_amount : Addr
  d_need_amount : FuncData
  f_Amount_init : Addr
  d_Amount_init : FuncData
  f_Amount_of : Addr
  d_Amount_of : FuncData
  p_Amount_of : Addr
  r_Amount_of : List Value
  f_Amount_read : Addr
  d_Amount_read : FuncData
  p_Amount_read : Addr
  r_Amount_read : List Value
  f_Amount_len : Addr
  d_Amount_len : FuncData
  f_Amount_iter : Addr
  d_Amount_iter : FuncData
  f_Amount_getitem : Addr
  d_Amount_getitem : FuncData
  f_Amount_call : Addr
  d_Amount_call : FuncData
  f_Amount_add : Addr
  d_Amount_add : FuncData
  f_Amount_sub : Addr
  d_Amount_sub : FuncData
  f_Amount_mul : Addr
  d_Amount_mul : FuncData
  f_Amount_neg : Addr
  d_Amount_neg : FuncData
  f_Amount_lshift : Addr
  d_Amount_lshift : FuncData
  f_Amount_floordiv : Addr
  d_Amount_floordiv : FuncData
  f_Amount_cut : Addr
  d_Amount_cut : FuncData
  f_Amount_eq : Addr
  d_Amount_eq : FuncData
  f_Amount_str : Addr
  d_Amount_str : FuncData
  f_law_pen : Addr
  d_law_pen : FuncData
  f_law_draw : Addr
  d_law_draw : FuncData
  f_law_pick : Addr
  d_law_pick : FuncData
  f_law_cut : Addr
  d_law_cut : FuncData
  f_law_plus : Addr
  d_law_plus : FuncData
  f_law_by : Addr
  d_law_by : FuncData
  f_law_row : Addr
  d_law_row : FuncData
  f_law_is : Addr
  d_law_is : FuncData
  f_law_value : Addr
  d_law_value : FuncData
  f_law_right : Addr
  d_law_right : FuncData
  f_law : Addr
  d_law : FuncData
  t_FIGURES : Tok
  t_MOST_POWER : Tok
  fo_Add : Option Value
  ro_Add : Option Value
  fo_Mult : Option Value
  ro_Mult : Option Value
  fo_Sub : Option Value
  ro_Sub : Option Value
  fo_LShift : Option Value
  ro_LShift : Option Value
  u_cv_Amount_MOST : Tok
  fo_FloorDiv : Option Value
  ro_FloorDiv : Option Value
structure Txt (K : PySem.W.Frag) (mg : Str → Option Value) (A : Adr) : Prop where
  z_abs : mg "abs" = none
  z_all : mg "all" = none
  z_any : mg "any" = none
  z_bool : mg "bool" = none
  z_enumerate : mg "enumerate" = none
  z_int : mg "int" = none
  z_isinstance : mg "isinstance" = none
  z_iter : mg "iter" = none
  z_len : mg "len" = none
  z_list : mg "list" = none
  z_max : mg "max" = none
  z_range : mg "range" = none
  z_repr : mg "repr" = none
  z_str : mg "str" = none
  z_sum : mg "sum" = none
  z_tuple : mg "tuple" = none
  m_words_of : mg "words_of" = some (.ref A.f_words_of)
  k_words_of : PySem.W.keepIn K (.ref A.f_words_of) = true
  F_words_of : Fun K "words_of" "words_of" s_words_of A.f_words_of A.d_words_of
  b_words_of : Binds K A.d_words_of ["text"] []
  m_is_integer : mg "is_integer" = some (.ref A.f_is_integer)
  k_is_integer : PySem.W.keepIn K (.ref A.f_is_integer) = true
  F_is_integer : Fun K "is_integer" "is_integer" s_is_integer A.f_is_integer A.d_is_integer
  b_is_integer : Binds K A.d_is_integer ["value"] []
  m_need_number : mg "need_number" = some (.ref A.f_need_number)
  k_need_number : PySem.W.keepIn K (.ref A.f_need_number) = true
  F_need_number : Fun K "need_number" "need_number" s_need_number A.f_need_number A.d_need_number
  b_need_number : Binds K A.d_need_number ["value", "least"] []
  m_trimmed : mg "trimmed" = some (.ref A.f_trimmed)
  k_trimmed : PySem.W.keepIn K (.ref A.f_trimmed) = true
  F_trimmed : Fun K "trimmed" "trimmed" s_trimmed A.f_trimmed A.d_trimmed
  b_trimmed : Binds K A.d_trimmed ["numbers"] []
  m_at_power : mg "at_power" = some (.ref A.f_at_power)
  k_at_power : PySem.W.keepIn K (.ref A.f_at_power) = true
  F_at_power : Fun K "at_power" "at_power" s_at_power A.f_at_power A.d_at_power
  b_at_power : Binds K A.d_at_power ["row", "power"] []
  m_plus : mg "plus" = some (.ref A.f_plus)
  k_plus : PySem.W.keepIn K (.ref A.f_plus) = true
  F_plus : Fun K "plus" "plus" s_plus A.f_plus A.d_plus
  b_plus : Binds K A.d_plus ["one", "other"] []
  m_scaled : mg "scaled" = some (.ref A.f_scaled)
  k_scaled : PySem.W.keepIn K (.ref A.f_scaled) = true
  F_scaled : Fun K "scaled" "scaled" s_scaled A.f_scaled A.d_scaled
  b_scaled : Binds K A.d_scaled ["one", "factor"] []
  m_at_product : mg "at_product" = some (.ref A.f_at_product)
  k_at_product : PySem.W.keepIn K (.ref A.f_at_product) = true
  F_at_product : Fun K "at_product" "at_product" s_at_product A.f_at_product A.d_at_product
  b_at_product : Binds K A.d_at_product ["one", "other", "power"] []
  m_multiplied : mg "multiplied" = some (.ref A.f_multiplied)
  k_multiplied : PySem.W.keepIn K (.ref A.f_multiplied) = true
  F_multiplied : Fun K "multiplied" "multiplied" s_multiplied A.f_multiplied A.d_multiplied
  b_multiplied : Binds K A.d_multiplied ["one", "other"] []
  m_is_written : mg "is_written" = some (.ref A.f_is_written)
  k_is_written : PySem.W.keepIn K (.ref A.f_is_written) = true
  F_is_written : Fun K "is_written" "is_written" s_is_written A.f_is_written A.d_is_written
  b_is_written : Binds K A.d_is_written ["word"] []
  m_need_amount : mg "need_amount" = some (.ref A.f_need_amount)
  k_need_amount : PySem.W.keepIn K (.ref A.f_need_amount) = true
  F_need_amount : Fun K "need_amount" "need_amount" s_need_amount A.f_need_amount A.d_need_amount
  b_need_amount : Binds K A.d_need_amount ["value"] []
  k_Amount_init : PySem.W.keepIn K (.ref A.f_Amount_init) = true
  F_Amount_init : Fun K "__init__" "Amount.__init__" s_Amount_init A.f_Amount_init A.d_Amount_init
  k_Amount_of : PySem.W.keepIn K (.ref A.f_Amount_of) = true
  F_Amount_of : Fun K "of" "Amount.of" s_Amount_of A.f_Amount_of A.d_Amount_of
  b_Amount_of : Binds K A.d_Amount_of ["numbers"] []
  k_Amount_read : PySem.W.keepIn K (.ref A.f_Amount_read) = true
  F_Amount_read : Fun K "read" "Amount.read" s_Amount_read A.f_Amount_read A.d_Amount_read
  b_Amount_read : Binds K A.d_Amount_read ["cls", "text"] []
  k_Amount_len : PySem.W.keepIn K (.ref A.f_Amount_len) = true
  F_Amount_len : Fun K "__len__" "Amount.__len__" s_Amount_len A.f_Amount_len A.d_Amount_len
  b_Amount_len : Binds K A.d_Amount_len ["self"] []
  k_Amount_iter : PySem.W.keepIn K (.ref A.f_Amount_iter) = true
  F_Amount_iter : Fun K "__iter__" "Amount.__iter__" s_Amount_iter A.f_Amount_iter A.d_Amount_iter
  b_Amount_iter : Binds K A.d_Amount_iter ["self"] []
  k_Amount_getitem : PySem.W.keepIn K (.ref A.f_Amount_getitem) = true
  F_Amount_getitem : Fun K "__getitem__" "Amount.__getitem__" s_Amount_getitem A.f_Amount_getitem A.d_Amount_getitem
  b_Amount_getitem : Binds K A.d_Amount_getitem ["self", "power"] []
  k_Amount_call : PySem.W.keepIn K (.ref A.f_Amount_call) = true
  F_Amount_call : Fun K "__call__" "Amount.__call__" s_Amount_call A.f_Amount_call A.d_Amount_call
  b_Amount_call : Binds K A.d_Amount_call ["self", "value"] []
  k_Amount_add : PySem.W.keepIn K (.ref A.f_Amount_add) = true
  F_Amount_add : Fun K "__add__" "Amount.__add__" s_Amount_add A.f_Amount_add A.d_Amount_add
  b_Amount_add : Binds K A.d_Amount_add ["self", "other"] []
  k_Amount_sub : PySem.W.keepIn K (.ref A.f_Amount_sub) = true
  F_Amount_sub : Fun K "__sub__" "Amount.__sub__" s_Amount_sub A.f_Amount_sub A.d_Amount_sub
  b_Amount_sub : Binds K A.d_Amount_sub ["self", "other"] []
  k_Amount_mul : PySem.W.keepIn K (.ref A.f_Amount_mul) = true
  F_Amount_mul : Fun K "__mul__" "Amount.__mul__" s_Amount_mul A.f_Amount_mul A.d_Amount_mul
  b_Amount_mul : Binds K A.d_Amount_mul ["self", "other"] []
  k_Amount_neg : PySem.W.keepIn K (.ref A.f_Amount_neg) = true
  F_Amount_neg : Fun K "__neg__" "Amount.__neg__" s_Amount_neg A.f_Amount_neg A.d_Amount_neg
  b_Amount_neg : Binds K A.d_Amount_neg ["self"] []
  k_Amount_lshift : PySem.W.keepIn K (.ref A.f_Amount_lshift) = true
  F_Amount_lshift : Fun K "__lshift__" "Amount.__lshift__" s_Amount_lshift A.f_Amount_lshift A.d_Amount_lshift
  b_Amount_lshift : Binds K A.d_Amount_lshift ["self", "power"] []
  k_Amount_floordiv : PySem.W.keepIn K (.ref A.f_Amount_floordiv) = true
  F_Amount_floordiv : Fun K "__floordiv__" "Amount.__floordiv__" s_Amount_floordiv A.f_Amount_floordiv A.d_Amount_floordiv
  b_Amount_floordiv : Binds K A.d_Amount_floordiv ["self", "number"] []
  k_Amount_cut : PySem.W.keepIn K (.ref A.f_Amount_cut) = true
  F_Amount_cut : Fun K "cut" "Amount.cut" s_Amount_cut A.f_Amount_cut A.d_Amount_cut
  b_Amount_cut : Binds K A.d_Amount_cut ["self", "most"] []
  k_Amount_eq : PySem.W.keepIn K (.ref A.f_Amount_eq) = true
  F_Amount_eq : Fun K "__eq__" "Amount.__eq__" s_Amount_eq A.f_Amount_eq A.d_Amount_eq
  b_Amount_eq : Binds K A.d_Amount_eq ["self", "other"] []
  k_Amount_str : PySem.W.keepIn K (.ref A.f_Amount_str) = true
  F_Amount_str : Fun K "__str__" "Amount.__str__" s_Amount_str A.f_Amount_str A.d_Amount_str
  b_Amount_str : Binds K A.d_Amount_str ["self"] []
  m_law_pen : mg "_law_pen" = some (.ref A.f_law_pen)
  k_law_pen : PySem.W.keepIn K (.ref A.f_law_pen) = true
  F_law_pen : Fun K "_law_pen" "_law_pen" s_law_pen A.f_law_pen A.d_law_pen
  b_law_pen : Binds K A.d_law_pen ["script"] []
  m_law_draw : mg "_law_draw" = some (.ref A.f_law_draw)
  k_law_draw : PySem.W.keepIn K (.ref A.f_law_draw) = true
  F_law_draw : Fun K "_law_draw" "_law_draw" s_law_draw A.f_law_draw A.d_law_draw
  b_law_draw : Binds K A.d_law_draw ["pen", "many"] []
  m_law_pick : mg "_law_pick" = some (.ref A.f_law_pick)
  k_law_pick : PySem.W.keepIn K (.ref A.f_law_pick) = true
  F_law_pick : Fun K "_law_pick" "_law_pick" s_law_pick A.f_law_pick A.d_law_pick
  b_law_pick : Binds K A.d_law_pick ["pen", "some"] []
  m_law_cut : mg "_law_cut" = some (.ref A.f_law_cut)
  k_law_cut : PySem.W.keepIn K (.ref A.f_law_cut) = true
  F_law_cut : Fun K "_law_cut" "_law_cut" s_law_cut A.f_law_cut A.d_law_cut
  b_law_cut : Binds K A.d_law_cut ["row"] []
  m_law_plus : mg "_law_plus" = some (.ref A.f_law_plus)
  k_law_plus : PySem.W.keepIn K (.ref A.f_law_plus) = true
  F_law_plus : Fun K "_law_plus" "_law_plus" s_law_plus A.f_law_plus A.d_law_plus
  b_law_plus : Binds K A.d_law_plus ["one", "other"] []
  m_law_by : mg "_law_by" = some (.ref A.f_law_by)
  k_law_by : PySem.W.keepIn K (.ref A.f_law_by) = true
  F_law_by : Fun K "_law_by" "_law_by" s_law_by A.f_law_by A.d_law_by
  b_law_by : Binds K A.d_law_by ["one", "other"] []
  m_law_row : mg "_law_row" = some (.ref A.f_law_row)
  k_law_row : PySem.W.keepIn K (.ref A.f_law_row) = true
  F_law_row : Fun K "_law_row" "_law_row" s_law_row A.f_law_row A.d_law_row
  b_law_row : Binds K A.d_law_row ["pen"] []
  m_law_is : mg "_law_is" = some (.ref A.f_law_is)
  k_law_is : PySem.W.keepIn K (.ref A.f_law_is) = true
  F_law_is : Fun K "_law_is" "_law_is" s_law_is A.f_law_is A.d_law_is
  b_law_is : Binds K A.d_law_is ["found", "row"] []
  m_law_value : mg "_law_value" = some (.ref A.f_law_value)
  k_law_value : PySem.W.keepIn K (.ref A.f_law_value) = true
  F_law_value : Fun K "_law_value" "_law_value" s_law_value A.f_law_value A.d_law_value
  b_law_value : Binds K A.d_law_value ["row", "value"] []
  m_law_right : mg "_law_right" = some (.ref A.f_law_right)
  k_law_right : PySem.W.keepIn K (.ref A.f_law_right) = true
  F_law_right : Fun K "_law_right" "_law_right" s_law_right A.f_law_right A.d_law_right
  b_law_right : Binds K A.d_law_right ["pen", "one", "other"] []
  m_law : mg "law" = some (.ref A.f_law)
  k_law : PySem.W.keepIn K (.ref A.f_law) = true
  F_law : Fun K "law" "law" s_law A.f_law A.d_law
  b_law : Binds K A.d_law ["script"] []
  kw_0 : KwB K A.d_Amount_call ["self", "value"] 1 ["value"] [0, 1]
  me_Amount_len : Meth K A.Z.Amount "__len__" A.f_Amount_len
  me_Amount_iter : Meth K A.Z.Amount "__iter__" A.f_Amount_iter
  mg_Amount : mg "Amount" = some (.ref A.Z.Amount)
  cr_Amount : ClX.CRead K A.Z.Amount (.type "type")
  sf_Amount_of : PySem.W.findCls K (.ref A.Z.Amount) (.type "type") "of" = some (.get (.builtin "staticmethod.__get__") (.ref A.p_Amount_of) .none (.ref A.Z.Amount))
  sr_Amount_of : PySem.W.recIn K A.p_Amount_of "staticmethod" = some (.ref A.f_Amount_of :: A.r_Amount_of)
  two_Amount : LibOp.twoUp K A.Z.Amount = true
  is_Amount : PySem.W.subIn K (.type "int") (.ref A.Z.Amount) = some false
  me_Amount_add : Meth K A.Z.Amount "__add__" A.f_Amount_add
  rr_Amount_add : PySem.W.findIn K (.ref A.Z.Amount) "__radd__" = some none
  ii_Amount_add : PySem.W.findIn K (.ref A.Z.Amount) "__iadd__" = some none
  oi_Add : PySem.W.findIn K (.type "object") "__iadd__" = some none
  i1_Add : PySem.W.findIn K (.type "int") "__add__" = some A.fo_Add
  i2_Add : PySem.W.findIn K (.type "int") "__radd__" = some A.ro_Add
  mk_Amount : Mk K A.Z.Amount A.f_Amount_init
  kc_Amount : PySem.W.keepIn K (.ref A.Z.Amount) = true
  me_Amount_mul : Meth K A.Z.Amount "__mul__" A.f_Amount_mul
  rr_Amount_mul : PySem.W.findIn K (.ref A.Z.Amount) "__rmul__" = some none
  ii_Amount_mul : PySem.W.findIn K (.ref A.Z.Amount) "__imul__" = some none
  oi_Mult : PySem.W.findIn K (.type "object") "__imul__" = some none
  i1_Mult : PySem.W.findIn K (.type "int") "__mul__" = some A.fo_Mult
  i2_Mult : PySem.W.findIn K (.type "int") "__rmul__" = some A.ro_Mult
  me_Amount_sub : Meth K A.Z.Amount "__sub__" A.f_Amount_sub
  rr_Amount_sub : PySem.W.findIn K (.ref A.Z.Amount) "__rsub__" = some none
  ii_Amount_sub : PySem.W.findIn K (.ref A.Z.Amount) "__isub__" = some none
  oi_Sub : PySem.W.findIn K (.type "object") "__isub__" = some none
  i1_Sub : PySem.W.findIn K (.type "int") "__sub__" = some A.fo_Sub
  i2_Sub : PySem.W.findIn K (.type "int") "__rsub__" = some A.ro_Sub
  me_Amount_lshift : Meth K A.Z.Amount "__lshift__" A.f_Amount_lshift
  rr_Amount_lshift : PySem.W.findIn K (.ref A.Z.Amount) "__rlshift__" = some none
  ii_Amount_lshift : PySem.W.findIn K (.ref A.Z.Amount) "__ilshift__" = some none
  oi_LShift : PySem.W.findIn K (.type "object") "__ilshift__" = some none
  i1_LShift : PySem.W.findIn K (.type "int") "__lshift__" = some A.fo_LShift
  i2_LShift : PySem.W.findIn K (.type "int") "__rlshift__" = some A.ro_LShift
  cl_Amount : Cls K A.Z.Amount
  na_Amount_degree : NoAttr K A.Z.Amount "degree"
  ne_Amount : PySem.W.findIn K (.ref A.Z.Amount) "__ne__" = some (some (.builtin "object.__ne__"))
  ob_Amount : PySem.W.subIn K (.ref A.Z.Amount) (.type "object") = some true
  nf_Amount : ∀ T ∈ bltns, PySem.W.subIn K (.type T) (.ref A.Z.Amount) = some false
  ty_Amount : InsTy K A.Z.Amount
  me_Amount_eq : Meth K A.Z.Amount "__eq__" A.f_Amount_eq
  me_Amount_getitem : Meth K A.Z.Amount "__getitem__" A.f_Amount_getitem
  fi_Amount_getitem : PySem.W.fnIn K A.f_Amount_getitem = true
  cv_Amount_MOST : ClX.CVal K A.Z.Amount (.type "type") "MOST" (.int 2000) (.int 2000 A.u_cv_Amount_MOST)
  me_Amount_call : Meth K A.Z.Amount "__call__" A.f_Amount_call
  fi_Amount_call : PySem.W.fnIn K A.f_Amount_call = true
  me_Amount_neg : Meth K A.Z.Amount "__neg__" A.f_Amount_neg
  me_Amount_floordiv : Meth K A.Z.Amount "__floordiv__" A.f_Amount_floordiv
  rr_Amount_floordiv : PySem.W.findIn K (.ref A.Z.Amount) "__rfloordiv__" = some none
  ii_Amount_floordiv : PySem.W.findIn K (.ref A.Z.Amount) "__ifloordiv__" = some none
  oi_FloorDiv : PySem.W.findIn K (.type "object") "__ifloordiv__" = some none
  i1_FloorDiv : PySem.W.findIn K (.type "int") "__floordiv__" = some A.fo_FloorDiv
  i2_FloorDiv : PySem.W.findIn K (.type "int") "__rfloordiv__" = some A.ro_FloorDiv
  me_Amount_cut : Meth K A.Z.Amount "cut" A.f_Amount_cut
  me_Amount_str : Meth K A.Z.Amount "__str__" A.f_Amount_str
  rel_Amount_Amount : PySem.W.kitOne K (.ref A.Z.Amount) (.ref A.Z.Amount) = some true
  out_Amount : OutOk K A.Z.Amount
  na_Amount_integers : NoAttr K A.Z.Amount "integers"
  nb_Amount : PySem.W.findIn K (.ref A.Z.Amount) "__bool__" = some none
  sf_Amount_read : PySem.W.findCls K (.ref A.Z.Amount) (.type "type") "read" = some (.get (.builtin "classmethod.__get__") (.ref A.p_Amount_read) .none (.ref A.Z.Amount))
  sr_Amount_read : PySem.W.recIn K A.p_Amount_read "classmethod" = some (.ref A.f_Amount_read :: A.r_Amount_read)
  fi_Amount_read : PySem.W.fnIn K A.f_Amount_read = true
  g_FIGURES : mg "FIGURES" = some (.str "0123456789" A.t_FIGURES)
  g_MOST_POWER : mg "MOST_POWER" = some (.int 2000 A.t_MOST_POWER)
section
variable {P : Program} {w : World} {K : PySem.W.Frag} {mg : Str → Option Value} {base : Heap} {A : Adr}
theorem ok_words_of (T : Txt K mg A) : FnG P w K mg base CX0 1 A.f_words_of A.d_words_of ["text"] (spD K (c_words_of A.Z)) := by
  have S := sc_words_of
  refine def_ok (k := 0) T.F_words_of sc_words_of (l_words_of A.Z) (fun cdv A0 outer s H E st => ?_)
  exact ⟨_, kb_words_of A.Z, (dss_cons (by exact (ds_if (by exact (dt_not (by exact (dt_val (by exact (de_blt call_isi d_isi T.z_isinstance (by exact (dab_cons (by exact (dbv 0 (pv 0))) (by exact (dab_cons (by exact (DE.b (by exact (de_cls T.z_str)))) dab_nil))))))))))
    (by exact (dss_one ds_never))
    dss_nil))
    (by exact (dss_one (by exact (ds_ret (by exact (de_split (by exact (dbv 0 (pv 0))) de_str))))))), m_words_of A.Z⟩
theorem ok_is_integer (T : Txt K mg A) : FnG P w K mg base CX0 1 A.f_is_integer A.d_is_integer ["value"] (spD K (c_is_integer A.Z)) := by
  have S := sc_is_integer
  refine def_ok (k := 0) T.F_is_integer sc_is_integer (l_is_integer A.Z) (fun cdv A0 outer s H E st => ?_)
  exact ⟨_, kb_is_integer A.Z, (dss_one (by exact (ds_ret (by exact (de_and (by exact (de_blt call_isi d_isi T.z_isinstance (by exact (dab_cons (by exact (dbv 0 (pv 0))) (by exact (dab_cons (by exact (DE.b (by exact (de_cls T.z_int)))) dab_nil)))))) (by exact (de_one (by exact (de_not (by exact (de_blt call_isi d_isi T.z_isinstance (by exact (dab_cons (by exact (dbv 0 (pv 0))) (by exact (dab_cons (by exact (DE.b (by exact (de_cls T.z_bool)))) dab_nil))))))))))))))), m_is_integer A.Z⟩
theorem ok_need_number (T : Txt K mg A) : FnG P w K mg base CX0 2 A.f_need_number A.d_need_number ["value", "least"] (spD K (c_need_number A.Z)) := by
  have S := sc_need_number
  refine def_ok (k := 1) T.F_need_number sc_need_number (l_need_number A.Z) (fun cdv A0 outer s H E st => ?_)
  exact ⟨_, kb_need_number A.Z, (dss_one (by exact (ds_if (by exact (DW.t (by exact (dw_or (by exact (dt_not (by exact (dt_val (by exact (de_fn (ok_is_integer T) st T.m_is_integer T.k_is_integer T.b_is_integer (by exact (da_cons (by exact (dev 0 (pv 0))) da_nil)))))))) (by exact (dw_or1 (by exact (dt_cmp op_lt d_cmp (by exact (dbv 0 (pv 0))) (by exact (dbv 1 (pv 1))) (nomark _)))))))))
    (by exact (dss_one ds_never))
    dss_nil))), m_need_number A.Z⟩
theorem ok_trimmed (T : Txt K mg A) : FnG P w K mg base CX0 1 A.f_trimmed A.d_trimmed ["numbers"] (spD K (c_trimmed A.Z)) := by
  have S := sc_trimmed
  refine def_ok (k := 0) T.F_trimmed sc_trimmed (l_trimmed A.Z) (fun cdv A0 outer s H E st => ?_)
  exact ⟨_, kb_trimmed A.Z, (dss_cons (by exact (ds_set 1 (by exact (de_blt c_len d_len T.z_len (by exact (dab_cons (by exact (dbv 0 (pv 0))) dab_nil)))) (fun h => ps_set (i := 1) S.nd rfl (by first | exact Or.inl rfl | exact Or.inr rfl) h)))
    (by exact (dss_cons (by exact (ds_while (by exact (DW.t (by exact (dw_and (by exact (dt_cmp op_gt d_cmp (by exact (dbv 1 (pv 1))) (by exact (DE.b de_int)) (nomark _))) (by exact (dw_and1 (by exact (dt_cmp (op_eqD st.u64) d_eq (by exact (DE.b (by exact (de_ix (by exact (dbv 0 (pv 0))) (by exact (DE.b (by exact (de_bin op_sub d_sub (by exact (dbv 1 (pv 1))) (by exact (DE.b de_int)))))))))) (by exact (DE.b de_int)) (nomark _)))))))))
    (by exact (dss_one (by exact (ds_aug 1 de_int (fun a => ps_aug (i := 1) S.nd rfl (by first | exact Or.inl rfl | exact Or.inr rfl) a ip_sub))))) (fun a b => ps_while PassesOwn.never a b)))
    (by exact (dss_one (by exact (ds_ret (by exact (de_bty call_tuple_of d_tuple T.z_tuple (by exact (dab_cons (by exact (DE.b (by exact (de_slice (by exact (dbv 0 (pv 0))) do_none (by exact (do_some (by exact (dev 1 (pv 1))))))))) dab_nil))))))))))), m_trimmed A.Z⟩
theorem ok_at_power (T : Txt K mg A) : FnG P w K mg base CX0 1 A.f_at_power A.d_at_power ["row", "power"] (spD K (c_at_power A.Z)) := by
  have S := sc_at_power
  refine def_ok (k := 0) T.F_at_power sc_at_power (l_at_power A.Z) (fun cdv A0 outer s H E st => ?_)
  exact ⟨_, kb_at_power A.Z, (dss_one (by exact (ds_ret (by exact (de_if (by exact (dt_cmp op_lt d_cmp (by exact (dbv 1 (pv 1))) (by exact (DE.b (by exact (de_blt c_len d_len T.z_len (by exact (dab_cons (by exact (dbv 0 (pv 0))) dab_nil)))))) (nomark _))) (by exact (de_ix (by exact (dbv 0 (pv 0))) (by exact (dbv 1 (pv 1))))) de_int))))), m_at_power A.Z⟩
theorem ok_plus (T : Txt K mg A) : FnG P w K mg base CX0 2 A.f_plus A.d_plus ["one", "other"] (spD K (c_plus A.Z)) := by
  have S := sc_plus
  refine def_ok (k := 1) T.F_plus sc_plus (l_plus A.Z) (fun cdv A0 outer s H E st => ?_)
  exact ⟨_, kb_plus A.Z, (dss_cons (by exact (ds_set 2 (by exact (de_if (by exact (dt_cmp op_ge d_cmp (by exact (DE.b (by exact (de_blt c_len d_len T.z_len (by exact (dab_cons (by exact (dbv 0 (pv 0))) dab_nil)))))) (by exact (DE.b (by exact (de_blt c_len d_len T.z_len (by exact (dab_cons (by exact (dbv 1 (pv 1))) dab_nil)))))) (nomark _))) (by exact (de_blt c_len d_len T.z_len (by exact (dab_cons (by exact (dbv 0 (pv 0))) dab_nil)))) (by exact (de_blt c_len d_len T.z_len (by exact (dab_cons (by exact (dbv 1 (pv 1))) dab_nil)))))) (fun h => ps_set (i := 2) S.nd rfl (by first | exact Or.inl rfl | exact Or.inr rfl) h)))
    (by exact (dss_one (by exact (ds_ret (by exact (de_fn (ok_trimmed T) st T.m_trimmed T.k_trimmed T.b_trimmed (by exact (da_cons (by exact (DOw.e (by exact (dow_lc (own := [("power", 3)]) (by exact (dlc_mk (own := [("power", 3)]) S.nd (by exact (di_rng1 T.z_range (by exact (da_cons (by exact (dev 2 (pv 2))) da_nil)))) (blkOk_by (by change blkC ["one", "other", "size", "power"] (defScope s_plus) _ _ = true; decide +kernel)) (by exact (dg_name (pg_name (i := 3) S.nd rfl (by first | exact Or.inl rfl | exact Or.inr rfl)))) dts_nil (by exact (de_bin o_add d_add (by exact (DE.b (by exact (de_fn (ok_at_power T) (by exact st.blk) T.m_at_power T.k_at_power T.b_at_power (by exact (da_cons (by exact (dev 0 (pv 0))) (by exact (da_cons (by exact (dev 3 (pv 3))) da_nil)))))))) (by exact (DE.b (by exact (de_fn (ok_at_power T) (by exact st.blk) T.m_at_power T.k_at_power T.b_at_power (by exact (da_cons (by exact (dev 1 (pv 1))) (by exact (da_cons (by exact (dev 3 (pv 3))) da_nil)))))))))) (fun _ _ _ _ _ => (by exact (dg_name (pg_name (i := 3) S.nd rfl (by first | exact Or.inl rfl | exact Or.inr rfl))))) (fun _ _ _ _ _ => dts_nil) (fun _ _ _ _ _ => (by exact (de_bin o_add d_add (by exact (DE.b (by exact (de_fn (ok_at_power T) (by exact st.blk) T.m_at_power T.k_at_power T.b_at_power (by exact (da_cons (by exact (dev 0 (pv 0))) (by exact (da_cons (by exact (dev 3 (pv 3))) da_nil)))))))) (by exact (DE.b (by exact (de_fn (ok_at_power T) (by exact st.blk) T.m_at_power T.k_at_power T.b_at_power (by exact (da_cons (by exact (dev 1 (pv 1))) (by exact (da_cons (by exact (dev 3 (pv 3))) da_nil))))))))))))))))) da_nil))))))))), m_plus A.Z⟩
theorem ok_scaled (T : Txt K mg A) : FnG P w K mg base CX0 2 A.f_scaled A.d_scaled ["one", "factor"] (spD K (c_scaled A.Z)) := by
  have S := sc_scaled
  refine def_ok (k := 1) T.F_scaled sc_scaled (l_scaled A.Z) (fun cdv A0 outer s H E st => ?_)
  exact ⟨_, kb_scaled A.Z, (dss_one (by exact (ds_ret (by exact (de_fn (ok_trimmed T) st T.m_trimmed T.k_trimmed T.b_trimmed (by exact (da_cons (by exact (DOw.e (by exact (dow_lc (own := [("number", 2)]) (by exact (dlc_mk (own := [("number", 2)]) S.nd (by exact (di_seq (by exact (dev 0 (pv 0))))) (blkOk_by (by change blkC ["one", "factor", "number"] (defScope s_scaled) _ _ = true; decide +kernel)) (by exact (dg_name (pg_name (i := 2) S.nd rfl (by first | exact Or.inl rfl | exact Or.inr rfl)))) dts_nil (by exact (de_bin o_mulY d_mulY (by exact (dbv 2 (pv 2))) (by exact (dbv 1 (pv 1))))) (fun _ _ _ _ _ => (by exact (dg_name (pg_name (i := 2) S.nd rfl (by first | exact Or.inl rfl | exact Or.inr rfl))))) (fun _ _ _ _ _ => dts_nil) (fun _ _ _ _ _ => (by exact (de_bin o_mulY d_mulY (by exact (dbv 2 (pv 2))) (by exact (dbv 1 (pv 1)))))))))))) da_nil))))))), m_scaled A.Z⟩
theorem ok_at_product (T : Txt K mg A) : FnG P w K mg base CX0 1 A.f_at_product A.d_at_product ["one", "other", "power"] (spD K (c_at_product A.Z)) := by
  have S := sc_at_product
  refine def_ok (k := 0) T.F_at_product sc_at_product (l_at_product A.Z) (fun cdv A0 outer s H E st => ?_)
  exact ⟨_, kb_at_product A.Z, (dss_cons (by exact (ds_set 3 (by exact (de_if (by exact (dt_cmp op_gt d_cmp (by exact (DE.b (by exact (de_bin o_add d_add (by exact (dbv 2 (pv 2))) (by exact (DE.b de_int)))))) (by exact (DE.b (by exact (de_blt c_len d_len T.z_len (by exact (dab_cons (by exact (dbv 1 (pv 1))) dab_nil)))))) (nomark _))) (by exact (de_bin op_sub d_sub (by exact (DE.b (by exact (de_bin o_add d_add (by exact (dbv 2 (pv 2))) (by exact (DE.b de_int)))))) (by exact (DE.b (by exact (de_blt c_len d_len T.z_len (by exact (dab_cons (by exact (dbv 1 (pv 1))) dab_nil)))))))) de_int)) (fun h => ps_set (i := 3) S.nd rfl (by first | exact Or.inl rfl | exact Or.inr rfl) h)))
    (by exact (dss_cons (by exact (ds_set 4 (by exact (de_if (by exact (dt_cmp op_lt d_cmp (by exact (dbv 2 (pv 2))) (by exact (DE.b (by exact (de_blt c_len d_len T.z_len (by exact (dab_cons (by exact (dbv 0 (pv 0))) dab_nil)))))) (nomark _))) (by exact (de_bin o_add d_add (by exact (dbv 2 (pv 2))) (by exact (DE.b de_int)))) (by exact (de_blt c_len d_len T.z_len (by exact (dab_cons (by exact (dbv 0 (pv 0))) dab_nil)))))) (fun h => ps_set (i := 4) S.nd rfl (by first | exact Or.inl rfl | exact Or.inr rfl) h)))
    (by exact (dss_one (by exact (ds_ret (by exact (de_blt (cr_sum rfl) d_sum T.z_sum (by exact (dab_cons (by exact (DE.b (by exact (DOw.e (by exact (dow_lc (own := [("at", 5)]) (by exact (dlc_mk (own := [("at", 5)]) S.nd (by exact (di_rng2 T.z_range (by exact (da_cons (by exact (dev 3 (pv 3))) (by exact (da_cons (by exact (dev 4 (pv 4))) da_nil)))))) (blkOk_by (by change blkC ["one", "other", "power", "begin", "end", "at"] (defScope s_at_product) _ _ = true; decide +kernel)) (by exact (dg_name (pg_name (i := 5) S.nd rfl (by first | exact Or.inl rfl | exact Or.inr rfl)))) dts_nil (by exact (de_bin o_mulY d_mulY (by exact (DE.b (by exact (de_ix (by exact (dbv 0 (pv 0))) (by exact (dbv 5 (pv 5))))))) (by exact (DE.b (by exact (de_ix (by exact (dbv 1 (pv 1))) (by exact (DE.b (by exact (de_bin op_sub d_sub (by exact (dbv 2 (pv 2))) (by exact (dbv 5 (pv 5))))))))))))) (fun _ _ _ _ _ => (by exact (dg_name (pg_name (i := 5) S.nd rfl (by first | exact Or.inl rfl | exact Or.inr rfl))))) (fun _ _ _ _ _ => dts_nil) (fun _ _ _ _ _ => (by exact (de_bin o_mulY d_mulY (by exact (DE.b (by exact (de_ix (by exact (dbv 0 (pv 0))) (by exact (dbv 5 (pv 5))))))) (by exact (DE.b (by exact (de_ix (by exact (dbv 1 (pv 1))) (by exact (DE.b (by exact (de_bin op_sub d_sub (by exact (dbv 2 (pv 2))) (by exact (dbv 5 (pv 5)))))))))))))))))))))) dab_nil))))))))))), m_at_product A.Z⟩
theorem ok_multiplied (T : Txt K mg A) : FnG P w K mg base CX0 2 A.f_multiplied A.d_multiplied ["one", "other"] (spD K (c_multiplied A.Z)) := by
  have S := sc_multiplied
  refine def_ok (k := 1) T.F_multiplied sc_multiplied (l_multiplied A.Z) (fun cdv A0 outer s H E st => ?_)
  exact ⟨_, kb_multiplied A.Z, (dss_cons (by exact (ds_if (by exact (DW.t (by exact (dw_or (by exact (dt_cmp (op_eqD st.u64) d_eq (by exact (DE.b (by exact (de_blt c_len d_len T.z_len (by exact (dab_cons (by exact (dbv 0 (pv 0))) dab_nil)))))) (by exact (DE.b de_int)) (nomark _))) (by exact (dw_or1 (by exact (dt_cmp (op_eqD st.u64) d_eq (by exact (DE.b (by exact (de_blt c_len d_len T.z_len (by exact (dab_cons (by exact (dbv 1 (pv 1))) dab_nil)))))) (by exact (DE.b de_int)) (nomark _)))))))))
    (by exact (dss_one (by exact (ds_ret (by exact (de_tup da_nil))))))
    dss_nil))
    (by exact (dss_one (by exact (ds_ret (by exact (de_fn (ok_trimmed T) st T.m_trimmed T.k_trimmed T.b_trimmed (by exact (da_cons (by exact (DOw.e (by exact (dow_lc (own := [("power", 2)]) (by exact (dlc_mk (own := [("power", 2)]) S.nd (by exact (di_rng1 T.z_range (by exact (da_cons (by exact (de_bin op_sub d_sub (by exact (DE.b (by exact (de_bin o_add d_add (by exact (DE.b (by exact (de_blt c_len d_len T.z_len (by exact (dab_cons (by exact (dbv 0 (pv 0))) dab_nil)))))) (by exact (DE.b (by exact (de_blt c_len d_len T.z_len (by exact (dab_cons (by exact (dbv 1 (pv 1))) dab_nil)))))))))) (by exact (DE.b de_int)))) da_nil)))) (blkOk_by (by change blkC ["one", "other", "power"] (defScope s_multiplied) _ _ = true; decide +kernel)) (by exact (dg_name (pg_name (i := 2) S.nd rfl (by first | exact Or.inl rfl | exact Or.inr rfl)))) dts_nil (by exact (de_fn (ok_at_product T) (by exact st.blk) T.m_at_product T.k_at_product T.b_at_product (by exact (da_cons (by exact (dev 0 (pv 0))) (by exact (da_cons (by exact (dev 1 (pv 1))) (by exact (da_cons (by exact (dev 2 (pv 2))) da_nil)))))))) (fun _ _ _ _ _ => (by exact (dg_name (pg_name (i := 2) S.nd rfl (by first | exact Or.inl rfl | exact Or.inr rfl))))) (fun _ _ _ _ _ => dts_nil) (fun _ _ _ _ _ => (by exact (de_fn (ok_at_product T) (by exact st.blk) T.m_at_product T.k_at_product T.b_at_product (by exact (da_cons (by exact (dev 0 (pv 0))) (by exact (da_cons (by exact (dev 1 (pv 1))) (by exact (da_cons (by exact (dev 2 (pv 2))) da_nil))))))))))))))) da_nil))))))))), m_multiplied A.Z⟩
theorem ok_is_written (T : Txt K mg A) : FnG P w K mg base CX0 1 A.f_is_written A.d_is_written ["word"] (spD K (c_is_written A.Z)) := by
  have S := sc_is_written
  refine def_ok (k := 0) T.F_is_written sc_is_written (l_is_written A.Z) (fun cdv A0 outer s H E st => ?_)
  exact ⟨_, kb_is_written A.Z, (dss_cons (by exact (ds_set 1 (by exact (de_if (by exact (dt_cmp (op_eqD st.u64) d_eq (by exact (DE.b (by exact (de_sliceX (by exact (dbv 0 (pv 0))) do_none (by exact (do_some de_int)))))) (by exact (DE.b de_str)) (nomark _))) (by exact (de_sliceX (by exact (dbv 0 (pv 0))) (by exact (do_some de_int)) do_none)) (by exact (dev 0 (pv 0))))) (fun h => ps_set (i := 1) S.nd rfl (by first | exact Or.inl rfl | exact Or.inr rfl) h)))
    (by exact (dss_cons (by exact (ds_if (by exact (DW.t (by exact (dw_or (by exact (dt_cmp (op_eqD st.u64) d_eq (by exact (dbv 1 (pv 1))) (by exact (DE.b de_str)) (nomark _))) (by exact (dw_or1 (by exact (dt_not (by exact (dt_val (by exact (de_blt (cr_all rfl) d_all T.z_all (by exact (dab_cons (by exact (DE.b (by exact (DOw.e (by exact (dow_lc (own := [("figure", 2)]) (by exact (dlc_mk (own := [("figure", 2)]) S.nd (by exact (di_str (by exact (dev 1 (pv 1))))) (blkOk_by (by change blkC ["word", "figures", "figure"] (defScope s_is_written) _ _ = true; decide +kernel)) (by exact (dg_name (pg_name (i := 2) S.nd rfl (by first | exact Or.inl rfl | exact Or.inr rfl)))) dts_nil (by exact (de_cmp (o_inX st.blk.u65) d_inX (by exact (dbv 2 (pv 2))) (by exact (DE.b (by exact (de_glob (v := .str (Str.ofString "0123456789")) T.g_FIGURES ⟨_, rfl⟩ (fun _ _ => .str _))))) (by rfl))) (fun _ _ _ _ _ => (by exact (dg_name (pg_name (i := 2) S.nd rfl (by first | exact Or.inl rfl | exact Or.inr rfl))))) (fun _ _ _ _ _ => dts_nil) (fun _ _ _ _ _ => (by exact (de_cmp (o_inX st.blk.u65) d_inX (by exact (dbv 2 (pv 2))) (by exact (DE.b (by exact (de_glob (v := .str (Str.ofString "0123456789")) T.g_FIGURES ⟨_, rfl⟩ (fun _ _ => .str _))))) (by rfl)))))))))))) dab_nil))))))))))))))
    (by exact (dss_one (by exact (ds_ret de_bl))))
    dss_nil))
    (by exact (dss_one (by exact (ds_ret (by exact (de_or (by exact (de_cmp (op_neD st.u64) d_ne (by exact (DE.b (by exact (de_ix (by exact (dbv 1 (pv 1))) (by exact (DE.b de_int)))))) (by exact (DE.b de_str)) (nomark _))) (by exact (de_one (by exact (de_cmp (op_eqD st.u64) d_eq (by exact (dbv 0 (pv 0))) (by exact (DE.b de_str)) (nomark _)))))))))))))), m_is_written A.Z⟩
theorem ok_need_amount (T : Txt K mg A) : FnG P w K mg base CX0 1 A.f_need_amount A.d_need_amount ["value"] (spD K (c_need_amount A.Z)) := by
  have S := sc_need_amount
  refine def_ok (k := 0) T.F_need_amount sc_need_amount (l_need_amount A.Z) (fun cdv A0 outer s H E st => ?_)
  exact ⟨_, kb_need_amount A.Z, (dss_one (by exact (ds_if (by exact (dt_not (by exact (dt_val (by exact (de_isiC T.z_isinstance (by exact (RelOk.cons T.ty_Amount T.rel_Amount_Amount RelOk.nil)) T.out_Amount (by exact (dbv 0 (pv 0))) (clsV_pe (by exact rfl) T.mg_Amount)))))))
    (by exact (dss_one ds_never))
    dss_nil))), m_need_amount A.Z⟩
theorem ok_Amount_init (T : Txt K mg A) : FnP P w K mg base 2 A.f_Amount_init (spI K A.Z.Amount (c_Amount_init A.Z)) := by
  have S := sc_Amount_init
  refine initS_ok (k := 1) T.F_Amount_init sc_Amount_init (l_Amount_init A.Z) (fun _ _ _ _ _ _ us rest hl => match us, rest, hl with | [_], [], _ => rfl | [_], _ :: _, _ => rfl) (fun cdv A0 outer s H E st => ?_)
  exact ⟨_, kb_Amount_init A.Z, (dss_cons (by exact (ds_for (by exact (di_seq (by exact (dev 1 (pv 1))))) (by exact (dg_name (pg_name (i := 2) S.nd rfl (by first | exact Or.inl rfl | exact Or.inr rfl))))
    (by exact (dss_one (by exact (ds_if (by exact (dt_not (by exact (dt_val (by exact (de_fn (ok_is_integer T) st T.m_is_integer T.k_is_integer T.b_is_integer (by exact (da_cons (by exact (dev 2 (pv 2))) da_nil))))))))
    (by exact (dss_one ds_never))
    dss_nil)))) (fun a b c => ps_for PassesOwn.never rfl a b c)))
    (by exact (dss_cons (by exact (ds_setF 0 (by exact (FldOk.cons T.cl_Amount T.na_Amount_integers FldOk.nil)) (by exact (de_fn (ok_trimmed T) st T.m_trimmed T.k_trimmed T.b_trimmed (by exact (da_cons (by exact (dev 1 (pv 1))) da_nil)))) (hv := pv 0)))
    (by exact (dss_cons (by exact (ds_setF 0 (by exact (FldOk.cons T.cl_Amount T.na_Amount_degree FldOk.nil)) (by exact (de_bin op_sub d_sub (by exact (DE.b (by exact (de_blt c_len d_len T.z_len (by exact (dab_cons (by exact (DE.b (by exact (de_fldO 0 (by exact (FldOk.cons T.cl_Amount T.na_Amount_integers FldOk.nil)) (hv := pv 0))))) dab_nil)))))) (by exact (DE.b de_int)))) (hv := pv 0)))
    (by exact (dss_one (by exact (ds_if (by exact (dt_cmp op_gt d_cmp (by exact (DE.b (by exact (de_fldO 0 (by exact (FldOk.cons T.cl_Amount T.na_Amount_degree FldOk.nil)) (hv := pv 0))))) (by exact (DE.b (by exact (de_glob (v := .int 2000) T.g_MOST_POWER ⟨_, rfl⟩ (fun _ _ => .int 2000))))) (nomark _)))
    (by exact (dss_one ds_never))
    dss_nil))))))))), m_Amount_init A.Z⟩
theorem ok_Amount_of (T : Txt K mg A) : FnG P w K mg base CX0 4 A.f_Amount_of A.d_Amount_of ["numbers"] (spD K (c_Amount_of A.Z)) := by
  have S := sc_Amount_of
  refine def_ok (k := 3) T.F_Amount_of sc_Amount_of (l_Amount_of A.Z) (fun cdv A0 outer s H E st => ?_)
  exact ⟨_, kb_Amount_of A.Z, (dss_cons (by exact (ds_if (by exact (dt_not (by exact (dt_val (by exact (de_isi2 T.z_isinstance (by exact (dbv 0 (pv 0))) (pe_bltn (by rfl) T.z_list (by decide +kernel) rfl) (pe_bltn (by rfl) T.z_tuple (by decide +kernel) rfl)))))))
    (by exact (dss_one ds_never))
    dss_nil))
    (by exact (dss_one (by exact (ds_ret (by exact (de_mkS st ⟨_, _, T.mk_Amount, ok_Amount_init T, by decide⟩ T.kc_Amount T.mg_Amount (by exact (dev 0 (pv 0)))))))))), m_Amount_of A.Z⟩
theorem ok_Amount_read (T : Txt K mg A) : FnG P w K mg base CX0 5 A.f_Amount_read A.d_Amount_read ["cls", "text"] (spD K (c_Amount_read A.Z)) := by
  have S := sc_Amount_read
  refine def_ok (k := 4) T.F_Amount_read sc_Amount_read (l_Amount_read A.Z) (fun cdv A0 outer s H E st => ?_)
  exact ⟨_, kb_Amount_read A.Z, (dss_cons (by exact (ds_set 2 (by exact (de_fn (ok_words_of T) st T.m_words_of T.k_words_of T.b_words_of (by exact (da_cons (by exact (dev 1 (pv 1))) da_nil)))) (fun h => ps_set (i := 2) S.nd rfl (by first | exact Or.inl rfl | exact Or.inr rfl) h)))
    (by exact (dss_cons (by exact (ds_for (by exact (di_enum T.z_enumerate (by exact (da_cons (by exact (dev 2 (pv 2))) da_nil)))) (by exact (dg_tup (m := 2) (by exact (dgs_cons (by exact (dg_name (pg_name (i := 3) S.nd rfl (by first | exact Or.inl rfl | exact Or.inr rfl)))) (by exact (dgs_cons (by exact (dg_name (pg_name (i := 4) S.nd rfl (by first | exact Or.inl rfl | exact Or.inr rfl)))) dgs_nil))))))
    (by exact (dss_one (by exact (ds_if (by exact (dt_not (by exact (dt_val (by exact (de_fn (ok_is_written T) st T.m_is_written T.k_is_written T.b_is_written (by exact (da_cons (by exact (dev 4 (pv 4))) da_nil))))))))
    (by exact (dss_one ds_never))
    dss_nil)))) (fun a b c => ps_for PassesOwn.never rfl a b c)))
    (by exact (dss_cons (by exact (ds_if (by exact (DW.t (by exact (dw_and (by exact (dt_cmp op_gt d_cmp (by exact (DE.b (by exact (de_blt c_len d_len T.z_len (by exact (dab_cons (by exact (dbv 2 (pv 2))) dab_nil)))))) (by exact (DE.b de_int)) (nomark _))) (by exact (dw_and1 (by exact (dt_cmp (op_eqD st.u64) d_eq (by exact (DE.b (by exact (de_ix (by exact (dbv 2 (pv 2))) (by exact (DE.b (by exact (de_un un_neg un_negD (by exact (DE.b de_int)))))))))) (by exact (DE.b de_str)) (nomark _)))))))))
    (by exact (dss_one ds_never))
    dss_nil))
    (by exact (dss_one (by exact (ds_ret (by exact (de_stat st ⟨_, _, _, _, _, T.cr_Amount, T.sf_Amount_of, T.sr_Amount_of, T.F_Amount_of.kp, ((ok_Amount_of T).pos T.b_Amount_of), by decide⟩ (by exact (dbv 0 (pv 0))) (by exact (da_cons (by exact (DOw.e (by exact (dow_lc (own := [("word", 4)]) (by exact (dlc_mk (own := [("word", 4)]) S.nd (by exact (di_seq (by exact (dev 2 (pv 2))))) (blkOk_by (by change blkC ["cls", "text", "words", "at", "word"] (defScope s_Amount_read) _ _ = true; decide +kernel)) (by exact (dg_name (pg_name (i := 4) S.nd rfl (by first | exact Or.inl rfl | exact Or.inr rfl)))) dts_nil (by exact (de_bty call_intX d_intX T.z_int (by exact (dab_cons (by exact (dbv 4 (pv 4))) dab_nil)))) (fun _ _ _ _ _ => (by exact (dg_name (pg_name (i := 4) S.nd rfl (by first | exact Or.inl rfl | exact Or.inr rfl))))) (fun _ _ _ _ _ => dts_nil) (fun _ _ _ _ _ => (by exact (de_bty call_intX d_intX T.z_int (by exact (dab_cons (by exact (dbv 4 (pv 4))) dab_nil))))))))))) da_nil))))))))))))), m_Amount_read A.Z⟩
theorem ok_Amount_len (T : Txt K mg A) : FnG P w K mg base CX0 1 A.f_Amount_len A.d_Amount_len ["self"] (spLn K A.Z.Amount "integers") := by
  have S := sc_Amount_len
  refine len_ok (k := 0) T.F_Amount_len sc_Amount_len T.cl_Amount T.na_Amount_integers (fun cdv A0 outer s H E st => ?_)
  exact pss_one (ps_ret (pe_callB c_len (by exact rfl) T.z_len (by decide +kernel) (pa_cons (pe_fld (pv 0) rfl) pa_nil)))
theorem ok_Amount_iter (T : Txt K mg A) : ItP P w K mg base 1 A.f_Amount_iter A.Z.Amount "integers" := by
  have S := sc_Amount_iter
  refine iter_ok (k := 0) T.F_Amount_iter sc_Amount_iter T.b_Amount_iter T.cl_Amount T.na_Amount_integers (fun cdv A0 outer s H E st => ?_)
  exact pss_one (ps_ret (pe_callB call_iterT (by exact rfl) T.z_iter (by decide +kernel) (pa_cons (pe_fld (pv 0) rfl) pa_nil)))
theorem ok_Amount_getitem (T : Txt K mg A) : FnG P w K mg base CX0 3 A.f_Amount_getitem A.d_Amount_getitem ["self", "power"] (spD K (c_Amount_getitem A.Z)) := by
  have S := sc_Amount_getitem
  refine def_ok (k := 2) T.F_Amount_getitem sc_Amount_getitem (l_Amount_getitem A.Z) (fun cdv A0 outer s H E st => ?_)
  exact ⟨_, kb_Amount_getitem A.Z, (dss_cons (by exact (ds_expr (by exact (de_fn (ok_need_number T) st T.m_need_number T.k_need_number T.b_need_number (by exact (da_cons (by exact (dev 1 (pv 1))) (by exact (da_cons de_int da_nil))))))))
    (by exact (dss_one (by exact (ds_ret (by exact (de_if (by exact (dt_cmp op_lt d_cmp (by exact (dbv 1 (pv 1))) (by exact (DE.b (by exact (de_blt c_len d_len T.z_len (by exact (dab_cons (by exact (DE.b (by exact (de_fld (by exact (FldOk.cons T.cl_Amount T.na_Amount_integers FldOk.nil)) (by exact (dbv 0 (pv 0))))))) dab_nil)))))) (nomark _))) (by exact (de_ix (by exact (DE.b (by exact (de_fld (by exact (FldOk.cons T.cl_Amount T.na_Amount_integers FldOk.nil)) (by exact (dbv 0 (pv 0))))))) (by exact (dbv 1 (pv 1))))) de_int))))))), m_Amount_getitem A.Z⟩
theorem ok_Amount_call (T : Txt K mg A) : FnG P w K mg base CX0 2 A.f_Amount_call A.d_Amount_call ["self", "value"] (spD K (c_Amount_call A.Z)) := by
  have S := sc_Amount_call
  refine def_ok (k := 1) T.F_Amount_call sc_Amount_call (l_Amount_call A.Z) (fun cdv A0 outer s H E st => ?_)
  exact ⟨_, kb_Amount_call A.Z, (dss_cons (by exact (ds_if (by exact (dt_not (by exact (dt_val (by exact (de_fn (ok_is_integer T) st T.m_is_integer T.k_is_integer T.b_is_integer (by exact (da_cons (by exact (dev 1 (pv 1))) da_nil))))))))
    (by exact (dss_one ds_never))
    dss_nil))
    (by exact (dss_cons (by exact (ds_set 2 de_int (fun h => ps_set (i := 2) S.nd rfl (by first | exact Or.inl rfl | exact Or.inr rfl) h)))
    (by exact (dss_cons (by exact (ds_for (by exact (di_seq (by exact (de_rev (by exact (DE.b (by exact (de_fld (by exact (FldOk.cons T.cl_Amount T.na_Amount_integers FldOk.nil)) (by exact (dbv 0 (pv 0))))))))))) (by exact (dg_name (pg_name (i := 3) S.nd rfl (by first | exact Or.inl rfl | exact Or.inr rfl))))
    (by exact (dss_one (by exact (ds_set 2 (by exact (de_bin o_add d_add (by exact (DE.b (by exact (de_bin o_mulY d_mulY (by exact (dbv 2 (pv 2))) (by exact (dbv 1 (pv 1))))))) (by exact (dbv 3 (pv 3))))) (fun h => ps_set (i := 2) S.nd rfl (by first | exact Or.inl rfl | exact Or.inr rfl) h))))) (fun a b c => ps_for PassesOwn.never rfl a b c)))
    (by exact (dss_one (by exact (ds_ret (by exact (dev 2 (pv 2)))))))))))), m_Amount_call A.Z⟩
theorem ok_Amount_add (T : Txt K mg A) : FnG P w K mg base CX0 5 A.f_Amount_add A.d_Amount_add ["self", "other"] (spD K (c_Amount_add A.Z)) := by
  have S := sc_Amount_add
  refine def_ok (k := 4) T.F_Amount_add sc_Amount_add (l_Amount_add A.Z) (fun cdv A0 outer s H E st => ?_)
  exact ⟨_, kb_Amount_add A.Z, (dss_cons (by exact (ds_expr (by exact (de_fn (ok_need_amount T) st T.m_need_amount T.k_need_amount T.b_need_amount (by exact (da_cons (by exact (dev 1 (pv 1))) da_nil))))))
    (by exact (dss_one (by exact (ds_ret (by exact (de_stat st ⟨_, _, _, _, _, T.cr_Amount, T.sf_Amount_of, T.sr_Amount_of, T.F_Amount_of.kp, ((ok_Amount_of T).pos T.b_Amount_of), by decide⟩ (by exact (DE.b (by exact (de_clsV (by exact rfl) T.mg_Amount)))) (by exact (da_cons (by exact (de_fn (ok_plus T) st T.m_plus T.k_plus T.b_plus (by exact (da_cons (by exact (de_fld (by exact (FldOk.cons T.cl_Amount T.na_Amount_integers FldOk.nil)) (by exact (dbv 0 (pv 0))))) (by exact (da_cons (by exact (de_fld (by exact (FldOk.cons T.cl_Amount T.na_Amount_integers FldOk.nil)) (by exact (dbv 1 (pv 1))))) da_nil)))))) da_nil))))))))), m_Amount_add A.Z⟩
theorem ok_Amount_sub (T : Txt K mg A) : FnG P w K mg base CX0 5 A.f_Amount_sub A.d_Amount_sub ["self", "other"] (spD K (c_Amount_sub A.Z)) := by
  have S := sc_Amount_sub
  refine def_ok (k := 4) T.F_Amount_sub sc_Amount_sub (l_Amount_sub A.Z) (fun cdv A0 outer s H E st => ?_)
  exact ⟨_, kb_Amount_sub A.Z, (dss_cons (by exact (ds_expr (by exact (de_fn (ok_need_amount T) st T.m_need_amount T.k_need_amount T.b_need_amount (by exact (da_cons (by exact (dev 1 (pv 1))) da_nil))))))
    (by exact (dss_one (by exact (ds_ret (by exact (de_stat st ⟨_, _, _, _, _, T.cr_Amount, T.sf_Amount_of, T.sr_Amount_of, T.F_Amount_of.kp, ((ok_Amount_of T).pos T.b_Amount_of), by decide⟩ (by exact (DE.b (by exact (de_clsV (by exact rfl) T.mg_Amount)))) (by exact (da_cons (by exact (de_fn (ok_plus T) st T.m_plus T.k_plus T.b_plus (by exact (da_cons (by exact (de_fld (by exact (FldOk.cons T.cl_Amount T.na_Amount_integers FldOk.nil)) (by exact (dbv 0 (pv 0))))) (by exact (da_cons (by exact (de_fn (ok_scaled T) st T.m_scaled T.k_scaled T.b_scaled (by exact (da_cons (by exact (de_fld (by exact (FldOk.cons T.cl_Amount T.na_Amount_integers FldOk.nil)) (by exact (dbv 1 (pv 1))))) (by exact (da_cons (by exact (de_un un_neg un_negD (by exact (DE.b de_int)))) da_nil)))))) da_nil)))))) da_nil))))))))), m_Amount_sub A.Z⟩
theorem ok_Amount_mul (T : Txt K mg A) : FnG P w K mg base CX0 5 A.f_Amount_mul A.d_Amount_mul ["self", "other"] (spD K (c_Amount_mul A.Z)) := by
  have S := sc_Amount_mul
  refine def_ok (k := 4) T.F_Amount_mul sc_Amount_mul (l_Amount_mul A.Z) (fun cdv A0 outer s H E st => ?_)
  exact ⟨_, kb_Amount_mul A.Z, (dss_cons (by exact (ds_expr (by exact (de_fn (ok_need_amount T) st T.m_need_amount T.k_need_amount T.b_need_amount (by exact (da_cons (by exact (dev 1 (pv 1))) da_nil))))))
    (by exact (dss_one (by exact (ds_ret (by exact (de_stat st ⟨_, _, _, _, _, T.cr_Amount, T.sf_Amount_of, T.sr_Amount_of, T.F_Amount_of.kp, ((ok_Amount_of T).pos T.b_Amount_of), by decide⟩ (by exact (DE.b (by exact (de_clsV (by exact rfl) T.mg_Amount)))) (by exact (da_cons (by exact (de_fn (ok_multiplied T) st T.m_multiplied T.k_multiplied T.b_multiplied (by exact (da_cons (by exact (de_fld (by exact (FldOk.cons T.cl_Amount T.na_Amount_integers FldOk.nil)) (by exact (dbv 0 (pv 0))))) (by exact (da_cons (by exact (de_fld (by exact (FldOk.cons T.cl_Amount T.na_Amount_integers FldOk.nil)) (by exact (dbv 1 (pv 1))))) da_nil)))))) da_nil))))))))), m_Amount_mul A.Z⟩
theorem ok_Amount_neg (T : Txt K mg A) : FnG P w K mg base CX0 5 A.f_Amount_neg A.d_Amount_neg ["self"] (spD K (c_Amount_neg A.Z)) := by
  have S := sc_Amount_neg
  refine def_ok (k := 4) T.F_Amount_neg sc_Amount_neg (l_Amount_neg A.Z) (fun cdv A0 outer s H E st => ?_)
  exact ⟨_, kb_Amount_neg A.Z, (dss_one (by exact (ds_ret (by exact (de_stat st ⟨_, _, _, _, _, T.cr_Amount, T.sf_Amount_of, T.sr_Amount_of, T.F_Amount_of.kp, ((ok_Amount_of T).pos T.b_Amount_of), by decide⟩ (by exact (DE.b (by exact (de_clsV (by exact rfl) T.mg_Amount)))) (by exact (da_cons (by exact (de_fn (ok_scaled T) st T.m_scaled T.k_scaled T.b_scaled (by exact (da_cons (by exact (de_fld (by exact (FldOk.cons T.cl_Amount T.na_Amount_integers FldOk.nil)) (by exact (dbv 0 (pv 0))))) (by exact (da_cons (by exact (de_un un_neg un_negD (by exact (DE.b de_int)))) da_nil)))))) da_nil))))))), m_Amount_neg A.Z⟩
theorem ok_Amount_lshift (T : Txt K mg A) : FnG P w K mg base CX0 5 A.f_Amount_lshift A.d_Amount_lshift ["self", "power"] (spD K (c_Amount_lshift A.Z)) := by
  have S := sc_Amount_lshift
  refine def_ok (k := 4) T.F_Amount_lshift sc_Amount_lshift (l_Amount_lshift A.Z) (fun cdv A0 outer s H E st => ?_)
  exact ⟨_, kb_Amount_lshift A.Z, (dss_cons (by exact (ds_expr (by exact (de_fn (ok_need_number T) st T.m_need_number T.k_need_number T.b_need_number (by exact (da_cons (by exact (dev 1 (pv 1))) (by exact (da_cons de_int da_nil))))))))
    (by exact (dss_cons (by exact (ds_if (by exact (DW.t (by exact (dw_and (by exact (dt_cmp op_gt d_cmp (by exact (DE.b (by exact (de_blt c_len d_len T.z_len (by exact (dab_cons (by exact (DE.b (by exact (de_fld (by exact (FldOk.cons T.cl_Amount T.na_Amount_integers FldOk.nil)) (by exact (dbv 0 (pv 0))))))) dab_nil)))))) (by exact (DE.b de_int)) (nomark _))) (by exact (dw_and1 (by exact (dt_cmp op_gt d_cmp (by exact (DE.b (by exact (de_bin o_add d_add (by exact (DE.b (by exact (de_fld (by exact (FldOk.cons T.cl_Amount T.na_Amount_degree FldOk.nil)) (by exact (dbv 0 (pv 0))))))) (by exact (dbv 1 (pv 1))))))) (by exact (DE.b (by exact (de_glob (v := .int 2000) T.g_MOST_POWER ⟨_, rfl⟩ (fun _ _ => .int 2000))))) (nomark _)))))))))
    (by exact (dss_one ds_never))
    dss_nil))
    (by exact (dss_one (by exact (ds_ret (by exact (de_stat st ⟨_, _, _, _, _, T.cr_Amount, T.sf_Amount_of, T.sr_Amount_of, T.F_Amount_of.kp, ((ok_Amount_of T).pos T.b_Amount_of), by decide⟩ (by exact (DE.b (by exact (de_clsV (by exact rfl) T.mg_Amount)))) (by exact (da_cons (by exact (de_if (by exact (dt_cmp op_gt d_cmp (by exact (DE.b (by exact (de_blt c_len d_len T.z_len (by exact (dab_cons (by exact (DE.b (by exact (de_fld (by exact (FldOk.cons T.cl_Amount T.na_Amount_integers FldOk.nil)) (by exact (dbv 0 (pv 0))))))) dab_nil)))))) (by exact (DE.b de_int)) (nomark _))) (by exact (de_bin o_add d_add (by exact (DE.b (by exact (de_bin o_mulY d_mulY (by exact (DE.b (by exact (de_tup (by exact (da_cons de_int da_nil)))))) (by exact (dbv 1 (pv 1))))))) (by exact (DE.b (by exact (de_fld (by exact (FldOk.cons T.cl_Amount T.na_Amount_integers FldOk.nil)) (by exact (dbv 0 (pv 0))))))))) (by exact (de_tup da_nil)))) da_nil))))))))))), m_Amount_lshift A.Z⟩
theorem ok_Amount_floordiv (T : Txt K mg A) : FnG P w K mg base CX0 5 A.f_Amount_floordiv A.d_Amount_floordiv ["self", "number"] (spD K (c_Amount_floordiv A.Z)) := by
  have S := sc_Amount_floordiv
  refine def_ok (k := 4) T.F_Amount_floordiv sc_Amount_floordiv (l_Amount_floordiv A.Z) (fun cdv A0 outer s H E st => ?_)
  exact ⟨_, kb_Amount_floordiv A.Z, (dss_cons (by exact (ds_expr (by exact (de_fn (ok_need_number T) st T.m_need_number T.k_need_number T.b_need_number (by exact (da_cons (by exact (dev 1 (pv 1))) (by exact (da_cons de_int da_nil))))))))
    (by exact (dss_cons (by exact (ds_if (by exact (dt_val (by exact (de_blt (cr_any rfl) d_any T.z_any (by exact (dab_cons (by exact (DE.b (by exact (DOw.e (by exact (dow_lc (own := [("factor", 2)]) (by exact (dlc_mk (own := [("factor", 2)]) S.nd (by exact (di_seq (by exact (de_fld (by exact (FldOk.cons T.cl_Amount T.na_Amount_integers FldOk.nil)) (by exact (dbv 0 (pv 0))))))) (blkOk_by (by change blkC ["self", "number", "factor"] (defScope s_Amount_floordiv) _ _ = true; decide +kernel)) (by exact (dg_name (pg_name (i := 2) S.nd rfl (by first | exact Or.inl rfl | exact Or.inr rfl)))) dts_nil (by exact (de_cmp (op_neD st.blk.u64) d_ne (by exact (DE.b (by exact (de_bin op_mod d_mod (by exact (dbv 2 (pv 2))) (by exact (dbv 1 (pv 1))))))) (by exact (DE.b de_int)) (nomark _))) (fun _ _ _ _ _ => (by exact (dg_name (pg_name (i := 2) S.nd rfl (by first | exact Or.inl rfl | exact Or.inr rfl))))) (fun _ _ _ _ _ => dts_nil) (fun _ _ _ _ _ => (by exact (de_cmp (op_neD st.blk.u64) d_ne (by exact (DE.b (by exact (de_bin op_mod d_mod (by exact (dbv 2 (pv 2))) (by exact (dbv 1 (pv 1))))))) (by exact (DE.b de_int)) (nomark _)))))))))))) dab_nil))))))
    (by exact (dss_one ds_never))
    dss_nil))
    (by exact (dss_one (by exact (ds_ret (by exact (de_stat st ⟨_, _, _, _, _, T.cr_Amount, T.sf_Amount_of, T.sr_Amount_of, T.F_Amount_of.kp, ((ok_Amount_of T).pos T.b_Amount_of), by decide⟩ (by exact (DE.b (by exact (de_clsV (by exact rfl) T.mg_Amount)))) (by exact (da_cons (by exact (DOw.e (by exact (dow_lc (own := [("factor", 2)]) (by exact (dlc_mk (own := [("factor", 2)]) S.nd (by exact (di_seq (by exact (de_fld (by exact (FldOk.cons T.cl_Amount T.na_Amount_integers FldOk.nil)) (by exact (dbv 0 (pv 0))))))) (blkOk_by (by change blkC ["self", "number", "factor"] (defScope s_Amount_floordiv) _ _ = true; decide +kernel)) (by exact (dg_name (pg_name (i := 2) S.nd rfl (by first | exact Or.inl rfl | exact Or.inr rfl)))) dts_nil (by exact (de_bin o_divX d_divX (by exact (dbv 2 (pv 2))) (by exact (dbv 1 (pv 1))))) (fun _ _ _ _ _ => (by exact (dg_name (pg_name (i := 2) S.nd rfl (by first | exact Or.inl rfl | exact Or.inr rfl))))) (fun _ _ _ _ _ => dts_nil) (fun _ _ _ _ _ => (by exact (de_bin o_divX d_divX (by exact (dbv 2 (pv 2))) (by exact (dbv 1 (pv 1)))))))))))) da_nil))))))))))), m_Amount_floordiv A.Z⟩
theorem ok_Amount_cut (T : Txt K mg A) : FnG P w K mg base CX0 5 A.f_Amount_cut A.d_Amount_cut ["self", "most"] (spD K (c_Amount_cut A.Z)) := by
  have S := sc_Amount_cut
  refine def_ok (k := 4) T.F_Amount_cut sc_Amount_cut (l_Amount_cut A.Z) (fun cdv A0 outer s H E st => ?_)
  exact ⟨_, kb_Amount_cut A.Z, (dss_cons (by exact (ds_expr (by exact (de_fn (ok_need_number T) st T.m_need_number T.k_need_number T.b_need_number (by exact (da_cons (by exact (dev 1 (pv 1))) (by exact (da_cons de_int da_nil))))))))
    (by exact (dss_one (by exact (ds_ret (by exact (de_stat st ⟨_, _, _, _, _, T.cr_Amount, T.sf_Amount_of, T.sr_Amount_of, T.F_Amount_of.kp, ((ok_Amount_of T).pos T.b_Amount_of), by decide⟩ (by exact (DE.b (by exact (de_clsV (by exact rfl) T.mg_Amount)))) (by exact (da_cons (by exact (de_slice (by exact (DE.b (by exact (de_fld (by exact (FldOk.cons T.cl_Amount T.na_Amount_integers FldOk.nil)) (by exact (dbv 0 (pv 0))))))) do_none (by exact (do_some (by exact (de_bin o_add d_add (by exact (dbv 1 (pv 1))) (by exact (DE.b de_int)))))))) da_nil))))))))), m_Amount_cut A.Z⟩
theorem ok_Amount_eq (T : Txt K mg A) : FnG P w K mg base CX0 1 A.f_Amount_eq A.d_Amount_eq ["self", "other"] (spD K (c_Amount_eq A.Z)) := by
  have S := sc_Amount_eq
  refine def_ok (k := 0) T.F_Amount_eq sc_Amount_eq (l_Amount_eq A.Z) (fun cdv A0 outer s H E st => ?_)
  exact ⟨_, kb_Amount_eq A.Z, (dss_one (by exact (ds_ret (by exact (de_and (by exact (de_isiC T.z_isinstance (by exact (RelOk.cons T.ty_Amount T.rel_Amount_Amount RelOk.nil)) T.out_Amount (by exact (dbv 1 (pv 1))) (clsV_pe (by exact rfl) T.mg_Amount))) (by exact (de_one (by exact (de_cmp (op_eqD st.u64) d_eq (by exact (DE.b (by exact (de_fld (by exact (FldOk.cons T.cl_Amount T.na_Amount_integers FldOk.nil)) (by exact (dbv 0 (pv 0))))))) (by exact (DE.b (by exact (de_fld (by exact (FldOk.cons T.cl_Amount T.na_Amount_integers FldOk.nil)) (by exact (dbv 1 (pv 1))))))) (nomark _)))))))))), m_Amount_eq A.Z⟩
theorem ok_Amount_str (T : Txt K mg A) : FnG P w K mg base CX0 1 A.f_Amount_str A.d_Amount_str ["self"] (spD K (c_Amount_str A.Z)) := by
  have S := sc_Amount_str
  refine def_ok (k := 0) T.F_Amount_str sc_Amount_str (l_Amount_str A.Z) (fun cdv A0 outer s H E st => ?_)
  exact ⟨_, kb_Amount_str A.Z, (dss_cons (by exact (ds_if (by exact (dt_cmp (op_eqD st.u64) d_eq (by exact (DE.b (by exact (de_blt c_len d_len T.z_len (by exact (dab_cons (by exact (DE.b (by exact (de_fld (by exact (FldOk.cons T.cl_Amount T.na_Amount_integers FldOk.nil)) (by exact (dbv 0 (pv 0))))))) dab_nil)))))) (by exact (DE.b de_int)) (nomark _)))
    (by exact (dss_one (by exact (ds_ret de_str))))
    dss_nil))
    (by exact (dss_one (by exact (ds_ret (by exact (de_join (by exact (DE.b de_str)) (by exact (DOw.e (by exact (dow_lc (own := [("number", 1)]) (by exact (dlc_mk (own := [("number", 1)]) S.nd (by exact (di_seq (by exact (de_fld (by exact (FldOk.cons T.cl_Amount T.na_Amount_integers FldOk.nil)) (by exact (dbv 0 (pv 0))))))) (blkOk_by (by change blkC ["self", "number"] (defScope s_Amount_str) _ _ = true; decide +kernel)) (by exact (dg_name (pg_name (i := 1) S.nd rfl (by first | exact Or.inl rfl | exact Or.inr rfl)))) dts_nil (by exact (de_strO (by exact st.blk) StrsOk.nil T.z_str (by exact (dbv 1 (pv 1))))) (fun _ _ _ _ _ => (by exact (dg_name (pg_name (i := 1) S.nd rfl (by first | exact Or.inl rfl | exact Or.inr rfl))))) (fun _ _ _ _ _ => dts_nil) (fun _ _ _ _ _ => (by exact (de_strO (by exact st.blk) StrsOk.nil T.z_str (by exact (dbv 1 (pv 1))))))))))))))))))), m_Amount_str A.Z⟩
theorem ok_law_pen (T : Txt K mg A) : FnG P w K mg base CX0 1 A.f_law_pen A.d_law_pen ["script"] (spPen K) := by
  have S := sc_law_pen
  refine pen_okL T.F_law_pen sc_law_pen rfl (fun cdv A0 outer s H E st => ?_)
  exact pss_one (ps_ret (pe_lst (pa_cons (pe_callTy call_list_of (by exact rfl) T.z_list (by decide +kernel) (pa_cons (pe_slice sl_list (pv 0) po_none (po_some pe_int)) pa_nil)) (pa_cons pe_int (pa_cons pe_int pa_nil)))))
theorem ok_law_draw (T : Txt K mg A) : FnG P w K mg base CX0 1 A.f_law_draw A.d_law_draw ["pen", "many"] (spD K (c_law_draw A.Z)) := by
  have S := sc_law_draw
  refine def_ok (k := 0) T.F_law_draw sc_law_draw (l_law_draw A.Z) (fun cdv A0 outer s H E st => ?_)
  exact ⟨_, kb_law_draw A.Z, (dss_cons (by exact (ds_if (by exact (dt_cmp op_gt d_cmp (by exact (DE.b (by exact (de_pen2 0 (pv 0))))) (by exact (DE.b de_int)) (nomark _)))
    (by exact (dss_cons (by exact (ds_set 2 (by exact (de_bin op_mod d_mod (by exact (DE.b (by exact (de_bty call_intX d_intX T.z_int (by exact (dab_cons (by exact (DE.b (by exact (de_pen2 0 (pv 0))))) dab_nil)))))) (by exact (dbv 1 (pv 1))))) (fun h => ps_set (i := 2) S.nd rfl (by first | exact Or.inl rfl | exact Or.inr rfl) h)))
    (by exact (dss_cons (by exact (ds_ink2 0 (by exact (de_bin o_divX d_divX (by exact (DE.b (by exact (de_bty call_intX d_intX T.z_int (by exact (dab_cons (by exact (DE.b (by exact (de_pen2 0 (pv 0))))) dab_nil)))))) (by exact (dbv 1 (pv 1))))) (fun a => ps_asg a (pg_sub (pv 0) pe_int set_list))))
    (by exact (dss_one (by exact (ds_ret (by exact (dev 2 (pv 2)))))))))))
    dss_nil))
    (by exact (dss_cons (by exact (ds_set 3 (by exact (de_pen1 0 (pv 0))) (fun h => ps_set (i := 3) S.nd rfl (by first | exact Or.inl rfl | exact Or.inr rfl) h)))
    (by exact (dss_cons (by exact (ds_ink1 0 (by exact (de_bin o_add d_add (by exact (dbv 3 (pv 3))) (by exact (DE.b de_int)))) (fun a => ps_asg a (pg_sub (pv 0) pe_int set_list))))
    (by exact (dss_cons (by exact (ds_set 4 (by exact (de_bin o_add d_add (by exact (DE.b (by exact (de_bin o_mulY d_mulY (by exact (DE.b de_int)) (by exact (dbv 3 (pv 3))))))) (by exact (DE.b de_int)))) (fun h => ps_set (i := 4) S.nd rfl (by first | exact Or.inl rfl | exact Or.inr rfl) h)))
    (by exact (dss_cons (by exact (ds_if (by exact (dt_cmp (op_neD st.u64) d_ne (by exact (DE.b (by exact (de_pen0 0 (pv 0))))) (by exact (DE.b (by exact (de_lst da_nil)))) (nomark _)))
    (by exact (dss_one (by exact (ds_set 4 (by exact (de_ix (by exact (DE.b (by exact (de_pen0 0 (pv 0))))) (by exact (DE.b (by exact (de_bin op_mod d_mod (by exact (DE.b (by exact (de_bty call_intX d_intX T.z_int (by exact (dab_cons (by exact (dbv 3 (pv 3))) dab_nil)))))) (by exact (DE.b (by exact (de_blt c_len d_len T.z_len (by exact (dab_cons (by exact (DE.b (by exact (de_pen0 0 (pv 0))))) dab_nil)))))))))))) (fun h => ps_set (i := 4) S.nd rfl (by first | exact Or.inl rfl | exact Or.inr rfl) h)))))
    dss_nil))
    (by exact (dss_cons (by exact (ds_if (by exact (DW.t (by exact (dw_and (by exact (dt_cmp op_lt d_cmp (by exact (dbv 3 (pv 3))) (by exact (DE.b (by exact (de_blt c_len d_len T.z_len (by exact (dab_cons (by exact (DE.b (by exact (de_pen0 0 (pv 0))))) dab_nil)))))) (nomark _))) (by exact (dw_and1 (by exact (dt_cmp op_ge d_cmp (by exact (DE.b (by exact (de_blt call_abs d_abs T.z_abs (by exact (dab_cons (by exact (dbv 4 (pv 4))) dab_nil)))))) (by exact (DE.b (by exact (de_bin op_pow d_pow (by exact (DE.b de_int)) (by exact (DE.b de_int)))))) (nomark _)))))))))
    (by exact (dss_cons (by exact (ds_set 5 (by exact (de_bin o_add d_add (by exact (DE.b (by exact (de_bin o_mulY d_mulY (by exact (DE.b de_int)) (by exact (DE.b (by exact (de_bin op_sub d_sub (by exact (DE.b (by exact (de_blt call_abs d_abs T.z_abs (by exact (dab_cons (by exact (dbv 4 (pv 4))) dab_nil)))))) (by exact (DE.b (by exact (de_bin op_pow d_pow (by exact (DE.b de_int)) (by exact (DE.b de_int)))))))))))))) (by exact (DE.b (by exact (de_bty call_intX d_intX T.z_int (by exact (dab_cons (by exact (DE.b (by exact (de_cmp op_lt d_cmp (by exact (dbv 4 (pv 4))) (by exact (DE.b de_int)) (nomark _))))) dab_nil)))))))) (fun h => ps_set (i := 5) S.nd rfl (by first | exact Or.inl rfl | exact Or.inr rfl) h)))
    (by exact (dss_cons (by exact (ds_ink2 0 (by exact (de_bin o_divX d_divX (by exact (DE.b (by exact (de_bty call_intX d_intX T.z_int (by exact (dab_cons (by exact (dbv 5 (pv 5))) dab_nil)))))) (by exact (dbv 1 (pv 1))))) (fun a => ps_asg a (pg_sub (pv 0) pe_int set_list))))
    (by exact (dss_one (by exact (ds_ret (by exact (de_bin op_mod d_mod (by exact (DE.b (by exact (de_bty call_intX d_intX T.z_int (by exact (dab_cons (by exact (dbv 5 (pv 5))) dab_nil)))))) (by exact (dbv 1 (pv 1)))))))))))))
    dss_nil))
    (by exact (dss_cons (by exact (ds_set 6 (by exact (de_bin op_mod d_mod (by exact (DE.b (by exact (de_bty call_intX d_intX T.z_int (by exact (dab_cons (by exact (DE.b (by exact (de_bin op_pow d_pow (by exact (DE.b (by exact (de_bin o_add d_add (by exact (DE.b (by exact (de_bin o_add d_add (by exact (DE.b (by exact (de_bin op_mod d_mod (by exact (DE.b (by exact (de_bty call_intX d_intX T.z_int (by exact (dab_cons (by exact (dbv 4 (pv 4))) dab_nil)))))) (by exact (DE.b de_int)))))) (by exact (DE.b (by exact (de_bin o_mulY d_mulY (by exact (DE.b de_int)) (by exact (dbv 3 (pv 3))))))))))) (by exact (DE.b de_int)))))) (by exact (DE.b de_int)))))) dab_nil)))))) (by exact (DE.b de_int)))) (fun h => ps_set (i := 6) S.nd rfl (by first | exact Or.inl rfl | exact Or.inr rfl) h)))
    (by exact (dss_cons (by exact (ds_set 6 (by exact (de_bin op_mod d_mod (by exact (DE.b (by exact (de_bty call_intX d_intX T.z_int (by exact (dab_cons (by exact (DE.b (by exact (de_bin op_pow d_pow (by exact (DE.b (by exact (de_bin o_add d_add (by exact (DE.b (by exact (de_bin o_add d_add (by exact (DE.b (by exact (de_bin o_mulY d_mulY (by exact (dbv 6 (pv 6))) (by exact (DE.b (by exact (de_bin o_add d_add (by exact (DE.b (by exact (de_bin o_mulY d_mulY (by exact (DE.b de_int)) (by exact (dbv 3 (pv 3))))))) (by exact (DE.b de_int)))))))))) (by exact (DE.b (by exact (de_bin o_mulY d_mulY (by exact (DE.b (by exact (de_bin o_mulY d_mulY (by exact (DE.b de_int)) (by exact (dbv 3 (pv 3))))))) (by exact (dbv 3 (pv 3))))))))))) (by exact (DE.b de_int)))))) (by exact (DE.b de_int)))))) dab_nil)))))) (by exact (DE.b de_int)))) (fun h => ps_set (i := 6) S.nd rfl (by first | exact Or.inl rfl | exact Or.inr rfl) h)))
    (by exact (dss_one (by exact (ds_ret (by exact (de_bin op_mod d_mod (by exact (DE.b (by exact (de_bty call_intX d_intX T.z_int (by exact (dab_cons (by exact (DE.b (by exact (de_bin o_divX d_divX (by exact (dbv 6 (pv 6))) (by exact (DE.b de_int)))))) dab_nil)))))) (by exact (dbv 1 (pv 1)))))))))))))))))))))))), m_law_draw A.Z⟩
theorem ok_law_pick (T : Txt K mg A) : FnG P w K mg base CX0 2 A.f_law_pick A.d_law_pick ["pen", "some"] (spD K (c_law_pick A.Z)) := by
  have S := sc_law_pick
  refine def_ok (k := 1) T.F_law_pick sc_law_pick (l_law_pick A.Z) (fun cdv A0 outer s H E st => ?_)
  exact ⟨_, kb_law_pick A.Z, (dss_one (by exact (ds_ret (by exact (de_ix (by exact (dbv 1 (pv 1))) (by exact (DE.b (by exact (de_fn (ok_law_draw T) st T.m_law_draw T.k_law_draw T.b_law_draw (by exact (da_cons (by exact (dev 0 (pv 0))) (by exact (da_cons (by exact (de_blt c_len d_len T.z_len (by exact (dab_cons (by exact (dbv 1 (pv 1))) dab_nil)))) da_nil))))))))))))), m_law_pick A.Z⟩
theorem ok_law_cut (T : Txt K mg A) : FnG P w K mg base CX0 1 A.f_law_cut A.d_law_cut ["row"] (spD K (c_law_cut A.Z)) := by
  have S := sc_law_cut
  refine def_ok (k := 0) T.F_law_cut sc_law_cut (l_law_cut A.Z) (fun cdv A0 outer s H E st => ?_)
  exact ⟨_, kb_law_cut A.Z, (dss_cons (by exact (ds_set 1 (by exact (de_blt c_len d_len T.z_len (by exact (dab_cons (by exact (dbv 0 (pv 0))) dab_nil)))) (fun h => ps_set (i := 1) S.nd rfl (by first | exact Or.inl rfl | exact Or.inr rfl) h)))
    (by exact (dss_cons (by exact (ds_while (by exact (DW.t (by exact (dw_and (by exact (dt_cmp op_gt d_cmp (by exact (dbv 1 (pv 1))) (by exact (DE.b de_int)) (nomark _))) (by exact (dw_and1 (by exact (dt_cmp (op_eqD st.u64) d_eq (by exact (DE.b (by exact (de_ix (by exact (dbv 0 (pv 0))) (by exact (DE.b (by exact (de_bin op_sub d_sub (by exact (dbv 1 (pv 1))) (by exact (DE.b de_int)))))))))) (by exact (DE.b de_int)) (nomark _)))))))))
    (by exact (dss_one (by exact (ds_set 1 (by exact (de_bin op_sub d_sub (by exact (dbv 1 (pv 1))) (by exact (DE.b de_int)))) (fun h => ps_set (i := 1) S.nd rfl (by first | exact Or.inl rfl | exact Or.inr rfl) h))))) (fun a b => ps_while PassesOwn.never a b)))
    (by exact (dss_one (by exact (ds_ret (by exact (de_bty call_tuple_of d_tuple T.z_tuple (by exact (dab_cons (by exact (DE.b (by exact (de_slice (by exact (dbv 0 (pv 0))) do_none (by exact (do_some (by exact (dev 1 (pv 1))))))))) dab_nil))))))))))), m_law_cut A.Z⟩
theorem ok_law_plus (T : Txt K mg A) : FnG P w K mg base CX0 2 A.f_law_plus A.d_law_plus ["one", "other"] (spD K (c_law_plus A.Z)) := by
  have S := sc_law_plus
  refine def_ok (k := 1) T.F_law_plus sc_law_plus (l_law_plus A.Z) (fun cdv A0 outer s H E st => ?_)
  exact ⟨_, kb_law_plus A.Z, (dss_cons (by exact (ds_set 2 (by exact (de_blt (c_max rfl) d_max T.z_max (by exact (dab_cons (by exact (DE.b (by exact (de_bty call_intX d_intX T.z_int (by exact (dab_cons (by exact (DE.b (by exact (de_blt c_len d_len T.z_len (by exact (dab_cons (by exact (dbv 0 (pv 0))) dab_nil)))))) dab_nil)))))) (by exact (dab_cons (by exact (DE.b (by exact (de_bty call_intX d_intX T.z_int (by exact (dab_cons (by exact (DE.b (by exact (de_blt c_len d_len T.z_len (by exact (dab_cons (by exact (dbv 1 (pv 1))) dab_nil)))))) dab_nil)))))) dab_nil)))))) (fun h => ps_set (i := 2) S.nd rfl (by first | exact Or.inl rfl | exact Or.inr rfl) h)))
    (by exact (dss_cons (by exact (ds_set 3 (by exact (de_bin o_add d_add (by exact (DE.b (by exact (de_bty call_list_of d_list T.z_list (by exact (dab_cons (by exact (dbv 0 (pv 0))) dab_nil)))))) (by exact (DE.b (by exact (de_bin o_mulY d_mulY (by exact (DE.b (by exact (de_lst (by exact (da_cons de_int da_nil)))))) (by exact (DE.b (by exact (de_bin op_sub d_sub (by exact (dbv 2 (pv 2))) (by exact (DE.b (by exact (de_blt c_len d_len T.z_len (by exact (dab_cons (by exact (dbv 0 (pv 0))) dab_nil)))))))))))))))) (fun h => ps_set (i := 3) S.nd rfl (by first | exact Or.inl rfl | exact Or.inr rfl) h)))
    (by exact (dss_one (by exact (ds_ret (by exact (de_fn (ok_law_cut T) st T.m_law_cut T.k_law_cut T.b_law_cut (by exact (da_cons (by exact (DOw.e (by exact (dow_lc (own := [("at", 4), ("number", 5)]) (by exact (dlc_mk (own := [("at", 4), ("number", 5)]) S.nd (by exact (di_enum T.z_enumerate (by exact (da_cons (by exact (dev 3 (pv 3))) da_nil)))) (blkOk_by (by change blkC ["one", "other", "size", "longer", "at", "number"] (defScope s_law_plus) _ _ = true; decide +kernel)) (by exact (dg_tup (m := 2) (by exact (dgs_cons (by exact (dg_name (pg_name (i := 4) S.nd rfl (by first | exact Or.inl rfl | exact Or.inr rfl)))) (by exact (dgs_cons (by exact (dg_name (pg_name (i := 5) S.nd rfl (by first | exact Or.inl rfl | exact Or.inr rfl)))) dgs_nil)))))) dts_nil (by exact (de_bin o_add d_add (by exact (dbv 5 (pv 5))) (by exact (DE.b (by exact (de_if (by exact (dt_cmp op_lt d_cmp (by exact (dbv 4 (pv 4))) (by exact (DE.b (by exact (de_blt c_len d_len T.z_len (by exact (dab_cons (by exact (dbv 1 (pv 1))) dab_nil)))))) (nomark _))) (by exact (de_ix (by exact (dbv 1 (pv 1))) (by exact (dbv 4 (pv 4))))) de_int)))))) (fun _ _ _ _ _ => (by exact (dg_tup (m := 2) (by exact (dgs_cons (by exact (dg_name (pg_name (i := 4) S.nd rfl (by first | exact Or.inl rfl | exact Or.inr rfl)))) (by exact (dgs_cons (by exact (dg_name (pg_name (i := 5) S.nd rfl (by first | exact Or.inl rfl | exact Or.inr rfl)))) dgs_nil))))))) (fun _ _ _ _ _ => dts_nil) (fun _ _ _ _ _ => (by exact (de_bin o_add d_add (by exact (dbv 5 (pv 5))) (by exact (DE.b (by exact (de_if (by exact (dt_cmp op_lt d_cmp (by exact (dbv 4 (pv 4))) (by exact (DE.b (by exact (de_blt c_len d_len T.z_len (by exact (dab_cons (by exact (dbv 1 (pv 1))) dab_nil)))))) (nomark _))) (by exact (de_ix (by exact (dbv 1 (pv 1))) (by exact (dbv 4 (pv 4))))) de_int))))))))))))) da_nil))))))))))), m_law_plus A.Z⟩
theorem ok_law_by (T : Txt K mg A) : FnG P w K mg base CX0 2 A.f_law_by A.d_law_by ["one", "other"] (spD K (c_law_by A.Z)) := by
  have S := sc_law_by
  refine def_ok (k := 1) T.F_law_by sc_law_by (l_law_by A.Z) (fun cdv A0 outer s H E st => ?_)
  exact ⟨_, kb_law_by A.Z, (dss_cons (by exact (ds_own 2 (by exact (dow_rep (by exact (DE.b (by exact (de_lst (by exact (da_cons de_int da_nil)))))) (by exact (DE.b (by exact (de_bin o_add d_add (by exact (DE.b (by exact (de_blt c_len d_len T.z_len (by exact (dab_cons (by exact (dbv 0 (pv 0))) dab_nil)))))) (by exact (DE.b (by exact (de_blt c_len d_len T.z_len (by exact (dab_cons (by exact (dbv 1 (pv 1))) dab_nil)))))))))))) (fun h => ps_set (i := 2) S.nd rfl (by first | exact Or.inl rfl | exact Or.inr rfl) h)))
    (by exact (dss_cons (by exact (ds_for (by exact (di_enum T.z_enumerate (by exact (da_cons (by exact (dev 0 (pv 0))) da_nil)))) (by exact (dg_tup (m := 2) (by exact (dgs_cons (by exact (dg_name (pg_name (i := 3) S.nd rfl (by first | exact Or.inl rfl | exact Or.inr rfl)))) (by exact (dgs_cons (by exact (dg_name (pg_name (i := 4) S.nd rfl (by first | exact Or.inl rfl | exact Or.inr rfl)))) dgs_nil))))))
    (by exact (dss_one (by exact (ds_for (by exact (di_enum T.z_enumerate (by exact (da_cons (by exact (dev 1 (pv 1))) da_nil)))) (by exact (dg_tup (m := 2) (by exact (dgs_cons (by exact (dg_name (pg_name (i := 5) S.nd rfl (by first | exact Or.inl rfl | exact Or.inr rfl)))) (by exact (dgs_cons (by exact (dg_name (pg_name (i := 6) S.nd rfl (by first | exact Or.inl rfl | exact Or.inr rfl)))) dgs_nil))))))
    (by exact (dss_one (by exact (ds_sub 2 (by exact (de_bin o_add d_add (by exact (DE.b (by exact (de_ix (by exact (dbv 2 (pv 2))) (by exact (DE.b (by exact (de_bin o_add d_add (by exact (dbv 3 (pv 3))) (by exact (dbv 5 (pv 5))))))))))) (by exact (DE.b (by exact (de_bin o_mulY d_mulY (by exact (dbv 4 (pv 4))) (by exact (dbv 6 (pv 6))))))))) (by exact (de_bin o_add d_add (by exact (dbv 3 (pv 3))) (by exact (dbv 5 (pv 5))))) (fun a b => ps_asg a (pg_sub (pv 2) b set_list)))))) (fun a b c => ps_for PassesOwn.never rfl a b c))))) (fun a b c => ps_for PassesOwn.never rfl a b c)))
    (by exact (dss_one (by exact (ds_ret (by exact (de_fn (ok_law_cut T) st T.m_law_cut T.k_law_cut T.b_law_cut (by exact (da_cons (by exact (dev 2 (pv 2))) da_nil))))))))))), m_law_by A.Z⟩
theorem ok_law_row (T : Txt K mg A) : FnG P w K mg base CX0 3 A.f_law_row A.d_law_row ["pen"] (spD K (c_law_row A.Z)) := by
  have S := sc_law_row
  refine def_ok (k := 2) T.F_law_row sc_law_row (l_law_row A.Z) (fun cdv A0 outer s H E st => ?_)
  exact ⟨_, kb_law_row A.Z, (dss_cons (by exact (ds_set 1 (by exact (de_ix (by exact (DE.b (by exact (de_lst (by exact (da_cons de_int (by exact (da_cons de_int (by exact (da_cons de_int (by exact (da_cons (by exact (de_bin op_pow d_pow (by exact (DE.b de_int)) (by exact (DE.b de_int)))) da_nil)))))))))))) (by exact (DE.b (by exact (de_fn (ok_law_draw T) st T.m_law_draw T.k_law_draw T.b_law_draw (by exact (da_cons (by exact (dev 0 (pv 0))) (by exact (da_cons de_int da_nil)))))))))) (fun h => ps_set (i := 1) S.nd rfl (by first | exact Or.inl rfl | exact Or.inr rfl) h)))
    (by exact (dss_one (by exact (ds_ret (by exact (DOw.e (by exact (dow_lc (own := [("turn", 2)]) (by exact (dlc_mk (own := [("turn", 2)]) S.nd (by exact (di_rng1 T.z_range (by exact (da_cons (by exact (de_fn (ok_law_draw T) st T.m_law_draw T.k_law_draw T.b_law_draw (by exact (da_cons (by exact (dev 0 (pv 0))) (by exact (da_cons de_int da_nil)))))) da_nil)))) (blkOk_by (by change blkC ["pen", "most", "turn"] (defScope s_law_row) _ _ = true; decide +kernel)) (by exact (dg_name (pg_name (i := 2) S.nd rfl (by first | exact Or.inl rfl | exact Or.inr rfl)))) dts_nil (by exact (de_fn (ok_law_pick T) (by exact st.blk) T.m_law_pick T.k_law_pick T.b_law_pick (by exact (da_cons (by exact (dev 0 (pv 0))) (by exact (da_cons (by exact (de_lst (by exact (da_cons de_int (by exact (da_cons de_int (by exact (da_cons (by exact (de_un un_neg un_negD (by exact (DE.b de_int)))) (by exact (da_cons (by exact (de_fn (ok_law_draw T) (by exact st.blk) T.m_law_draw T.k_law_draw T.b_law_draw (by exact (da_cons (by exact (dev 0 (pv 0))) (by exact (da_cons (by exact (dev 1 (pv 1))) da_nil)))))) (by exact (da_cons (by exact (de_bin op_sub d_sub (by exact (DE.b de_int)) (by exact (DE.b (by exact (de_fn (ok_law_draw T) (by exact st.blk) T.m_law_draw T.k_law_draw T.b_law_draw (by exact (da_cons (by exact (dev 0 (pv 0))) (by exact (da_cons (by exact (dev 1 (pv 1))) da_nil)))))))))) da_nil)))))))))))) da_nil)))))) (fun _ _ _ _ _ => (by exact (dg_name (pg_name (i := 2) S.nd rfl (by first | exact Or.inl rfl | exact Or.inr rfl))))) (fun _ _ _ _ _ => dts_nil) (fun _ _ _ _ _ => (by exact (de_fn (ok_law_pick T) (by exact st.blk) T.m_law_pick T.k_law_pick T.b_law_pick (by exact (da_cons (by exact (dev 0 (pv 0))) (by exact (da_cons (by exact (de_lst (by exact (da_cons de_int (by exact (da_cons de_int (by exact (da_cons (by exact (de_un un_neg un_negD (by exact (DE.b de_int)))) (by exact (da_cons (by exact (de_fn (ok_law_draw T) (by exact st.blk) T.m_law_draw T.k_law_draw T.b_law_draw (by exact (da_cons (by exact (dev 0 (pv 0))) (by exact (da_cons (by exact (dev 1 (pv 1))) da_nil)))))) (by exact (da_cons (by exact (de_bin op_sub d_sub (by exact (DE.b de_int)) (by exact (DE.b (by exact (de_fn (ok_law_draw T) (by exact st.blk) T.m_law_draw T.k_law_draw T.b_law_draw (by exact (da_cons (by exact (dev 0 (pv 0))) (by exact (da_cons (by exact (dev 1 (pv 1))) da_nil)))))))))) da_nil)))))))))))) da_nil)))))))))))))))))), m_law_row A.Z⟩
theorem ok_law_is (T : Txt K mg A) : FnG P w K mg base CX0 6 A.f_law_is A.d_law_is ["found", "row"] (spD K (c_law_is A.Z)) := by
  have S := sc_law_is
  refine def_ok (k := 5) T.F_law_is sc_law_is (l_law_is A.Z) (fun cdv A0 outer s H E st => ?_)
  exact ⟨_, kb_law_is A.Z, (dss_cons (by exact (ds_set 2 (by exact (de_fn (ok_law_cut T) st T.m_law_cut T.k_law_cut T.b_law_cut (by exact (da_cons (by exact (dev 1 (pv 1))) da_nil)))) (fun h => ps_set (i := 2) S.nd rfl (by first | exact Or.inl rfl | exact Or.inr rfl) h)))
    (by exact (dss_cons (by exact (ds_if (by exact (DW.t (by exact (dw_or (by exact (dt_not (by exact (dt_val (by exact (de_isiC T.z_isinstance (by exact (RelOk.cons T.ty_Amount T.rel_Amount_Amount RelOk.nil)) T.out_Amount (by exact (dbv 0 (pv 0))) (clsV_pe (by exact rfl) T.mg_Amount))))))) (by exact (dw_or (by exact (dt_neO st (op_neD st.u64) d_ne (by exact (EqsOk.cons ⟨⟨_, _, T.me_Amount_eq, ((ok_Amount_eq T).pos T.b_Amount_eq), by decide⟩, T.ne_Amount, T.ob_Amount, T.nf_Amount, T.ty_Amount⟩ EqsOk.nil)) (by exact (DE.b (by exact (de_blt (call_reprD st.gd st.u64) d_repr T.z_repr (by exact (dab_cons (by exact (DE.b (by exact (de_fld (by exact (FldOk.cons T.cl_Amount T.na_Amount_integers FldOk.nil)) (by exact (dbv 0 (pv 0))))))) dab_nil)))))) (by exact (de_blt (call_reprD st.gd st.u64) d_repr T.z_repr (by exact (dab_cons (by exact (dbv 2 (pv 2))) dab_nil)))) (nomark _))) (by exact (dw_or1 (by exact (dt_neO st (op_neD st.u64) d_ne (by exact (EqsOk.cons ⟨⟨_, _, T.me_Amount_eq, ((ok_Amount_eq T).pos T.b_Amount_eq), by decide⟩, T.ne_Amount, T.ob_Amount, T.nf_Amount, T.ty_Amount⟩ EqsOk.nil)) (by exact (DE.b (by exact (de_blt (call_reprD st.gd st.u64) d_repr T.z_repr (by exact (dab_cons (by exact (DE.b (by exact (de_fld (by exact (FldOk.cons T.cl_Amount T.na_Amount_degree FldOk.nil)) (by exact (dbv 0 (pv 0))))))) dab_nil)))))) (by exact (de_blt (call_reprD st.gd st.u64) d_repr T.z_repr (by exact (dab_cons (by exact (DE.b (by exact (de_binO st op_sub d_sub (by exact (BinsOk.cons (by exact (BinOk.of nmSub ⟨_, _, T.me_Amount_sub, ((ok_Amount_sub T).pos T.b_Amount_sub), by decide⟩ T.two_Amount T.rr_Amount_sub T.ii_Amount_sub T.oi_Sub ⟨_, T.i1_Sub⟩ ⟨_, T.i2_Sub⟩ T.is_Amount)) BinsOk.nil)) (by exact (DE.b (by exact (de_lenO st (LnsOk.cons ⟨_, _, T.me_Amount_len.at_, T.me_Amount_len.fn, (ok_Amount_len T).pos T.b_Amount_len, by decide⟩ LnsOk.nil) T.z_len (by exact (dbv 2 (pv 2))))))) (by exact (DE.b de_int)))))) dab_nil)))) (nomark _)))))))))))
    (by exact (dss_one (by exact (ds_ret de_bl))))
    dss_nil))
    (by exact (dss_cons (by exact (ds_if (by exact (DW.t (by exact (dw_or (by exact (dt_neO st (op_neD st.u64) d_ne (by exact (EqsOk.cons ⟨⟨_, _, T.me_Amount_eq, ((ok_Amount_eq T).pos T.b_Amount_eq), by decide⟩, T.ne_Amount, T.ob_Amount, T.nf_Amount, T.ty_Amount⟩ EqsOk.nil)) (by exact (DE.b (by exact (de_lenO st (LnsOk.cons ⟨_, _, T.me_Amount_len.at_, T.me_Amount_len.fn, (ok_Amount_len T).pos T.b_Amount_len, by decide⟩ LnsOk.nil) T.z_len (by exact (dbv 0 (pv 0))))))) (by exact (de_lenO st (LnsOk.cons ⟨_, _, T.me_Amount_len.at_, T.me_Amount_len.fn, (ok_Amount_len T).pos T.b_Amount_len, by decide⟩ LnsOk.nil) T.z_len (by exact (dbv 2 (pv 2))))) (nomark _))) (by exact (dw_or (by exact (dt_neO st (op_neD st.u64) d_ne (by exact (EqsOk.cons ⟨⟨_, _, T.me_Amount_eq, ((ok_Amount_eq T).pos T.b_Amount_eq), by decide⟩, T.ne_Amount, T.ob_Amount, T.nf_Amount, T.ty_Amount⟩ EqsOk.nil)) (by exact (DE.b (by exact (de_listO st (SeqsOk.cons ⟨_, _, T.me_Amount_iter.at_, T.me_Amount_iter.fn, ok_Amount_iter T, by decide⟩ ⟨_, _, T.me_Amount_len.at_, T.me_Amount_len.fn, (ok_Amount_len T).pos T.b_Amount_len, by decide⟩ SeqsOk.nil) T.z_list (by exact (dbv 0 (pv 0))))))) (by exact (de_listO st (SeqsOk.cons ⟨_, _, T.me_Amount_iter.at_, T.me_Amount_iter.fn, ok_Amount_iter T, by decide⟩ ⟨_, _, T.me_Amount_len.at_, T.me_Amount_len.fn, (ok_Amount_len T).pos T.b_Amount_len, by decide⟩ SeqsOk.nil) T.z_list (by exact (dbv 2 (pv 2))))) (nomark _))) (by exact (dw_or1 (by exact (dt_neO st (op_neD st.u64) d_ne (by exact (EqsOk.cons ⟨⟨_, _, T.me_Amount_eq, ((ok_Amount_eq T).pos T.b_Amount_eq), by decide⟩, T.ne_Amount, T.ob_Amount, T.nf_Amount, T.ty_Amount⟩ EqsOk.nil)) (by exact (DE.b (by exact (de_boolO st (by decide) (TrsOk.cons ⟨⟨_, _, T.me_Amount_len.at_, T.me_Amount_len.fn, (ok_Amount_len T).pos T.b_Amount_len, by decide⟩, T.nb_Amount⟩ TrsOk.nil) T.z_bool (by exact (dbv 0 (pv 0))))))) (by exact (de_neO st (op_neD st.u64) d_ne (by exact (EqsOk.cons ⟨⟨_, _, T.me_Amount_eq, ((ok_Amount_eq T).pos T.b_Amount_eq), by decide⟩, T.ne_Amount, T.ob_Amount, T.nf_Amount, T.ty_Amount⟩ EqsOk.nil)) (by exact (dbv 2 (pv 2))) (by exact (de_tup da_nil)) (nomark _))) (nomark _)))))))))))
    (by exact (dss_one (by exact (ds_ret de_bl))))
    dss_nil))
    (by exact (dss_cons (by exact (ds_set 3 (by exact (de_if (by exact (dt_neO st (op_neD st.u64) d_ne (by exact (EqsOk.cons ⟨⟨_, _, T.me_Amount_eq, ((ok_Amount_eq T).pos T.b_Amount_eq), by decide⟩, T.ne_Amount, T.ob_Amount, T.nf_Amount, T.ty_Amount⟩ EqsOk.nil)) (by exact (dbv 2 (pv 2))) (by exact (de_tup da_nil)) (nomark _))) (by exact (de_join (by exact (DE.b de_str)) (by exact (DOw.e (by exact (dow_lc (own := [("number", 4)]) (by exact (dlc_mk (own := [("number", 4)]) S.nd (by exact (di_seq (by exact (dev 2 (pv 2))))) (blkOk_by (by change blkC ["found", "row", "due", "text", "number"] (defScope s_law_is) _ _ = true; decide +kernel)) (by exact (dg_name (pg_name (i := 4) S.nd rfl (by first | exact Or.inl rfl | exact Or.inr rfl)))) dts_nil (by exact (de_strO (by exact st.blk) (StrsOk.cons ⟨_, _, T.me_Amount_str, ((ok_Amount_str T).pos T.b_Amount_str), by decide⟩ StrsOk.nil) T.z_str (by exact (dbv 4 (pv 4))))) (fun _ _ _ _ _ => (by exact (dg_name (pg_name (i := 4) S.nd rfl (by first | exact Or.inl rfl | exact Or.inr rfl))))) (fun _ _ _ _ _ => dts_nil) (fun _ _ _ _ _ => (by exact (de_strO (by exact st.blk) (StrsOk.cons ⟨_, _, T.me_Amount_str, ((ok_Amount_str T).pos T.b_Amount_str), by decide⟩ StrsOk.nil) T.z_str (by exact (dbv 4 (pv 4)))))))))))))) de_str)) (fun h => ps_set (i := 3) S.nd rfl (by first | exact Or.inl rfl | exact Or.inr rfl) h)))
    (by exact (dss_one (by exact (ds_ret (by exact (de_and (by exact (de_eqO st (op_eqD st.u64) d_eq (by exact (EqsOk.cons ⟨⟨_, _, T.me_Amount_eq, ((ok_Amount_eq T).pos T.b_Amount_eq), by decide⟩, T.ne_Amount, T.ob_Amount, T.nf_Amount, T.ty_Amount⟩ EqsOk.nil)) (by exact (DE.b (by exact (de_strO st (StrsOk.cons ⟨_, _, T.me_Amount_str, ((ok_Amount_str T).pos T.b_Amount_str), by decide⟩ StrsOk.nil) T.z_str (by exact (dbv 0 (pv 0))))))) (by exact (dev 3 (pv 3))) (nomark _))) (by exact (de_and (by exact (de_eqO st (op_eqD st.u64) d_eq (by exact (EqsOk.cons ⟨⟨_, _, T.me_Amount_eq, ((ok_Amount_eq T).pos T.b_Amount_eq), by decide⟩, T.ne_Amount, T.ob_Amount, T.nf_Amount, T.ty_Amount⟩ EqsOk.nil)) (by exact (DE.b (by exact (de_clsm st ⟨_, _, _, _, T.cr_Amount, ⟨T.sf_Amount_read, ⟨_, T.sr_Amount_read⟩, T.fi_Amount_read⟩, ((ok_Amount_read T).pos T.b_Amount_read), by decide⟩ (by exact (DE.b (by exact (de_clsV (by exact rfl) T.mg_Amount)))) (by exact (da_cons (by exact (dev 3 (pv 3))) da_nil)))))) (by exact (dev 0 (pv 0))) (nomark _))) (by exact (de_and (by exact (de_eqO st (op_eqD st.u64) d_eq (by exact (EqsOk.cons ⟨⟨_, _, T.me_Amount_eq, ((ok_Amount_eq T).pos T.b_Amount_eq), by decide⟩, T.ne_Amount, T.ob_Amount, T.nf_Amount, T.ty_Amount⟩ EqsOk.nil)) (by exact (dbv 0 (pv 0))) (by exact (de_stat st ⟨_, _, _, _, _, T.cr_Amount, T.sf_Amount_of, T.sr_Amount_of, T.F_Amount_of.kp, ((ok_Amount_of T).pos T.b_Amount_of), by decide⟩ (by exact (DE.b (by exact (de_clsV (by exact rfl) T.mg_Amount)))) (by exact (da_cons (by exact (de_listO st (SeqsOk.cons ⟨_, _, T.me_Amount_iter.at_, T.me_Amount_iter.fn, ok_Amount_iter T, by decide⟩ ⟨_, _, T.me_Amount_len.at_, T.me_Amount_len.fn, (ok_Amount_len T).pos T.b_Amount_len, by decide⟩ SeqsOk.nil) T.z_list (by exact (dbv 1 (pv 1))))) da_nil)))) (nomark _))) (by exact (de_one (by exact (de_eqO st (op_eqD st.u64) d_eq (by exact (EqsOk.cons ⟨⟨_, _, T.me_Amount_eq, ((ok_Amount_eq T).pos T.b_Amount_eq), by decide⟩, T.ne_Amount, T.ob_Amount, T.nf_Amount, T.ty_Amount⟩ EqsOk.nil)) (by exact (dbv 0 (pv 0))) (by exact (de_stat st ⟨_, _, _, _, _, T.cr_Amount, T.sf_Amount_of, T.sr_Amount_of, T.F_Amount_of.kp, ((ok_Amount_of T).pos T.b_Amount_of), by decide⟩ (by exact (DE.b (by exact (de_clsV (by exact rfl) T.mg_Amount)))) (by exact (da_cons (by exact (de_bty call_tuple_of d_tuple T.z_tuple (by exact (dab_cons (by exact (dbv 1 (pv 1))) dab_nil)))) da_nil)))) (nomark _)))))))))))))))))))))), m_law_is A.Z⟩
theorem ok_law_value (T : Txt K mg A) : FnG P w K mg base CX0 1 A.f_law_value A.d_law_value ["row", "value"] (spD K (c_law_value A.Z)) := by
  have S := sc_law_value
  refine def_ok (k := 0) T.F_law_value sc_law_value (l_law_value A.Z) (fun cdv A0 outer s H E st => ?_)
  exact ⟨_, kb_law_value A.Z, (dss_cons (by exact (ds_set 2 de_int (fun h => ps_set (i := 2) S.nd rfl (by first | exact Or.inl rfl | exact Or.inr rfl) h)))
    (by exact (dss_cons (by exact (ds_for (by exact (di_seq (by exact (de_rev (by exact (dbv 0 (pv 0))))))) (by exact (dg_name (pg_name (i := 3) S.nd rfl (by first | exact Or.inl rfl | exact Or.inr rfl))))
    (by exact (dss_one (by exact (ds_set 2 (by exact (de_bin o_add d_add (by exact (DE.b (by exact (de_bin o_mulY d_mulY (by exact (dbv 2 (pv 2))) (by exact (dbv 1 (pv 1))))))) (by exact (dbv 3 (pv 3))))) (fun h => ps_set (i := 2) S.nd rfl (by first | exact Or.inl rfl | exact Or.inr rfl) h))))) (fun a b c => ps_for PassesOwn.never rfl a b c)))
    (by exact (dss_one (by exact (ds_ret (by exact (dev 2 (pv 2)))))))))), m_law_value A.Z⟩
theorem ok_law_right (T : Txt K mg A) : FnG P w K mg base CX0 7 A.f_law_right A.d_law_right ["pen", "one", "other"] (spD K (c_law_right A.Z)) := by
  have S := sc_law_right
  refine def_ok (k := 6) T.F_law_right sc_law_right (l_law_right A.Z) (fun cdv A0 outer s H E st => ?_)
  exact ⟨_, kb_law_right A.Z, (dss_cons (by exact (ds_asg (by exact (de_tup (by exact (da_cons (by exact (de_stat st ⟨_, _, _, _, _, T.cr_Amount, T.sf_Amount_of, T.sr_Amount_of, T.F_Amount_of.kp, ((ok_Amount_of T).pos T.b_Amount_of), by decide⟩ (by exact (DE.b (by exact (de_clsV (by exact rfl) T.mg_Amount)))) (by exact (da_cons (by exact (dev 1 (pv 1))) da_nil)))) (by exact (da_cons (by exact (de_stat st ⟨_, _, _, _, _, T.cr_Amount, T.sf_Amount_of, T.sr_Amount_of, T.F_Amount_of.kp, ((ok_Amount_of T).pos T.b_Amount_of), by decide⟩ (by exact (DE.b (by exact (de_clsV (by exact rfl) T.mg_Amount)))) (by exact (da_cons (by exact (dev 2 (pv 2))) da_nil)))) (by exact (da_cons (by exact (de_binO st o_add d_add (by exact (BinsOk.cons (by exact (BinOk.of nmAdd ⟨_, _, T.me_Amount_add, ((ok_Amount_add T).pos T.b_Amount_add), by decide⟩ T.two_Amount T.rr_Amount_add T.ii_Amount_add T.oi_Add ⟨_, T.i1_Add⟩ ⟨_, T.i2_Add⟩ T.is_Amount)) BinsOk.nil)) (by exact (DE.b de_int)) (by exact (DE.b (by exact (de_fn (ok_law_draw T) st T.m_law_draw T.k_law_draw T.b_law_draw (by exact (da_cons (by exact (dev 0 (pv 0))) (by exact (da_cons de_int da_nil)))))))))) da_nil)))))))) (by exact (dg_tup (m := 3) (by exact (dgs_cons (by exact (dg_name (pg_name (i := 3) S.nd rfl (by first | exact Or.inl rfl | exact Or.inr rfl)))) (by exact (dgs_cons (by exact (dg_name (pg_name (i := 4) S.nd rfl (by first | exact Or.inl rfl | exact Or.inr rfl)))) (by exact (dgs_cons (by exact (dg_name (pg_name (i := 5) S.nd rfl (by first | exact Or.inl rfl | exact Or.inr rfl)))) dgs_nil))))))))))
    (by exact (dss_cons (by exact (ds_par3 (by exact (da_cons (by exact (de_fn (ok_law_draw T) st T.m_law_draw T.k_law_draw T.b_law_draw (by exact (da_cons (by exact (dev 0 (pv 0))) (by exact (da_cons de_int da_nil)))))) (by exact (da_cons (by exact (de_fn (ok_law_draw T) st T.m_law_draw T.k_law_draw T.b_law_draw (by exact (da_cons (by exact (dev 0 (pv 0))) (by exact (da_cons de_int da_nil)))))) (by exact (da_cons (by exact (de_fn (ok_law_pick T) st T.m_law_pick T.k_law_pick T.b_law_pick (by exact (da_cons (by exact (dev 0 (pv 0))) (by exact (da_cons (by exact (de_lst (by exact (da_cons de_int (by exact (da_cons de_int (by exact (da_cons (by exact (de_un un_neg un_negD (by exact (DE.b de_int)))) (by exact (da_cons de_int (by exact (da_cons (by exact (de_un un_neg un_negD (by exact (DE.b de_int)))) (by exact (da_cons (by exact (de_bin op_pow d_pow (by exact (DE.b de_int)) (by exact (DE.b de_int)))) da_nil)))))))))))))) da_nil)))))) da_nil)))))) (fun h => ps_par3 (i := 6) (j := 7) (l := 8) rfl S.nd rfl rfl rfl (by decide) (by decide) (by decide) rfl rfl rfl h (by rfl))))
    (by exact (dss_cons (by exact (ds_lc (own := [("number", 10)]) 9 (by exact (dlc_mk (own := [("number", 10)]) S.nd (by exact (di_seq (by exact (dev 2 (pv 2))))) (blkOk_by (by change blkC ["pen", "one", "other", "mine", "its", "part", "most", "move", "value", "opposite", "number", "at"] (defScope s_law_right) _ _ = true; decide +kernel)) (by exact (dg_name (pg_name (i := 10) S.nd rfl (by first | exact Or.inl rfl | exact Or.inr rfl)))) dts_nil (by exact (de_binO (by exact st.blk) op_sub d_sub (by exact (BinsOk.cons (by exact (BinOk.of nmSub ⟨_, _, T.me_Amount_sub, ((ok_Amount_sub T).pos T.b_Amount_sub), by decide⟩ T.two_Amount T.rr_Amount_sub T.ii_Amount_sub T.oi_Sub ⟨_, T.i1_Sub⟩ ⟨_, T.i2_Sub⟩ T.is_Amount)) BinsOk.nil)) (by exact (DE.b de_int)) (by exact (dbv 10 (pv 10))))) (fun _ _ _ _ _ => (by exact (dg_name (pg_name (i := 10) S.nd rfl (by first | exact Or.inl rfl | exact Or.inr rfl))))) (fun _ _ _ _ _ => dts_nil) (fun _ _ _ _ _ => (by exact (de_binO (by exact st.blk) op_sub d_sub (by exact (BinsOk.cons (by exact (BinOk.of nmSub ⟨_, _, T.me_Amount_sub, ((ok_Amount_sub T).pos T.b_Amount_sub), by decide⟩ T.two_Amount T.rr_Amount_sub T.ii_Amount_sub T.oi_Sub ⟨_, T.i1_Sub⟩ ⟨_, T.i2_Sub⟩ T.is_Amount)) BinsOk.nil)) (by exact (DE.b de_int)) (by exact (dbv 10 (pv 10)))))))) rfl rfl (sw_true rfl rfl rfl (by decide +kernel))))
    (by exact (dss_cons (by exact (ds_if (by exact (DW.t (by exact (dw_or (by exact (dt_not (by exact (dt_val (by exact (de_fn (ok_law_is T) st T.m_law_is T.k_law_is T.b_law_is (by exact (da_cons (by exact (dev 3 (pv 3))) (by exact (da_cons (by exact (dev 1 (pv 1))) da_nil)))))))))) (by exact (dw_or (by exact (dt_not (by exact (dt_val (by exact (de_fn (ok_law_is T) st T.m_law_is T.k_law_is T.b_law_is (by exact (da_cons (by exact (de_binO st o_add d_add (by exact (BinsOk.cons (by exact (BinOk.of nmAdd ⟨_, _, T.me_Amount_add, ((ok_Amount_add T).pos T.b_Amount_add), by decide⟩ T.two_Amount T.rr_Amount_add T.ii_Amount_add T.oi_Add ⟨_, T.i1_Add⟩ ⟨_, T.i2_Add⟩ T.is_Amount)) BinsOk.nil)) (by exact (dbv 3 (pv 3))) (by exact (dbv 4 (pv 4))))) (by exact (da_cons (by exact (de_fn (ok_law_plus T) st T.m_law_plus T.k_law_plus T.b_law_plus (by exact (da_cons (by exact (dev 1 (pv 1))) (by exact (da_cons (by exact (dev 2 (pv 2))) da_nil)))))) da_nil)))))))))) (by exact (dw_or1 (by exact (dt_not (by exact (dt_val (by exact (de_fn (ok_law_is T) st T.m_law_is T.k_law_is T.b_law_is (by exact (da_cons (by exact (de_binO st op_sub d_sub (by exact (BinsOk.cons (by exact (BinOk.of nmSub ⟨_, _, T.me_Amount_sub, ((ok_Amount_sub T).pos T.b_Amount_sub), by decide⟩ T.two_Amount T.rr_Amount_sub T.ii_Amount_sub T.oi_Sub ⟨_, T.i1_Sub⟩ ⟨_, T.i2_Sub⟩ T.is_Amount)) BinsOk.nil)) (by exact (dbv 3 (pv 3))) (by exact (dbv 4 (pv 4))))) (by exact (da_cons (by exact (de_fn (ok_law_plus T) st T.m_law_plus T.k_law_plus T.b_law_plus (by exact (da_cons (by exact (dev 1 (pv 1))) (by exact (da_cons (by exact (dev 9 (pv 9))) da_nil)))))) da_nil))))))))))))))))))
    (by exact (dss_one (by exact (ds_ret de_bl))))
    dss_nil))
    (by exact (dss_cons (by exact (ds_if (by exact (DW.t (by exact (dw_or (by exact (dt_not (by exact (dt_val (by exact (de_fn (ok_law_is T) st T.m_law_is T.k_law_is T.b_law_is (by exact (da_cons (by exact (de_binO st o_mulY d_mulY (by exact (BinsOk.cons (by exact (BinOk.of nmMult ⟨_, _, T.me_Amount_mul, ((ok_Amount_mul T).pos T.b_Amount_mul), by decide⟩ T.two_Amount T.rr_Amount_mul T.ii_Amount_mul T.oi_Mult ⟨_, T.i1_Mult⟩ ⟨_, T.i2_Mult⟩ T.is_Amount)) BinsOk.nil)) (by exact (dbv 3 (pv 3))) (by exact (dbv 4 (pv 4))))) (by exact (da_cons (by exact (de_fn (ok_law_by T) st T.m_law_by T.k_law_by T.b_law_by (by exact (da_cons (by exact (dev 1 (pv 1))) (by exact (da_cons (by exact (dev 2 (pv 2))) da_nil)))))) da_nil)))))))))) (by exact (dw_or (by exact (dt_not (by exact (dt_val (by exact (de_fn (ok_law_is T) st T.m_law_is T.k_law_is T.b_law_is (by exact (da_cons (by exact (de_unO un_neg un_negD (un_negO st) (by exact (UnsOk.cons ⟨_, _, T.me_Amount_neg, ((ok_Amount_neg T).pos T.b_Amount_neg), by decide⟩ UnsOk.nil)) (by exact (dbv 4 (pv 4))))) (by exact (da_cons (by exact (dev 9 (pv 9))) da_nil)))))))))) (by exact (dw_or1 (by exact (dt_not (by exact (dt_val (by exact (de_fn (ok_law_is T) st T.m_law_is T.k_law_is T.b_law_is (by exact (da_cons (by exact (de_binO st op_shlW d_shlX (by exact (BinsOk.cons (by exact (BinOk.of nmLShift ⟨_, _, T.me_Amount_lshift, ((ok_Amount_lshift T).pos T.b_Amount_lshift), by decide⟩ T.two_Amount T.rr_Amount_lshift T.ii_Amount_lshift T.oi_LShift ⟨_, T.i1_LShift⟩ ⟨_, T.i2_LShift⟩ T.is_Amount)) BinsOk.nil)) (by exact (dbv 3 (pv 3))) (by exact (dbv 7 (pv 7))))) (by exact (da_cons (by exact (de_binO st o_add d_add (by exact (BinsOk.cons (by exact (BinOk.of nmAdd ⟨_, _, T.me_Amount_add, ((ok_Amount_add T).pos T.b_Amount_add), by decide⟩ T.two_Amount T.rr_Amount_add T.ii_Amount_add T.oi_Add ⟨_, T.i1_Add⟩ ⟨_, T.i2_Add⟩ T.is_Amount)) BinsOk.nil)) (by exact (DE.b (by exact (de_binO st o_mulY d_mulY (by exact (BinsOk.cons (by exact (BinOk.of nmMult ⟨_, _, T.me_Amount_mul, ((ok_Amount_mul T).pos T.b_Amount_mul), by decide⟩ T.two_Amount T.rr_Amount_mul T.ii_Amount_mul T.oi_Mult ⟨_, T.i1_Mult⟩ ⟨_, T.i2_Mult⟩ T.is_Amount)) BinsOk.nil)) (by exact (DE.b (by exact (de_lst (by exact (da_cons de_int da_nil)))))) (by exact (dbv 7 (pv 7))))))) (by exact (dbv 1 (pv 1))))) da_nil))))))))))))))))))
    (by exact (dss_one (by exact (ds_ret de_bl))))
    dss_nil))
    (by exact (dss_cons (by exact (ds_if (by exact (DW.t (by exact (dw_or (by exact (dt_not (by exact (dt_val (by exact (de_fn (ok_law_is T) st T.m_law_is T.k_law_is T.b_law_is (by exact (da_cons (by exact (de_binO st o_divX d_divX (by exact (BinsOk.cons (by exact (BinOk.of nmFloorDiv ⟨_, _, T.me_Amount_floordiv, ((ok_Amount_floordiv T).pos T.b_Amount_floordiv), by decide⟩ T.two_Amount T.rr_Amount_floordiv T.ii_Amount_floordiv T.oi_FloorDiv ⟨_, T.i1_FloorDiv⟩ ⟨_, T.i2_FloorDiv⟩ T.is_Amount)) BinsOk.nil)) (by exact (DE.b (by exact (de_stat st ⟨_, _, _, _, _, T.cr_Amount, T.sf_Amount_of, T.sr_Amount_of, T.F_Amount_of.kp, ((ok_Amount_of T).pos T.b_Amount_of), by decide⟩ (by exact (DE.b (by exact (de_clsV (by exact rfl) T.mg_Amount)))) (by exact (da_cons (by exact (DOw.e (by exact (dow_lc (own := [("number", 10)]) (by exact (dlc_mk (own := [("number", 10)]) S.nd (by exact (di_seq (by exact (dev 1 (pv 1))))) (blkOk_by (by change blkC ["pen", "one", "other", "mine", "its", "part", "most", "move", "value", "opposite", "number", "at"] (defScope s_law_right) _ _ = true; decide +kernel)) (by exact (dg_name (pg_name (i := 10) S.nd rfl (by first | exact Or.inl rfl | exact Or.inr rfl)))) dts_nil (by exact (de_binO (by exact st.blk) o_mulY d_mulY (by exact (BinsOk.cons (by exact (BinOk.of nmMult ⟨_, _, T.me_Amount_mul, ((ok_Amount_mul T).pos T.b_Amount_mul), by decide⟩ T.two_Amount T.rr_Amount_mul T.ii_Amount_mul T.oi_Mult ⟨_, T.i1_Mult⟩ ⟨_, T.i2_Mult⟩ T.is_Amount)) BinsOk.nil)) (by exact (dbv 5 (pv 5))) (by exact (dbv 10 (pv 10))))) (fun _ _ _ _ _ => (by exact (dg_name (pg_name (i := 10) S.nd rfl (by first | exact Or.inl rfl | exact Or.inr rfl))))) (fun _ _ _ _ _ => dts_nil) (fun _ _ _ _ _ => (by exact (de_binO (by exact st.blk) o_mulY d_mulY (by exact (BinsOk.cons (by exact (BinOk.of nmMult ⟨_, _, T.me_Amount_mul, ((ok_Amount_mul T).pos T.b_Amount_mul), by decide⟩ T.two_Amount T.rr_Amount_mul T.ii_Amount_mul T.oi_Mult ⟨_, T.i1_Mult⟩ ⟨_, T.i2_Mult⟩ T.is_Amount)) BinsOk.nil)) (by exact (dbv 5 (pv 5))) (by exact (dbv 10 (pv 10)))))))))))) da_nil)))))) (by exact (dbv 5 (pv 5))))) (by exact (da_cons (by exact (dev 1 (pv 1))) da_nil)))))))))) (by exact (dw_or1 (by exact (dt_not (by exact (dt_val (by exact (de_fn (ok_law_is T) st T.m_law_is T.k_law_is T.b_law_is (by exact (da_cons (by exact (de_meth st (by exact (MethsOk.cons ⟨⟨_, _, T.me_Amount_cut, ((ok_Amount_cut T).pos T.b_Amount_cut), by decide⟩, T.cl_Amount⟩ MethsOk.nil)) (by exact (dbv 3 (pv 3))) (by exact (da_cons (by exact (dev 6 (pv 6))) da_nil)))) (by exact (da_cons (by exact (de_slice (by exact (dbv 1 (pv 1))) do_none (by exact (do_some (by exact (de_binO st o_add d_add (by exact (BinsOk.cons (by exact (BinOk.of nmAdd ⟨_, _, T.me_Amount_add, ((ok_Amount_add T).pos T.b_Amount_add), by decide⟩ T.two_Amount T.rr_Amount_add T.ii_Amount_add T.oi_Add ⟨_, T.i1_Add⟩ ⟨_, T.i2_Add⟩ T.is_Amount)) BinsOk.nil)) (by exact (dbv 6 (pv 6))) (by exact (DE.b de_int)))))))) da_nil))))))))))))))))
    (by exact (dss_one (by exact (ds_ret de_bl))))
    dss_nil))
    (by exact (dss_cons (by exact (ds_if (by exact (DW.t (by exact (dw_or (by exact (dt_neO st (op_neD st.u64) d_ne (by exact (EqsOk.cons ⟨⟨_, _, T.me_Amount_eq, ((ok_Amount_eq T).pos T.b_Amount_eq), by decide⟩, T.ne_Amount, T.ob_Amount, T.nf_Amount, T.ty_Amount⟩ EqsOk.nil)) (by exact (DE.b (by exact (de_blt (call_reprD st.gd st.u64) d_repr T.z_repr (by exact (dab_cons (by exact (DE.b (by exact (DOw.e (by exact (dow_lc (own := [("at", 11)]) (by exact (dlc_mk (own := [("at", 11)]) S.nd (by exact (di_rng1 T.z_range (by exact (da_cons de_int da_nil)))) (blkOk_by (by change blkC ["pen", "one", "other", "mine", "its", "part", "most", "move", "value", "opposite", "number", "at"] (defScope s_law_right) _ _ = true; decide +kernel)) (by exact (dg_name (pg_name (i := 11) S.nd rfl (by first | exact Or.inl rfl | exact Or.inr rfl)))) dts_nil (by exact (de_ixO (by exact st.blk) (by exact (IxsOk.cons ⟨_, _, T.me_Amount_getitem, T.fi_Amount_getitem, ((ok_Amount_getitem T).pos T.b_Amount_getitem), by decide⟩ IxsOk.nil)) (by exact (dbv 3 (pv 3))) (by exact (dev 11 (pv 11))))) (fun _ _ _ _ _ => (by exact (dg_name (pg_name (i := 11) S.nd rfl (by first | exact Or.inl rfl | exact Or.inr rfl))))) (fun _ _ _ _ _ => dts_nil) (fun _ _ _ _ _ => (by exact (de_ixO (by exact st.blk) (by exact (IxsOk.cons ⟨_, _, T.me_Amount_getitem, T.fi_Amount_getitem, ((ok_Amount_getitem T).pos T.b_Amount_getitem), by decide⟩ IxsOk.nil)) (by exact (dbv 3 (pv 3))) (by exact (dev 11 (pv 11)))))))))))))) dab_nil)))))) (by exact (de_blt (call_reprD st.gd st.u64) d_repr T.z_repr (by exact (dab_cons (by exact (DE.b (by exact (DOw.e (by exact (dow_lc (own := [("at", 11)]) (by exact (dlc_mk (own := [("at", 11)]) S.nd (by exact (di_rng1 T.z_range (by exact (da_cons de_int da_nil)))) (blkOk_by (by change blkC ["pen", "one", "other", "mine", "its", "part", "most", "move", "value", "opposite", "number", "at"] (defScope s_law_right) _ _ = true; decide +kernel)) (by exact (dg_name (pg_name (i := 11) S.nd rfl (by first | exact Or.inl rfl | exact Or.inr rfl)))) dts_nil (by exact (de_if (by exact (dt_cmp op_lt d_cmp (by exact (dbv 11 (pv 11))) (by exact (DE.b (by exact (de_lenO (by exact st.blk) (LnsOk.cons ⟨_, _, T.me_Amount_len.at_, T.me_Amount_len.fn, (ok_Amount_len T).pos T.b_Amount_len, by decide⟩ LnsOk.nil) T.z_len (by exact (dbv 1 (pv 1))))))) (nomark _))) (by exact (de_ixO (by exact st.blk) (by exact (IxsOk.cons ⟨_, _, T.me_Amount_getitem, T.fi_Amount_getitem, ((ok_Amount_getitem T).pos T.b_Amount_getitem), by decide⟩ IxsOk.nil)) (by exact (dbv 1 (pv 1))) (by exact (dev 11 (pv 11))))) de_int)) (fun _ _ _ _ _ => (by exact (dg_name (pg_name (i := 11) S.nd rfl (by first | exact Or.inl rfl | exact Or.inr rfl))))) (fun _ _ _ _ _ => dts_nil) (fun _ _ _ _ _ => (by exact (de_if (by exact (dt_cmp op_lt d_cmp (by exact (dbv 11 (pv 11))) (by exact (DE.b (by exact (de_lenO (by exact st.blk) (LnsOk.cons ⟨_, _, T.me_Amount_len.at_, T.me_Amount_len.fn, (ok_Amount_len T).pos T.b_Amount_len, by decide⟩ LnsOk.nil) T.z_len (by exact (dbv 1 (pv 1))))))) (nomark _))) (by exact (de_ixO (by exact st.blk) (by exact (IxsOk.cons ⟨_, _, T.me_Amount_getitem, T.fi_Amount_getitem, ((ok_Amount_getitem T).pos T.b_Amount_getitem), by decide⟩ IxsOk.nil)) (by exact (dbv 1 (pv 1))) (by exact (dev 11 (pv 11))))) de_int))))))))))) dab_nil)))) (nomark _))) (by exact (dw_or1 (by exact (dt_neO st (op_neD st.u64) d_ne (by exact (EqsOk.cons ⟨⟨_, _, T.me_Amount_eq, ((ok_Amount_eq T).pos T.b_Amount_eq), by decide⟩, T.ne_Amount, T.ob_Amount, T.nf_Amount, T.ty_Amount⟩ EqsOk.nil)) (by exact (DE.b (by exact (de_ixO st (by exact (IxsOk.cons ⟨_, _, T.me_Amount_getitem, T.fi_Amount_getitem, ((ok_Amount_getitem T).pos T.b_Amount_getitem), by decide⟩ IxsOk.nil)) (by exact (dbv 3 (pv 3))) (by exact (de_bin op_pow d_pow (by exact (DE.b de_int)) (by exact (DE.b de_int)))))))) de_int (nomark _)))))))))
    (by exact (dss_one (by exact (ds_ret de_bl))))
    dss_nil))
    (by exact (dss_cons (by exact (ds_if (by exact (DW.t (by exact (dw_or (by exact (dt_neO st (op_neD st.u64) d_ne (by exact (EqsOk.cons ⟨⟨_, _, T.me_Amount_eq, ((ok_Amount_eq T).pos T.b_Amount_eq), by decide⟩, T.ne_Amount, T.ob_Amount, T.nf_Amount, T.ty_Amount⟩ EqsOk.nil)) (by exact (DE.b (by exact (de_blt (call_reprD st.gd st.u64) d_repr T.z_repr (by exact (dab_cons (by exact (DE.b (by exact (de_co st (by exact (CosOk.cons ⟨_, _, ⟨T.me_Amount_call.at_, T.me_Amount_call.fn, T.fi_Amount_call⟩, ((ok_Amount_call T).pos T.b_Amount_call), by decide⟩ CosOk.nil)) (by exact (dbv 3 (pv 3))) (by exact (da_cons (by exact (dev 8 (pv 8))) da_nil)))))) dab_nil)))))) (by exact (de_blt (call_reprD st.gd st.u64) d_repr T.z_repr (by exact (dab_cons (by exact (DE.b (by exact (de_fn (ok_law_value T) st T.m_law_value T.k_law_value T.b_law_value (by exact (da_cons (by exact (dev 1 (pv 1))) (by exact (da_cons (by exact (dev 8 (pv 8))) da_nil)))))))) dab_nil)))) (nomark _))) (by exact (dw_or1 (by exact (dt_neO st (op_neD st.u64) d_ne (by exact (EqsOk.cons ⟨⟨_, _, T.me_Amount_eq, ((ok_Amount_eq T).pos T.b_Amount_eq), by decide⟩, T.ne_Amount, T.ob_Amount, T.nf_Amount, T.ty_Amount⟩ EqsOk.nil)) (by exact (DE.b (by exact (de_blt (call_reprD st.gd st.u64) d_repr T.z_repr (by exact (dab_cons (by exact (DE.b (by exact (de_coK st ⟨_, _, _, _, ⟨T.me_Amount_call.at_, T.me_Amount_call.fn, T.fi_Amount_call⟩, ok_Amount_call T, T.kw_0, by decide⟩ (by exact (dbv 4 (pv 4))) (by exact (dk_cons (by exact (dev 8 (pv 8))) dk_nil)))))) dab_nil)))))) (by exact (de_blt (call_reprD st.gd st.u64) d_repr T.z_repr (by exact (dab_cons (by exact (DE.b (by exact (de_fn (ok_law_value T) st T.m_law_value T.k_law_value T.b_law_value (by exact (da_cons (by exact (dev 2 (pv 2))) (by exact (da_cons (by exact (dev 8 (pv 8))) da_nil)))))))) dab_nil)))) (nomark _)))))))))
    (by exact (dss_one (by exact (ds_ret de_bl))))
    dss_nil))
    (by exact (dss_cons (by exact (ds_if (by exact (DW.t (by exact (dw_or (by exact (dt_neO st (op_neD st.u64) d_ne (by exact (EqsOk.cons ⟨⟨_, _, T.me_Amount_eq, ((ok_Amount_eq T).pos T.b_Amount_eq), by decide⟩, T.ne_Amount, T.ob_Amount, T.nf_Amount, T.ty_Amount⟩ EqsOk.nil)) (by exact (DE.b (by exact (de_eqO st (op_eqD st.u64) d_eq (by exact (EqsOk.cons ⟨⟨_, _, T.me_Amount_eq, ((ok_Amount_eq T).pos T.b_Amount_eq), by decide⟩, T.ne_Amount, T.ob_Amount, T.nf_Amount, T.ty_Amount⟩ EqsOk.nil)) (by exact (dbv 3 (pv 3))) (by exact (dev 4 (pv 4))) (nomark _))))) (by exact (de_eqO st (op_eqD st.u64) d_eq (by exact (EqsOk.cons ⟨⟨_, _, T.me_Amount_eq, ((ok_Amount_eq T).pos T.b_Amount_eq), by decide⟩, T.ne_Amount, T.ob_Amount, T.nf_Amount, T.ty_Amount⟩ EqsOk.nil)) (by exact (DE.b (by exact (de_fn (ok_law_cut T) st T.m_law_cut T.k_law_cut T.b_law_cut (by exact (da_cons (by exact (dev 1 (pv 1))) da_nil)))))) (by exact (de_fn (ok_law_cut T) st T.m_law_cut T.k_law_cut T.b_law_cut (by exact (da_cons (by exact (dev 2 (pv 2))) da_nil)))) (nomark _))) (nomark _))) (by exact (dw_or (by exact (dt_eqO st (op_eqD st.u64) d_eq (by exact (EqsOk.cons ⟨⟨_, _, T.me_Amount_eq, ((ok_Amount_eq T).pos T.b_Amount_eq), by decide⟩, T.ne_Amount, T.ob_Amount, T.nf_Amount, T.ty_Amount⟩ EqsOk.nil)) (by exact (DE.b (by exact (de_neO st (op_neD st.u64) d_ne (by exact (EqsOk.cons ⟨⟨_, _, T.me_Amount_eq, ((ok_Amount_eq T).pos T.b_Amount_eq), by decide⟩, T.ne_Amount, T.ob_Amount, T.nf_Amount, T.ty_Amount⟩ EqsOk.nil)) (by exact (dbv 3 (pv 3))) (by exact (dev 4 (pv 4))) (nomark _))))) (by exact (de_eqO st (op_eqD st.u64) d_eq (by exact (EqsOk.cons ⟨⟨_, _, T.me_Amount_eq, ((ok_Amount_eq T).pos T.b_Amount_eq), by decide⟩, T.ne_Amount, T.ob_Amount, T.nf_Amount, T.ty_Amount⟩ EqsOk.nil)) (by exact (dbv 3 (pv 3))) (by exact (dev 4 (pv 4))) (nomark _))) (nomark _))) (by exact (dw_or (by exact (dt_eqO st (op_eqD st.u64) d_eq (by exact (EqsOk.cons ⟨⟨_, _, T.me_Amount_eq, ((ok_Amount_eq T).pos T.b_Amount_eq), by decide⟩, T.ne_Amount, T.ob_Amount, T.nf_Amount, T.ty_Amount⟩ EqsOk.nil)) (by exact (dbv 3 (pv 3))) (by exact (de_fn (ok_law_cut T) st T.m_law_cut T.k_law_cut T.b_law_cut (by exact (da_cons (by exact (dev 1 (pv 1))) da_nil)))) (nomark _))) (by exact (dw_or1 (by exact (dt_eqO st (op_eqD st.u64) d_eq (by exact (EqsOk.cons ⟨⟨_, _, T.me_Amount_eq, ((ok_Amount_eq T).pos T.b_Amount_eq), by decide⟩, T.ne_Amount, T.ob_Amount, T.nf_Amount, T.ty_Amount⟩ EqsOk.nil)) (by exact (dbv 3 (pv 3))) (by exact (de_strO st (StrsOk.cons ⟨_, _, T.me_Amount_str, ((ok_Amount_str T).pos T.b_Amount_str), by decide⟩ StrsOk.nil) T.z_str (by exact (dbv 3 (pv 3))))) (nomark _)))))))))))))
    (by exact (dss_one (by exact (ds_ret de_bl))))
    dss_nil))
    (by exact (dss_one (by exact (ds_ret (by exact (de_and (by exact (de_fn (ok_law_is T) st T.m_law_is T.k_law_is T.b_law_is (by exact (da_cons (by exact (dev 3 (pv 3))) (by exact (da_cons (by exact (dev 1 (pv 1))) da_nil)))))) (by exact (de_one (by exact (de_fn (ok_law_is T) st T.m_law_is T.k_law_is T.b_law_is (by exact (da_cons (by exact (dev 4 (pv 4))) (by exact (da_cons (by exact (dev 2 (pv 2))) da_nil))))))))))))))))))))))))))))))), m_law_right A.Z⟩
theorem ok_law (T : Txt K mg A) : FnG P w K mg base CX0 8 A.f_law A.d_law ["script"] (spLaw K) := by
  have S := sc_law
  refine law_ok (k := 7) T.F_law sc_law 7 rfl (fun cdv A0 outer s H E st => ?_)
  exact ⟨_, _, kb_law A.Z, fun h => pss_cons (by exact (ps_set (i := 1) S.nd rfl (by first | exact Or.inl rfl | exact Or.inr rfl) (pe_callG (ok_law_pen T) (st.room.mono (by decide)) st.gd (by exact rfl) T.m_law_pen T.k_law_pen T.b_law_pen .nil pass0 (pa_cons (pv 0) pa_nil)))) h, by exact (dss_cons (by exact (ds_for (by exact (di_rng1 T.z_range (by exact (da_cons de_int da_nil)))) (by exact (dg_name (pg_name (i := 2) S.nd rfl (by first | exact Or.inl rfl | exact Or.inr rfl))))
    (by exact (dss_cons (by exact (ds_par (by exact (da_cons (by exact (de_fn (ok_law_row T) st T.m_law_row T.k_law_row T.b_law_row (by exact (da_cons (by exact (dev 1 (pv 1))) da_nil)))) (by exact (da_cons (by exact (de_fn (ok_law_row T) st T.m_law_row T.k_law_row T.b_law_row (by exact (da_cons (by exact (dev 1 (pv 1))) da_nil)))) da_nil)))) (fun h => ps_par (i := 3) (j := 4) rfl S.nd rfl rfl (by decide) rfl rfl h (by rfl))))
    (by exact (dss_cons (by exact (ds_if (by exact (DW.t (by exact (dw_or (by exact (dt_not (by exact (dt_val (by exact (de_fn (ok_law_right T) st T.m_law_right T.k_law_right T.b_law_right (by exact (da_cons (by exact (dev 1 (pv 1))) (by exact (da_cons (by exact (dev 3 (pv 3))) (by exact (da_cons (by exact (dev 4 (pv 4))) da_nil)))))))))))) (by exact (dw_or1 (by exact (dt_not (by exact (dt_val (by exact (de_fn (ok_law_right T) st T.m_law_right T.k_law_right T.b_law_right (by exact (da_cons (by exact (dev 1 (pv 1))) (by exact (da_cons (by exact (dev 3 (pv 3))) (by exact (da_cons (by exact (de_listO st (SeqsOk.cons ⟨_, _, T.me_Amount_iter.at_, T.me_Amount_iter.fn, ok_Amount_iter T, by decide⟩ ⟨_, _, T.me_Amount_len.at_, T.me_Amount_len.fn, (ok_Amount_len T).pos T.b_Amount_len, by decide⟩ SeqsOk.nil) T.z_list (by exact (dbv 3 (pv 3))))) da_nil))))))))))))))))))
    (by exact (dss_one (by exact (ds_ret de_bl))))
    dss_nil))
    (by exact (dss_cons (by exact (ds_set 5 (by exact (de_stat st ⟨_, _, _, _, _, T.cr_Amount, T.sf_Amount_of, T.sr_Amount_of, T.F_Amount_of.kp, ((ok_Amount_of T).pos T.b_Amount_of), by decide⟩ (by exact (DE.b (by exact (de_clsV (by exact rfl) T.mg_Amount)))) (by exact (da_cons (by exact (dev 3 (pv 3))) da_nil)))) (fun h => ps_set (i := 5) S.nd rfl (by first | exact Or.inl rfl | exact Or.inr rfl) h)))
    (by exact (dss_cons (by exact (ds_set 6 (by exact (dev 5 (pv 5))) (fun h => ps_set (i := 6) S.nd rfl (by first | exact Or.inl rfl | exact Or.inr rfl) h)))
    (by exact (dss_cons (by exact (ds_augN 5 st (by exact (BinsOk.cons (by exact (BinOk.of nmAdd ⟨_, _, T.me_Amount_add, ((ok_Amount_add T).pos T.b_Amount_add), by decide⟩ T.two_Amount T.rr_Amount_add T.ii_Amount_add T.oi_Add ⟨_, T.i1_Add⟩ ⟨_, T.i2_Add⟩ T.is_Amount)) BinsOk.nil)) (by exact (de_stat st ⟨_, _, _, _, _, T.cr_Amount, T.sf_Amount_of, T.sr_Amount_of, T.F_Amount_of.kp, ((ok_Amount_of T).pos T.b_Amount_of), by decide⟩ (by exact (DE.b (by exact (de_clsV (by exact rfl) T.mg_Amount)))) (by exact (da_cons (by exact (dev 4 (pv 4))) da_nil)))) (fun a h => ps_aug (i := 5) S.nd rfl (by first | exact Or.inl rfl | exact Or.inr rfl) a h)))
    (by exact (dss_cons (by exact (ds_augN 5 st (by exact (BinsOk.cons (by exact (BinOk.of nmMult ⟨_, _, T.me_Amount_mul, ((ok_Amount_mul T).pos T.b_Amount_mul), by decide⟩ T.two_Amount T.rr_Amount_mul T.ii_Amount_mul T.oi_Mult ⟨_, T.i1_Mult⟩ ⟨_, T.i2_Mult⟩ T.is_Amount)) BinsOk.nil)) (by exact (de_mk st ⟨_, _, T.mk_Amount, ok_Amount_init T, by decide⟩ T.kc_Amount T.mg_Amount (by exact (da_cons de_int (by exact (da_cons de_int da_nil)))))) (fun a h => ps_aug (i := 5) S.nd rfl (by first | exact Or.inl rfl | exact Or.inr rfl) a h)))
    (by exact (dss_cons (by exact (ds_augN 5 st (by exact (BinsOk.cons (by exact (BinOk.of nmSub ⟨_, _, T.me_Amount_sub, ((ok_Amount_sub T).pos T.b_Amount_sub), by decide⟩ T.two_Amount T.rr_Amount_sub T.ii_Amount_sub T.oi_Sub ⟨_, T.i1_Sub⟩ ⟨_, T.i2_Sub⟩ T.is_Amount)) BinsOk.nil)) (by exact (de_mk st ⟨_, _, T.mk_Amount, ok_Amount_init T, by decide⟩ T.kc_Amount T.mg_Amount (by exact (da_cons de_int da_nil)))) (fun a h => ps_aug (i := 5) S.nd rfl (by first | exact Or.inl rfl | exact Or.inr rfl) a h)))
    (by exact (dss_cons (by exact (ds_augN 5 st (by exact (BinsOk.cons (by exact (BinOk.of nmLShift ⟨_, _, T.me_Amount_lshift, ((ok_Amount_lshift T).pos T.b_Amount_lshift), by decide⟩ T.two_Amount T.rr_Amount_lshift T.ii_Amount_lshift T.oi_LShift ⟨_, T.i1_LShift⟩ ⟨_, T.i2_LShift⟩ T.is_Amount)) BinsOk.nil)) de_int (fun a h => ps_aug (i := 5) S.nd rfl (by first | exact Or.inl rfl | exact Or.inr rfl) a h)))
    (by exact (dss_cons (by exact (ds_set 7 (by exact (de_binO st o_add d_add (by exact (BinsOk.cons (by exact (BinOk.of nmAdd ⟨_, _, T.me_Amount_add, ((ok_Amount_add T).pos T.b_Amount_add), by decide⟩ T.two_Amount T.rr_Amount_add T.ii_Amount_add T.oi_Add ⟨_, T.i1_Add⟩ ⟨_, T.i2_Add⟩ T.is_Amount)) BinsOk.nil)) (by exact (DE.b (by exact (de_lst (by exact (da_cons de_int da_nil)))))) (by exact (DE.b (by exact (de_listO st (SeqsOk.cons ⟨_, _, T.me_Amount_iter.at_, T.me_Amount_iter.fn, ok_Amount_iter T, by decide⟩ ⟨_, _, T.me_Amount_len.at_, T.me_Amount_len.fn, (ok_Amount_len T).pos T.b_Amount_len, by decide⟩ SeqsOk.nil) T.z_list (by exact (DE.b (by exact (de_fn (ok_law_plus T) st T.m_law_plus T.k_law_plus T.b_law_plus (by exact (da_cons (by exact (de_fn (ok_law_by T) st T.m_law_by T.k_law_by T.b_law_by (by exact (da_cons (by exact (de_fn (ok_law_plus T) st T.m_law_plus T.k_law_plus T.b_law_plus (by exact (da_cons (by exact (dev 3 (pv 3))) (by exact (da_cons (by exact (dev 4 (pv 4))) da_nil)))))) (by exact (da_cons (by exact (de_tup (by exact (da_cons de_int (by exact (da_cons de_int da_nil)))))) da_nil)))))) (by exact (da_cons (by exact (de_tup (by exact (da_cons (by exact (de_un un_neg un_negD (by exact (DE.b de_int)))) da_nil)))) da_nil)))))))))))))) (fun h => ps_set (i := 7) S.nd rfl (by first | exact Or.inl rfl | exact Or.inr rfl) h)))
    (by exact (dss_one (by exact (ds_if (by exact (DW.t (by exact (dw_or (by exact (dt_not (by exact (dt_val (by exact (de_fn (ok_law_is T) st T.m_law_is T.k_law_is T.b_law_is (by exact (da_cons (by exact (dev 5 (pv 5))) (by exact (da_cons (by exact (dev 7 (pv 7))) da_nil)))))))))) (by exact (dw_or1 (by exact (dt_not (by exact (dt_val (by exact (de_fn (ok_law_is T) st T.m_law_is T.k_law_is T.b_law_is (by exact (da_cons (by exact (dev 6 (pv 6))) (by exact (da_cons (by exact (dev 3 (pv 3))) da_nil))))))))))))))))
    (by exact (dss_one (by exact (ds_ret de_bl))))
    dss_nil)))))))))))))))))))))) (fun a b c => ps_for PassesOwn.never rfl a b c)))
    (by exact (dss_cons (by exact (ds_set 8 (by exact (de_stat st ⟨_, _, _, _, _, T.cr_Amount, T.sf_Amount_of, T.sr_Amount_of, T.F_Amount_of.kp, ((ok_Amount_of T).pos T.b_Amount_of), by decide⟩ (by exact (DE.b (by exact (de_clsV (by exact rfl) T.mg_Amount)))) (by exact (da_cons (by exact (de_binO st o_add d_add (by exact (BinsOk.cons (by exact (BinOk.of nmAdd ⟨_, _, T.me_Amount_add, ((ok_Amount_add T).pos T.b_Amount_add), by decide⟩ T.two_Amount T.rr_Amount_add T.ii_Amount_add T.oi_Add ⟨_, T.i1_Add⟩ ⟨_, T.i2_Add⟩ T.is_Amount)) BinsOk.nil)) (by exact (DE.b (by exact (de_binO st o_mulY d_mulY (by exact (BinsOk.cons (by exact (BinOk.of nmMult ⟨_, _, T.me_Amount_mul, ((ok_Amount_mul T).pos T.b_Amount_mul), by decide⟩ T.two_Amount T.rr_Amount_mul T.ii_Amount_mul T.oi_Mult ⟨_, T.i1_Mult⟩ ⟨_, T.i2_Mult⟩ T.is_Amount)) BinsOk.nil)) (by exact (DE.b (by exact (de_lst (by exact (da_cons de_int da_nil)))))) (by exact (DE.b de_int)))))) (by exact (DE.b (by exact (de_lst (by exact (da_cons (by exact (de_un un_neg un_negD (by exact (DE.b de_int)))) da_nil)))))))) da_nil)))) (fun h => ps_set (i := 8) S.nd rfl (by first | exact Or.inl rfl | exact Or.inr rfl) h)))
    (by exact (dss_one (by exact (ds_ret (by exact (de_and (by exact (de_eqO st (op_eqD st.u64) d_eq (by exact (EqsOk.cons ⟨⟨_, _, T.me_Amount_eq, ((ok_Amount_eq T).pos T.b_Amount_eq), by decide⟩, T.ne_Amount, T.ob_Amount, T.nf_Amount, T.ty_Amount⟩ EqsOk.nil)) (by exact (DE.b (by exact (de_fld (by exact (FldOk.cons T.cl_Amount T.na_Amount_degree FldOk.nil)) (by exact (dbv 8 (pv 8))))))) de_int (nomark _))) (by exact (de_and (by exact (de_eqO st (op_eqD st.u64) d_eq (by exact (EqsOk.cons ⟨⟨_, _, T.me_Amount_eq, ((ok_Amount_eq T).pos T.b_Amount_eq), by decide⟩, T.ne_Amount, T.ob_Amount, T.nf_Amount, T.ty_Amount⟩ EqsOk.nil)) (by exact (DE.b (by exact (de_ixO st (by exact (IxsOk.cons ⟨_, _, T.me_Amount_getitem, T.fi_Amount_getitem, ((ok_Amount_getitem T).pos T.b_Amount_getitem), by decide⟩ IxsOk.nil)) (by exact (dbv 8 (pv 8))) de_int)))) (by exact (de_un un_neg un_negD (by exact (DE.b de_int)))) (nomark _))) (by exact (de_and (by exact (de_eqO st (op_eqD st.u64) d_eq (by exact (EqsOk.cons ⟨⟨_, _, T.me_Amount_eq, ((ok_Amount_eq T).pos T.b_Amount_eq), by decide⟩, T.ne_Amount, T.ob_Amount, T.nf_Amount, T.ty_Amount⟩ EqsOk.nil)) (by exact (DE.b (by exact (de_con T.cr_Amount T.cv_Amount_MOST (fun _ _ => .int _) (by exact (DE.b (by exact (de_clsV (by exact rfl) T.mg_Amount)))))))) de_int (nomark _))) (by exact (de_and (by exact (de_eqO st (op_eqD st.u64) d_eq (by exact (EqsOk.cons ⟨⟨_, _, T.me_Amount_eq, ((ok_Amount_eq T).pos T.b_Amount_eq), by decide⟩, T.ne_Amount, T.ob_Amount, T.nf_Amount, T.ty_Amount⟩ EqsOk.nil)) (by exact (dbv 8 (pv 8))) (by exact (de_binO st op_shlW d_shlX (by exact (BinsOk.cons (by exact (BinOk.of nmLShift ⟨_, _, T.me_Amount_lshift, ((ok_Amount_lshift T).pos T.b_Amount_lshift), by decide⟩ T.two_Amount T.rr_Amount_lshift T.ii_Amount_lshift T.oi_LShift ⟨_, T.i1_LShift⟩ ⟨_, T.i2_LShift⟩ T.is_Amount)) BinsOk.nil)) (by exact (DE.b (by exact (de_mk st ⟨_, _, T.mk_Amount, ok_Amount_init T, by decide⟩ T.kc_Amount T.mg_Amount (by exact (da_cons (by exact (de_un un_neg un_negD (by exact (DE.b de_int)))) da_nil)))))) (by exact (DE.b de_int)))) (nomark _))) (by exact (de_and (by exact (de_eqO st (op_eqD st.u64) d_eq (by exact (EqsOk.cons ⟨⟨_, _, T.me_Amount_eq, ((ok_Amount_eq T).pos T.b_Amount_eq), by decide⟩, T.ne_Amount, T.ob_Amount, T.nf_Amount, T.ty_Amount⟩ EqsOk.nil)) (by exact (DE.b (by exact (de_co st (by exact (CosOk.cons ⟨_, _, ⟨T.me_Amount_call.at_, T.me_Amount_call.fn, T.fi_Amount_call⟩, ((ok_Amount_call T).pos T.b_Amount_call), by decide⟩ CosOk.nil)) (by exact (dbv 8 (pv 8))) (by exact (da_cons de_int da_nil)))))) (by exact (de_un un_neg un_negD (by exact (DE.b de_int)))) (nomark _))) (by exact (de_one (by exact (de_eqO st (op_eqD st.u64) d_eq (by exact (EqsOk.cons ⟨⟨_, _, T.me_Amount_eq, ((ok_Amount_eq T).pos T.b_Amount_eq), by decide⟩, T.ne_Amount, T.ob_Amount, T.nf_Amount, T.ty_Amount⟩ EqsOk.nil)) (by exact (DE.b (by exact (de_mk0 st ⟨_, _, T.mk_Amount, ok_Amount_init T, by decide⟩ T.kc_Amount T.mg_Amount)))) (by exact (de_mk st ⟨_, _, T.mk_Amount, ok_Amount_init T, by decide⟩ T.kc_Amount T.mg_Amount (by exact (da_cons de_int (by exact (da_cons de_int da_nil)))))) (nomark _)))))))))))))))))))))), m_law A.Z⟩
end
theorem all_mk {P : Program} {w : World} {K : PySem.W.Frag} {h : Heap} {mg : Str → Option Value} {fa : Addr} (X : K.In h) (G : h.Ns mainGlobals mg) (hfa : mg "law" = some (.ref fa))
    (z_abs : PySem.W.nsIn K mainGlobals "abs" = some none)
    (z_all : PySem.W.nsIn K mainGlobals "all" = some none)
    (z_any : PySem.W.nsIn K mainGlobals "any" = some none)
    (z_bool : PySem.W.nsIn K mainGlobals "bool" = some none)
    (z_enumerate : PySem.W.nsIn K mainGlobals "enumerate" = some none)
    (z_int : PySem.W.nsIn K mainGlobals "int" = some none)
    (z_isinstance : PySem.W.nsIn K mainGlobals "isinstance" = some none)
    (z_iter : PySem.W.nsIn K mainGlobals "iter" = some none)
    (z_len : PySem.W.nsIn K mainGlobals "len" = some none)
    (z_list : PySem.W.nsIn K mainGlobals "list" = some none)
    (z_max : PySem.W.nsIn K mainGlobals "max" = some none)
    (z_range : PySem.W.nsIn K mainGlobals "range" = some none)
    (z_repr : PySem.W.nsIn K mainGlobals "repr" = some none)
    (z_str : PySem.W.nsIn K mainGlobals "str" = some none)
    (z_sum : PySem.W.nsIn K mainGlobals "sum" = some none)
    (z_tuple : PySem.W.nsIn K mainGlobals "tuple" = some none)
    {C_Amount : Addr} (aC_Amount : PySem.W.nsIn K mainGlobals "Amount" = some (some (.ref C_Amount)))
    {od_words_of an_words_of : Option Addr} {sl_words_of : Array (Option Value)} {oc_words_of kV_words_of dc_words_of pm_words_of cd_words_of ct_words_of : Value} {f_words_of : Addr} (a_words_of : PySem.W.nsIn K mainGlobals "words_of" = some (some (.ref f_words_of)))
    (l_words_of : K.lookup f_words_of = some ⟨oc_words_of, od_words_of, .func (PySem.W.fnOf "words_of" "words_of" (defArgs s_words_of) (defBody s_words_of) (defScope s_words_of) .none kV_words_of dc_words_of pm_words_of an_words_of cd_words_of ct_words_of), sl_words_of⟩)
    (c_words_of : PySem.W.codeIn K cd_words_of "words_of" = true)
    (k_words_of : PySem.W.keepIn K (.ref f_words_of) = true)
    {od_is_integer an_is_integer : Option Addr} {sl_is_integer : Array (Option Value)} {oc_is_integer kV_is_integer dc_is_integer pm_is_integer cd_is_integer ct_is_integer : Value} {f_is_integer : Addr} (a_is_integer : PySem.W.nsIn K mainGlobals "is_integer" = some (some (.ref f_is_integer)))
    (l_is_integer : K.lookup f_is_integer = some ⟨oc_is_integer, od_is_integer, .func (PySem.W.fnOf "is_integer" "is_integer" (defArgs s_is_integer) (defBody s_is_integer) (defScope s_is_integer) .none kV_is_integer dc_is_integer pm_is_integer an_is_integer cd_is_integer ct_is_integer), sl_is_integer⟩)
    (c_is_integer : PySem.W.codeIn K cd_is_integer "is_integer" = true)
    (k_is_integer : PySem.W.keepIn K (.ref f_is_integer) = true)
    {od_need_number an_need_number : Option Addr} {sl_need_number : Array (Option Value)} {oc_need_number kV_need_number dc_need_number pm_need_number cd_need_number ct_need_number : Value} {f_need_number : Addr} (a_need_number : PySem.W.nsIn K mainGlobals "need_number" = some (some (.ref f_need_number)))
    (l_need_number : K.lookup f_need_number = some ⟨oc_need_number, od_need_number, .func (PySem.W.fnOf "need_number" "need_number" (defArgs s_need_number) (defBody s_need_number) (defScope s_need_number) .none kV_need_number dc_need_number pm_need_number an_need_number cd_need_number ct_need_number), sl_need_number⟩)
    (c_need_number : PySem.W.codeIn K cd_need_number "need_number" = true)
    (k_need_number : PySem.W.keepIn K (.ref f_need_number) = true)
    {od_trimmed an_trimmed : Option Addr} {sl_trimmed : Array (Option Value)} {oc_trimmed kV_trimmed dc_trimmed pm_trimmed cd_trimmed ct_trimmed : Value} {f_trimmed : Addr} (a_trimmed : PySem.W.nsIn K mainGlobals "trimmed" = some (some (.ref f_trimmed)))
    (l_trimmed : K.lookup f_trimmed = some ⟨oc_trimmed, od_trimmed, .func (PySem.W.fnOf "trimmed" "trimmed" (defArgs s_trimmed) (defBody s_trimmed) (defScope s_trimmed) .none kV_trimmed dc_trimmed pm_trimmed an_trimmed cd_trimmed ct_trimmed), sl_trimmed⟩)
    (c_trimmed : PySem.W.codeIn K cd_trimmed "trimmed" = true)
    (k_trimmed : PySem.W.keepIn K (.ref f_trimmed) = true)
    {od_at_power an_at_power : Option Addr} {sl_at_power : Array (Option Value)} {oc_at_power kV_at_power dc_at_power pm_at_power cd_at_power ct_at_power : Value} {f_at_power : Addr} (a_at_power : PySem.W.nsIn K mainGlobals "at_power" = some (some (.ref f_at_power)))
    (l_at_power : K.lookup f_at_power = some ⟨oc_at_power, od_at_power, .func (PySem.W.fnOf "at_power" "at_power" (defArgs s_at_power) (defBody s_at_power) (defScope s_at_power) .none kV_at_power dc_at_power pm_at_power an_at_power cd_at_power ct_at_power), sl_at_power⟩)
    (c_at_power : PySem.W.codeIn K cd_at_power "at_power" = true)
    (k_at_power : PySem.W.keepIn K (.ref f_at_power) = true)
    {od_plus an_plus : Option Addr} {sl_plus : Array (Option Value)} {oc_plus kV_plus dc_plus pm_plus cd_plus ct_plus : Value} {f_plus : Addr} (a_plus : PySem.W.nsIn K mainGlobals "plus" = some (some (.ref f_plus)))
    (l_plus : K.lookup f_plus = some ⟨oc_plus, od_plus, .func (PySem.W.fnOf "plus" "plus" (defArgs s_plus) (defBody s_plus) (defScope s_plus) .none kV_plus dc_plus pm_plus an_plus cd_plus ct_plus), sl_plus⟩)
    (c_plus : PySem.W.codeIn K cd_plus "plus" = true)
    (k_plus : PySem.W.keepIn K (.ref f_plus) = true)
    {od_scaled an_scaled : Option Addr} {sl_scaled : Array (Option Value)} {oc_scaled kV_scaled dc_scaled pm_scaled cd_scaled ct_scaled : Value} {f_scaled : Addr} (a_scaled : PySem.W.nsIn K mainGlobals "scaled" = some (some (.ref f_scaled)))
    (l_scaled : K.lookup f_scaled = some ⟨oc_scaled, od_scaled, .func (PySem.W.fnOf "scaled" "scaled" (defArgs s_scaled) (defBody s_scaled) (defScope s_scaled) .none kV_scaled dc_scaled pm_scaled an_scaled cd_scaled ct_scaled), sl_scaled⟩)
    (c_scaled : PySem.W.codeIn K cd_scaled "scaled" = true)
    (k_scaled : PySem.W.keepIn K (.ref f_scaled) = true)
    {od_at_product an_at_product : Option Addr} {sl_at_product : Array (Option Value)} {oc_at_product kV_at_product dc_at_product pm_at_product cd_at_product ct_at_product : Value} {f_at_product : Addr} (a_at_product : PySem.W.nsIn K mainGlobals "at_product" = some (some (.ref f_at_product)))
    (l_at_product : K.lookup f_at_product = some ⟨oc_at_product, od_at_product, .func (PySem.W.fnOf "at_product" "at_product" (defArgs s_at_product) (defBody s_at_product) (defScope s_at_product) .none kV_at_product dc_at_product pm_at_product an_at_product cd_at_product ct_at_product), sl_at_product⟩)
    (c_at_product : PySem.W.codeIn K cd_at_product "at_product" = true)
    (k_at_product : PySem.W.keepIn K (.ref f_at_product) = true)
    {od_multiplied an_multiplied : Option Addr} {sl_multiplied : Array (Option Value)} {oc_multiplied kV_multiplied dc_multiplied pm_multiplied cd_multiplied ct_multiplied : Value} {f_multiplied : Addr} (a_multiplied : PySem.W.nsIn K mainGlobals "multiplied" = some (some (.ref f_multiplied)))
    (l_multiplied : K.lookup f_multiplied = some ⟨oc_multiplied, od_multiplied, .func (PySem.W.fnOf "multiplied" "multiplied" (defArgs s_multiplied) (defBody s_multiplied) (defScope s_multiplied) .none kV_multiplied dc_multiplied pm_multiplied an_multiplied cd_multiplied ct_multiplied), sl_multiplied⟩)
    (c_multiplied : PySem.W.codeIn K cd_multiplied "multiplied" = true)
    (k_multiplied : PySem.W.keepIn K (.ref f_multiplied) = true)
    {od_is_written an_is_written : Option Addr} {sl_is_written : Array (Option Value)} {oc_is_written kV_is_written dc_is_written pm_is_written cd_is_written ct_is_written : Value} {f_is_written : Addr} (a_is_written : PySem.W.nsIn K mainGlobals "is_written" = some (some (.ref f_is_written)))
    (l_is_written : K.lookup f_is_written = some ⟨oc_is_written, od_is_written, .func (PySem.W.fnOf "is_written" "is_written" (defArgs s_is_written) (defBody s_is_written) (defScope s_is_written) .none kV_is_written dc_is_written pm_is_written an_is_written cd_is_written ct_is_written), sl_is_written⟩)
    (c_is_written : PySem.W.codeIn K cd_is_written "is_written" = true)
    (k_is_written : PySem.W.keepIn K (.ref f_is_written) = true)
    {od_need_amount an_need_amount : Option Addr} {sl_need_amount : Array (Option Value)} {oc_need_amount kV_need_amount dc_need_amount pm_need_amount cd_need_amount ct_need_amount : Value} {f_need_amount : Addr} (a_need_amount : PySem.W.nsIn K mainGlobals "need_amount" = some (some (.ref f_need_amount)))
    (l_need_amount : K.lookup f_need_amount = some ⟨oc_need_amount, od_need_amount, .func (PySem.W.fnOf "need_amount" "need_amount" (defArgs s_need_amount) (defBody s_need_amount) (defScope s_need_amount) .none kV_need_amount dc_need_amount pm_need_amount an_need_amount cd_need_amount ct_need_amount), sl_need_amount⟩)
    (c_need_amount : PySem.W.codeIn K cd_need_amount "need_amount" = true)
    (k_need_amount : PySem.W.keepIn K (.ref f_need_amount) = true)
    {od_Amount_init an_Amount_init : Option Addr} {sl_Amount_init : Array (Option Value)} {oc_Amount_init kV_Amount_init dc_Amount_init pm_Amount_init cd_Amount_init ct_Amount_init : Value} {f_Amount_init : Addr} (a_Amount_init : PySem.W.findIn K (.ref C_Amount) "__init__" = some (some (.ref f_Amount_init)))
    (i_Amount_init : PySem.W.isFn K (.ref f_Amount_init) = true)
    (l_Amount_init : K.lookup f_Amount_init = some ⟨oc_Amount_init, od_Amount_init, .func (PySem.W.fnOf "__init__" "Amount.__init__" (defArgs s_Amount_init) (defBody s_Amount_init) (defScope s_Amount_init) .none kV_Amount_init dc_Amount_init pm_Amount_init an_Amount_init cd_Amount_init ct_Amount_init), sl_Amount_init⟩)
    (c_Amount_init : PySem.W.codeIn K cd_Amount_init "Amount.__init__" = true)
    (k_Amount_init : PySem.W.keepIn K (.ref f_Amount_init) = true)
    {od_Amount_of an_Amount_of : Option Addr} {sl_Amount_of : Array (Option Value)} {oc_Amount_of kV_Amount_of dc_Amount_of pm_Amount_of cd_Amount_of ct_Amount_of : Value} {f_Amount_of : Addr} {p_Amount_of : Addr} {r_Amount_of : List Value} (a_Amount_of : PySem.W.findCls K (.ref C_Amount) (.type "type") "of" = some (.get (.builtin "staticmethod.__get__") (.ref p_Amount_of) .none (.ref C_Amount)))
    (s_r_Amount_of : PySem.W.recIn K p_Amount_of "staticmethod" = some (.ref f_Amount_of :: r_Amount_of))
    (l_Amount_of : K.lookup f_Amount_of = some ⟨oc_Amount_of, od_Amount_of, .func (PySem.W.fnOf "of" "Amount.of" (defArgs s_Amount_of) (defBody s_Amount_of) (defScope s_Amount_of) .none kV_Amount_of dc_Amount_of pm_Amount_of an_Amount_of cd_Amount_of ct_Amount_of), sl_Amount_of⟩)
    (c_Amount_of : PySem.W.codeIn K cd_Amount_of "Amount.of" = true)
    (k_Amount_of : PySem.W.keepIn K (.ref f_Amount_of) = true)
    {od_Amount_read an_Amount_read : Option Addr} {sl_Amount_read : Array (Option Value)} {oc_Amount_read kV_Amount_read dc_Amount_read pm_Amount_read cd_Amount_read ct_Amount_read : Value} {f_Amount_read : Addr} {p_Amount_read : Addr} {r_Amount_read : List Value} (a_Amount_read : PySem.W.findCls K (.ref C_Amount) (.type "type") "read" = some (.get (.builtin "classmethod.__get__") (.ref p_Amount_read) .none (.ref C_Amount)))
    (s_r_Amount_read : PySem.W.recIn K p_Amount_read "classmethod" = some (.ref f_Amount_read :: r_Amount_read))
    (l_Amount_read : K.lookup f_Amount_read = some ⟨oc_Amount_read, od_Amount_read, .func (PySem.W.fnOf "read" "Amount.read" (defArgs s_Amount_read) (defBody s_Amount_read) (defScope s_Amount_read) .none kV_Amount_read dc_Amount_read pm_Amount_read an_Amount_read cd_Amount_read ct_Amount_read), sl_Amount_read⟩)
    (c_Amount_read : PySem.W.codeIn K cd_Amount_read "Amount.read" = true)
    (k_Amount_read : PySem.W.keepIn K (.ref f_Amount_read) = true)
    {od_Amount_len an_Amount_len : Option Addr} {sl_Amount_len : Array (Option Value)} {oc_Amount_len kV_Amount_len dc_Amount_len pm_Amount_len cd_Amount_len ct_Amount_len : Value} {f_Amount_len : Addr} (a_Amount_len : PySem.W.findIn K (.ref C_Amount) "__len__" = some (some (.ref f_Amount_len)))
    (i_Amount_len : PySem.W.isFn K (.ref f_Amount_len) = true)
    (l_Amount_len : K.lookup f_Amount_len = some ⟨oc_Amount_len, od_Amount_len, .func (PySem.W.fnOf "__len__" "Amount.__len__" (defArgs s_Amount_len) (defBody s_Amount_len) (defScope s_Amount_len) .none kV_Amount_len dc_Amount_len pm_Amount_len an_Amount_len cd_Amount_len ct_Amount_len), sl_Amount_len⟩)
    (c_Amount_len : PySem.W.codeIn K cd_Amount_len "Amount.__len__" = true)
    (k_Amount_len : PySem.W.keepIn K (.ref f_Amount_len) = true)
    {od_Amount_iter an_Amount_iter : Option Addr} {sl_Amount_iter : Array (Option Value)} {oc_Amount_iter kV_Amount_iter dc_Amount_iter pm_Amount_iter cd_Amount_iter ct_Amount_iter : Value} {f_Amount_iter : Addr} (a_Amount_iter : PySem.W.findIn K (.ref C_Amount) "__iter__" = some (some (.ref f_Amount_iter)))
    (i_Amount_iter : PySem.W.isFn K (.ref f_Amount_iter) = true)
    (l_Amount_iter : K.lookup f_Amount_iter = some ⟨oc_Amount_iter, od_Amount_iter, .func (PySem.W.fnOf "__iter__" "Amount.__iter__" (defArgs s_Amount_iter) (defBody s_Amount_iter) (defScope s_Amount_iter) .none kV_Amount_iter dc_Amount_iter pm_Amount_iter an_Amount_iter cd_Amount_iter ct_Amount_iter), sl_Amount_iter⟩)
    (c_Amount_iter : PySem.W.codeIn K cd_Amount_iter "Amount.__iter__" = true)
    (k_Amount_iter : PySem.W.keepIn K (.ref f_Amount_iter) = true)
    {od_Amount_getitem an_Amount_getitem : Option Addr} {sl_Amount_getitem : Array (Option Value)} {oc_Amount_getitem kV_Amount_getitem dc_Amount_getitem pm_Amount_getitem cd_Amount_getitem ct_Amount_getitem : Value} {f_Amount_getitem : Addr} (a_Amount_getitem : PySem.W.findIn K (.ref C_Amount) "__getitem__" = some (some (.ref f_Amount_getitem)))
    (i_Amount_getitem : PySem.W.isFn K (.ref f_Amount_getitem) = true)
    (l_Amount_getitem : K.lookup f_Amount_getitem = some ⟨oc_Amount_getitem, od_Amount_getitem, .func (PySem.W.fnOf "__getitem__" "Amount.__getitem__" (defArgs s_Amount_getitem) (defBody s_Amount_getitem) (defScope s_Amount_getitem) .none kV_Amount_getitem dc_Amount_getitem pm_Amount_getitem an_Amount_getitem cd_Amount_getitem ct_Amount_getitem), sl_Amount_getitem⟩)
    (c_Amount_getitem : PySem.W.codeIn K cd_Amount_getitem "Amount.__getitem__" = true)
    (k_Amount_getitem : PySem.W.keepIn K (.ref f_Amount_getitem) = true)
    {od_Amount_call an_Amount_call : Option Addr} {sl_Amount_call : Array (Option Value)} {oc_Amount_call kV_Amount_call dc_Amount_call pm_Amount_call cd_Amount_call ct_Amount_call : Value} {f_Amount_call : Addr} (a_Amount_call : PySem.W.findIn K (.ref C_Amount) "__call__" = some (some (.ref f_Amount_call)))
    (i_Amount_call : PySem.W.isFn K (.ref f_Amount_call) = true)
    (l_Amount_call : K.lookup f_Amount_call = some ⟨oc_Amount_call, od_Amount_call, .func (PySem.W.fnOf "__call__" "Amount.__call__" (defArgs s_Amount_call) (defBody s_Amount_call) (defScope s_Amount_call) .none kV_Amount_call dc_Amount_call pm_Amount_call an_Amount_call cd_Amount_call ct_Amount_call), sl_Amount_call⟩)
    (c_Amount_call : PySem.W.codeIn K cd_Amount_call "Amount.__call__" = true)
    (k_Amount_call : PySem.W.keepIn K (.ref f_Amount_call) = true)
    {od_Amount_add an_Amount_add : Option Addr} {sl_Amount_add : Array (Option Value)} {oc_Amount_add kV_Amount_add dc_Amount_add pm_Amount_add cd_Amount_add ct_Amount_add : Value} {f_Amount_add : Addr} (a_Amount_add : PySem.W.findIn K (.ref C_Amount) "__add__" = some (some (.ref f_Amount_add)))
    (i_Amount_add : PySem.W.isFn K (.ref f_Amount_add) = true)
    (l_Amount_add : K.lookup f_Amount_add = some ⟨oc_Amount_add, od_Amount_add, .func (PySem.W.fnOf "__add__" "Amount.__add__" (defArgs s_Amount_add) (defBody s_Amount_add) (defScope s_Amount_add) .none kV_Amount_add dc_Amount_add pm_Amount_add an_Amount_add cd_Amount_add ct_Amount_add), sl_Amount_add⟩)
    (c_Amount_add : PySem.W.codeIn K cd_Amount_add "Amount.__add__" = true)
    (k_Amount_add : PySem.W.keepIn K (.ref f_Amount_add) = true)
    {od_Amount_sub an_Amount_sub : Option Addr} {sl_Amount_sub : Array (Option Value)} {oc_Amount_sub kV_Amount_sub dc_Amount_sub pm_Amount_sub cd_Amount_sub ct_Amount_sub : Value} {f_Amount_sub : Addr} (a_Amount_sub : PySem.W.findIn K (.ref C_Amount) "__sub__" = some (some (.ref f_Amount_sub)))
    (i_Amount_sub : PySem.W.isFn K (.ref f_Amount_sub) = true)
    (l_Amount_sub : K.lookup f_Amount_sub = some ⟨oc_Amount_sub, od_Amount_sub, .func (PySem.W.fnOf "__sub__" "Amount.__sub__" (defArgs s_Amount_sub) (defBody s_Amount_sub) (defScope s_Amount_sub) .none kV_Amount_sub dc_Amount_sub pm_Amount_sub an_Amount_sub cd_Amount_sub ct_Amount_sub), sl_Amount_sub⟩)
    (c_Amount_sub : PySem.W.codeIn K cd_Amount_sub "Amount.__sub__" = true)
    (k_Amount_sub : PySem.W.keepIn K (.ref f_Amount_sub) = true)
    {od_Amount_mul an_Amount_mul : Option Addr} {sl_Amount_mul : Array (Option Value)} {oc_Amount_mul kV_Amount_mul dc_Amount_mul pm_Amount_mul cd_Amount_mul ct_Amount_mul : Value} {f_Amount_mul : Addr} (a_Amount_mul : PySem.W.findIn K (.ref C_Amount) "__mul__" = some (some (.ref f_Amount_mul)))
    (i_Amount_mul : PySem.W.isFn K (.ref f_Amount_mul) = true)
    (l_Amount_mul : K.lookup f_Amount_mul = some ⟨oc_Amount_mul, od_Amount_mul, .func (PySem.W.fnOf "__mul__" "Amount.__mul__" (defArgs s_Amount_mul) (defBody s_Amount_mul) (defScope s_Amount_mul) .none kV_Amount_mul dc_Amount_mul pm_Amount_mul an_Amount_mul cd_Amount_mul ct_Amount_mul), sl_Amount_mul⟩)
    (c_Amount_mul : PySem.W.codeIn K cd_Amount_mul "Amount.__mul__" = true)
    (k_Amount_mul : PySem.W.keepIn K (.ref f_Amount_mul) = true)
    {od_Amount_neg an_Amount_neg : Option Addr} {sl_Amount_neg : Array (Option Value)} {oc_Amount_neg kV_Amount_neg dc_Amount_neg pm_Amount_neg cd_Amount_neg ct_Amount_neg : Value} {f_Amount_neg : Addr} (a_Amount_neg : PySem.W.findIn K (.ref C_Amount) "__neg__" = some (some (.ref f_Amount_neg)))
    (i_Amount_neg : PySem.W.isFn K (.ref f_Amount_neg) = true)
    (l_Amount_neg : K.lookup f_Amount_neg = some ⟨oc_Amount_neg, od_Amount_neg, .func (PySem.W.fnOf "__neg__" "Amount.__neg__" (defArgs s_Amount_neg) (defBody s_Amount_neg) (defScope s_Amount_neg) .none kV_Amount_neg dc_Amount_neg pm_Amount_neg an_Amount_neg cd_Amount_neg ct_Amount_neg), sl_Amount_neg⟩)
    (c_Amount_neg : PySem.W.codeIn K cd_Amount_neg "Amount.__neg__" = true)
    (k_Amount_neg : PySem.W.keepIn K (.ref f_Amount_neg) = true)
    {od_Amount_lshift an_Amount_lshift : Option Addr} {sl_Amount_lshift : Array (Option Value)} {oc_Amount_lshift kV_Amount_lshift dc_Amount_lshift pm_Amount_lshift cd_Amount_lshift ct_Amount_lshift : Value} {f_Amount_lshift : Addr} (a_Amount_lshift : PySem.W.findIn K (.ref C_Amount) "__lshift__" = some (some (.ref f_Amount_lshift)))
    (i_Amount_lshift : PySem.W.isFn K (.ref f_Amount_lshift) = true)
    (l_Amount_lshift : K.lookup f_Amount_lshift = some ⟨oc_Amount_lshift, od_Amount_lshift, .func (PySem.W.fnOf "__lshift__" "Amount.__lshift__" (defArgs s_Amount_lshift) (defBody s_Amount_lshift) (defScope s_Amount_lshift) .none kV_Amount_lshift dc_Amount_lshift pm_Amount_lshift an_Amount_lshift cd_Amount_lshift ct_Amount_lshift), sl_Amount_lshift⟩)
    (c_Amount_lshift : PySem.W.codeIn K cd_Amount_lshift "Amount.__lshift__" = true)
    (k_Amount_lshift : PySem.W.keepIn K (.ref f_Amount_lshift) = true)
    {od_Amount_floordiv an_Amount_floordiv : Option Addr} {sl_Amount_floordiv : Array (Option Value)} {oc_Amount_floordiv kV_Amount_floordiv dc_Amount_floordiv pm_Amount_floordiv cd_Amount_floordiv ct_Amount_floordiv : Value} {f_Amount_floordiv : Addr} (a_Amount_floordiv : PySem.W.findIn K (.ref C_Amount) "__floordiv__" = some (some (.ref f_Amount_floordiv)))
    (i_Amount_floordiv : PySem.W.isFn K (.ref f_Amount_floordiv) = true)
    (l_Amount_floordiv : K.lookup f_Amount_floordiv = some ⟨oc_Amount_floordiv, od_Amount_floordiv, .func (PySem.W.fnOf "__floordiv__" "Amount.__floordiv__" (defArgs s_Amount_floordiv) (defBody s_Amount_floordiv) (defScope s_Amount_floordiv) .none kV_Amount_floordiv dc_Amount_floordiv pm_Amount_floordiv an_Amount_floordiv cd_Amount_floordiv ct_Amount_floordiv), sl_Amount_floordiv⟩)
    (c_Amount_floordiv : PySem.W.codeIn K cd_Amount_floordiv "Amount.__floordiv__" = true)
    (k_Amount_floordiv : PySem.W.keepIn K (.ref f_Amount_floordiv) = true)
    {od_Amount_cut an_Amount_cut : Option Addr} {sl_Amount_cut : Array (Option Value)} {oc_Amount_cut kV_Amount_cut dc_Amount_cut pm_Amount_cut cd_Amount_cut ct_Amount_cut : Value} {f_Amount_cut : Addr} (a_Amount_cut : PySem.W.findIn K (.ref C_Amount) "cut" = some (some (.ref f_Amount_cut)))
    (i_Amount_cut : PySem.W.isFn K (.ref f_Amount_cut) = true)
    (l_Amount_cut : K.lookup f_Amount_cut = some ⟨oc_Amount_cut, od_Amount_cut, .func (PySem.W.fnOf "cut" "Amount.cut" (defArgs s_Amount_cut) (defBody s_Amount_cut) (defScope s_Amount_cut) .none kV_Amount_cut dc_Amount_cut pm_Amount_cut an_Amount_cut cd_Amount_cut ct_Amount_cut), sl_Amount_cut⟩)
    (c_Amount_cut : PySem.W.codeIn K cd_Amount_cut "Amount.cut" = true)
    (k_Amount_cut : PySem.W.keepIn K (.ref f_Amount_cut) = true)
    {od_Amount_eq an_Amount_eq : Option Addr} {sl_Amount_eq : Array (Option Value)} {oc_Amount_eq kV_Amount_eq dc_Amount_eq pm_Amount_eq cd_Amount_eq ct_Amount_eq : Value} {f_Amount_eq : Addr} (a_Amount_eq : PySem.W.findIn K (.ref C_Amount) "__eq__" = some (some (.ref f_Amount_eq)))
    (i_Amount_eq : PySem.W.isFn K (.ref f_Amount_eq) = true)
    (l_Amount_eq : K.lookup f_Amount_eq = some ⟨oc_Amount_eq, od_Amount_eq, .func (PySem.W.fnOf "__eq__" "Amount.__eq__" (defArgs s_Amount_eq) (defBody s_Amount_eq) (defScope s_Amount_eq) .none kV_Amount_eq dc_Amount_eq pm_Amount_eq an_Amount_eq cd_Amount_eq ct_Amount_eq), sl_Amount_eq⟩)
    (c_Amount_eq : PySem.W.codeIn K cd_Amount_eq "Amount.__eq__" = true)
    (k_Amount_eq : PySem.W.keepIn K (.ref f_Amount_eq) = true)
    {od_Amount_str an_Amount_str : Option Addr} {sl_Amount_str : Array (Option Value)} {oc_Amount_str kV_Amount_str dc_Amount_str pm_Amount_str cd_Amount_str ct_Amount_str : Value} {f_Amount_str : Addr} (a_Amount_str : PySem.W.findIn K (.ref C_Amount) "__str__" = some (some (.ref f_Amount_str)))
    (i_Amount_str : PySem.W.isFn K (.ref f_Amount_str) = true)
    (l_Amount_str : K.lookup f_Amount_str = some ⟨oc_Amount_str, od_Amount_str, .func (PySem.W.fnOf "__str__" "Amount.__str__" (defArgs s_Amount_str) (defBody s_Amount_str) (defScope s_Amount_str) .none kV_Amount_str dc_Amount_str pm_Amount_str an_Amount_str cd_Amount_str ct_Amount_str), sl_Amount_str⟩)
    (c_Amount_str : PySem.W.codeIn K cd_Amount_str "Amount.__str__" = true)
    (k_Amount_str : PySem.W.keepIn K (.ref f_Amount_str) = true)
    {od_law_pen an_law_pen : Option Addr} {sl_law_pen : Array (Option Value)} {oc_law_pen kV_law_pen dc_law_pen pm_law_pen cd_law_pen ct_law_pen : Value} {f_law_pen : Addr} (a_law_pen : PySem.W.nsIn K mainGlobals "_law_pen" = some (some (.ref f_law_pen)))
    (l_law_pen : K.lookup f_law_pen = some ⟨oc_law_pen, od_law_pen, .func (PySem.W.fnOf "_law_pen" "_law_pen" (defArgs s_law_pen) (defBody s_law_pen) (defScope s_law_pen) .none kV_law_pen dc_law_pen pm_law_pen an_law_pen cd_law_pen ct_law_pen), sl_law_pen⟩)
    (c_law_pen : PySem.W.codeIn K cd_law_pen "_law_pen" = true)
    (k_law_pen : PySem.W.keepIn K (.ref f_law_pen) = true)
    {od_law_draw an_law_draw : Option Addr} {sl_law_draw : Array (Option Value)} {oc_law_draw kV_law_draw dc_law_draw pm_law_draw cd_law_draw ct_law_draw : Value} {f_law_draw : Addr} (a_law_draw : PySem.W.nsIn K mainGlobals "_law_draw" = some (some (.ref f_law_draw)))
    (l_law_draw : K.lookup f_law_draw = some ⟨oc_law_draw, od_law_draw, .func (PySem.W.fnOf "_law_draw" "_law_draw" (defArgs s_law_draw) (defBody s_law_draw) (defScope s_law_draw) .none kV_law_draw dc_law_draw pm_law_draw an_law_draw cd_law_draw ct_law_draw), sl_law_draw⟩)
    (c_law_draw : PySem.W.codeIn K cd_law_draw "_law_draw" = true)
    (k_law_draw : PySem.W.keepIn K (.ref f_law_draw) = true)
    {od_law_pick an_law_pick : Option Addr} {sl_law_pick : Array (Option Value)} {oc_law_pick kV_law_pick dc_law_pick pm_law_pick cd_law_pick ct_law_pick : Value} {f_law_pick : Addr} (a_law_pick : PySem.W.nsIn K mainGlobals "_law_pick" = some (some (.ref f_law_pick)))
    (l_law_pick : K.lookup f_law_pick = some ⟨oc_law_pick, od_law_pick, .func (PySem.W.fnOf "_law_pick" "_law_pick" (defArgs s_law_pick) (defBody s_law_pick) (defScope s_law_pick) .none kV_law_pick dc_law_pick pm_law_pick an_law_pick cd_law_pick ct_law_pick), sl_law_pick⟩)
    (c_law_pick : PySem.W.codeIn K cd_law_pick "_law_pick" = true)
    (k_law_pick : PySem.W.keepIn K (.ref f_law_pick) = true)
    {od_law_cut an_law_cut : Option Addr} {sl_law_cut : Array (Option Value)} {oc_law_cut kV_law_cut dc_law_cut pm_law_cut cd_law_cut ct_law_cut : Value} {f_law_cut : Addr} (a_law_cut : PySem.W.nsIn K mainGlobals "_law_cut" = some (some (.ref f_law_cut)))
    (l_law_cut : K.lookup f_law_cut = some ⟨oc_law_cut, od_law_cut, .func (PySem.W.fnOf "_law_cut" "_law_cut" (defArgs s_law_cut) (defBody s_law_cut) (defScope s_law_cut) .none kV_law_cut dc_law_cut pm_law_cut an_law_cut cd_law_cut ct_law_cut), sl_law_cut⟩)
    (c_law_cut : PySem.W.codeIn K cd_law_cut "_law_cut" = true)
    (k_law_cut : PySem.W.keepIn K (.ref f_law_cut) = true)
    {od_law_plus an_law_plus : Option Addr} {sl_law_plus : Array (Option Value)} {oc_law_plus kV_law_plus dc_law_plus pm_law_plus cd_law_plus ct_law_plus : Value} {f_law_plus : Addr} (a_law_plus : PySem.W.nsIn K mainGlobals "_law_plus" = some (some (.ref f_law_plus)))
    (l_law_plus : K.lookup f_law_plus = some ⟨oc_law_plus, od_law_plus, .func (PySem.W.fnOf "_law_plus" "_law_plus" (defArgs s_law_plus) (defBody s_law_plus) (defScope s_law_plus) .none kV_law_plus dc_law_plus pm_law_plus an_law_plus cd_law_plus ct_law_plus), sl_law_plus⟩)
    (c_law_plus : PySem.W.codeIn K cd_law_plus "_law_plus" = true)
    (k_law_plus : PySem.W.keepIn K (.ref f_law_plus) = true)
    {od_law_by an_law_by : Option Addr} {sl_law_by : Array (Option Value)} {oc_law_by kV_law_by dc_law_by pm_law_by cd_law_by ct_law_by : Value} {f_law_by : Addr} (a_law_by : PySem.W.nsIn K mainGlobals "_law_by" = some (some (.ref f_law_by)))
    (l_law_by : K.lookup f_law_by = some ⟨oc_law_by, od_law_by, .func (PySem.W.fnOf "_law_by" "_law_by" (defArgs s_law_by) (defBody s_law_by) (defScope s_law_by) .none kV_law_by dc_law_by pm_law_by an_law_by cd_law_by ct_law_by), sl_law_by⟩)
    (c_law_by : PySem.W.codeIn K cd_law_by "_law_by" = true)
    (k_law_by : PySem.W.keepIn K (.ref f_law_by) = true)
    {od_law_row an_law_row : Option Addr} {sl_law_row : Array (Option Value)} {oc_law_row kV_law_row dc_law_row pm_law_row cd_law_row ct_law_row : Value} {f_law_row : Addr} (a_law_row : PySem.W.nsIn K mainGlobals "_law_row" = some (some (.ref f_law_row)))
    (l_law_row : K.lookup f_law_row = some ⟨oc_law_row, od_law_row, .func (PySem.W.fnOf "_law_row" "_law_row" (defArgs s_law_row) (defBody s_law_row) (defScope s_law_row) .none kV_law_row dc_law_row pm_law_row an_law_row cd_law_row ct_law_row), sl_law_row⟩)
    (c_law_row : PySem.W.codeIn K cd_law_row "_law_row" = true)
    (k_law_row : PySem.W.keepIn K (.ref f_law_row) = true)
    {od_law_is an_law_is : Option Addr} {sl_law_is : Array (Option Value)} {oc_law_is kV_law_is dc_law_is pm_law_is cd_law_is ct_law_is : Value} {f_law_is : Addr} (a_law_is : PySem.W.nsIn K mainGlobals "_law_is" = some (some (.ref f_law_is)))
    (l_law_is : K.lookup f_law_is = some ⟨oc_law_is, od_law_is, .func (PySem.W.fnOf "_law_is" "_law_is" (defArgs s_law_is) (defBody s_law_is) (defScope s_law_is) .none kV_law_is dc_law_is pm_law_is an_law_is cd_law_is ct_law_is), sl_law_is⟩)
    (c_law_is : PySem.W.codeIn K cd_law_is "_law_is" = true)
    (k_law_is : PySem.W.keepIn K (.ref f_law_is) = true)
    {od_law_value an_law_value : Option Addr} {sl_law_value : Array (Option Value)} {oc_law_value kV_law_value dc_law_value pm_law_value cd_law_value ct_law_value : Value} {f_law_value : Addr} (a_law_value : PySem.W.nsIn K mainGlobals "_law_value" = some (some (.ref f_law_value)))
    (l_law_value : K.lookup f_law_value = some ⟨oc_law_value, od_law_value, .func (PySem.W.fnOf "_law_value" "_law_value" (defArgs s_law_value) (defBody s_law_value) (defScope s_law_value) .none kV_law_value dc_law_value pm_law_value an_law_value cd_law_value ct_law_value), sl_law_value⟩)
    (c_law_value : PySem.W.codeIn K cd_law_value "_law_value" = true)
    (k_law_value : PySem.W.keepIn K (.ref f_law_value) = true)
    {od_law_right an_law_right : Option Addr} {sl_law_right : Array (Option Value)} {oc_law_right kV_law_right dc_law_right pm_law_right cd_law_right ct_law_right : Value} {f_law_right : Addr} (a_law_right : PySem.W.nsIn K mainGlobals "_law_right" = some (some (.ref f_law_right)))
    (l_law_right : K.lookup f_law_right = some ⟨oc_law_right, od_law_right, .func (PySem.W.fnOf "_law_right" "_law_right" (defArgs s_law_right) (defBody s_law_right) (defScope s_law_right) .none kV_law_right dc_law_right pm_law_right an_law_right cd_law_right ct_law_right), sl_law_right⟩)
    (c_law_right : PySem.W.codeIn K cd_law_right "_law_right" = true)
    (k_law_right : PySem.W.keepIn K (.ref f_law_right) = true)
    {od_law an_law : Option Addr} {sl_law : Array (Option Value)} {oc_law kV_law dc_law pm_law cd_law ct_law : Value} {f_law : Addr} (a_law : PySem.W.nsIn K mainGlobals "law" = some (some (.ref f_law)))
    (l_law : K.lookup f_law = some ⟨oc_law, od_law, .func (PySem.W.fnOf "law" "law" (defArgs s_law) (defBody s_law) (defScope s_law) .none kV_law dc_law pm_law an_law cd_law ct_law), sl_law⟩)
    (c_law : PySem.W.codeIn K cd_law "law" = true)
    (k_law : PySem.W.keepIn K (.ref f_law) = true)
    (rd_Amount : PySem.W.readsIn K C_Amount (.type "type") = true)
    (ga_Amount : PySem.W.specialIn K (.ref C_Amount) "__getattribute__" = some (some (.builtin "type.__getattribute__")))
    {cd_Amount : ClassData} (cc_Amount : PySem.W.clsIn K C_Amount = some cd_Amount)
    (mr_Amount : cd_Amount.mro = [.ref C_Amount, .type "object"])
    (nf_NoneType_Amount : PySem.W.subIn K (.type "NoneType") (.ref C_Amount) = some false)
    (nf_bool_Amount : PySem.W.subIn K (.type "bool") (.ref C_Amount) = some false)
    (nf_int_Amount : PySem.W.subIn K (.type "int") (.ref C_Amount) = some false)
    (nf_str_Amount : PySem.W.subIn K (.type "str") (.ref C_Amount) = some false)
    (nf_tuple_Amount : PySem.W.subIn K (.type "tuple") (.ref C_Amount) = some false)
    (nf_list_Amount : PySem.W.subIn K (.type "list") (.ref C_Amount) = some false)
    (rr_Amount_add : PySem.W.findIn K (.ref C_Amount) "__radd__" = some none)
    (ii_Amount_add : PySem.W.findIn K (.ref C_Amount) "__iadd__" = some none)
    {fo_Add ro_Add : Option Value} (oi_Add : PySem.W.findIn K (.type "object") "__iadd__" = some none)
    (i1_Add : PySem.W.findIn K (.type "int") "__add__" = some fo_Add)
    (i2_Add : PySem.W.findIn K (.type "int") "__radd__" = some ro_Add)
    (mi_Amount : PySem.W.makesIn K C_Amount = true)
    (kc_Amount : PySem.W.keepIn K (.ref C_Amount) = true)
    (rr_Amount_mul : PySem.W.findIn K (.ref C_Amount) "__rmul__" = some none)
    (ii_Amount_mul : PySem.W.findIn K (.ref C_Amount) "__imul__" = some none)
    {fo_Mult ro_Mult : Option Value} (oi_Mult : PySem.W.findIn K (.type "object") "__imul__" = some none)
    (i1_Mult : PySem.W.findIn K (.type "int") "__mul__" = some fo_Mult)
    (i2_Mult : PySem.W.findIn K (.type "int") "__rmul__" = some ro_Mult)
    (rr_Amount_sub : PySem.W.findIn K (.ref C_Amount) "__rsub__" = some none)
    (ii_Amount_sub : PySem.W.findIn K (.ref C_Amount) "__isub__" = some none)
    {fo_Sub ro_Sub : Option Value} (oi_Sub : PySem.W.findIn K (.type "object") "__isub__" = some none)
    (i1_Sub : PySem.W.findIn K (.type "int") "__sub__" = some fo_Sub)
    (i2_Sub : PySem.W.findIn K (.type "int") "__rsub__" = some ro_Sub)
    (rr_Amount_lshift : PySem.W.findIn K (.ref C_Amount) "__rlshift__" = some none)
    (ii_Amount_lshift : PySem.W.findIn K (.ref C_Amount) "__ilshift__" = some none)
    {fo_LShift ro_LShift : Option Value} (oi_LShift : PySem.W.findIn K (.type "object") "__ilshift__" = some none)
    (i1_LShift : PySem.W.findIn K (.type "int") "__lshift__" = some fo_LShift)
    (i2_LShift : PySem.W.findIn K (.type "int") "__rlshift__" = some ro_LShift)
    (pg_Amount : PySem.W.plainGet K C_Amount Str.empty = true)
    (hd_Amount : PySem.W.hasDictIn K C_Amount = true)
    (po_Amount : PySem.W.plainOver K C_Amount = true)
    (sa_Amount : PySem.W.findIn K (.ref C_Amount) "__setattr__" = some (some (.builtin "object.__setattr__")))
    (na_Amount_degree : PySem.W.findIn K (.ref C_Amount) "degree" = some none)
    (ne_Amount : PySem.W.findIn K (.ref C_Amount) "__ne__" = some (some (.builtin "object.__ne__")))
    (ob_Amount : PySem.W.subIn K (.ref C_Amount) (.type "object") = some true)
    (hn_0 : PySem.W.specialIn K (.builtin "object.__class__") "__get__" = some (some (.builtin "getset_descriptor.__get__")))
    (htk_0 : PySem.W.takesIn K (.builtin "object.__class__") = some true)
    (ha_Amount : PySem.W.findIn K (.ref C_Amount) "__class__" = some (some (.builtin "object.__class__")))
    (hm_Amount : PySem.W.mroIn K C_Amount (.type "object") = some true)
    (fi_Amount_getitem : PySem.W.fnIn K f_Amount_getitem = true)
    {u_cv_Amount_MOST : Tok} (cv_Amount_MOST : PySem.W.findCls K (.ref C_Amount) (.type "type") "MOST" = some (.val (.int 2000 u_cv_Amount_MOST)))
    (fi_Amount_call : PySem.W.fnIn K f_Amount_call = true)
    (rr_Amount_floordiv : PySem.W.findIn K (.ref C_Amount) "__rfloordiv__" = some none)
    (ii_Amount_floordiv : PySem.W.findIn K (.ref C_Amount) "__ifloordiv__" = some none)
    {fo_FloorDiv ro_FloorDiv : Option Value} (oi_FloorDiv : PySem.W.findIn K (.type "object") "__ifloordiv__" = some none)
    (i1_FloorDiv : PySem.W.findIn K (.type "int") "__floordiv__" = some fo_FloorDiv)
    (i2_FloorDiv : PySem.W.findIn K (.type "int") "__rfloordiv__" = some ro_FloorDiv)
    (kt_Amount : PySem.W.typeIn K (.ref C_Amount) = some (.type "type"))
    (kc1_Amount : PySem.W.isClsIn K C_Amount = true)
    (na_Amount_integers : PySem.W.findIn K (.ref C_Amount) "integers" = some none)
    (nb_Amount : PySem.W.findIn K (.ref C_Amount) "__bool__" = some none)
    (fi_Amount_read : PySem.W.fnIn K f_Amount_read = true)
    {t_FIGURES : Tok} (g_FIGURES : PySem.W.nsIn K mainGlobals "FIGURES" = some (some (.str "0123456789" t_FIGURES)))
    {t_MOST_POWER : Tok} (g_MOST_POWER : PySem.W.nsIn K mainGlobals "MOST_POWER" = some (some (.int 2000 t_MOST_POWER))) :
    ∃ fd : FuncData, (∀ (s : Shared) (v : Value), BindsTo s fd ⟨[v], []⟩ [("script", v)]) ∧ ∀ base : Heap, K.In base → base.Ns mainGlobals mg → FnG P w K mg base CX0 8 fa fd ["script"] (spLaw K) := by
  have e := hfa.symm.trans (PySem.W.mg_of X G a_law)
  cases e
  have F_words_of := fun_mk (st := s_words_of) l_words_of c_words_of k_words_of
  have b_words_of := F_words_of.binds (ps := ["text"]) fun _ _ _ _ _ _ us hl => match us, hl with | [_], _ => rfl
  have F_is_integer := fun_mk (st := s_is_integer) l_is_integer c_is_integer k_is_integer
  have b_is_integer := F_is_integer.binds (ps := ["value"]) fun _ _ _ _ _ _ us hl => match us, hl with | [_], _ => rfl
  have F_need_number := fun_mk (st := s_need_number) l_need_number c_need_number k_need_number
  have b_need_number := F_need_number.binds (ps := ["value", "least"]) fun _ _ _ _ _ _ us hl => match us, hl with | [_, _], _ => rfl
  have F_trimmed := fun_mk (st := s_trimmed) l_trimmed c_trimmed k_trimmed
  have b_trimmed := F_trimmed.binds (ps := ["numbers"]) fun _ _ _ _ _ _ us hl => match us, hl with | [_], _ => rfl
  have F_at_power := fun_mk (st := s_at_power) l_at_power c_at_power k_at_power
  have b_at_power := F_at_power.binds (ps := ["row", "power"]) fun _ _ _ _ _ _ us hl => match us, hl with | [_, _], _ => rfl
  have F_plus := fun_mk (st := s_plus) l_plus c_plus k_plus
  have b_plus := F_plus.binds (ps := ["one", "other"]) fun _ _ _ _ _ _ us hl => match us, hl with | [_, _], _ => rfl
  have F_scaled := fun_mk (st := s_scaled) l_scaled c_scaled k_scaled
  have b_scaled := F_scaled.binds (ps := ["one", "factor"]) fun _ _ _ _ _ _ us hl => match us, hl with | [_, _], _ => rfl
  have F_at_product := fun_mk (st := s_at_product) l_at_product c_at_product k_at_product
  have b_at_product := F_at_product.binds (ps := ["one", "other", "power"]) fun _ _ _ _ _ _ us hl => match us, hl with | [_, _, _], _ => rfl
  have F_multiplied := fun_mk (st := s_multiplied) l_multiplied c_multiplied k_multiplied
  have b_multiplied := F_multiplied.binds (ps := ["one", "other"]) fun _ _ _ _ _ _ us hl => match us, hl with | [_, _], _ => rfl
  have F_is_written := fun_mk (st := s_is_written) l_is_written c_is_written k_is_written
  have b_is_written := F_is_written.binds (ps := ["word"]) fun _ _ _ _ _ _ us hl => match us, hl with | [_], _ => rfl
  have F_need_amount := fun_mk (st := s_need_amount) l_need_amount c_need_amount k_need_amount
  have b_need_amount := F_need_amount.binds (ps := ["value"]) fun _ _ _ _ _ _ us hl => match us, hl with | [_], _ => rfl
  have F_Amount_init := fun_mk (st := s_Amount_init) l_Amount_init c_Amount_init k_Amount_init
  have F_Amount_of := fun_mk (st := s_Amount_of) l_Amount_of c_Amount_of k_Amount_of
  have b_Amount_of := F_Amount_of.binds (ps := ["numbers"]) fun _ _ _ _ _ _ us hl => match us, hl with | [_], _ => rfl
  have F_Amount_read := fun_mk (st := s_Amount_read) l_Amount_read c_Amount_read k_Amount_read
  have b_Amount_read := F_Amount_read.binds (ps := ["cls", "text"]) fun _ _ _ _ _ _ us hl => match us, hl with | [_, _], _ => rfl
  have F_Amount_len := fun_mk (st := s_Amount_len) l_Amount_len c_Amount_len k_Amount_len
  have b_Amount_len := F_Amount_len.binds (ps := ["self"]) fun _ _ _ _ _ _ us hl => match us, hl with | [_], _ => rfl
  have F_Amount_iter := fun_mk (st := s_Amount_iter) l_Amount_iter c_Amount_iter k_Amount_iter
  have b_Amount_iter := F_Amount_iter.binds (ps := ["self"]) fun _ _ _ _ _ _ us hl => match us, hl with | [_], _ => rfl
  have F_Amount_getitem := fun_mk (st := s_Amount_getitem) l_Amount_getitem c_Amount_getitem k_Amount_getitem
  have b_Amount_getitem := F_Amount_getitem.binds (ps := ["self", "power"]) fun _ _ _ _ _ _ us hl => match us, hl with | [_, _], _ => rfl
  have F_Amount_call := fun_mk (st := s_Amount_call) l_Amount_call c_Amount_call k_Amount_call
  have b_Amount_call := F_Amount_call.binds (ps := ["self", "value"]) fun _ _ _ _ _ _ us hl => match us, hl with | [_, _], _ => rfl
  have F_Amount_add := fun_mk (st := s_Amount_add) l_Amount_add c_Amount_add k_Amount_add
  have b_Amount_add := F_Amount_add.binds (ps := ["self", "other"]) fun _ _ _ _ _ _ us hl => match us, hl with | [_, _], _ => rfl
  have F_Amount_sub := fun_mk (st := s_Amount_sub) l_Amount_sub c_Amount_sub k_Amount_sub
  have b_Amount_sub := F_Amount_sub.binds (ps := ["self", "other"]) fun _ _ _ _ _ _ us hl => match us, hl with | [_, _], _ => rfl
  have F_Amount_mul := fun_mk (st := s_Amount_mul) l_Amount_mul c_Amount_mul k_Amount_mul
  have b_Amount_mul := F_Amount_mul.binds (ps := ["self", "other"]) fun _ _ _ _ _ _ us hl => match us, hl with | [_, _], _ => rfl
  have F_Amount_neg := fun_mk (st := s_Amount_neg) l_Amount_neg c_Amount_neg k_Amount_neg
  have b_Amount_neg := F_Amount_neg.binds (ps := ["self"]) fun _ _ _ _ _ _ us hl => match us, hl with | [_], _ => rfl
  have F_Amount_lshift := fun_mk (st := s_Amount_lshift) l_Amount_lshift c_Amount_lshift k_Amount_lshift
  have b_Amount_lshift := F_Amount_lshift.binds (ps := ["self", "power"]) fun _ _ _ _ _ _ us hl => match us, hl with | [_, _], _ => rfl
  have F_Amount_floordiv := fun_mk (st := s_Amount_floordiv) l_Amount_floordiv c_Amount_floordiv k_Amount_floordiv
  have b_Amount_floordiv := F_Amount_floordiv.binds (ps := ["self", "number"]) fun _ _ _ _ _ _ us hl => match us, hl with | [_, _], _ => rfl
  have F_Amount_cut := fun_mk (st := s_Amount_cut) l_Amount_cut c_Amount_cut k_Amount_cut
  have b_Amount_cut := F_Amount_cut.binds (ps := ["self", "most"]) fun _ _ _ _ _ _ us hl => match us, hl with | [_, _], _ => rfl
  have F_Amount_eq := fun_mk (st := s_Amount_eq) l_Amount_eq c_Amount_eq k_Amount_eq
  have b_Amount_eq := F_Amount_eq.binds (ps := ["self", "other"]) fun _ _ _ _ _ _ us hl => match us, hl with | [_, _], _ => rfl
  have F_Amount_str := fun_mk (st := s_Amount_str) l_Amount_str c_Amount_str k_Amount_str
  have b_Amount_str := F_Amount_str.binds (ps := ["self"]) fun _ _ _ _ _ _ us hl => match us, hl with | [_], _ => rfl
  have F_law_pen := fun_mk (st := s_law_pen) l_law_pen c_law_pen k_law_pen
  have b_law_pen := F_law_pen.binds (ps := ["script"]) fun _ _ _ _ _ _ us hl => match us, hl with | [_], _ => rfl
  have F_law_draw := fun_mk (st := s_law_draw) l_law_draw c_law_draw k_law_draw
  have b_law_draw := F_law_draw.binds (ps := ["pen", "many"]) fun _ _ _ _ _ _ us hl => match us, hl with | [_, _], _ => rfl
  have F_law_pick := fun_mk (st := s_law_pick) l_law_pick c_law_pick k_law_pick
  have b_law_pick := F_law_pick.binds (ps := ["pen", "some"]) fun _ _ _ _ _ _ us hl => match us, hl with | [_, _], _ => rfl
  have F_law_cut := fun_mk (st := s_law_cut) l_law_cut c_law_cut k_law_cut
  have b_law_cut := F_law_cut.binds (ps := ["row"]) fun _ _ _ _ _ _ us hl => match us, hl with | [_], _ => rfl
  have F_law_plus := fun_mk (st := s_law_plus) l_law_plus c_law_plus k_law_plus
  have b_law_plus := F_law_plus.binds (ps := ["one", "other"]) fun _ _ _ _ _ _ us hl => match us, hl with | [_, _], _ => rfl
  have F_law_by := fun_mk (st := s_law_by) l_law_by c_law_by k_law_by
  have b_law_by := F_law_by.binds (ps := ["one", "other"]) fun _ _ _ _ _ _ us hl => match us, hl with | [_, _], _ => rfl
  have F_law_row := fun_mk (st := s_law_row) l_law_row c_law_row k_law_row
  have b_law_row := F_law_row.binds (ps := ["pen"]) fun _ _ _ _ _ _ us hl => match us, hl with | [_], _ => rfl
  have F_law_is := fun_mk (st := s_law_is) l_law_is c_law_is k_law_is
  have b_law_is := F_law_is.binds (ps := ["found", "row"]) fun _ _ _ _ _ _ us hl => match us, hl with | [_, _], _ => rfl
  have F_law_value := fun_mk (st := s_law_value) l_law_value c_law_value k_law_value
  have b_law_value := F_law_value.binds (ps := ["row", "value"]) fun _ _ _ _ _ _ us hl => match us, hl with | [_, _], _ => rfl
  have F_law_right := fun_mk (st := s_law_right) l_law_right c_law_right k_law_right
  have b_law_right := F_law_right.binds (ps := ["pen", "one", "other"]) fun _ _ _ _ _ _ us hl => match us, hl with | [_, _, _], _ => rfl
  have F_law := fun_mk (st := s_law) l_law c_law k_law
  have b_law := F_law.binds (ps := ["script"]) fun _ _ _ _ _ _ us hl => match us, hl with | [_], _ => rfl
  have kw_0 : KwB K _ ["self", "value"] 1 ["value"] [0, 1] := kwb_mk F_Amount_call fun _ _ _ _ _ _ us ws h1 h2 => match us, ws, h1, h2 with | [_], [_], _, _ => rfl
  have T : Txt K mg { Z := { Amount := C_Amount }, f_words_of := f_words_of, d_words_of := PySem.W.fnOf "words_of" "words_of" (defArgs s_words_of) (defBody s_words_of) (defScope s_words_of) .none kV_words_of dc_words_of pm_words_of an_words_of cd_words_of ct_words_of, f_is_integer := f_is_integer, d_is_integer := PySem.W.fnOf "is_integer" "is_integer" (defArgs s_is_integer) (defBody s_is_integer) (defScope s_is_integer) .none kV_is_integer dc_is_integer pm_is_integer an_is_integer cd_is_integer ct_is_integer, f_need_number := f_need_number, d_need_number := PySem.W.fnOf "need_number" "need_number" (defArgs s_need_number) (defBody s_need_number) (defScope s_need_number) .none kV_need_number dc_need_number pm_need_number an_need_number cd_need_number ct_need_number, f_trimmed := f_trimmed, d_trimmed := PySem.W.fnOf "trimmed" "trimmed" (defArgs s_trimmed) (defBody s_trimmed) (defScope s_trimmed) .none kV_trimmed dc_trimmed pm_trimmed an_trimmed cd_trimmed ct_trimmed, f_at_power := f_at_power, d_at_power := PySem.W.fnOf "at_power" "at_power" (defArgs s_at_power) (defBody s_at_power) (defScope s_at_power) .none kV_at_power dc_at_power pm_at_power an_at_power cd_at_power ct_at_power, f_plus := f_plus, d_plus := PySem.W.fnOf "plus" "plus" (defArgs s_plus) (defBody s_plus) (defScope s_plus) .none kV_plus dc_plus pm_plus an_plus cd_plus ct_plus, f_scaled := f_scaled, d_scaled := PySem.W.fnOf "scaled" "scaled" (defArgs s_scaled) (defBody s_scaled) (defScope s_scaled) .none kV_scaled dc_scaled pm_scaled an_scaled cd_scaled ct_scaled, f_at_product := f_at_product, d_at_product := PySem.W.fnOf "at_product" "at_product" (defArgs s_at_product) (defBody s_at_product) (defScope s_at_product) .none kV_at_product dc_at_product pm_at_product an_at_product cd_at_product ct_at_product, f_multiplied := f_multiplied, d_multiplied := PySem.W.fnOf "multiplied" "multiplied" (defArgs s_multiplied) (defBody s_multiplied) (defScope s_multiplied) .none kV_multiplied dc_multiplied pm_multiplied an_multiplied cd_multiplied ct_multiplied, f_is_written := f_is_written, d_is_written := PySem.W.fnOf "is_written" "is_written" (defArgs s_is_written) (defBody s_is_written) (defScope s_is_written) .none kV_is_written dc_is_written pm_is_written an_is_written cd_is_written ct_is_written, f_need_amount := f_need_amount, d_need_amount := PySem.W.fnOf "need_amount" "need_amount" (defArgs s_need_amount) (defBody s_need_amount) (defScope s_need_amount) .none kV_need_amount dc_need_amount pm_need_amount an_need_amount cd_need_amount ct_need_amount, f_Amount_init := f_Amount_init, d_Amount_init := PySem.W.fnOf "__init__" "Amount.__init__" (defArgs s_Amount_init) (defBody s_Amount_init) (defScope s_Amount_init) .none kV_Amount_init dc_Amount_init pm_Amount_init an_Amount_init cd_Amount_init ct_Amount_init, f_Amount_of := f_Amount_of, d_Amount_of := PySem.W.fnOf "of" "Amount.of" (defArgs s_Amount_of) (defBody s_Amount_of) (defScope s_Amount_of) .none kV_Amount_of dc_Amount_of pm_Amount_of an_Amount_of cd_Amount_of ct_Amount_of, p_Amount_of := p_Amount_of, r_Amount_of := r_Amount_of, f_Amount_read := f_Amount_read, d_Amount_read := PySem.W.fnOf "read" "Amount.read" (defArgs s_Amount_read) (defBody s_Amount_read) (defScope s_Amount_read) .none kV_Amount_read dc_Amount_read pm_Amount_read an_Amount_read cd_Amount_read ct_Amount_read, p_Amount_read := p_Amount_read, r_Amount_read := r_Amount_read, f_Amount_len := f_Amount_len, d_Amount_len := PySem.W.fnOf "__len__" "Amount.__len__" (defArgs s_Amount_len) (defBody s_Amount_len) (defScope s_Amount_len) .none kV_Amount_len dc_Amount_len pm_Amount_len an_Amount_len cd_Amount_len ct_Amount_len, f_Amount_iter := f_Amount_iter, d_Amount_iter := PySem.W.fnOf "__iter__" "Amount.__iter__" (defArgs s_Amount_iter) (defBody s_Amount_iter) (defScope s_Amount_iter) .none kV_Amount_iter dc_Amount_iter pm_Amount_iter an_Amount_iter cd_Amount_iter ct_Amount_iter, f_Amount_getitem := f_Amount_getitem, d_Amount_getitem := PySem.W.fnOf "__getitem__" "Amount.__getitem__" (defArgs s_Amount_getitem) (defBody s_Amount_getitem) (defScope s_Amount_getitem) .none kV_Amount_getitem dc_Amount_getitem pm_Amount_getitem an_Amount_getitem cd_Amount_getitem ct_Amount_getitem, f_Amount_call := f_Amount_call, d_Amount_call := PySem.W.fnOf "__call__" "Amount.__call__" (defArgs s_Amount_call) (defBody s_Amount_call) (defScope s_Amount_call) .none kV_Amount_call dc_Amount_call pm_Amount_call an_Amount_call cd_Amount_call ct_Amount_call, f_Amount_add := f_Amount_add, d_Amount_add := PySem.W.fnOf "__add__" "Amount.__add__" (defArgs s_Amount_add) (defBody s_Amount_add) (defScope s_Amount_add) .none kV_Amount_add dc_Amount_add pm_Amount_add an_Amount_add cd_Amount_add ct_Amount_add, f_Amount_sub := f_Amount_sub, d_Amount_sub := PySem.W.fnOf "__sub__" "Amount.__sub__" (defArgs s_Amount_sub) (defBody s_Amount_sub) (defScope s_Amount_sub) .none kV_Amount_sub dc_Amount_sub pm_Amount_sub an_Amount_sub cd_Amount_sub ct_Amount_sub, f_Amount_mul := f_Amount_mul, d_Amount_mul := PySem.W.fnOf "__mul__" "Amount.__mul__" (defArgs s_Amount_mul) (defBody s_Amount_mul) (defScope s_Amount_mul) .none kV_Amount_mul dc_Amount_mul pm_Amount_mul an_Amount_mul cd_Amount_mul ct_Amount_mul, f_Amount_neg := f_Amount_neg, d_Amount_neg := PySem.W.fnOf "__neg__" "Amount.__neg__" (defArgs s_Amount_neg) (defBody s_Amount_neg) (defScope s_Amount_neg) .none kV_Amount_neg dc_Amount_neg pm_Amount_neg an_Amount_neg cd_Amount_neg ct_Amount_neg, f_Amount_lshift := f_Amount_lshift, d_Amount_lshift := PySem.W.fnOf "__lshift__" "Amount.__lshift__" (defArgs s_Amount_lshift) (defBody s_Amount_lshift) (defScope s_Amount_lshift) .none kV_Amount_lshift dc_Amount_lshift pm_Amount_lshift an_Amount_lshift cd_Amount_lshift ct_Amount_lshift, f_Amount_floordiv := f_Amount_floordiv, d_Amount_floordiv := PySem.W.fnOf "__floordiv__" "Amount.__floordiv__" (defArgs s_Amount_floordiv) (defBody s_Amount_floordiv) (defScope s_Amount_floordiv) .none kV_Amount_floordiv dc_Amount_floordiv pm_Amount_floordiv an_Amount_floordiv cd_Amount_floordiv ct_Amount_floordiv, f_Amount_cut := f_Amount_cut, d_Amount_cut := PySem.W.fnOf "cut" "Amount.cut" (defArgs s_Amount_cut) (defBody s_Amount_cut) (defScope s_Amount_cut) .none kV_Amount_cut dc_Amount_cut pm_Amount_cut an_Amount_cut cd_Amount_cut ct_Amount_cut, f_Amount_eq := f_Amount_eq, d_Amount_eq := PySem.W.fnOf "__eq__" "Amount.__eq__" (defArgs s_Amount_eq) (defBody s_Amount_eq) (defScope s_Amount_eq) .none kV_Amount_eq dc_Amount_eq pm_Amount_eq an_Amount_eq cd_Amount_eq ct_Amount_eq, f_Amount_str := f_Amount_str, d_Amount_str := PySem.W.fnOf "__str__" "Amount.__str__" (defArgs s_Amount_str) (defBody s_Amount_str) (defScope s_Amount_str) .none kV_Amount_str dc_Amount_str pm_Amount_str an_Amount_str cd_Amount_str ct_Amount_str, f_law_pen := f_law_pen, d_law_pen := PySem.W.fnOf "_law_pen" "_law_pen" (defArgs s_law_pen) (defBody s_law_pen) (defScope s_law_pen) .none kV_law_pen dc_law_pen pm_law_pen an_law_pen cd_law_pen ct_law_pen, f_law_draw := f_law_draw, d_law_draw := PySem.W.fnOf "_law_draw" "_law_draw" (defArgs s_law_draw) (defBody s_law_draw) (defScope s_law_draw) .none kV_law_draw dc_law_draw pm_law_draw an_law_draw cd_law_draw ct_law_draw, f_law_pick := f_law_pick, d_law_pick := PySem.W.fnOf "_law_pick" "_law_pick" (defArgs s_law_pick) (defBody s_law_pick) (defScope s_law_pick) .none kV_law_pick dc_law_pick pm_law_pick an_law_pick cd_law_pick ct_law_pick, f_law_cut := f_law_cut, d_law_cut := PySem.W.fnOf "_law_cut" "_law_cut" (defArgs s_law_cut) (defBody s_law_cut) (defScope s_law_cut) .none kV_law_cut dc_law_cut pm_law_cut an_law_cut cd_law_cut ct_law_cut, f_law_plus := f_law_plus, d_law_plus := PySem.W.fnOf "_law_plus" "_law_plus" (defArgs s_law_plus) (defBody s_law_plus) (defScope s_law_plus) .none kV_law_plus dc_law_plus pm_law_plus an_law_plus cd_law_plus ct_law_plus, f_law_by := f_law_by, d_law_by := PySem.W.fnOf "_law_by" "_law_by" (defArgs s_law_by) (defBody s_law_by) (defScope s_law_by) .none kV_law_by dc_law_by pm_law_by an_law_by cd_law_by ct_law_by, f_law_row := f_law_row, d_law_row := PySem.W.fnOf "_law_row" "_law_row" (defArgs s_law_row) (defBody s_law_row) (defScope s_law_row) .none kV_law_row dc_law_row pm_law_row an_law_row cd_law_row ct_law_row, f_law_is := f_law_is, d_law_is := PySem.W.fnOf "_law_is" "_law_is" (defArgs s_law_is) (defBody s_law_is) (defScope s_law_is) .none kV_law_is dc_law_is pm_law_is an_law_is cd_law_is ct_law_is, f_law_value := f_law_value, d_law_value := PySem.W.fnOf "_law_value" "_law_value" (defArgs s_law_value) (defBody s_law_value) (defScope s_law_value) .none kV_law_value dc_law_value pm_law_value an_law_value cd_law_value ct_law_value, f_law_right := f_law_right, d_law_right := PySem.W.fnOf "_law_right" "_law_right" (defArgs s_law_right) (defBody s_law_right) (defScope s_law_right) .none kV_law_right dc_law_right pm_law_right an_law_right cd_law_right ct_law_right, f_law := fa, d_law := PySem.W.fnOf "law" "law" (defArgs s_law) (defBody s_law) (defScope s_law) .none kV_law dc_law pm_law an_law cd_law ct_law, fo_Add := fo_Add, ro_Add := ro_Add, fo_Mult := fo_Mult, ro_Mult := ro_Mult, fo_Sub := fo_Sub, ro_Sub := ro_Sub, fo_LShift := fo_LShift, ro_LShift := ro_LShift, u_cv_Amount_MOST := u_cv_Amount_MOST, fo_FloorDiv := fo_FloorDiv, ro_FloorDiv := ro_FloorDiv, t_FIGURES := t_FIGURES, t_MOST_POWER := t_MOST_POWER } := { z_abs := PySem.W.mg_none_of X G z_abs, z_all := PySem.W.mg_none_of X G z_all, z_any := PySem.W.mg_none_of X G z_any, z_bool := PySem.W.mg_none_of X G z_bool, z_enumerate := PySem.W.mg_none_of X G z_enumerate, z_int := PySem.W.mg_none_of X G z_int, z_isinstance := PySem.W.mg_none_of X G z_isinstance, z_iter := PySem.W.mg_none_of X G z_iter, z_len := PySem.W.mg_none_of X G z_len, z_list := PySem.W.mg_none_of X G z_list, z_max := PySem.W.mg_none_of X G z_max, z_range := PySem.W.mg_none_of X G z_range, z_repr := PySem.W.mg_none_of X G z_repr, z_str := PySem.W.mg_none_of X G z_str, z_sum := PySem.W.mg_none_of X G z_sum, z_tuple := PySem.W.mg_none_of X G z_tuple, m_words_of := PySem.W.mg_of X G a_words_of, k_words_of := k_words_of, F_words_of := F_words_of, b_words_of := b_words_of, m_is_integer := PySem.W.mg_of X G a_is_integer, k_is_integer := k_is_integer, F_is_integer := F_is_integer, b_is_integer := b_is_integer, m_need_number := PySem.W.mg_of X G a_need_number, k_need_number := k_need_number, F_need_number := F_need_number, b_need_number := b_need_number, m_trimmed := PySem.W.mg_of X G a_trimmed, k_trimmed := k_trimmed, F_trimmed := F_trimmed, b_trimmed := b_trimmed, m_at_power := PySem.W.mg_of X G a_at_power, k_at_power := k_at_power, F_at_power := F_at_power, b_at_power := b_at_power, m_plus := PySem.W.mg_of X G a_plus, k_plus := k_plus, F_plus := F_plus, b_plus := b_plus, m_scaled := PySem.W.mg_of X G a_scaled, k_scaled := k_scaled, F_scaled := F_scaled, b_scaled := b_scaled, m_at_product := PySem.W.mg_of X G a_at_product, k_at_product := k_at_product, F_at_product := F_at_product, b_at_product := b_at_product, m_multiplied := PySem.W.mg_of X G a_multiplied, k_multiplied := k_multiplied, F_multiplied := F_multiplied, b_multiplied := b_multiplied, m_is_written := PySem.W.mg_of X G a_is_written, k_is_written := k_is_written, F_is_written := F_is_written, b_is_written := b_is_written, m_need_amount := PySem.W.mg_of X G a_need_amount, k_need_amount := k_need_amount, F_need_amount := F_need_amount, b_need_amount := b_need_amount, k_Amount_init := k_Amount_init, F_Amount_init := F_Amount_init, k_Amount_of := k_Amount_of, F_Amount_of := F_Amount_of, b_Amount_of := b_Amount_of, k_Amount_read := k_Amount_read, F_Amount_read := F_Amount_read, b_Amount_read := b_Amount_read, k_Amount_len := k_Amount_len, F_Amount_len := F_Amount_len, b_Amount_len := b_Amount_len, k_Amount_iter := k_Amount_iter, F_Amount_iter := F_Amount_iter, b_Amount_iter := b_Amount_iter, k_Amount_getitem := k_Amount_getitem, F_Amount_getitem := F_Amount_getitem, b_Amount_getitem := b_Amount_getitem, k_Amount_call := k_Amount_call, F_Amount_call := F_Amount_call, b_Amount_call := b_Amount_call, k_Amount_add := k_Amount_add, F_Amount_add := F_Amount_add, b_Amount_add := b_Amount_add, k_Amount_sub := k_Amount_sub, F_Amount_sub := F_Amount_sub, b_Amount_sub := b_Amount_sub, k_Amount_mul := k_Amount_mul, F_Amount_mul := F_Amount_mul, b_Amount_mul := b_Amount_mul, k_Amount_neg := k_Amount_neg, F_Amount_neg := F_Amount_neg, b_Amount_neg := b_Amount_neg, k_Amount_lshift := k_Amount_lshift, F_Amount_lshift := F_Amount_lshift, b_Amount_lshift := b_Amount_lshift, k_Amount_floordiv := k_Amount_floordiv, F_Amount_floordiv := F_Amount_floordiv, b_Amount_floordiv := b_Amount_floordiv, k_Amount_cut := k_Amount_cut, F_Amount_cut := F_Amount_cut, b_Amount_cut := b_Amount_cut, k_Amount_eq := k_Amount_eq, F_Amount_eq := F_Amount_eq, b_Amount_eq := b_Amount_eq, k_Amount_str := k_Amount_str, F_Amount_str := F_Amount_str, b_Amount_str := b_Amount_str, m_law_pen := PySem.W.mg_of X G a_law_pen, k_law_pen := k_law_pen, F_law_pen := F_law_pen, b_law_pen := b_law_pen, m_law_draw := PySem.W.mg_of X G a_law_draw, k_law_draw := k_law_draw, F_law_draw := F_law_draw, b_law_draw := b_law_draw, m_law_pick := PySem.W.mg_of X G a_law_pick, k_law_pick := k_law_pick, F_law_pick := F_law_pick, b_law_pick := b_law_pick, m_law_cut := PySem.W.mg_of X G a_law_cut, k_law_cut := k_law_cut, F_law_cut := F_law_cut, b_law_cut := b_law_cut, m_law_plus := PySem.W.mg_of X G a_law_plus, k_law_plus := k_law_plus, F_law_plus := F_law_plus, b_law_plus := b_law_plus, m_law_by := PySem.W.mg_of X G a_law_by, k_law_by := k_law_by, F_law_by := F_law_by, b_law_by := b_law_by, m_law_row := PySem.W.mg_of X G a_law_row, k_law_row := k_law_row, F_law_row := F_law_row, b_law_row := b_law_row, m_law_is := PySem.W.mg_of X G a_law_is, k_law_is := k_law_is, F_law_is := F_law_is, b_law_is := b_law_is, m_law_value := PySem.W.mg_of X G a_law_value, k_law_value := k_law_value, F_law_value := F_law_value, b_law_value := b_law_value, m_law_right := PySem.W.mg_of X G a_law_right, k_law_right := k_law_right, F_law_right := F_law_right, b_law_right := b_law_right, m_law := PySem.W.mg_of X G a_law, k_law := k_law, F_law := F_law, b_law := b_law, kw_0 := kw_0, me_Amount_len := ⟨a_Amount_len, i_Amount_len, k_Amount_len⟩, me_Amount_iter := ⟨a_Amount_iter, i_Amount_iter, k_Amount_iter⟩, mg_Amount := PySem.W.mg_of X G aC_Amount, cr_Amount := ⟨rd_Amount, ga_Amount⟩, sf_Amount_of := a_Amount_of, sr_Amount_of := s_r_Amount_of, two_Amount := (two_of cc_Amount mr_Amount), is_Amount := nf_int_Amount, me_Amount_add := ⟨a_Amount_add, i_Amount_add, k_Amount_add⟩, rr_Amount_add := rr_Amount_add, ii_Amount_add := ii_Amount_add, oi_Add := oi_Add, i1_Add := i1_Add, i2_Add := i2_Add, mk_Amount := ⟨mi_Amount, a_Amount_init, i_Amount_init, kc_Amount⟩, kc_Amount := kc_Amount, me_Amount_mul := ⟨a_Amount_mul, i_Amount_mul, k_Amount_mul⟩, rr_Amount_mul := rr_Amount_mul, ii_Amount_mul := ii_Amount_mul, oi_Mult := oi_Mult, i1_Mult := i1_Mult, i2_Mult := i2_Mult, me_Amount_sub := ⟨a_Amount_sub, i_Amount_sub, k_Amount_sub⟩, rr_Amount_sub := rr_Amount_sub, ii_Amount_sub := ii_Amount_sub, oi_Sub := oi_Sub, i1_Sub := i1_Sub, i2_Sub := i2_Sub, me_Amount_lshift := ⟨a_Amount_lshift, i_Amount_lshift, k_Amount_lshift⟩, rr_Amount_lshift := rr_Amount_lshift, ii_Amount_lshift := ii_Amount_lshift, oi_LShift := oi_LShift, i1_LShift := i1_LShift, i2_LShift := i2_LShift, cl_Amount := ⟨pg_Amount, hd_Amount, po_Amount, sa_Amount⟩, na_Amount_degree := na_Amount_degree, ne_Amount := ne_Amount, ob_Amount := ob_Amount, nf_Amount := (six nf_NoneType_Amount nf_bool_Amount nf_int_Amount nf_str_Amount nf_tuple_Amount nf_list_Amount), ty_Amount := ⟨⟨pg_Amount, hd_Amount, po_Amount, sa_Amount⟩, ha_Amount, hn_0, htk_0, hm_Amount⟩, me_Amount_eq := ⟨a_Amount_eq, i_Amount_eq, k_Amount_eq⟩, me_Amount_getitem := ⟨a_Amount_getitem, i_Amount_getitem, k_Amount_getitem⟩, fi_Amount_getitem := fi_Amount_getitem, cv_Amount_MOST := ⟨cv_Amount_MOST, ⟨_, rfl⟩⟩, me_Amount_call := ⟨a_Amount_call, i_Amount_call, k_Amount_call⟩, fi_Amount_call := fi_Amount_call, me_Amount_neg := ⟨a_Amount_neg, i_Amount_neg, k_Amount_neg⟩, me_Amount_floordiv := ⟨a_Amount_floordiv, i_Amount_floordiv, k_Amount_floordiv⟩, rr_Amount_floordiv := rr_Amount_floordiv, ii_Amount_floordiv := ii_Amount_floordiv, oi_FloorDiv := oi_FloorDiv, i1_FloorDiv := i1_FloorDiv, i2_FloorDiv := i2_FloorDiv, me_Amount_cut := ⟨a_Amount_cut, i_Amount_cut, k_Amount_cut⟩, me_Amount_str := ⟨a_Amount_str, i_Amount_str, k_Amount_str⟩, rel_Amount_Amount := kit_self, out_Amount := (six (kit_out kc1_Amount kt_Amount nf_NoneType_Amount rfl) (kit_out kc1_Amount kt_Amount nf_bool_Amount rfl) (kit_out kc1_Amount kt_Amount nf_int_Amount rfl) (kit_out kc1_Amount kt_Amount nf_str_Amount rfl) (kit_out kc1_Amount kt_Amount nf_tuple_Amount rfl) (kit_out kc1_Amount kt_Amount nf_list_Amount rfl)), na_Amount_integers := na_Amount_integers, nb_Amount := nb_Amount, sf_Amount_read := a_Amount_read, sr_Amount_read := s_r_Amount_read, fi_Amount_read := fi_Amount_read, g_FIGURES := PySem.W.mg_of X G g_FIGURES, g_MOST_POWER := PySem.W.mg_of X G g_MOST_POWER }
  exact ⟨_, fun s v => .of_eq rfl, fun base _ _ => ok_law T⟩
end L54
open PySem PySem.W PyProof.Rows
set_option maxHeartbeats 0 in
theorem PySem.Challenge.cw_spreadchecks_k54_amounts_reckoned_with_holds : PySem.Challenge.rw_spreadchecks_k54_amounts_reckoned_with.Holds := by
  w_on; o_law; k_head; (case hw => w_witness2)
  k_fill
  refine DL.walk_ofG (l := PySem.Challenge.rw_spreadchecks_k54_amounts_reckoned_with) (k := 8) rfl rfl ⟨rfl, by decide, by decide⟩ (fun w h Y => PySem.W.kIn_of Y) ?F
  case F =>
    intro w mg fa h KX G hmg
    refine' L54.all_mk KX G hmg ?z_abs ?z_all ?z_any ?z_bool ?z_enumerate ?z_int ?z_isinstance ?z_iter ?z_len ?z_list ?z_max ?z_range ?z_repr ?z_str ?z_sum ?z_tuple ?aC_Amount ?a_words_of ?l_words_of ?c_words_of ?k_words_of ?a_is_integer ?l_is_integer ?c_is_integer ?k_is_integer ?a_need_number ?l_need_number ?c_need_number ?k_need_number ?a_trimmed ?l_trimmed ?c_trimmed ?k_trimmed ?a_at_power ?l_at_power ?c_at_power ?k_at_power ?a_plus ?l_plus ?c_plus ?k_plus ?a_scaled ?l_scaled ?c_scaled ?k_scaled ?a_at_product ?l_at_product ?c_at_product ?k_at_product ?a_multiplied ?l_multiplied ?c_multiplied ?k_multiplied ?a_is_written ?l_is_written ?c_is_written ?k_is_written ?a_need_amount ?l_need_amount ?c_need_amount ?k_need_amount ?a_Amount_init ?i_Amount_init ?l_Amount_init ?c_Amount_init ?k_Amount_init ?a_Amount_of ?s_r_Amount_of ?l_Amount_of ?c_Amount_of ?k_Amount_of ?a_Amount_read ?s_r_Amount_read ?l_Amount_read ?c_Amount_read ?k_Amount_read ?a_Amount_len ?i_Amount_len ?l_Amount_len ?c_Amount_len ?k_Amount_len ?a_Amount_iter ?i_Amount_iter ?l_Amount_iter ?c_Amount_iter ?k_Amount_iter ?a_Amount_getitem ?i_Amount_getitem ?l_Amount_getitem ?c_Amount_getitem ?k_Amount_getitem ?a_Amount_call ?i_Amount_call ?l_Amount_call ?c_Amount_call ?k_Amount_call ?a_Amount_add ?i_Amount_add ?l_Amount_add ?c_Amount_add ?k_Amount_add ?a_Amount_sub ?i_Amount_sub ?l_Amount_sub ?c_Amount_sub ?k_Amount_sub ?a_Amount_mul ?i_Amount_mul ?l_Amount_mul ?c_Amount_mul ?k_Amount_mul ?a_Amount_neg ?i_Amount_neg ?l_Amount_neg ?c_Amount_neg ?k_Amount_neg ?a_Amount_lshift ?i_Amount_lshift ?l_Amount_lshift ?c_Amount_lshift ?k_Amount_lshift ?a_Amount_floordiv ?i_Amount_floordiv ?l_Amount_floordiv ?c_Amount_floordiv ?k_Amount_floordiv ?a_Amount_cut ?i_Amount_cut ?l_Amount_cut ?c_Amount_cut ?k_Amount_cut ?a_Amount_eq ?i_Amount_eq ?l_Amount_eq ?c_Amount_eq ?k_Amount_eq ?a_Amount_str ?i_Amount_str ?l_Amount_str ?c_Amount_str ?k_Amount_str ?a_law_pen ?l_law_pen ?c_law_pen ?k_law_pen ?a_law_draw ?l_law_draw ?c_law_draw ?k_law_draw ?a_law_pick ?l_law_pick ?c_law_pick ?k_law_pick ?a_law_cut ?l_law_cut ?c_law_cut ?k_law_cut ?a_law_plus ?l_law_plus ?c_law_plus ?k_law_plus ?a_law_by ?l_law_by ?c_law_by ?k_law_by ?a_law_row ?l_law_row ?c_law_row ?k_law_row ?a_law_is ?l_law_is ?c_law_is ?k_law_is ?a_law_value ?l_law_value ?c_law_value ?k_law_value ?a_law_right ?l_law_right ?c_law_right ?k_law_right ?a_law ?l_law ?c_law ?k_law ?rd_Amount ?ga_Amount ?cc_Amount ?mr_Amount ?nf_NoneType_Amount ?nf_bool_Amount ?nf_int_Amount ?nf_str_Amount ?nf_tuple_Amount ?nf_list_Amount ?rr_Amount_add ?ii_Amount_add ?oi_Add ?i1_Add ?i2_Add ?mi_Amount ?kc_Amount ?rr_Amount_mul ?ii_Amount_mul ?oi_Mult ?i1_Mult ?i2_Mult ?rr_Amount_sub ?ii_Amount_sub ?oi_Sub ?i1_Sub ?i2_Sub ?rr_Amount_lshift ?ii_Amount_lshift ?oi_LShift ?i1_LShift ?i2_LShift ?pg_Amount ?hd_Amount ?po_Amount ?sa_Amount ?na_Amount_degree ?ne_Amount ?ob_Amount ?hn_0 ?htk_0 ?ha_Amount ?hm_Amount ?fi_Amount_getitem ?cv_Amount_MOST ?fi_Amount_call ?rr_Amount_floordiv ?ii_Amount_floordiv ?oi_FloorDiv ?i1_FloorDiv ?i2_FloorDiv ?kt_Amount ?kc1_Amount ?na_Amount_integers ?nb_Amount ?fi_Amount_read ?g_FIGURES ?g_MOST_POWER
    (case z_abs => k_is); (case z_all => k_is); (case z_any => k_is); (case z_bool => k_is); (case z_enumerate => k_is); (case z_int => k_is); (case z_isinstance => k_is); (case z_iter => k_is); (case z_len => k_is); (case z_list => k_is); (case z_max => k_is); (case z_range => k_is); (case z_repr => k_is); (case z_str => k_is); (case z_sum => k_is); (case z_tuple => k_is); (case aC_Amount => k_is); (case a_words_of => k_is); (case l_words_of => k_is); (case c_words_of => k_is); (case k_words_of => k_is); (case a_is_integer => k_is); (case l_is_integer => k_is); (case c_is_integer => k_is); (case k_is_integer => k_is); (case a_need_number => k_is); (case l_need_number => k_is); (case c_need_number => k_is); (case k_need_number => k_is); (case a_trimmed => k_is); (case l_trimmed => k_is); (case c_trimmed => k_is); (case k_trimmed => k_is); (case a_at_power => k_is); (case l_at_power => k_is); (case c_at_power => k_is); (case k_at_power => k_is); (case a_plus => k_is); (case l_plus => k_is); (case c_plus => k_is); (case k_plus => k_is); (case a_scaled => k_is); (case l_scaled => k_is); (case c_scaled => k_is); (case k_scaled => k_is); (case a_at_product => k_is); (case l_at_product => k_is); (case c_at_product => k_is); (case k_at_product => k_is); (case a_multiplied => k_is); (case l_multiplied => k_is); (case c_multiplied => k_is); (case k_multiplied => k_is); (case a_is_written => k_is); (case l_is_written => k_is); (case c_is_written => k_is); (case k_is_written => k_is); (case a_need_amount => k_is); (case l_need_amount => k_is); (case c_need_amount => k_is); (case k_need_amount => k_is); (case a_Amount_init => k_is); (case i_Amount_init => k_is); (case l_Amount_init => k_is); (case c_Amount_init => k_is); (case k_Amount_init => k_is); (case a_Amount_of => k_is); (case s_r_Amount_of => k_is); (case l_Amount_of => k_is); (case c_Amount_of => k_is); (case k_Amount_of => k_is); (case a_Amount_read => k_is); (case s_r_Amount_read => k_is); (case l_Amount_read => k_is); (case c_Amount_read => k_is); (case k_Amount_read => k_is); (case a_Amount_len => k_is); (case i_Amount_len => k_is); (case l_Amount_len => k_is); (case c_Amount_len => k_is); (case k_Amount_len => k_is); (case a_Amount_iter => k_is); (case i_Amount_iter => k_is); (case l_Amount_iter => k_is); (case c_Amount_iter => k_is); (case k_Amount_iter => k_is); (case a_Amount_getitem => k_is); (case i_Amount_getitem => k_is); (case l_Amount_getitem => k_is); (case c_Amount_getitem => k_is); (case k_Amount_getitem => k_is); (case a_Amount_call => k_is); (case i_Amount_call => k_is); (case l_Amount_call => k_is); (case c_Amount_call => k_is); (case k_Amount_call => k_is); (case a_Amount_add => k_is); (case i_Amount_add => k_is); (case l_Amount_add => k_is); (case c_Amount_add => k_is); (case k_Amount_add => k_is); (case a_Amount_sub => k_is); (case i_Amount_sub => k_is); (case l_Amount_sub => k_is); (case c_Amount_sub => k_is); (case k_Amount_sub => k_is); (case a_Amount_mul => k_is); (case i_Amount_mul => k_is); (case l_Amount_mul => k_is); (case c_Amount_mul => k_is); (case k_Amount_mul => k_is); (case a_Amount_neg => k_is); (case i_Amount_neg => k_is); (case l_Amount_neg => k_is); (case c_Amount_neg => k_is); (case k_Amount_neg => k_is); (case a_Amount_lshift => k_is); (case i_Amount_lshift => k_is); (case l_Amount_lshift => k_is); (case c_Amount_lshift => k_is); (case k_Amount_lshift => k_is); (case a_Amount_floordiv => k_is); (case i_Amount_floordiv => k_is); (case l_Amount_floordiv => k_is); (case c_Amount_floordiv => k_is); (case k_Amount_floordiv => k_is); (case a_Amount_cut => k_is); (case i_Amount_cut => k_is); (case l_Amount_cut => k_is); (case c_Amount_cut => k_is); (case k_Amount_cut => k_is); (case a_Amount_eq => k_is); (case i_Amount_eq => k_is); (case l_Amount_eq => k_is); (case c_Amount_eq => k_is); (case k_Amount_eq => k_is); (case a_Amount_str => k_is); (case i_Amount_str => k_is); (case l_Amount_str => k_is); (case c_Amount_str => k_is); (case k_Amount_str => k_is); (case a_law_pen => k_is); (case l_law_pen => k_is); (case c_law_pen => k_is); (case k_law_pen => k_is); (case a_law_draw => k_is); (case l_law_draw => k_is); (case c_law_draw => k_is); (case k_law_draw => k_is); (case a_law_pick => k_is); (case l_law_pick => k_is); (case c_law_pick => k_is); (case k_law_pick => k_is); (case a_law_cut => k_is); (case l_law_cut => k_is); (case c_law_cut => k_is); (case k_law_cut => k_is); (case a_law_plus => k_is); (case l_law_plus => k_is); (case c_law_plus => k_is); (case k_law_plus => k_is); (case a_law_by => k_is); (case l_law_by => k_is); (case c_law_by => k_is); (case k_law_by => k_is); (case a_law_row => k_is); (case l_law_row => k_is); (case c_law_row => k_is); (case k_law_row => k_is); (case a_law_is => k_is); (case l_law_is => k_is); (case c_law_is => k_is); (case k_law_is => k_is); (case a_law_value => k_is); (case l_law_value => k_is); (case c_law_value => k_is); (case k_law_value => k_is); (case a_law_right => k_is); (case l_law_right => k_is); (case c_law_right => k_is); (case k_law_right => k_is); (case a_law => k_is); (case l_law => k_is); (case c_law => k_is); (case k_law => k_is); (case rd_Amount => k_is); (case ga_Amount => k_is); (case cc_Amount => k_is); (case mr_Amount => rfl); (case nf_NoneType_Amount => k_is); (case nf_bool_Amount => k_is); (case nf_int_Amount => k_is); (case nf_str_Amount => k_is); (case nf_tuple_Amount => k_is); (case nf_list_Amount => k_is); (case rr_Amount_add => k_is); (case ii_Amount_add => k_is); (case oi_Add => k_is); (case i1_Add => k_is); (case i2_Add => k_is); (case mi_Amount => k_is); (case kc_Amount => k_is); (case rr_Amount_mul => k_is); (case ii_Amount_mul => k_is); (case oi_Mult => k_is); (case i1_Mult => k_is); (case i2_Mult => k_is); (case rr_Amount_sub => k_is); (case ii_Amount_sub => k_is); (case oi_Sub => k_is); (case i1_Sub => k_is); (case i2_Sub => k_is); (case rr_Amount_lshift => k_is); (case ii_Amount_lshift => k_is); (case oi_LShift => k_is); (case i1_LShift => k_is); (case i2_LShift => k_is); (case pg_Amount => k_is); (case hd_Amount => k_is); (case po_Amount => k_is); (case sa_Amount => k_is); (case na_Amount_degree => k_is); (case ne_Amount => k_is); (case ob_Amount => k_is); (case hn_0 => k_is); (case htk_0 => k_is); (case ha_Amount => k_is); (case hm_Amount => k_is); (case fi_Amount_getitem => k_is); (case cv_Amount_MOST => k_is); (case fi_Amount_call => k_is); (case rr_Amount_floordiv => k_is); (case ii_Amount_floordiv => k_is); (case oi_FloorDiv => k_is); (case i1_FloorDiv => k_is); (case i2_FloorDiv => k_is); (case kt_Amount => k_is); (case kc1_Amount => k_is); (case na_Amount_integers => k_is); (case nb_Amount => k_is); (case fi_Amount_read => k_is); (case g_FIGURES => k_is); (case g_MOST_POWER => k_is)
