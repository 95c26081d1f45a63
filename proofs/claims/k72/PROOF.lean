import PyProof.Rows.All
import Wide.All
import OpenK.AllK
import Wide.FinOn
import HandS.ForMost
import HandS.Style
import HandS.Conv
import HandS.Walk
import HandS.TupAny
import HandS.TupMul
import HandS.Deep
import HandS.IsInst
import HandS.Wide
import HandS.WideMore
import HandS.Zip
import PyProof.ReprRoads
import KE.GoesNew
import KE.GoesMore
import KE.KStateDown
import HandS.Head0
import HandS.Head1
import HandS.Head2
import HandS.HeadEnd
import HandS.HeadHook1
import HandS.HeadHook2
import PySem.Challenge.RW_washedarms_k72_whole_tiny_tasks_by_numbe
section
set_option Elab.async false
set_option linter.all false
set_option maxRecDepth 100000
set_option maxHeartbeats 3999999
/-! WEng1: values as data, slots, states, the relations between them and the abstract heap -/
namespace L2
open PySem PySem.Spec PyProof.Rows
theorem Same.upd {H : Hp} {p : Addr} {o : HO} (n : H p = none) : Same H (upd H p o) := fun b u e => by rw [upd_ne (ne_of_none e n)]; exact e
end L2
namespace DL
open L2 PySem PyProof.Rows PySem.Spec

abbrev D := PyData
abbrev Frag := PySem.W.Frag

/-- what a slot holds: a datum, a list of its own (no one else knows it), the handle of the drawn numbers -/
inductive Sl where
  | d (x : D) | own (xs : List D) | h | s (ns : List Int)
/-- what an expression hands on: a datum, the list that a slot owns, a new list -/
inductive Opd where
  | val (x : D) | slot (i : Nat) | new (xs : List D)
/-- where a statement goes on -/
inductive Out where
  | nx | bk | ct | rt (x : D) | rn (xs : List D)
structure Stt (τ : Type) where
  env : List (Option Sl)
  dr : τ
abbrev M (τ α : Type) := Stt τ → Option (α × Stt τ)
variable {τ α β : Type}
def ret (a : α) : M τ α := fun s => some (a, s)
def stuck : M τ α := fun _ => none
def bnd (m : M τ α) (f : α → M τ β) : M τ β := fun s => match m s with
  | none => none
  | some (a, s') => f a s'
def lift (o : Option α) : M τ α := fun s => match o with
  | none => none
  | some a => some (a, s)
/-- the datum of an operand, as it stands -/
def getO (o : Opd) : M τ D := fun s => match o with
  | .val x => some (x, s)
  | .new xs => some (.list xs, s)
  | .slot i => match s.env[i]? with
    | some (some (.d x)) => some (x, s)
    | some (some (.own xs)) => some (.list xs, s)
    | _ => none
/-- the datum of an operand, shared from now on -/
def toD (o : Opd) : M τ D := fun s => match o with
  | .val x => some (x, s)
  | .new xs => some (.list xs, s)
  | .slot i => match s.env[i]? with
    | some (some (.d x)) => some (x, s)
    | some (some (.own xs)) => some (.list xs, { s with env := s.env.set i (some (.d (.list xs))) })
    | _ => none
def valM (F : M τ Opd) : M τ D := bnd F toD
/-- a new list is shared, a slot stays a slot -/
def lateM (F : M τ Opd) : M τ Opd := bnd F fun o => match o with
  | .new xs => ret (.val (.list xs))
  | .val x => ret (.val x)
  | .slot i => ret (.slot i)

/-- the drawn numbers' state: its handle, the objects that change, how it stands in the heap -/
structure Dr (τ : Type) where
  hv : V
  R : Addr → Prop
  At : τ → Hp → Prop
  stay : ∀ st H H', At st H → (∀ b o, R b → H b = some o → H' b = some o) → At st H'
  live : ∀ st H b, At st H → R b → H b ≠ none
def dr0 : Dr Unit := ⟨.non, fun _ => False, fun _ _ => True, fun _ _ _ _ _ => trivial, fun _ _ _ _ h => h.elim⟩

structure Bd (τ : Type) where
  dr : Dr τ
  H0 : Hp
  S0 : Hp

/-- the heap grows: all stands, what is shared grows by new objects alone -/
structure Grow (H S H' S' : Hp) : Prop where
  h : Same H H'
  s : Same S S'
  sub : Same S' H'
  new : ∀ b o, S' b = some o → S b = none → H b = none
theorem Grow.refl {H S : Hp} (h : Same S H) : Grow H S H S := ⟨Same.refl _, Same.refl _, h, fun b o e n => by rw [n] at e; cases e⟩
theorem Grow.trans {H S H1 S1 H2 S2 : Hp} (a : Grow H S H1 S1) (b : Grow H1 S1 H2 S2) : Grow H S H2 S2 :=
  ⟨a.h.trans b.h, a.s.trans b.s, b.sub, fun c o e n => by
    cases q : S1 c with
    | some u => exact a.new c u q n
    | none => exact a.h.free (b.new c o e q)⟩
theorem Grow.alloc {H S : Hp} {p : Addr} {o : HO} (h : Same S H) (n : H p = none) : Grow H S (upd H p o) (upd S p o) := by
  have ns : S p = none := h.free n
  refine ⟨Same.upd n, Same.upd ns, fun b u e => ?_, fun b u e n' => ?_⟩
  · by_cases hb : b = p
    · subst hb; rw [upd_same] at e ⊢; exact e
    · rw [upd_ne hb] at e ⊢; exact h b u e
  · by_cases hb : b = p
    · subst hb; exact n
    · rw [upd_ne hb, n'] at e; cases e
theorem Grow.fresh {H S : Hp} {p : Addr} {o : HO} (h : Same S H) (n : H p = none) : Grow H S (upd H p o) S :=
  ⟨Same.upd n, Same.refl _, h.trans (Same.upd n), fun b u e n' => by rw [n'] at e; cases e⟩

end DL
namespace L2
open PySem PySem.Spec PyProof.Rows

/-! a value is a datum: what is shared and never changed again -/
mutual
inductive Dq (K : PySem.W.Frag) (H : Hp) : V → PyData → Prop
  | non : Dq K H .non .none
  | bl (b : Bool) : Dq K H (.bl b) (.bool b)
  | int (i : Int) : Dq K H (.int i) (.int i)
  | str (x : Str) : Dq K H (.str x) (.str x)
  | lst {a : Addr} {xs : List V} {ds : List PyData} : H a = some (.lst xs) → DqAll K H xs ds → Dq K H (.ref a) (.list ds)
  | tup {a : Addr} {xs : List V} {ds : List PyData} : SqT K H a xs → DqAll K H xs ds → Dq K H (.ref a) (.tuple ds)
inductive DqAll (K : PySem.W.Frag) (H : Hp) : List V → List PyData → Prop
  | nil : DqAll K H [] []
  | cons {v : V} {vs : List V} {d : PyData} {ds : List PyData} : Dq K H v d → DqAll K H vs ds → DqAll K H (v :: vs) (d :: ds)
end
theorem seqT_mono {K : PySem.W.Frag} {S S' : Hp} (e : Same S S') {a : Addr} {xs : List V} (h : SqT K S a xs) : SqT K S' a xs := by
  rcases h with (h | ⟨o, h⟩) | h
  · exact .inl (.inl (e _ _ h))
  · exact .inl (.inr ⟨o, e _ _ h⟩)
  · exact .inr h
mutual
theorem Dq.mono {K : PySem.W.Frag} {S S' : Hp} (e : Same S S') : ∀ {v : V} {d : PyData}, Dq K S v d → Dq K S' v d
  | _, _, .non => .non
  | _, _, .bl b => .bl b
  | _, _, .int i => .int i
  | _, _, .str x => .str x
  | _, _, .lst h a => .lst (e _ _ h) (DqAll.mono e a)
  | _, _, .tup h a => .tup (seqT_mono e h) (DqAll.mono e a)
theorem DqAll.mono {K : PySem.W.Frag} {S S' : Hp} (e : Same S S') : ∀ {vs : List V} {ds : List PyData}, DqAll K S vs ds → DqAll K S' vs ds
  | _, _, .nil => .nil
  | _, _, .cons h t => .cons (Dq.mono e h) (DqAll.mono e t)
end
mutual
theorem Dq.dp {K : PySem.W.Frag} {H : Hp} : ∀ {v : V} {d : PyData}, Dq K H v d → Dp K H v d
  | _, _, .non => .non
  | _, _, .bl b => .bl b
  | _, _, .int i => .int i
  | _, _, .str x => .str x
  | _, _, .lst h a => .lst (SqL.of h) a.dp
  | _, _, .tup h a => .tup h a.dp
theorem DqAll.dp {K : PySem.W.Frag} {H : Hp} : ∀ {vs : List V} {ds : List PyData}, DqAll K H vs ds → DpAll K H vs ds
  | _, _, .nil => .nil
  | _, _, .cons h t => .cons h.dp t.dp
end
theorem DqAll.len {K : PySem.W.Frag} {S : Hp} : ∀ {vs : List V} {ds : List PyData}, DqAll K S vs ds → vs.length = ds.length
  | _, _, .nil => rfl
  | _, _, .cons _ t => by rw [List.length_cons, List.length_cons, t.len]
theorem DqAll.get {K : PySem.W.Frag} {S : Hp} : ∀ {vs : List V} {ds : List PyData} {i : Nat} {v : V}, DqAll K S vs ds → vs[i]? = some v → ∃ d, ds[i]? = some d ∧ Dq K S v d
  | _, _, _, _, .nil, h => by simp at h
  | _, _, 0, _, .cons h _, e => by simp at e; subst e; exact ⟨_, rfl, h⟩
  | _, _, i + 1, v, .cons _ t, e => by
    obtain ⟨d, h1, h2⟩ := DqAll.get (i := i) (v := v) t (by simpa using e)
    exact ⟨d, by simpa using h1, h2⟩
theorem DqAll.getD {K : PySem.W.Frag} {S : Hp} : ∀ {vs : List V} {ds : List PyData} {i : Nat} {d : PyData}, DqAll K S vs ds → ds[i]? = some d → ∃ v, vs[i]? = some v ∧ Dq K S v d
  | _, _, _, _, .nil, h => by simp at h
  | _, _, 0, _, .cons h _, e => by simp at e; subst e; exact ⟨_, rfl, h⟩
  | _, _, i + 1, d, .cons _ t, e => by
    obtain ⟨v, h1, h2⟩ := DqAll.getD (i := i) (d := d) t (by simpa using e)
    exact ⟨v, by simpa using h1, h2⟩
theorem DqAll.app {K : PySem.W.Frag} {S : Hp} : ∀ {vs ws : List V} {ds es : List PyData}, DqAll K S vs ds → DqAll K S ws es → DqAll K S (vs ++ ws) (ds ++ es)
  | _, _, _, _, .nil, t => t
  | _, _, _, _, .cons h r, t => .cons h (DqAll.app r t)
theorem DqAll.drop {K : PySem.W.Frag} {S : Hp} : ∀ (n : Nat) {vs : List V} {ds : List PyData}, DqAll K S vs ds → DqAll K S (vs.drop n) (ds.drop n)
  | 0, _, _, h => h
  | _ + 1, _, _, .nil => .nil
  | n + 1, _, _, .cons _ t => DqAll.drop n t
theorem DqAll.take {K : PySem.W.Frag} {S : Hp} : ∀ (n : Nat) {vs : List V} {ds : List PyData}, DqAll K S vs ds → DqAll K S (vs.take n) (ds.take n)
  | 0, _, _, _ => .nil
  | _ + 1, _, _, .nil => .nil
  | n + 1, _, _, .cons h t => .cons h (DqAll.take n t)
theorem DqAll.rev {K : PySem.W.Frag} {S : Hp} : ∀ {vs : List V} {ds : List PyData}, DqAll K S vs ds → DqAll K S vs.reverse ds.reverse
  | _, _, .nil => .nil
  | _, _, .cons h t => by
    rw [List.reverse_cons, List.reverse_cons]
    exact t.rev.app (.cons h .nil)
theorem DqAll.set {K : PySem.W.Frag} {S : Hp} {v : V} {d : PyData} (h : Dq K S v d) : ∀ (n : Nat) {vs : List V} {ds : List PyData}, DqAll K S vs ds → DqAll K S (vs.set n v) (ds.set n d)
  | _, _, _, .nil => .nil
  | 0, _, _, .cons _ t => .cons h t
  | n + 1, _, _, .cons g t => .cons g (DqAll.set h n t)
theorem DqAll.ints {K : PySem.W.Frag} {S : Hp} : ∀ ns : List Int, DqAll K S (ns.map V.int) (ns.map PyData.int)
  | [] => .nil
  | n :: ns => .cons (.int n) (DqAll.ints ns)
theorem DqAll.rep {K : PySem.W.Frag} {S : Hp} {vs : List V} {ds : List PyData} (h : DqAll K S vs ds) : ∀ n : Nat, DqAll K S (List.replicate n vs).flatten (List.replicate n ds).flatten
  | 0 => .nil
  | n + 1 => by
    rw [List.replicate_succ, List.replicate_succ, List.flatten_cons, List.flatten_cons]
    exact h.app (h.rep n)
theorem DqAll.nil_iff {K : PySem.W.Frag} {S : Hp} {vs : List V} {ds : List PyData} (h : DqAll K S vs ds) : vs = [] ↔ ds = [] := by
  cases h <;> simp

end L2
namespace DL
open L2 PySem PyProof.Rows PySem.Spec
variable {τ α β : Type}
def SlAt (K : Frag) (dr : Dr τ) (H0 H S : Hp) (v : V) : Sl → Prop
  | .d x => Dq K S v x
  | .own xs => ∃ p vs, v = .ref p ∧ H p = some (.lst vs) ∧ DqAll K S vs xs ∧ S p = none ∧ H0 p = none ∧ ¬ dr.R p
  | .h => v = dr.hv
  | .s ns => ∃ p, v = .ref p ∧ SqL K S p (ns.map V.int)
structure Fr (dr : Dr τ) (H0 S0 H S : Hp) : Prop where
  keep : ∀ b o, H0 b = some o → ¬ dr.R b → H b = some o
  s : Same S0 S
  sub : Same S H
  new : ∀ b o, S b = some o → S0 b = none → H0 b = none
  nor : ∀ b, dr.R b → S b = none
structure Good (K : Frag) (B : Bd τ) (s : Stt τ) (σ : List (Option V)) (H S : Hp) : Prop where
  fr : Fr B.dr B.H0 B.S0 H S
  at_ : B.dr.At s.dr H
  len : s.env.length = σ.length
  slot : ∀ (i : Nat) (z : Sl), s.env[i]? = some (some z) → ∃ v, σ[i]? = some (some v) ∧ SlAt K B.dr B.H0 H S v z
  disj : ∀ (i j : Nat) (xs ys : List D), i ≠ j → s.env[i]? = some (some (.own xs)) → s.env[j]? = some (some (.own ys)) → σ[i]? ≠ σ[j]?

section
variable {K : Frag} {B : Bd τ} {s : Stt τ} {σ : List (Option V)} {H S H' S' : Hp}
theorem Good.live (g : Good K B s σ H S) {b : Addr} (h : B.dr.R b) : H b ≠ none := B.dr.live s.dr H b g.at_ h
theorem Good.grow (g : Good K B s σ H S) (w : Grow H S H' S') : Good K B s σ H' S' := by
  have nb : ∀ b o, S' b = some o → S b = none → ¬ B.dr.R b := fun b o e n r => g.live r (w.new b o e n)
  refine ⟨⟨fun b o e r => w.h b o (g.fr.keep b o e r), g.fr.s.trans w.s, w.sub, fun b o e n => ?_, fun b r => ?_⟩, ?_, g.len, fun i z e => ?_, g.disj⟩
  · cases q : S b with
    | some u => exact g.fr.new b u q n
    | none =>
      have hn := w.new b o e q
      cases q0 : B.H0 b with
      | none => rfl
      | some u => rw [g.fr.keep b u q0 (nb b o e q)] at hn; cases hn
  · cases q : S' b with
    | none => rfl
    | some u => exact absurd r (nb b u q (g.fr.nor b r))
  · exact B.dr.stay _ _ _ g.at_ fun b o _ e => w.h b o e
  · obtain ⟨v, h1, h2⟩ := g.slot i z e
    refine ⟨v, h1, ?_⟩
    cases z with
    | d x => exact Dq.mono w.s h2
    | own xs =>
      obtain ⟨p, vs, e1, e2, e3, e4, e5, e6⟩ := h2
      refine ⟨p, vs, e1, w.h p _ e2, DqAll.mono w.s e3, ?_, e5, e6⟩
      cases q : S' p with
      | none => rfl
      | some u => have := w.new p u q e4; rw [e2] at this; cases this
    | h => exact h2
    | s ns =>
      obtain ⟨p, e1, e2⟩ := h2
      exact ⟨p, e1, w.s.seq e2⟩
theorem Good.get (g : Good K B s σ H S) {i : Nat} {x : D} (e : s.env[i]? = some (some (.d x))) : ∃ v, σ[i]? = some (some v) ∧ Dq K S v x := g.slot i _ e
theorem Good.getOwn (g : Good K B s σ H S) {i : Nat} {xs : List D} (e : s.env[i]? = some (some (.own xs))) :
    ∃ p vs, σ[i]? = some (some (.ref p)) ∧ H p = some (.lst vs) ∧ DqAll K S vs xs ∧ S p = none ∧ B.H0 p = none ∧ ¬ B.dr.R p := by
  obtain ⟨v, h1, p, vs, rfl, h2⟩ := g.slot i _ e
  exact ⟨p, vs, h1, h2⟩
theorem set_get {α : Type} {l : List α} {i j : Nat} {a b : α} (h : (l.set i a)[j]? = some b) : (i = j ∧ a = b) ∨ (i ≠ j ∧ l[j]? = some b) := by
  by_cases e : i = j
  · subst e
    by_cases hl : i < l.length
    · rw [List.getElem?_set_self hl] at h
      exact .inl ⟨rfl, Option.some.inj h⟩
    · rw [List.getElem?_eq_none (by rw [List.length_set]; omega)] at h
      cases h
  · rw [List.getElem?_set_ne e] at h
    exact .inr ⟨e, h⟩
theorem set_at {α : Type} {l : List α} {i : Nat} {a b : α} (h : (l.set i a)[i]? = some b) : i < l.length := by
  by_cases hl : i < l.length
  · exact hl
  · rw [List.getElem?_eq_none (by rw [List.length_set]; omega)] at h
    cases h
/-- a datum goes into a slot -/
theorem Good.set (g : Good K B s σ H S) {i : Nat} {v : V} {x : D} (h : Dq K S v x) : Good K B { s with env := s.env.set i (some (.d x)) } (σ.set i (some v)) H S := by
  refine ⟨g.fr, g.at_, by simp [g.len], fun j z e => ?_, fun j k xs ys n e1 e2 => ?_⟩
  · have hl : i = j → j < σ.length := fun q => by
      subst q
      have := set_at (l := s.env) e
      rw [← g.len]; exact this
    rcases set_get e with ⟨rfl, e'⟩ | ⟨n, e'⟩
    · cases e'
      exact ⟨v, List.getElem?_set_self (hl rfl), h⟩
    · rw [List.getElem?_set_ne n]
      exact g.slot j z e'
  · rcases set_get e1 with ⟨_, q⟩ | ⟨n1, e1'⟩
    · cases q
    rcases set_get e2 with ⟨_, q⟩ | ⟨n2, e2'⟩
    · cases q
    rw [List.getElem?_set_ne n1, List.getElem?_set_ne n2]
    exact g.disj j k xs ys n e1' e2'
/-- a list that nobody else knows -/
structure Free (K : Frag) (B : Bd τ) (s : Stt τ) (σ : List (Option V)) (H S : Hp) (p : Addr) (xs : List D) : Prop where
  at_ : ∃ vs, H p = some (.lst vs) ∧ DqAll K S vs xs
  ns : S p = none
  n0 : B.H0 p = none
  nr : ¬ B.dr.R p
  no : ∀ (j : Nat) (ys : List D), s.env[j]? = some (some (.own ys)) → σ[j]? ≠ some (some (V.ref p))
theorem Good.setOwn (g : Good K B s σ H S) {i : Nat} {p : Addr} {xs : List D} (f : Free K B s σ H S p xs) : Good K B { s with env := s.env.set i (some (.own xs)) } (σ.set i (some (.ref p))) H S := by
  obtain ⟨⟨vs, hp, ha⟩, ns, n0, nr, no⟩ := f
  refine ⟨g.fr, g.at_, by simp [g.len], fun j z e => ?_, fun j k xs ys n e1 e2 => ?_⟩
  · have hl : i = j → j < σ.length := fun q => by
      subst q
      have := set_at (l := s.env) e
      rw [← g.len]; exact this
    rcases set_get e with ⟨rfl, e'⟩ | ⟨n, e'⟩
    · cases e'
      exact ⟨_, List.getElem?_set_self (hl rfl), p, vs, rfl, hp, ha, ns, n0, nr⟩
    · rw [List.getElem?_set_ne n]
      exact g.slot j z e'
  · have hl1 := fun (q : i = j) => (by subst q; have := set_at (l := s.env) e1; rw [← g.len]; exact this : j < σ.length)
    have hl2 := fun (q : i = k) => (by subst q; have := set_at (l := s.env) e2; rw [← g.len]; exact this : k < σ.length)
    rcases set_get e1 with ⟨rfl, q⟩ | ⟨n1, e1'⟩
    · rcases set_get e2 with ⟨q2, _⟩ | ⟨n2, e2'⟩
      · exact absurd q2 n
      · rw [List.getElem?_set_self (hl1 rfl), List.getElem?_set_ne n2]
        exact fun q => no k _ e2' q.symm
    · rcases set_get e2 with ⟨rfl, q⟩ | ⟨n2, e2'⟩
      · rw [List.getElem?_set_self (hl2 rfl), List.getElem?_set_ne n1]
        exact no j _ e1'
      · rw [List.getElem?_set_ne n1, List.getElem?_set_ne n2]
        exact g.disj j k xs ys n e1' e2'
/-- a list object joins what is shared -/
theorem Good.share (g : Good K B s σ H S) {p : Addr} {vs : List V} (hp : H p = some (.lst vs)) (ns : S p = none) (n0 : B.H0 p = none) (nr : ¬ B.dr.R p)
    (no : ∀ (j : Nat) (ys : List D), s.env[j]? = some (some (.own ys)) → σ[j]? ≠ some (some (V.ref p))) : Good K B s σ H (upd S p (.lst vs)) := by
  have ss : Same S (upd S p (.lst vs)) := Same.upd ns
  refine ⟨⟨g.fr.keep, g.fr.s.trans ss, fun b o e => ?_, fun b o e n => ?_, fun b r => ?_⟩, g.at_, g.len, fun i z e => ?_, g.disj⟩
  · by_cases hb : b = p
    · subst hb; rw [upd_same] at e; cases e; exact hp
    · rw [upd_ne hb] at e; exact g.fr.sub b o e
  · by_cases hb : b = p
    · subst hb; exact n0
    · rw [upd_ne hb] at e; exact g.fr.new b o e n
  · rw [upd_ne (fun e => nr (by rw [← e]; exact r))]
    exact g.fr.nor b r
  · obtain ⟨v, h1, h2⟩ := g.slot i z e
    refine ⟨v, h1, ?_⟩
    cases z with
    | d x => exact Dq.mono ss h2
    | own xs =>
      obtain ⟨q, ws, e1, e2, e3, e4, e5, e6⟩ := h2
      subst e1
      exact ⟨q, ws, rfl, e2, DqAll.mono ss e3, by rw [upd_ne (fun z => no i xs e (by rw [h1, z]))]; exact e4, e5, e6⟩
    | h => exact h2
    | s ns =>
      obtain ⟨p, e1, e2⟩ := h2
      exact ⟨p, e1, ss.seq e2⟩
/-- the list that slot i owns is shared -/
theorem Good.freeze (g : Good K B s σ H S) {i : Nat} {xs : List D} (e : s.env[i]? = some (some (.own xs))) :
    ∃ p S', σ[i]? = some (some (.ref p)) ∧ Same S S' ∧ Dq K S' (.ref p) (.list xs) ∧ Good K B { s with env := s.env.set i (some (.d (.list xs))) } σ H S' ∧ ∃ ws, S' = upd S p (.lst ws) := by
  obtain ⟨p, vs, h1, hp, ha, ns, n0, nr⟩ := g.getOwn e
  have ss : Same S (upd S p (.lst vs)) := Same.upd ns
  have hd : Dq K (upd S p (.lst vs)) (.ref p) (.list xs) := .lst upd_same (DqAll.mono ss ha)
  have g1 : Good K B { s with env := s.env.set i none } σ H S := by
    refine ⟨g.fr, g.at_, by simp [g.len], fun j z e' => ?_, fun j k as bs n e1 e2 => ?_⟩
    · rcases set_get e' with ⟨_, q⟩ | ⟨_, q⟩
      · cases q
      · exact g.slot j z q
    · rcases set_get e1 with ⟨_, q⟩ | ⟨_, q1⟩
      · cases q
      rcases set_get e2 with ⟨_, q⟩ | ⟨_, q2⟩
      · cases q
      exact g.disj j k as bs n q1 q2
  have g2 := g1.share hp ns n0 nr fun j ys e' => by
    rcases set_get e' with ⟨_, q⟩ | ⟨n, q⟩
    · cases q
    · intro z
      exact g.disj i j xs ys n e q (by rw [h1, z])
  refine ⟨p, _, h1, ss, hd, ⟨g2.fr, g2.at_, by simp [g.len], fun j z e' => ?_, fun j k as bs n e1 e2 => ?_⟩, vs, rfl⟩
  · rcases set_get e' with ⟨rfl, q⟩ | ⟨n, q⟩
    · cases q
      exact ⟨_, h1, hd⟩
    · exact g2.slot j z (by show (s.env.set i none)[j]? = _; rw [List.getElem?_set_ne n]; exact q)
  · rcases set_get e1 with ⟨_, q⟩ | ⟨_, q1⟩
    · cases q
    rcases set_get e2 with ⟨_, q⟩ | ⟨_, q2⟩
    · cases q
    exact g.disj j k as bs n q1 q2
/-- the list that slot i owns is changed -/
theorem Good.change (g : Good K B s σ H S) {i : Nat} {xs ys : List D} {p : Addr} {ws : List V} (e : s.env[i]? = some (some (.own xs))) (h1 : σ[i]? = some (some (.ref p))) (hw : DqAll K S ws ys) :
    Good K B { s with env := s.env.set i (some (.own ys)) } σ (upd H p (.lst ws)) S := by
  obtain ⟨p', vs, h1', hp, ha, ns, n0, nr⟩ := g.getOwn e
  rw [h1] at h1'
  cases h1'
  refine ⟨⟨fun b o e' r => ?_, g.fr.s, fun b o e' => ?_, g.fr.new, g.fr.nor⟩, ?_, by simp [g.len], fun j z e' => ?_, fun j k as bs n e1 e2 => ?_⟩
  · rw [upd_ne (fun q => by rw [q, n0] at e'; cases e')]
    exact g.fr.keep b o e' r
  · rw [upd_ne (fun q => by rw [q, ns] at e'; cases e')]
    exact g.fr.sub b o e'
  · exact B.dr.stay _ _ _ g.at_ fun b o r e' => by rw [upd_ne (fun q => nr (by rw [← q]; exact r))]; exact e'
  · rcases set_get e' with ⟨rfl, q⟩ | ⟨n, q⟩
    · cases q
      exact ⟨_, h1, p, ws, rfl, upd_same, hw, ns, n0, nr⟩
    · obtain ⟨v, g1, g2⟩ := g.slot j z q
      refine ⟨v, g1, ?_⟩
      cases z with
      | d x => exact g2
      | own as =>
        obtain ⟨q', us, e1, e2, e3, e4, e5, e6⟩ := g2
        subst e1
        refine ⟨q', us, rfl, ?_, e3, e4, e5, e6⟩
        rw [upd_ne (fun z => g.disj i j xs as n e q (by rw [h1, g1, z]))]
        exact e2
      | h => exact g2
      | s ns => exact g2
  · have own_of : ∀ {j : Nat} {as : List D}, (s.env.set i (some (.own ys)))[j]? = some (some (.own as)) → ∃ as', s.env[j]? = some (some (.own as')) := fun {j as} e' => by
      rcases set_get e' with ⟨rfl, _⟩ | ⟨_, q⟩
      · exact ⟨_, e⟩
      · exact ⟨_, q⟩
    obtain ⟨as', q1⟩ := own_of e1
    obtain ⟨bs', q2⟩ := own_of e2
    exact g.disj j k as' bs' n q1 q2
end


/-- what a piece of code leaves: what is shared stays, no place is given back, a list that nobody knows stays so -/
structure Step (K : Frag) (B : Bd τ) (σ : List (Option V)) (s : Stt τ) (H S : Hp) (s' : Stt τ) (H' S' : Hp) : Prop where
  same : Same S S'
  dom : ∀ p, H' p = none → H p = none
  free : ∀ (p : Addr) (xs : List D), Free K B s σ H S p xs → Free K B s' σ H' S' p xs
section
variable {K : Frag} {B : Bd τ} {σ : List (Option V)} {s s1 s2 : Stt τ} {H S H1 S1 H2 S2 : Hp}
theorem Step.refl : Step K B σ s H S s H S := ⟨Same.refl _, fun _ h => h, fun _ _ h => h⟩
theorem Step.trans (a : Step K B σ s H S s1 H1 S1) (b : Step K B σ s1 H1 S1 s2 H2 S2) : Step K B σ s H S s2 H2 S2 :=
  ⟨a.same.trans b.same, fun p h => a.dom p (b.dom p h), fun p xs f => b.free p xs (a.free p xs f)⟩
theorem Free.grow {p : Addr} {xs : List D} (f : Free K B s σ H S p xs) (w : Grow H S H1 S1) : Free K B s σ H1 S1 p xs := by
  obtain ⟨⟨vs, h1, h2⟩, ns, n0, nr, no⟩ := f
  refine ⟨⟨vs, w.h p _ h1, DqAll.mono w.s h2⟩, ?_, n0, nr, no⟩
  cases q : S1 p with
  | none => rfl
  | some u => have := w.new p u q ns; rw [h1] at this; cases this
theorem Grow.step (w : Grow H S H1 S1) : Step K B σ s H S s H1 S1 := ⟨w.s, fun _ h => w.h.free h, fun _ _ f => f.grow w⟩
end
/-- how an operand stands for a value -/
def RelO (K : Frag) (B : Bd τ) (s : Stt τ) (σ : List (Option V)) (H S : Hp) (v : V) : Opd → Prop
  | .val x => Dq K S v x
  | .slot i => σ[i]? = some (some v)
  | .new xs => ∃ p, v = .ref p ∧ Free K B s σ H S p xs
/-- a datum that is looked at: its items are shared, its own list may not be -/
def View (K : Frag) (H S : Hp) (v : V) (d : D) : Prop := Dq K S v d ∨ ∃ p vs xs, v = .ref p ∧ H p = some (.lst vs) ∧ DqAll K S vs xs ∧ d = .list xs
theorem View.full {K : Frag} {H S : Hp} {v : V} {d : D} (h : View K H S v d) (e : Same S H) : Dq K H v d := by
  rcases h with h | ⟨p, vs, xs, rfl, h1, h2, rfl⟩
  · exact Dq.mono e h
  · exact .lst h1 (DqAll.mono e h2)
theorem View.lst {K : Frag} {H S : Hp} {v : V} {xs : List D} (h : View K H S v (.list xs)) (e : Same S H) : ∃ p vs, v = .ref p ∧ H p = some (.lst vs) ∧ DqAll K S vs xs := by
  rcases h with h | ⟨p, vs, ys, rfl, h1, h2, q⟩
  · cases h with
    | lst h1 h2 => exact ⟨_, _, rfl, e _ _ h1, h2⟩
  · cases q
    exact ⟨p, vs, rfl, h1, h2⟩
theorem View.tup {K : Frag} {H S : Hp} {v : V} {xs : List D} (h : View K H S v (.tuple xs)) : ∃ p vs, v = .ref p ∧ SqT K S p vs ∧ DqAll K S vs xs := by
  rcases h with h | ⟨p, vs, ys, rfl, h1, h2, q⟩
  · cases h with
    | tup h1 h2 => exact ⟨_, _, rfl, h1, h2⟩
  · cases q
theorem View.int {K : Frag} {H S : Hp} {v : V} {i : Int} (h : View K H S v (.int i)) : v = .int i := by
  rcases h with h | ⟨p, vs, ys, rfl, h1, h2, q⟩
  · cases h; rfl
  · cases q
theorem View.bl {K : Frag} {H S : Hp} {v : V} {i : Bool} (h : View K H S v (.bool i)) : v = .bl i := by
  rcases h with h | ⟨p, vs, ys, rfl, h1, h2, q⟩
  · cases h; rfl
  · cases q
theorem View.str {K : Frag} {H S : Hp} {v : V} {i : Str} (h : View K H S v (.str i)) : v = .str i := by
  rcases h with h | ⟨p, vs, ys, rfl, h1, h2, q⟩
  · cases h; rfl
  · cases q
theorem View.non {K : Frag} {H S : Hp} {v : V} (h : View K H S v .none) : v = .non := by
  rcases h with h | ⟨p, vs, ys, rfl, h1, h2, q⟩
  · cases h; rfl
  · cases q
/-- a new list was not there ahead -/
def FreshO (H : Hp) (v : V) : Opd → Prop
  | .new _ => ∃ p, v = .ref p ∧ H p = none
  | _ => True
theorem view_of {K : Frag} {B : Bd τ} {s s' : Stt τ} {σ : List (Option V)} {H S : Hp} {v : V} {o : Opd} {d : D} (g : Good K B s σ H S) (r : RelO K B s σ H S v o) (e : getO o s = some (d, s')) : s' = s ∧ View K H S v d := by
  cases o with
  | val x => cases e; exact ⟨rfl, .inl r⟩
  | new xs =>
    cases e
    obtain ⟨p, rfl, ⟨vs, h1, h2⟩, _⟩ := r
    exact ⟨rfl, .inr ⟨p, vs, xs, rfl, h1, h2, rfl⟩⟩
  | slot i =>
    unfold getO at e
    dsimp only at e
    split at e
    · rename_i x q
      cases e
      obtain ⟨w, h1, h2⟩ := g.get q
      rw [show σ[i]? = some (some v) from r] at h1
      cases h1
      exact ⟨rfl, .inl h2⟩
    · rename_i xs q
      cases e
      obtain ⟨p, vs, h1, hp, ha, _⟩ := g.getOwn q
      rw [show σ[i]? = some (some v) from r] at h1
      cases h1
      exact ⟨rfl, .inr ⟨p, vs, xs, rfl, hp, ha, rfl⟩⟩
    · cases e
theorem toD_of {K : Frag} {B : Bd τ} {s s' : Stt τ} {σ : List (Option V)} {H S : Hp} {v : V} {o : Opd} {d : D} (g : Good K B s σ H S) (r : RelO K B s σ H S v o) (e : toD o s = some (d, s')) :
    ∃ S', Same S S' ∧ Good K B s' σ H S' ∧ Dq K S' v d ∧ ∀ (p : Addr) (xs : List D), (∀ ys, o = .new ys → v ≠ .ref p) → Free K B s σ H S p xs → Free K B s' σ H S' p xs := by
  cases o with
  | val x => cases e; exact ⟨S, Same.refl _, g, r, fun _ _ _ f => f⟩
  | new xs =>
    cases e
    obtain ⟨p, rfl, ⟨vs, h1, h2⟩, ns, n0, nr, no⟩ := r
    refine ⟨_, Same.upd ns, g.share h1 ns n0 nr no, .lst upd_same (DqAll.mono (Same.upd ns) h2), fun q ys hq f => ?_⟩
    have hne : q ≠ p := fun z => hq xs rfl (by rw [z])
    obtain ⟨⟨us, f1, f2⟩, f3, f4, f5, f6⟩ := f
    exact ⟨⟨us, f1, DqAll.mono (Same.upd ns) f2⟩, by rw [upd_ne hne]; exact f3, f4, f5, f6⟩
  | slot i =>
    unfold toD at e
    dsimp only at e
    split at e
    · rename_i x q
      cases e
      obtain ⟨w, h1, h2⟩ := g.get q
      rw [show σ[i]? = some (some v) from r] at h1
      cases h1
      exact ⟨S, Same.refl _, g, h2, fun _ _ _ f => f⟩
    · rename_i xs q
      cases e
      obtain ⟨p, S', h1, ss, hd, g', ws, hS⟩ := g.freeze q
      have h1' := h1
      rw [show σ[i]? = some (some v) from r] at h1
      cases h1
      refine ⟨S', ss, g', hd, fun a ys _ f => ?_⟩
      obtain ⟨⟨us, f1, f2⟩, f3, f4, f5, f6⟩ := f
      have hne : a ≠ p := fun z => f6 i xs q (by rw [z]; exact h1')
      refine ⟨⟨us, f1, DqAll.mono ss f2⟩, by rw [hS, upd_ne hne]; exact f3, f4, f5, fun j zs e' => ?_⟩
      rcases set_get e' with ⟨_, z⟩ | ⟨_, z⟩
      · cases z
      · exact f6 j zs z
    · cases e
/-- a new list at a free place -/
theorem Good.free {K : Frag} {B : Bd τ} {s : Stt τ} {σ : List (Option V)} {H S : Hp} {p : Addr} {vs : List V} {xs : List D} (g : Good K B s σ H S) (n : H p = none) (h : DqAll K S vs xs) :
    Good K B s σ (upd H p (.lst vs)) S ∧ Free K B s σ (upd H p (.lst vs)) S p xs := by
  have nr : ¬ B.dr.R p := fun r => g.live r n
  refine ⟨g.grow (Grow.fresh g.fr.sub n), ⟨vs, upd_same, h⟩, g.fr.sub.free n, ?_, nr, fun j ys e q => ?_⟩
  · cases z : B.H0 p with
    | none => rfl
    | some o => rw [g.fr.keep p o z nr] at n; cases n
  · obtain ⟨p', ws, h1, hp, _⟩ := g.getOwn e
    rw [q] at h1
    cases h1
    rw [n] at hp; cases hp
end DL
end

section
set_option Elab.async false
set_option linter.all false
set_option maxRecDepth 100000
set_option maxHeartbeats 3999999
/-! WEng2: what an expression means: the judgement, names, constants, operators, tests, subscripts, calls -/
namespace DL
open L2 PySem PyProof.Rows PySem.Spec
variable {τ α β : Type}

/-- what all contexts of a def's body (and of its comprehensions) share -/
structure Gam where
  P : Program
  w : World
  K : Frag
  mg : Str → Option Value
  base : Heap
  A : Around
  N : List Str
  sc : Scope
  fn : Str → Bool
structure Gam.Has (Γ : Gam) (X : Cx) : Prop where
  P : X.prog = Γ.P
  w : X.w = Γ.w
  K : X.K = Γ.K
  mg : X.mg = Γ.mg
  base : X.base = Γ.base
  A : X.A = Γ.A
  N : X.N = Γ.N
  sc : X.env.scope = Γ.sc
  calm : X.calm = true
  fn : ∀ x, Γ.fn x = true → X.fn x = true ∨ X.env.scope.names.lookup x = some .local
  pass : PassesOwn (model X.prog X.w) X.A X.env X.xe
/-- what a def's body may lean on -/
structure Gam.Ok (Γ : Gam) (k : Nat) : Prop where
  nd : Γ.N.Nodup
  room : Room k Γ.A
  gd : Γ.A.guards = some []
theorem Gam.Ok.hu {Γ : Gam} {k : Nat} (h : Γ.Ok k) : Γ.A.units + 65 < cLine := by have := h.room.un; omega
theorem Gam.Ok.mono {Γ : Gam} {j k : Nat} (h : Γ.Ok k) (l : j ≤ k) : Γ.Ok j := ⟨h.nd, h.room.mono l, h.gd⟩

def Mean (K : Frag) (B : Bd τ) (t : TE) (F : M τ Opd) : Prop := ∀ s σ H S, Good K B s σ H S → ∀ o s', F s = some (o, s') →
  ∀ Q : VK, (∀ v H' S', Good K B s' σ H' S' → Step K B σ s H S s' H' S' → RelO K B s' σ H' S' v o → FreshO H v o → Q v H') → t σ H Q
def DO (Γ : Gam) (B : Bd τ) (e : Expr) (F : M τ Opd) : Prop := ∃ t, (∀ X, Γ.Has X → PE X e t) ∧ Mean Γ.K B t F
def MeanT (K : Frag) (B : Bd τ) (t : TT) (F : M τ Bool) : Prop := ∀ s σ H S, Good K B s σ H S → ∀ b s', F s = some (b, s') →
  ∀ Q : Bool → Hp → Prop, (∀ H' S', Good K B s' σ H' S' → Step K B σ s H S s' H' S' → Q b H') → t σ H Q
def DT (Γ : Gam) (B : Bd τ) (e : Expr) (F : M τ Bool) : Prop := ∃ t, (∀ X, Γ.Has X → PT X e t) ∧ MeanT Γ.K B t F
def DW (Γ : Gam) (B : Bd τ) (e : Expr) (F : M τ Bool) : Prop := ∃ t, (∀ X, Γ.Has X → PW X e t) ∧ MeanT Γ.K B t F
/-- a datum or a slot: what stays while more is reckoned -/
def RelS (K : Frag) (S : Hp) (σ : List (Option V)) (v : V) : Opd → Prop
  | .val x => Dq K S v x
  | .slot i => σ[i]? = some (some v)
  | .new _ => False
def RelL (K : Frag) (S : Hp) (σ : List (Option V)) : List V → List Opd → Prop
  | [], [] => True
  | v :: vs, o :: os => RelS K S σ v o ∧ RelL K S σ vs os
  | _, _ => False
def MeanA (K : Frag) (B : Bd τ) (t : TA) (F : M τ (List Opd)) : Prop := ∀ s σ H S, Good K B s σ H S → ∀ os s', F s = some (os, s') →
  ∀ Q : List V → Hp → Prop, (∀ vs H' S', Good K B s' σ H' S' → Step K B σ s H S s' H' S' → RelL K S' σ vs os → Q vs H') → t σ H Q
def DA (Γ : Gam) (B : Bd τ) (es : List Expr) (F : M τ (List Opd)) : Prop := ∃ t, (∀ X, Γ.Has X → PA X es t) ∧ MeanA Γ.K B t F
/-- .. all of them data -/
def MeanV (K : Frag) (B : Bd τ) (t : TA) (F : M τ (List D)) : Prop := ∀ s σ H S, Good K B s σ H S → ∀ os s', F s = some (os, s') →
  ∀ Q : List V → Hp → Prop, (∀ vs H' S', Good K B s' σ H' S' → Step K B σ s H S s' H' S' → DqAll K S' vs os → Q vs H') → t σ H Q
def DV (Γ : Gam) (B : Bd τ) (es : List Expr) (F : M τ (List D)) : Prop := ∃ t, (∀ X, Γ.Has X → PA X es t) ∧ MeanV Γ.K B t F

theorem bnd_some {m : M τ α} {f : α → M τ β} {s s'' : Stt τ} {b : β} (h : bnd m f s = some (b, s'')) : ∃ a s', m s = some (a, s') ∧ f a s' = some (b, s'') := by
  unfold bnd at h
  split at h
  · cases h
  · rename_i a s' e
    exact ⟨a, s', e, h⟩
theorem lift_some {o : Option α} {s s' : Stt τ} {a : α} (h : lift o s = some (a, s')) : o = some a ∧ s' = s := by
  unfold lift at h
  split at h
  · cases h
  · cases h; exact ⟨rfl, rfl⟩
theorem ret_some {a b : α} {s s' : Stt τ} (h : ret a s = some (b, s')) : b = a ∧ s' = s := by cases h; exact ⟨rfl, rfl⟩

section
variable {K : Frag} {B : Bd τ} {s s' : Stt τ} {σ : List (Option V)} {H S : Hp}
/-- a value that has come, as a datum -/
theorem Mean.val {t : TE} {F : M τ Opd} (m : Mean K B t F) (g : Good K B s σ H S) {d : D} (e : valM F s = some (d, s')) {Q : VK}
    (h : ∀ v H' S', Good K B s' σ H' S' → Step K B σ s H S s' H' S' → Dq K S' v d → Q v H') : t σ H Q := by
  obtain ⟨o, s1, e1, e2⟩ := bnd_some e
  refine m s σ H S g o s1 e1 Q fun v H1 S1 g1 w1 r1 f1 => ?_
  obtain ⟨S2, w2, g2, r2, f2⟩ := toD_of g1 r1 e2
  refine h v H1 S2 g2 ⟨w1.same.trans w2, w1.dom, fun p xs f => f2 p xs (fun ys q z => ?_) (w1.free p xs f)⟩ r2
  subst q
  obtain ⟨p', z', n⟩ := f1
  rw [z] at z'
  cases z'
  obtain ⟨vs, q, _⟩ := f.at_
  rw [n] at q
  cases q
/-- .. as an operand that stays -/
theorem Mean.late {t : TE} {F : M τ Opd} (m : Mean K B t F) (g : Good K B s σ H S) {o : Opd} (e : lateM F s = some (o, s')) {Q : VK}
    (h : ∀ v H' S', Good K B s' σ H' S' → Step K B σ s H S s' H' S' → RelS K S' σ v o → Q v H') : t σ H Q := by
  obtain ⟨o1, s1, e1, e2⟩ := bnd_some e
  cases o1 with
  | val x => cases e2; exact m s σ H S g _ _ e1 Q fun v H1 S1 g1 w1 r1 _ => h v H1 S1 g1 w1 r1
  | slot i => cases e2; exact m s σ H S g _ _ e1 Q fun v H1 S1 g1 w1 r1 _ => h v H1 S1 g1 w1 r1
  | new xs =>
    cases e2
    exact m.val g (d := .list xs) (s' := s') (by unfold valM bnd; rw [e1]; rfl) fun v H1 S1 g1 w1 r1 => h v H1 S1 g1 w1 r1
theorem RelS.mono {K : Frag} {S S' : Hp} {σ : List (Option V)} {v : V} {o : Opd} (w : Same S S') (r : RelS K S σ v o) : RelS K S' σ v o := by
  cases o with
  | val x => exact Dq.mono w r
  | slot i => exact r
  | new xs => exact r
theorem RelS.rel {v : V} {o : Opd} (r : RelS K S σ v o) : RelO K B s σ H S v o := by
  cases o with
  | val x => exact r
  | slot i => exact r
  | new xs => exact r.elim
theorem RelL.mono {K : Frag} {S S' : Hp} {σ : List (Option V)} (w : Same S S') : ∀ {vs : List V} {os : List Opd}, RelL K S σ vs os → RelL K S' σ vs os
  | [], [], _ => trivial
  | _ :: _, _ :: _, h => ⟨h.1.mono w, RelL.mono w h.2⟩
end

/-! ### names, constants -/
def nameM (i : Nat) : M τ Opd := fun s => match s.env[i]? with
  | some (some (.d _)) => some (.slot i, s)
  | some (some (.own _)) => some (.slot i, s)
  | _ => none
section
variable {Γ : Gam} {B : Bd τ} {pos : Pos}
theorem DO.name {i : Nat} {x : Str} (hN : Γ.N[i]? = some x) (hv : Vis Γ.sc x) (hd : (x == ("__debug__" : Str)) = false := by decide) (hcd : (x == ("__classdict__" : Str)) = false := by decide) : DO Γ B (.Name x pos) (nameM i) := by
  refine ⟨tVar i, fun X h => pe_var (by rw [h.N]; exact hN) (by rw [h.sc]; exact hv) hd hcd, fun s σ H S g o s' e Q q => ?_⟩
  have fin : ∀ z, s.env[i]? = some (some z) → o = .slot i → s' = s → tVar i σ H Q := fun z q1 q2 q3 => by
    subst q2; subst q3
    obtain ⟨v, h1, _⟩ := g.slot i z q1
    exact ⟨v, h1, q v H S g Step.refl h1 trivial⟩
  unfold nameM at e
  split at e
  · rename_i q1; cases e; exact fin _ q1 rfl rfl
  · rename_i q1; cases e; exact fin _ q1 rfl rfl
  · cases e
theorem mean_c {v : V} {d : D} (h : ∀ S, Dq Γ.K S v d) : Mean Γ.K B (tC v) (ret (.val d)) := fun s σ H S g o s' e Q q => by
  obtain ⟨rfl, rfl⟩ := ret_some e
  exact q v H S g Step.refl (h S) trivial
theorem DO.int {i : Int} {j} : DO Γ B (.Constant (.int i) j pos) (ret (.val (.int i))) := ⟨_, fun X h => pe_int, mean_c fun _ => .int i⟩
theorem DO.bl {b : Bool} {j} : DO Γ B (.Constant (.bool b) j pos) (ret (.val (.bool b))) := ⟨_, fun X h => pe_bl, mean_c fun _ => .bl b⟩
theorem DO.non {j} : DO Γ B (.Constant .none j pos) (ret (.val .none)) := ⟨_, fun X h => pe_non, mean_c fun _ => .non⟩
theorem DO.str {x : Str} {j} : DO Γ B (.Constant (.str x) j pos) (ret (.val (.str x))) := ⟨_, fun X h => pe_str, mean_c fun _ => .str x⟩
theorem gl_of {X : Cx} (h : Γ.Has X) {x : Str} (hg : Γ.sc.names.lookup x = some .globalImplicit) : Gl X x := by
  show X.env.scope.names.lookup x = _
  rw [h.sc]; exact hg
/-- a constant of the module -/
theorem DO.glob {x : Str} {u : Value} {v : V} {d : D} (hg : Γ.sc.names.lookup x = some .globalImplicit) (hm : Γ.mg x = some u) (r : RelV v u) (hd : ∀ S, Dq Γ.K S v d) (hdb : (x == ("__debug__" : Str)) = false := by decide) :
    DO Γ B (.Name x pos) (ret (.val d)) := ⟨tC v, fun X h => pe_glob (gl_of h hg) (by rw [h.mg]; exact hm) r hdb, mean_c hd⟩
end

/-! ### what an operation hands on -/
inductive ResR (K : Frag) (H S : Hp) : V → Hp → Hp → Opd → Prop
  | val {z : V} {H' S' : Hp} {d : D} : Grow H S H' S' → Dq K S' z d → ResR K H S z H' S' (.val d)
  | new {p : Addr} {vs : List V} {xs : List D} : H p = none → DqAll K S vs xs → ResR K H S (.ref p) (upd H p (.lst vs)) S (.new xs)
theorem ResR.good {K : Frag} {B : Bd τ} {s : Stt τ} {σ : List (Option V)} {H S H' S' : Hp} {z : V} {o : Opd} (g : Good K B s σ H S) (r : ResR K H S z H' S' o) :
    Good K B s σ H' S' ∧ Step K B σ s H S s H' S' ∧ RelO K B s σ H' S' z o ∧ FreshO H z o := by
  cases r with
  | val w h => exact ⟨g.grow w, w.step, h, trivial⟩
  | new n h =>
    obtain ⟨g', f⟩ := Good.free g n h
    exact ⟨g', (Grow.fresh g.fr.sub n).step, ⟨_, rfl, f⟩, _, rfl, n⟩
theorem FreshO.dom {K : Frag} {B : Bd τ} {σ : List (Option V)} {s s1 : Stt τ} {H S H1 S1 : Hp} {v : V} {o : Opd} (f : FreshO H1 v o) (w : Step K B σ s H S s1 H1 S1) : FreshO H v o := by
  cases o with
  | new xs =>
    obtain ⟨p, e, n⟩ := f
    exact ⟨p, e, w.dom p n⟩
  | _ => trivial
def OpM (K : Frag) (r : R2) (op : D → D → Option Opd) : Prop := ∀ H S v u x y o, Same S H → View K H S v x → View K H S u y → op x y = some o →
  ∀ Q : VK, (∀ z H' S', ResR K H S z H' S' o → Q z H') → r v u H Q
def OpD (Γ : Gam) (f : Value → Value → Sem Value) (op : D → D → Option Opd) : Prop := ∃ r, (∀ X, Γ.Has X → OpR X f r) ∧ OpM Γ.K r op
def op2 (op : D → D → Option Opd) (Fa Fb : M τ Opd) : M τ Opd := bnd (lateM Fa) fun o1 => bnd Fb fun o2 => bnd (getO o1) fun x => bnd (getO o2) fun y => lift (op x y)
/-- one operation or another -/
def orO (f g : D → D → Option Opd) : D → D → Option Opd := fun x y => match f x y with
  | some o => some o
  | none => g x y
theorem OpD.or {Γ : Gam} {f : Value → Value → Sem Value} {g1 g2 : D → D → Option Opd} (h1 : OpD Γ f g1) (h2 : OpD Γ f g2) : OpD Γ f (orO g1 g2) := by
  obtain ⟨r1, a1, b1⟩ := h1
  obtain ⟨r2, a2, b2⟩ := h2
  refine ⟨_, fun X h => OpR.or (a1 X h) (a2 X h), fun H S v u x y o w vx vy e Q q => ?_⟩
  unfold orO at e
  split at e
  · rename_i o' e'
    cases e
    exact .inl (b1 H S v u x y _ w vx vy e' Q q)
  · exact .inr (b2 H S v u x y o w vx vy e Q q)
section
variable {Γ : Gam} {B : Bd τ} {pos : Pos} {a b c : Expr} {Fa Fb Fc : M τ Opd}
theorem mean_op {ta tb : TE} {r : R2} {op : D → D → Option Opd} (ha : Mean Γ.K B ta Fa) (hb : Mean Γ.K B tb Fb) (ho : OpM Γ.K r op) : Mean Γ.K B (tOp r ta tb) (op2 op Fa Fb) := fun s σ H S g o s' e Q q => by
  obtain ⟨o1, s1, e1, e⟩ := bnd_some e
  obtain ⟨o2, s2, e2, e⟩ := bnd_some e
  obtain ⟨x, s3, e3, e⟩ := bnd_some e
  obtain ⟨y, s4, e4, e⟩ := bnd_some e
  obtain ⟨ez, rfl⟩ := lift_some e
  refine ha.late g e1 fun v H1 S1 g1 w1 r1 => ?_
  refine hb s1 σ H1 S1 g1 o2 s2 e2 _ fun u H2 S2 g2 w2 r2 _ => ?_
  obtain ⟨rfl, vx⟩ := view_of g2 ((r1.mono w2.same).rel) e3
  obtain ⟨rfl, vy⟩ := view_of g2 r2 e4
  refine ho H2 S2 v u x y o g2.fr.sub vx vy ez Q fun z H3 S3 rr => ?_
  obtain ⟨g3, w3, r3, f3⟩ := rr.good g2
  exact q z H3 S3 g3 ((w1.trans w2).trans w3) r3 (f3.dom (w1.trans w2))
theorem DO.bin {op : Operator} {f : D → D → Option Opd} (ho : OpD Γ (binaryOp op) f) (ha : DO Γ B a Fa) (hb : DO Γ B b Fb) : DO Γ B (.BinOp a op b pos) (op2 f Fa Fb) := by
  obtain ⟨ta, pa, ma⟩ := ha
  obtain ⟨tb, pb, mb⟩ := hb
  obtain ⟨r, ro, mo⟩ := ho
  exact ⟨_, fun X h => pe_op (ro X h) (pa X h) (pb X h), mean_op ma mb mo⟩
theorem DO.cmp {op : CmpOp} {f : D → D → Option Opd} (ho : OpD Γ (compareOp op) f) (ha : DO Γ B a Fa) (hb : DO Γ B b Fb) (hm : behindInMarks op b = false) : DO Γ B (.Compare a [op] [b] pos) (op2 f Fa Fb) := by
  obtain ⟨ta, pa, ma⟩ := ha
  obtain ⟨tb, pb, mb⟩ := hb
  obtain ⟨r, ro, mo⟩ := ho
  exact ⟨_, fun X h => pe_cmpR (ro X h) (pa X h) (pb X h) hm, mean_op ma mb mo⟩
/-- the truth of a value that is True or False -/
def boolO (o : Opd) : M τ Bool := bnd (getO o) fun x => match x with
  | .bool b => ret b
  | _ => stuck
theorem mean_test {t : TE} {F : M τ Opd} (h : Mean Γ.K B t F) : MeanT Γ.K B (tTest t) (bnd F boolO) := fun s σ H S g k s' e Q q => by
  obtain ⟨o, s1, e1, e⟩ := bnd_some e
  obtain ⟨x, s2, e2, e⟩ := bnd_some e
  refine h s σ H S g o s1 e1 _ fun v H1 S1 g1 w1 r1 _ => ?_
  obtain ⟨rfl, vx⟩ := view_of g1 r1 e2
  cases x with
  | bool c =>
    obtain ⟨rfl, rfl⟩ := ret_some e
    obtain rfl := vx.bl
    exact ⟨k, rfl, q H1 S1 g1 w1⟩
  | _ => cases e
theorem DT.cmp {op : CmpOp} {f : D → D → Option Opd} (ho : OpD Γ (compareOp op) f) (ha : DO Γ B a Fa) (hb : DO Γ B b Fb) (hm : behindInMarks op b = false) : DT Γ B (.Compare a [op] [b] pos) (bnd (op2 f Fa Fb) boolO) := by
  obtain ⟨ta, pa, ma⟩ := ha
  obtain ⟨tb, pb, mb⟩ := hb
  obtain ⟨r, ro, mo⟩ := ho
  exact ⟨_, fun X h => pt_cmpR (ro X h) (pa X h) (pb X h) hm, mean_test (mean_op ma mb mo)⟩
/-- a value as a test: calls, names, subscripts -/
theorem DT.val {F : M τ Opd} (ha : DO Γ B a F) (he : ∀ X : Cx, ∀ whole, isTrue a X.env whole = (do let v ← whole; standAt a.pos; holding [v] (truthy v)) := by intro _ _; rfl) : DT Γ B a (bnd F boolO) := by
  obtain ⟨ta, pa, ma⟩ := ha
  exact ⟨_, fun X h => pt_val (pa X h) (he X), mean_test ma⟩
/-- a op b op' c -/
def chainM (f f' : D → D → Option Opd) (Fa Fb Fc : M τ Opd) : M τ Opd := bnd (lateM Fa) fun o1 => bnd (lateM Fb) fun o2 => bnd (getO o1) fun x => bnd (getO o2) fun y => bnd (lift (f x y)) fun o => bnd (boolO o) fun k =>
  if k then bnd Fc fun o3 => bnd (getO o2) fun y => bnd (getO o3) fun z => lift (f' y z) else ret (.val (.bool false))
theorem mean_chain {ta tb tc : TE} {r r' : R2} {f f' : D → D → Option Opd} (ha : Mean Γ.K B ta Fa) (hb : Mean Γ.K B tb Fb) (hc : Mean Γ.K B tc Fc) (ho : OpM Γ.K r f) (ho' : OpM Γ.K r' f') :
    Mean Γ.K B (tChain r r' ta tb tc) (chainM f f' Fa Fb Fc) := fun s σ H S g o s' e Q q => by
  obtain ⟨o1, s1, e1, e⟩ := bnd_some e
  obtain ⟨o2, s2, e2, e⟩ := bnd_some e
  obtain ⟨x, s3, e3, e⟩ := bnd_some e
  obtain ⟨y, s4, e4, e⟩ := bnd_some e
  obtain ⟨ok, s5, e5, eA⟩ := bnd_some e
  obtain ⟨k, s6, e6, eB⟩ := bnd_some eA
  obtain ⟨ez5, rfl⟩ := lift_some e5
  refine ha.late g e1 fun v H1 S1 g1 w1 r1 => ?_
  refine hb.late g1 e2 fun u H2 S2 g2 w2 r2 => ?_
  obtain ⟨rfl, vx⟩ := view_of g2 ((r1.mono w2.same).rel) e3
  obtain ⟨rfl, vy⟩ := view_of g2 r2.rel e4
  refine ho H2 S2 v u x y ok g2.fr.sub vx vy ez5 _ fun z H3 S3 rr => ?_
  obtain ⟨g3, w3, r3, _⟩ := rr.good g2
  obtain ⟨bx, s7, e7, e8⟩ := bnd_some e6
  obtain ⟨rfl, vz⟩ := view_of g3 r3 e7
  cases bx with
  | bool c =>
    obtain ⟨rfl, rfl⟩ := ret_some e8
    obtain rfl := vz.bl
    refine ⟨k, rfl, ?_⟩
    cases k with
    | false =>
      obtain ⟨rfl, rfl⟩ := ret_some eB
      exact q _ H3 S3 g3 ((w1.trans w2).trans w3) (.bl false) trivial
    | true =>
      obtain ⟨o3, s8, e8, e⟩ := bnd_some (show (bnd Fc fun o3 => bnd (getO o2) fun y => bnd (getO o3) fun z => lift (f' y z)) _ = some (o, s') from eB)
      obtain ⟨y', s9, e9, e⟩ := bnd_some e
      obtain ⟨z', s10, e10, e⟩ := bnd_some e
      obtain ⟨ez, rfl⟩ := lift_some e
      refine hc _ σ H3 S3 g3 o3 s8 e8 _ fun w H4 S4 g4 w4 r4 _ => ?_
      obtain ⟨rfl, vy'⟩ := view_of g4 ((r2.mono (w3.trans w4).same).rel) e9
      obtain ⟨rfl, vz'⟩ := view_of g4 r4 e10
      refine ho' H4 S4 u w y' z' o g4.fr.sub vy' vz' ez Q fun z5 H5 S5 rr5 => ?_
      obtain ⟨g5, w5, r5, f5⟩ := rr5.good g4
      exact q z5 H5 S5 g5 ((((w1.trans w2).trans w3).trans w4).trans w5) r5 (f5.dom (((w1.trans w2).trans w3).trans w4))
  | _ => cases e8
theorem DO.chain {op op' : CmpOp} {f f' : D → D → Option Opd} (ho : OpD Γ (compareOp op) f) (ho' : OpD Γ (compareOp op') f') (ha : DO Γ B a Fa) (hb : DO Γ B b Fb) (hc : DO Γ B c Fc)
    (hm : lastMarks [op, op'] [b, c] = false := by with_unfolding_all rfl) : DO Γ B (.Compare a [op, op'] [b, c] pos) (chainM f f' Fa Fb Fc) := by
  obtain ⟨ta, pa, ma⟩ := ha
  obtain ⟨tb, pb, mb⟩ := hb
  obtain ⟨tc, pc, mc⟩ := hc
  obtain ⟨r, ro, mo⟩ := ho
  obtain ⟨r', ro', mo'⟩ := ho'
  exact ⟨_, fun X h => pe_chain (ro X h) (ro' X h) (pa X h) (pb X h) (pc X h) hm, mean_chain ma mb mc mo mo'⟩
theorem DT.chain {op op' : CmpOp} {f f' : D → D → Option Opd} (ho : OpD Γ (compareOp op) f) (ho' : OpD Γ (compareOp op') f') (ha : DO Γ B a Fa) (hb : DO Γ B b Fb) (hc : DO Γ B c Fc)
    (hm : lastMarks [op, op'] [b, c] = false := by with_unfolding_all rfl) : DT Γ B (.Compare a [op, op'] [b, c] pos) (bnd (chainM f f' Fa Fb Fc) boolO) := by
  obtain ⟨ta, pa, ma⟩ := ha
  obtain ⟨tb, pb, mb⟩ := hb
  obtain ⟨tc, pc, mc⟩ := hc
  obtain ⟨r, ro, mo⟩ := ho
  obtain ⟨r', ro', mo'⟩ := ho'
  exact ⟨_, fun X h => pt_chain (ro X h) (ro' X h) (pa X h) (pb X h) (pc X h) hm, mean_test (mean_chain ma mb mc mo mo')⟩
end

/-! ### and, or, not, if else -/
section
variable {Γ : Gam} {B : Bd τ} {pos : Pos} {a b c : Expr} {rest : List Expr} {Ta Tb : M τ Bool} {Fa Fb : M τ Opd}
def andT (F G : M τ Bool) : M τ Bool := bnd F fun k => if k then G else ret false
def orT (F G : M τ Bool) : M τ Bool := bnd F fun k => if k then ret true else G
def notT (F : M τ Bool) : M τ Bool := bnd F fun k => ret (!k)
theorem meanT_and {ta tb : TT} (ha : MeanT Γ.K B ta Ta) (hb : MeanT Γ.K B tb Tb) : MeanT Γ.K B (tAnd ta tb) (andT Ta Tb) := fun s σ H S g k s' e Q q => by
  obtain ⟨c, s1, e1, e⟩ := bnd_some e
  refine ha s σ H S g c s1 e1 _ fun H1 S1 g1 w1 => ?_
  cases c with
  | true => exact iteT (hb s1 σ H1 S1 g1 k s' e Q fun H2 S2 g2 w2 => q H2 S2 g2 (w1.trans w2))
  | false =>
    obtain ⟨rfl, rfl⟩ := ret_some e
    exact iteF (q H1 S1 g1 w1)
theorem meanT_or {ta tb : TT} (ha : MeanT Γ.K B ta Ta) (hb : MeanT Γ.K B tb Tb) : MeanT Γ.K B (tOr ta tb) (orT Ta Tb) := fun s σ H S g k s' e Q q => by
  obtain ⟨c, s1, e1, e⟩ := bnd_some e
  refine ha s σ H S g c s1 e1 _ fun H1 S1 g1 w1 => ?_
  cases c with
  | false => exact iteF (hb s1 σ H1 S1 g1 k s' e Q fun H2 S2 g2 w2 => q H2 S2 g2 (w1.trans w2))
  | true =>
    obtain ⟨rfl, rfl⟩ := ret_some e
    exact iteT (q H1 S1 g1 w1)
theorem DW.pt (h : DW Γ B a Ta) : DT Γ B a Ta := by
  obtain ⟨t, p, m⟩ := h
  exact ⟨t, fun X h => (p X h).pt, m⟩
theorem DW.and1 (ha : DT Γ B a Ta) : DW Γ B (.BoolOp .And [a] pos) Ta := by
  obtain ⟨t, p, m⟩ := ha
  exact ⟨t, fun X h => pw_and1 (p X h), m⟩
theorem DW.or1 (ha : DT Γ B a Ta) : DW Γ B (.BoolOp .Or [a] pos) Ta := by
  obtain ⟨t, p, m⟩ := ha
  exact ⟨t, fun X h => pw_or1 (p X h), m⟩
theorem DW.and (ha : DT Γ B a Ta) (hb : DW Γ B (.BoolOp .And (b :: rest) pos) Tb) : DW Γ B (.BoolOp .And (a :: b :: rest) pos) (andT Ta Tb) := by
  obtain ⟨ta, pa, ma⟩ := ha
  obtain ⟨tb, pb, mb⟩ := hb
  exact ⟨_, fun X h => pw_and (pa X h) (pb X h), meanT_and ma mb⟩
theorem DW.or (ha : DT Γ B a Ta) (hb : DW Γ B (.BoolOp .Or (b :: rest) pos) Tb) : DW Γ B (.BoolOp .Or (a :: b :: rest) pos) (orT Ta Tb) := by
  obtain ⟨ta, pa, ma⟩ := ha
  obtain ⟨tb, pb, mb⟩ := hb
  exact ⟨_, fun X h => pw_or (pa X h) (pb X h), meanT_or ma mb⟩
theorem DT.not (ha : DT Γ B a Ta) : DT Γ B (.UnaryOp .Not a pos) (notT Ta) := by
  obtain ⟨ta, pa, ma⟩ := ha
  refine ⟨_, fun X h => pt_not (pa X h), fun s σ H S g k s' e Q q => ?_⟩
  obtain ⟨c, s1, e1, e⟩ := bnd_some e
  obtain ⟨rfl, rfl⟩ := ret_some e
  exact ma s σ H S g c _ e1 _ q
/-- .. as values -/
def andV (F : M τ Opd) (G : M τ Opd) : M τ Opd := bnd (bnd F boolO) fun k => if k then G else ret (.val (.bool false))
def orV (F : M τ Opd) (G : M τ Opd) : M τ Opd := bnd (bnd F boolO) fun k => if k then ret (.val (.bool true)) else G
def notV (F : M τ Opd) : M τ Opd := bnd (bnd F boolO) fun k => ret (.val (.bool (!k)))
theorem DO.one {op} (ha : DO Γ B a Fa) : DO Γ B (.BoolOp op [a] pos) Fa := by
  obtain ⟨t, p, m⟩ := ha
  exact ⟨t, fun X h => pe_one (p X h), m⟩
theorem DO.and (ha : DO Γ B a Fa) (hb : DO Γ B (.BoolOp .And (b :: rest) pos) Fb) : DO Γ B (.BoolOp .And (a :: b :: rest) pos) (andV Fa Fb) := by
  obtain ⟨ta, pa, ma⟩ := ha
  obtain ⟨tb, pb, mb⟩ := hb
  refine ⟨_, fun X h => pe_and (pa X h) (pb X h), fun s σ H S g o s' e Q q => ?_⟩
  obtain ⟨k, s1, e1, e⟩ := bnd_some e
  refine mean_test ma s σ H S g k s1 e1 (fun k H1 => if k = true then tb σ H1 Q else Q (.bl false) H1) fun H1 S1 g1 w1 => ?_
  cases k with
  | true => exact iteT (mb s1 σ H1 S1 g1 o s' e Q fun v H2 S2 g2 w2 r2 f2 => q v H2 S2 g2 (w1.trans w2) r2 (f2.dom w1))
  | false =>
    obtain ⟨rfl, rfl⟩ := ret_some e
    exact iteF (q _ H1 S1 g1 w1 (.bl false) trivial)
theorem DO.or (ha : DO Γ B a Fa) (hb : DO Γ B (.BoolOp .Or (b :: rest) pos) Fb) : DO Γ B (.BoolOp .Or (a :: b :: rest) pos) (orV Fa Fb) := by
  obtain ⟨ta, pa, ma⟩ := ha
  obtain ⟨tb, pb, mb⟩ := hb
  refine ⟨_, fun X h => pe_or (pa X h) (pb X h), fun s σ H S g o s' e Q q => ?_⟩
  obtain ⟨k, s1, e1, e⟩ := bnd_some e
  refine mean_test ma s σ H S g k s1 e1 (fun k H1 => if k = true then Q (.bl true) H1 else tb σ H1 Q) fun H1 S1 g1 w1 => ?_
  cases k with
  | false => exact iteF (mb s1 σ H1 S1 g1 o s' e Q fun v H2 S2 g2 w2 r2 f2 => q v H2 S2 g2 (w1.trans w2) r2 (f2.dom w1))
  | true =>
    obtain ⟨rfl, rfl⟩ := ret_some e
    exact iteT (q _ H1 S1 g1 w1 (.bl true) trivial)
theorem DO.not (ha : DO Γ B a Fa) : DO Γ B (.UnaryOp .Not a pos) (notV Fa) := by
  obtain ⟨ta, pa, ma⟩ := ha
  refine ⟨_, fun X h => pe_not (pa X h), fun s σ H S g o s' e Q q => ?_⟩
  obtain ⟨k, s1, e1, e⟩ := bnd_some e
  obtain ⟨rfl, rfl⟩ := ret_some e
  exact mean_test ma s σ H S g k _ e1 (fun k H1 => Q (.bl (!k)) H1) fun H1 S1 g1 w1 => q _ H1 S1 g1 w1 (.bl _) trivial
def iteM (T : M τ Bool) (F G : M τ Opd) : M τ Opd := bnd T fun k => if k then F else G
theorem DO.ite {Tc : M τ Bool} (hc : DT Γ B c Tc) (ha : DO Γ B a Fa) (hb : DO Γ B b Fb) : DO Γ B (.IfExp c a b pos) (iteM Tc Fa Fb) := by
  obtain ⟨tc, pc, mc⟩ := hc
  obtain ⟨ta, pa, ma⟩ := ha
  obtain ⟨tb, pb, mb⟩ := hb
  refine ⟨_, fun X h => pe_ifExp (pc X h) (pa X h) (pb X h), fun s σ H S g o s' e Q q => ?_⟩
  obtain ⟨k, s1, e1, e⟩ := bnd_some e
  refine mc s σ H S g k s1 e1 _ fun H1 S1 g1 w1 => ?_
  cases k with
  | true => exact iteT (ma s1 σ H1 S1 g1 o s' e Q fun v H2 S2 g2 w2 r2 f2 => q v H2 S2 g2 (w1.trans w2) r2 (f2.dom w1))
  | false => exact iteF (mb s1 σ H1 S1 g1 o s' e Q fun v H2 S2 g2 w2 r2 f2 => q v H2 S2 g2 (w1.trans w2) r2 (f2.dom w1))
end

/-! ### arguments, displays -/
section
variable {Γ : Gam} {B : Bd τ} {pos : Pos} {e : Expr} {es : List Expr}
def nilM : M τ (List α) := ret []
def consO (F : M τ Opd) (G : M τ (List Opd)) : M τ (List Opd) := bnd (lateM F) fun o => bnd G fun os => ret (o :: os)
def consD (F : M τ Opd) (G : M τ (List D)) : M τ (List D) := bnd (valM F) fun d => bnd G fun ds => ret (d :: ds)
theorem DA.nil : DA Γ B [] nilM := ⟨_, fun X h => pa_nil, fun s σ H S g os s' e Q q => by
  obtain ⟨rfl, rfl⟩ := ret_some e
  exact q [] H S g Step.refl trivial⟩
theorem DA.cons {F : M τ Opd} {G : M τ (List Opd)} (h : DO Γ B e F) (hs : DA Γ B es G) (hst : ∀ X : Cx, starEach (e :: es) X.env = (false, eval e X.env) :: starEach es X.env := by intro _; rfl) : DA Γ B (e :: es) (consO F G) := by
  obtain ⟨t, p, m⟩ := h
  obtain ⟨u, pu, mu⟩ := hs
  refine ⟨_, fun X h => pa_cons (p X h) (pu X h) (hst X), fun s σ H S g os s' e Q q => ?_⟩
  obtain ⟨o, s1, e1, e⟩ := bnd_some e
  obtain ⟨os', s2, e2, e⟩ := bnd_some e
  obtain ⟨rfl, rfl⟩ := ret_some e
  refine m.late g e1 fun v H1 S1 g1 w1 r1 => ?_
  exact mu s1 σ H1 S1 g1 os' _ e2 _ fun vs H2 S2 g2 w2 r2 => q _ H2 S2 g2 (w1.trans w2) ⟨r1.mono w2.same, r2⟩
theorem DV.nil : DV Γ B [] nilM := ⟨_, fun X h => pa_nil, fun s σ H S g os s' e Q q => by
  obtain ⟨rfl, rfl⟩ := ret_some e
  exact q [] H S g Step.refl .nil⟩
theorem DV.cons {F : M τ Opd} {G : M τ (List D)} (h : DO Γ B e F) (hs : DV Γ B es G) (hst : ∀ X : Cx, starEach (e :: es) X.env = (false, eval e X.env) :: starEach es X.env := by intro _; rfl) : DV Γ B (e :: es) (consD F G) := by
  obtain ⟨t, p, m⟩ := h
  obtain ⟨u, pu, mu⟩ := hs
  refine ⟨_, fun X h => pa_cons (p X h) (pu X h) (hst X), fun s σ H S g os s' e Q q => ?_⟩
  obtain ⟨o, s1, e1, e⟩ := bnd_some e
  obtain ⟨os', s2, e2, e⟩ := bnd_some e
  obtain ⟨rfl, rfl⟩ := ret_some e
  refine m.val g e1 fun v H1 S1 g1 w1 r1 => ?_
  exact mu s1 σ H1 S1 g1 os' _ e2 _ fun vs H2 S2 g2 w2 r2 => q _ H2 S2 g2 (w1.trans w2) (.cons (Dq.mono w2.same r1) r2)
def fitsL (ds : List D) : Bool := decide (ds.length ≤ sizeLine)
def tupM (G : M τ (List D)) : M τ Opd := bnd G fun ds => if fitsL ds then ret (.val (.tuple ds)) else stuck
def lstM (G : M τ (List D)) : M τ Opd := bnd G fun ds => if fitsL ds then ret (.new ds) else stuck
theorem DO.tup {x1} {G : M τ (List D)} (h : DV Γ B es G) : DO Γ B (.Tuple es x1 pos) (tupM G) := by
  obtain ⟨t, p, m⟩ := h
  refine ⟨_, fun X h => pe_tup (p X h), fun s σ H S g o s' e Q q => ?_⟩
  obtain ⟨ds, s1, e1, e⟩ := bnd_some e
  by_cases hf : fitsL ds = true
  · rw [if_pos hf] at e
    obtain ⟨rfl, rfl⟩ := ret_some e
    refine m s σ H S g ds _ e1 _ fun vs H1 S1 g1 w1 r1 => ⟨by rw [r1.len]; exact of_decide_eq_true hf, fun p n => ?_⟩
    have w := Grow.alloc (o := .tup vs) g1.fr.sub n
    exact q _ _ _ (g1.grow w) (w1.trans w.step) (.tup (SqT.of upd_same) (DqAll.mono w.s r1)) trivial
  · rw [if_neg hf] at e
    cases e
theorem DO.lst {G : M τ (List D)} (h : DV Γ B es G) : DO Γ B (.List es pos) (lstM G) := by
  obtain ⟨t, p, m⟩ := h
  refine ⟨_, fun X h => pe_lst (p X h), fun s σ H S g o s' e Q q => ?_⟩
  obtain ⟨ds, s1, e1, e⟩ := bnd_some e
  by_cases hf : fitsL ds = true
  · rw [if_pos hf] at e
    obtain ⟨rfl, rfl⟩ := ret_some e
    refine m s σ H S g ds _ e1 _ fun vs H1 S1 g1 w1 r1 => ⟨by rw [r1.len]; exact of_decide_eq_true hf, fun p n => ?_⟩
    obtain ⟨g2, f⟩ := Good.free g1 n r1
    exact q _ _ _ g2 (w1.trans (Grow.fresh g1.fr.sub n).step) ⟨p, rfl, f⟩ ⟨p, rfl, w1.dom p n⟩
  · rw [if_neg hf] at e
    cases e
end

/-! ### subscripts, slices, calls -/
section
variable {Γ : Gam} {B : Bd τ} {pos : Pos} {a b e : Expr} {es : List Expr} {Fa Fb : M τ Opd}
theorem DO.ix {f : D → D → Option Opd} (ho : ∃ r, (∀ X, Γ.Has X → IxR X r) ∧ OpM Γ.K r f) (ha : DO Γ B a Fa) (hb : DO Γ B b Fb) (hs : PlainIx b := by intro _ _; rfl) : DO Γ B (.Subscript a b pos) (op2 f Fa Fb) := by
  obtain ⟨ta, pa, ma⟩ := ha
  obtain ⟨tb, pb, mb⟩ := hb
  obtain ⟨r, ro, mo⟩ := ho
  exact ⟨_, fun X h => pe_ix (ro X h) (pa X h) (pb X h) hs, mean_op ma mb mo⟩
/-- a part of a slice -/
def MeanP (K : Frag) (B : Bd τ) (t : TO) (F : M τ (Option Int)) : Prop := ∀ s σ H S, Good K B s σ H S → ∀ o s', F s = some (o, s') →
  ∀ Q : Option Int → Hp → Prop, (∀ H' S', Good K B s' σ H' S' → Step K B σ s H S s' H' S' → Q o H') → t σ H Q
def DP (Γ : Gam) (B : Bd τ) (e : Option Expr) (F : M τ (Option Int)) : Prop := ∃ t, (∀ X, Γ.Has X → PO X e t) ∧ MeanP Γ.K B t F
theorem DP.none : DP Γ B none (ret none) := ⟨_, fun X h => po_none, fun s σ H S g o s' e Q q => by
  obtain ⟨rfl, rfl⟩ := ret_some e
  exact q H S g Step.refl⟩
def intO (o : Opd) : M τ (Option Int) := bnd (getO o) fun x => match x with
  | .int i => ret (some i)
  | _ => stuck
theorem DP.some (ha : DO Γ B a Fa) : DP Γ B (some a) (bnd Fa intO) := by
  obtain ⟨ta, pa, ma⟩ := ha
  refine ⟨_, fun X h => po_some (pa X h), fun s σ H S g o s' e Q q => ?_⟩
  obtain ⟨o1, s1, e1, e⟩ := bnd_some e
  obtain ⟨x, s2, e2, e⟩ := bnd_some e
  refine ma s σ H S g o1 s1 e1 _ fun v H1 S1 g1 w1 r1 _ => ?_
  obtain ⟨rfl, vx⟩ := view_of g1 r1 e2
  cases x with
  | int i =>
    obtain ⟨rfl, rfl⟩ := ret_some e
    obtain rfl := vx.int
    exact ⟨i, rfl, q H1 S1 g1 w1⟩
  | _ => cases e
def SlM (K : Frag) (r : V → Option Int → Option Int → Hp → VK → Prop) (f : D → Option Int → Option Int → Option Opd) : Prop := ∀ H S v x lo hi o, Same S H → View K H S v x → f x lo hi = some o →
  ∀ Q : VK, (∀ z H' S', ResR K H S z H' S' o → Q z H') → r v lo hi H Q
def sliceM (f : D → Option Int → Option Int → Option Opd) (F : M τ Opd) (L U : M τ (Option Int)) : M τ Opd := bnd (lateM F) fun o => bnd L fun l => bnd U fun u => bnd (getO o) fun x => lift (f x l u)
theorem DO.slice {f : D → Option Int → Option Int → Option Opd} {lo hi : Option Expr} {L U : M τ (Option Int)} {p2 : Pos} (ho : ∃ r, (∀ X, Γ.Has X → SlR X r) ∧ SlM Γ.K r f) (ha : DO Γ B a Fa) (hl : DP Γ B lo L) (hh : DP Γ B hi U) :
    DO Γ B (.Subscript a (.Slice lo hi none p2) pos) (sliceM f Fa L U) := by
  obtain ⟨ta, pa, ma⟩ := ha
  obtain ⟨tl, pl, ml⟩ := hl
  obtain ⟨tu, pu, mu⟩ := hh
  obtain ⟨r, ro, mo⟩ := ho
  refine ⟨_, fun X h => pe_slice (ro X h) (pa X h) (pl X h) (pu X h), fun s σ H S g o s' e Q q => ?_⟩
  obtain ⟨o1, s1, e1, e⟩ := bnd_some e
  obtain ⟨l, s2, e2, e⟩ := bnd_some e
  obtain ⟨u, s3, e3, e⟩ := bnd_some e
  obtain ⟨x, s4, e4, e⟩ := bnd_some e
  obtain ⟨ez, rfl⟩ := lift_some e
  refine ma.late g e1 fun v H1 S1 g1 w1 r1 => ?_
  refine ml s1 σ H1 S1 g1 l s2 e2 _ fun H2 S2 g2 w2 => ?_
  refine mu s2 σ H2 S2 g2 u s3 e3 _ fun H3 S3 g3 w3 => ?_
  obtain ⟨rfl, vx⟩ := view_of g3 ((r1.mono (w2.trans w3).same).rel) e4
  refine mo H3 S3 v x l u o g3.fr.sub vx ez Q fun z H4 S4 rr => ?_
  obtain ⟨g4, w4, r4, f4⟩ := rr.good g3
  exact q z H4 S4 g4 (((w1.trans w2).trans w3).trans w4) r4 (f4.dom ((w1.trans w2).trans w3))
/-- operands, looked at -/
def getL : List Opd → M τ (List D)
  | [] => ret []
  | o :: os => bnd (getO o) fun x => bnd (getL os) fun xs => ret (x :: xs)
def ViewL (K : Frag) (H S : Hp) : List V → List D → Prop
  | [], [] => True
  | v :: vs, x :: xs => View K H S v x ∧ ViewL K H S vs xs
  | _, _ => False
theorem viewL_of {K : Frag} {B : Bd τ} {s s' : Stt τ} {σ : List (Option V)} {H S : Hp} (g : Good K B s σ H S) : ∀ {vs : List V} {os : List Opd} {ds : List D}, RelL K S σ vs os → getL os s = some (ds, s') → s' = s ∧ ViewL K H S vs ds
  | [], [], ds, _, e => by
    obtain ⟨rfl, rfl⟩ := ret_some e
    exact ⟨rfl, trivial⟩
  | v :: vs, o :: os, ds, r, e => by
    obtain ⟨x, s1, e1, eA⟩ := bnd_some e
    obtain ⟨xs, s2, e2, eB⟩ := bnd_some eA
    obtain ⟨rfl, rfl⟩ := ret_some eB
    obtain ⟨rfl, vx⟩ := view_of g r.1.rel e1
    obtain ⟨q, vl⟩ := viewL_of g r.2 e2
    exact ⟨q, vx, vl⟩
  | [], _ :: _, _, r, _ => r.elim
  | _ :: _, [], _, r, _ => r.elim
def CallM (K : Frag) (r : List V → Hp → VK → Prop) (f : List D → Option Opd) : Prop := ∀ H S vs xs o, Same S H → ViewL K H S vs xs → f xs = some o →
  ∀ Q : VK, (∀ z H' S', ResR K H S z H' S' o → Q z H') → r vs H Q
def callM (f : List D → Option Opd) (G : M τ (List Opd)) : M τ Opd := bnd G fun os => bnd (getL os) fun xs => lift (f xs)
theorem mean_call {t : TA} {r : List V → Hp → VK → Prop} {f : List D → Option Opd} {G : M τ (List Opd)} (m : MeanA Γ.K B t G) (mo : CallM Γ.K r f) : Mean Γ.K B (tCB r t) (callM f G) := fun s σ H S g o s' e Q q => by
  obtain ⟨os, s1, e1, e⟩ := bnd_some e
  obtain ⟨xs, s2, e2, e⟩ := bnd_some e
  obtain ⟨ez, rfl⟩ := lift_some e
  refine m s σ H S g os s1 e1 _ fun vs H1 S1 g1 w1 r1 => ?_
  obtain ⟨rfl, vl⟩ := viewL_of g1 r1 e2
  refine mo H1 S1 vs xs o g1.fr.sub vl ez Q fun z H2 S2 rr => ?_
  obtain ⟨g2, w2, r2, f2⟩ := rr.good g1
  exact q z H2 S2 g2 (w1.trans w2) r2 (f2.dom w1)
def CallD (Γ : Gam) (fv : Value) (f : List D → Option Opd) : Prop := ∃ r, (∀ X, Γ.Has X → CallR X fv r) ∧ CallM Γ.K r f
theorem DO.callB {x : Str} {id : String} {f : List D → Option Opd} {G : M τ (List Opd)} {p : Pos} (hc : CallD Γ (.builtin id) f) (hg : Γ.sc.names.lookup x = some .globalImplicit) (hm : Γ.mg x = none) (hv : bootBuiltins x = some (.builtin id)) (ha : DA Γ B (e :: es) G)
    (hn : x ≠ "__name__" := by decide) (hdb : (x == ("__debug__" : Str)) = false := by decide) (he : ∀ X : Cx, starEach (e :: es) X.env = (false, eval e X.env) :: starEach es X.env := by intro _; rfl) (hpl : ∀ X : Cx, (backTo pos (starEach es X.env)).any (·.1) = false := by intro _; rfl) :
    DO Γ B (.Call (.Name x p) (e :: es) [] pos) (callM f G) := by
  obtain ⟨t, pa, m⟩ := ha
  obtain ⟨r, ro, mo⟩ := hc
  exact ⟨_, fun X h => pe_callB (ro X h) (gl_of h hg) (by rw [h.mg]; exact hm) hv (pa X h) hn hdb (he X) (hpl X), mean_call m mo⟩
theorem DO.callTy {x : Str} {T : String} {f : List D → Option Opd} {G : M τ (List Opd)} {p : Pos} (hc : CallD Γ (.type T) f) (hg : Γ.sc.names.lookup x = some .globalImplicit) (hm : Γ.mg x = none) (hv : bootBuiltins x = some (.type T)) (ha : DA Γ B (e :: es) G)
    (hn : x ≠ "__name__" := by decide) (hdb : (x == ("__debug__" : Str)) = false := by decide) (he : ∀ X : Cx, starEach (e :: es) X.env = (false, eval e X.env) :: starEach es X.env := by intro _; rfl) (hpl : ∀ X : Cx, (backTo pos (starEach es X.env)).any (·.1) = false := by intro _; rfl) :
    DO Γ B (.Call (.Name x p) (e :: es) [] pos) (callM f G) := by
  obtain ⟨t, pa, m⟩ := ha
  obtain ⟨r, ro, mo⟩ := hc
  exact ⟨_, fun X h => pe_callTy (ro X h) (gl_of h hg) (by rw [h.mg]; exact hm) hv (pa X h) hn hdb (he X) (hpl X), mean_call m mo⟩
end
end DL
end

section
set_option Elab.async false
set_option linter.all false
set_option maxRecDepth 100000
set_option maxHeartbeats 3999999
/-! WEng3: the operations on data -/
namespace DL
open L2 PySem PyProof.Rows PySem.Spec
variable {τ α β : Type}

/-! ### whole numbers -/
def opI (C : Int → Int → Bool) (f : Int → Int → D) : D → D → Option Opd := fun x y => match x, y with
  | .int i, .int j => if C i j then some (.val (f i j)) else none
  | _, _ => none
theorem opM_int {K : Frag} {S H : Hp} {v : V} {d : D} (w : Same S H) (h : Dq K S v d) {Q : VK} (q : ∀ z H' S', ResR K H S z H' S' (.val d) → Q z H') : Q v H := q v H S (.val (Grow.refl w) h)
theorem opI_of {Γ : Gam} {f : Value → Value → Sem Value} {C : Int → Int → Bool} {C' : Int → Int → Prop} {g : Int → Int → V} {d : Int → Int → D} (ho : ∀ X, Γ.Has X → OpR X f (rI C' g)) (hc : ∀ i j, C i j = true → C' i j)
    (hd : ∀ S i j, Dq Γ.K S (g i j) (d i j)) : OpD Γ f (opI C d) := ⟨_, ho, fun H S v u x y o w vx vy e Q q => by
  unfold opI at e
  split at e
  · rename_i i j
    by_cases hC : C i j = true
    · rw [if_pos hC] at e
      cases e
      exact ⟨i, j, vx.int, vy.int, hc i j hC, opM_int w (hd S i j) q⟩
    · rw [if_neg hC] at e
      cases e
  · cases e⟩
theorem opI0_of {Γ : Gam} {f : Value → Value → Sem Value} {g : Int → Int → V} {d : Int → Int → D} (ho : ∀ X, Γ.Has X → OpR X f (rI0 g))
    (hd : ∀ S i j, Dq Γ.K S (g i j) (d i j)) : OpD Γ f (opI (fun _ _ => true) d) := ⟨_, ho, fun H S v u x y o w vx vy e Q q => by
  unfold opI at e
  split at e
  · rename_i i j
    cases e
    exact ⟨i, j, vx.int, vy.int, opM_int w (hd S i j) q⟩
  · cases e⟩
def mulOk (i j : Int) : Bool := decide (i.natAbs.log2 + j.natAbs.log2 < 1000000)
def divOk (_ j : Int) : Bool := decide (0 < j) && decide (j.natAbs.log2 < 9000)
def modOk (_ j : Int) : Bool := decide (0 < j)
def powOk (i j : Int) : Bool := decide (0 ≤ j) && decide (j ≤ 1000000) && decide (i.natAbs < 2 ^ 64)
def subD : D → D → Option Opd := opI (fun _ _ => true) fun i j => .int (i - j)
def fdivD : D → D → Option Opd := opI divOk fun i j => .int (i / j)
def modD : D → D → Option Opd := opI modOk fun i j => .int (i % j)
def powD : D → D → Option Opd := opI powOk fun i j => .int (i ^ j.toNat)
def ltD : D → D → Option Opd := opI (fun _ _ => true) fun i j => .bool (decide (i < j))
def leD : D → D → Option Opd := opI (fun _ _ => true) fun i j => .bool (decide (i ≤ j))
def gtD : D → D → Option Opd := opI (fun _ _ => true) fun i j => .bool (decide (j < i))
def geD : D → D → Option Opd := opI (fun _ _ => true) fun i j => .bool (decide (j ≤ i))
section
variable {Γ : Gam}
theorem od_sub : OpD Γ (binaryOp .Sub) subD := opI0_of (fun _ _ => op_sub) fun _ _ _ => .int _
theorem od_fdiv : OpD Γ (binaryOp .FloorDiv) fdivD := opI_of (fun _ _ => op_fdivW) (fun i j h => by
  have h' := Bool.and_eq_true_iff.mp h
  exact ⟨of_decide_eq_true h'.1, of_decide_eq_true h'.2⟩) fun _ _ _ => .int _
theorem od_mod : OpD Γ (binaryOp .Mod) modD := opI_of (fun _ _ => op_mod) (fun i j h => of_decide_eq_true h) fun _ _ _ => .int _
theorem od_pow : OpD Γ (binaryOp .Pow) powD := opI_of (fun _ _ => op_pow) (fun i j h => by
  have h' := Bool.and_eq_true_iff.mp h
  have h2 := Bool.and_eq_true_iff.mp h'.1
  exact ⟨of_decide_eq_true h2.1, of_decide_eq_true h2.2, of_decide_eq_true h'.2⟩) fun _ _ _ => .int _
theorem od_lt : OpD Γ (compareOp .Lt) ltD := opI0_of (fun _ _ => op_lt) fun _ _ _ => .bl _
theorem od_le : OpD Γ (compareOp .LtE) leD := opI0_of (fun _ _ => op_le) fun _ _ _ => .bl _
theorem od_gt : OpD Γ (compareOp .Gt) gtD := opI0_of (fun _ _ => op_gt) fun _ _ _ => .bl _
theorem od_ge : OpD Γ (compareOp .GtE) geD := opI0_of (fun _ _ => op_ge) fun _ _ _ => .bl _
theorem od_addI : OpD Γ (binaryOp .Add) (opI (fun _ _ => true) fun i j => .int (i + j)) := opI0_of (fun _ _ => op_add) fun _ _ _ => .int _
theorem od_mulI : OpD Γ (binaryOp .Mult) (opI mulOk fun i j => .int (i * j)) := opI_of (fun _ _ => op_mulW) (fun i j h => (of_decide_eq_true h : i.natAbs.log2 + j.natAbs.log2 < 1000000)) fun _ _ _ => .int _

/-! ### sequences added, repeated -/
def catL : D → D → Option Opd := fun x y => match x, y with
  | .list xs, .list ys => if xs.length + ys.length ≤ sizeLine then some (.new (xs ++ ys)) else none
  | _, _ => none
theorem od_catL : OpD Γ (binaryOp .Add) catL := ⟨_, fun _ _ => op_cat, fun H S v u x y o w vx vy e Q q => by
  unfold catL at e
  split at e
  · rename_i xs ys
    obtain ⟨p, vs, rfl, hp, ha⟩ := vx.lst w
    obtain ⟨b, us, rfl, hb, hu⟩ := vy.lst w
    by_cases hz : xs.length + ys.length ≤ sizeLine
    · rw [if_pos hz] at e
      cases e
      exact ⟨p, b, vs, us, rfl, rfl, hp, hb, by rw [ha.len, hu.len]; exact hz, fun p' n => q _ _ _ (.new n (ha.app hu))⟩
    · rw [if_neg hz] at e
      cases e
  · cases e⟩
def catT : D → D → Option Opd := fun x y => match x, y with
  | .tuple xs, .tuple ys => if xs.length + ys.length ≤ sizeLine then some (.val (.tuple (xs ++ ys))) else none
  | _, _ => none
theorem od_catT : OpD Γ (binaryOp .Add) catT := by
  refine ⟨rCatA Γ.K, fun X h => by have := @op_catA X; rw [h.K] at this; exact this, fun H S v u x y o w vx vy e Q q => ?_⟩
  unfold catT at e
  split at e
  · rename_i xs ys
    obtain ⟨p, vs, rfl, hp, ha⟩ := vx.tup
    obtain ⟨b, us, rfl, hb, hu⟩ := vy.tup
    by_cases hz : xs.length + ys.length ≤ sizeLine
    · rw [if_pos hz] at e
      cases e
      refine ⟨p, b, vs, us, rfl, rfl, seqT_mono w hp, seqT_mono w hb, by rw [ha.len, hu.len]; exact hz, fun e1 => ?_, fun e1 e2 => ?_, fun e1 e2 p' n => ?_⟩
      · obtain rfl := ha.nil_iff.mp e1
        exact q _ H S (.val (Grow.refl w) (.tup hb hu))
      · obtain rfl := hu.nil_iff.mp e2
        rw [List.append_nil] at q
        exact q _ H S (.val (Grow.refl w) (.tup hp ha))
      · have g := Grow.alloc (o := .tup (vs ++ us)) w n
        exact q _ _ _ (.val g (.tup (SqT.of upd_same) (DqAll.mono g.s (ha.app hu))))
    · rw [if_neg hz] at e
      cases e
  · cases e
def catS : D → D → Option Opd := fun x y => match x, y with
  | .str a, .str b => if a.length + b.length ≤ sizeLine then some (.val (.str (a ++ b))) else none
  | _, _ => none
theorem od_catS : OpD Γ (binaryOp .Add) catS := ⟨_, fun _ _ => op_add_str, fun H S v u x y o w vx vy e Q q => by
  unfold catS at e
  split at e
  · rename_i a b
    by_cases hz : a.length + b.length ≤ sizeLine
    · rw [if_pos hz] at e
      cases e
      exact ⟨a, b, vx.str, vy.str, hz, opM_int w (.str _) q⟩
    · rw [if_neg hz] at e
      cases e
  · cases e⟩
def addD : D → D → Option Opd := orO (opI (fun _ _ => true) fun i j => .int (i + j)) (orO catT (orO catL catS))
theorem od_add : OpD Γ (binaryOp .Add) addD := od_addI.or (od_catT.or (od_catL.or od_catS))
def repT : D → D → Option Opd := fun x y => match x, y with
  | .tuple xs, .int k => if xs ≠ [] ∧ 2 ≤ k ∧ k ≤ 1000 ∧ xs.length ≤ 1000 then some (.val (.tuple (List.replicate k.toNat xs).flatten)) else none
  | _, _ => none
theorem od_repT : OpD Γ (binaryOp .Mult) repT := by
  refine ⟨rRepT Γ.K, fun X h => by have := @op_repT X; rw [h.K] at this; exact this, fun H S v u x y o w vx vy e Q q => ?_⟩
  unfold repT at e
  split at e
  · rename_i xs k
    obtain ⟨p, vs, rfl, hp, ha⟩ := vx.tup
    by_cases hz : xs ≠ [] ∧ 2 ≤ k ∧ k ≤ 1000 ∧ xs.length ≤ 1000
    · rw [if_pos hz] at e
      cases e
      obtain ⟨h1, h2, h3, h4⟩ := hz
      refine ⟨p, k, vs, rfl, vy.int, seqT_mono w hp, fun z => h1 (ha.nil_iff.mp z), h2, h3, by rw [ha.len]; exact h4, fun p' n => ?_⟩
      have g := Grow.alloc (o := .tup (List.replicate k.toNat vs).flatten) w n
      exact q _ _ _ (.val g (.tup (SqT.of upd_same) (DqAll.mono g.s (ha.rep _))))
    · rw [if_neg hz] at e
      cases e
  · cases e
theorem tuple_mul1 (l : Addr) (its : Array Value) (n : Nat) (dd : Option Addr) (sl : Array (Option Value)) (u : Tok) :
    Meets (Builtin.«tuple.__mul__» ⟨[.ref l, .int 1 u], []⟩) (fun _ R s => s.heap.get? l = some { cls := .type "tuple", dict := dd, data := .seq its n, slots := sl } ∧ R (.ok (.ret (.ref l))) s) :=
  .of_wp fun prog w A R s h => by
    obtain ⟨hp, g, d, tk, os⟩ := s
    obtain ⟨hl, h⟩ := h
    have f1 := AutoSeq1.idx_int
    wp_walk using wpAny_loadPart' hl
    exact ⟨_, rfl, h⟩
/-- a tuple times one is that tuple -/
def rRep1 (K : Frag) : R2 := fun x y H Q => ∃ l xs, x = .ref l ∧ y = .int 1 ∧ SqT K H l xs ∧ Q (.ref l) H
theorem op_rep1 {X : Cx} : OpR X (binaryOp .Mult) (rRep1 X.K) := by
  intro pins s σ H x y v u Q I rx ry h
  obtain ⟨l, xs, rfl, rfl, hT, q⟩ := h
  cases rx
  obtain ⟨t, rfl⟩ := ry
  obtain ⟨its, r, ⟨⟨cls, dd, data, sl⟩, ho, hc, n, hd⟩, hs⟩ := I.tuple hT
  simp only at hc hd
  subst hc hd
  refine wpAny_binaryOp_repeat_ref (T := "tuple") (U := "int") (by decide) ⟨_, ho, rfl⟩ (fun s' => typeIs_int s' 1 t) noFill_tuple_mul F.fills_int_mul F.slot_int_rmul repeat_tuple F.slot_int_index.lookup
    (call_meets F.slot_int_rmul (typeIs_int s 1 t) F.entry_int_rmul (F.args_int_rmul_2 _ _) (int_rmul_tuple 1 t l its.toArray n dd sl)
      ⟨ho, rfl, ⟨_, ho, rfl⟩, call_meets F.slot_tuple_mul ⟨_, ho, rfl⟩ F.entry_tuple_mul (F.args_tuple_mul_2 _ _) (tuple_mul1 l its.toArray n dd sl t) ⟨ho, ?_⟩⟩)
  exact ⟨.ref l, H, I, rfl, q⟩
def rep1 : D → D → Option Opd := fun x y => match x, y with
  | .tuple xs, .int k => if k = 1 then some (.val (.tuple xs)) else none
  | _, _ => none
theorem od_rep1 : OpD Γ (binaryOp .Mult) rep1 := by
  refine ⟨rRep1 Γ.K, fun X h => by have := @op_rep1 X; rw [h.K] at this; exact this, fun H S v u x y o w vx vy e Q q => ?_⟩
  unfold rep1 at e
  split at e
  · rename_i xs k
    split at e
    · rename_i hk
      cases e
      subst hk
      obtain ⟨p, vs, rfl, hp, ha⟩ := vx.tup
      obtain rfl := vy.int
      exact ⟨p, vs, rfl, rfl, seqT_mono w hp, q _ H S (.val (Grow.refl w) (.tup hp ha))⟩
    · cases e
  · cases e
def repL : D → D → Option Opd := fun x y => match x, y with
  | .list xs, .int k => if -(2 ^ 63) ≤ k ∧ k < 2 ^ 63 ∧ xs.length * k.toNat ≤ sizeLine then some (.new (List.replicate k.toNat xs).flatten) else none
  | _, _ => none
theorem od_repL : OpD Γ (binaryOp .Mult) repL := ⟨_, fun _ _ => op_rep, fun H S v u x y o w vx vy e Q q => by
  unfold repL at e
  split at e
  · rename_i xs k
    obtain ⟨p, vs, rfl, hp, ha⟩ := vx.lst w
    by_cases hz : -(2 ^ 63) ≤ k ∧ k < 2 ^ 63 ∧ xs.length * k.toNat ≤ sizeLine
    · rw [if_pos hz] at e
      cases e
      obtain ⟨h1, h2, h3⟩ := hz
      exact ⟨p, k, vs, rfl, vy.int, hp, h1, h2, by rw [ha.len]; exact h3, fun p' n => q _ _ _ (.new n (ha.rep _))⟩
    · rw [if_neg hz] at e
      cases e
  · cases e⟩
def mulD : D → D → Option Opd := orO (opI mulOk fun i j => .int (i * j)) (orO repT (orO rep1 repL))
theorem od_mul : OpD Γ (binaryOp .Mult) mulD := od_mulI.or (od_repT.or (od_rep1.or od_repL))

/-! ### comparisons -/
def eqD : D → D → Option Opd := fun x y => if SeqAt.shaped x && SeqAt.shaped y then some (.val (.bool (PyData.eqv x y))) else none
def neD : D → D → Option Opd := fun x y => if SeqAt.shaped x && SeqAt.shaped y then some (.val (.bool (!PyData.eqv x y))) else none
theorem od_eq {k : Nat} (ok : Γ.Ok k) : OpD Γ (compareOp .Eq) eqD := by
  refine ⟨rEqD Γ.K, fun X h => by have := @op_eqD X (by rw [h.A]; exact ok.room.units); rw [h.K] at this; exact this, fun H S v u x y o w vx vy e Q q => ?_⟩
  unfold eqD at e
  by_cases hz : (SeqAt.shaped x && SeqAt.shaped y) = true
  · rw [if_pos hz] at e
    cases e
    obtain ⟨h1, h2⟩ := Bool.and_eq_true_iff.mp hz
    exact ⟨x, y, (vx.full w).dp, (vy.full w).dp, h1, h2, opM_int w (.bl _) q⟩
  · rw [if_neg hz] at e
    cases e
theorem od_ne {k : Nat} (ok : Γ.Ok k) : OpD Γ (compareOp .NotEq) neD := by
  refine ⟨rNeD Γ.K, fun X h => by have := @op_neD X (by rw [h.A]; exact ok.room.units); rw [h.K] at this; exact this, fun H S v u x y o w vx vy e Q q => ?_⟩
  unfold neD at e
  by_cases hz : (SeqAt.shaped x && SeqAt.shaped y) = true
  · rw [if_pos hz] at e
    cases e
    obtain ⟨h1, h2⟩ := Bool.and_eq_true_iff.mp hz
    exact ⟨x, y, (vx.full w).dp, (vy.full w).dp, h1, h2, opM_int w (.bl _) q⟩
  · rw [if_neg hz] at e
    cases e
def isNoneB : D → Bool
  | .none => true
  | _ => false
theorem View.isN {K : Frag} {H S : Hp} {v : V} {d : D} (h : View K H S v d) : decide (v = .non) = isNoneB d := by
  rcases h with h | ⟨p, vs, xs, rfl, _, _, rfl⟩
  · cases h <;> rfl
  · rfl
def isD : D → D → Option Opd := fun x y => match y with
  | .none => some (.val (.bool (isNoneB x)))
  | _ => none
def isNotD : D → D → Option Opd := fun x y => match y with
  | .none => some (.val (.bool (!isNoneB x)))
  | _ => none
theorem od_is : OpD Γ (compareOp .Is) isD := ⟨_, fun _ _ => op_isN, fun H S v u x y o w vx vy e Q q => by
  unfold isD at e
  split at e
  · cases e
    exact ⟨vy.non, by rw [vx.isN]; exact opM_int w (.bl _) q⟩
  · cases e⟩
theorem od_isNot : OpD Γ (compareOp .IsNot) isNotD := ⟨_, fun _ _ => op_notN, fun H S v u x y o w vx vy e Q q => by
  unfold isNotD at e
  split at e
  · cases e
    exact ⟨vy.non, by rw [vx.isN]; exact opM_int w (.bl _) q⟩
  · cases e⟩
def flatD : D → Bool
  | .none => true
  | .bool _ => true
  | .int _ => true
  | .str _ => true
  | _ => false
theorem flat_of {K : Frag} {S : Hp} {v : V} {d : D} (h : Dq K S v d) : flatV v = flatD d := by cases h <;> rfl
theorem flats_of {K : Frag} {S : Hp} : ∀ {vs : List V} {ds : List D}, DqAll K S vs ds → vs.all flatV = ds.all flatD
  | _, _, .nil => rfl
  | _, _, .cons h t => by rw [List.all_cons, List.all_cons, flat_of h, flats_of t]
theorem eqV_of {K : Frag} {S : Hp} {v u : V} {x y : D} (h : Dq K S v x) (h' : Dq K S u y) (fx : flatD x = true) (fy : flatD y = true) : eqV v u = PyData.eqv x y := by
  cases h <;> first | (cases fx; done) | (cases h' <;> first | (cases fy; done) | rfl | simp [eqV, PyData.eqv])
theorem inV_of {K : Frag} {S : Hp} {u : V} {y : D} (h' : Dq K S u y) (fy : flatD y = true) : ∀ {vs : List V} {ds : List D}, DqAll K S vs ds → ds.all flatD = true → inV u vs = ds.any fun z => PyData.eqv z y
  | _, _, .nil, _ => rfl
  | _, _, .cons h t, f => by
    rw [List.all_cons, Bool.and_eq_true] at f
    show List.any _ _ = _
    rw [List.any_cons, List.any_cons, eqV_of h h' f.1 fy]
    exact congrArg _ (inV_of h' fy t f.2)
def inT (neg : Bool) : D → D → Option Opd := fun x y => match y with
  | .tuple ys => if flatD x && ys.all flatD then some (.val (.bool (if neg then !(ys.any fun z => PyData.eqv z x) else ys.any fun z => PyData.eqv z x))) else none
  | _ => none
theorem opM_inT (neg : Bool) : OpM Γ.K (rIn Γ.K neg) (inT neg) := fun H S v u x y o w vx vy e Q q => by
  unfold inT at e
  split at e
  · rename_i ys
    obtain ⟨p, vs, rfl, hp, ha⟩ := vy.tup
    by_cases hz : (flatD x && ys.all flatD) = true
    · rw [if_pos hz] at e
      cases e
      obtain ⟨h1, h2⟩ := Bool.and_eq_true_iff.mp hz
      have hx : Dq Γ.K S v x := by
        rcases vx with h | ⟨_, _, xs, _, _, _, rfl⟩
        · exact h
        · cases h1
      exact ⟨p, vs, rfl, .inr (seqT_mono w hp), by rw [flat_of hx]; exact h1, by rw [flats_of ha]; exact h2, by rw [inV_of hx h1 ha h2]; exact opM_int w (.bl _) q⟩
    · rw [if_neg hz] at e
      cases e
  · cases e
def inL (neg : Bool) : D → D → Option Opd := fun x y => match y with
  | .list ys => if SeqAt.shaped x && SeqAt.shaped (.list ys) then some (.val (.bool (if neg then !(ys.any fun z => PyData.eqv z x) else ys.any fun z => PyData.eqv z x))) else none
  | _ => none
theorem od_inT : OpD Γ (compareOp .In) (inT false) := ⟨rIn Γ.K false, fun X h => by have := @op_in_seq X; rw [h.K] at this; exact this, opM_inT false⟩
theorem od_notInT : OpD Γ (compareOp .NotIn) (inT true) := ⟨rIn Γ.K true, fun X h => by have := @op_notIn_seq X; rw [h.K] at this; exact this, opM_inT true⟩
theorem od_inL {k : Nat} (ok : Γ.Ok k) : OpD Γ (compareOp .In) (inL false) := by
  refine ⟨rInD Γ.K, fun X h => by have := @op_inD X (by rw [h.A]; exact ok.hu); rw [h.K] at this; exact this, fun H S v u x y o w vx vy e Q q => ?_⟩
  unfold inL at e
  split at e
  · rename_i ys
    by_cases hz : (SeqAt.shaped x && SeqAt.shaped (.list ys)) = true
    · rw [if_pos hz] at e
      cases e
      obtain ⟨h1, h2⟩ := Bool.and_eq_true_iff.mp hz
      exact ⟨x, ys, (vx.full w).dp, (vy.full w).dp, h1, h2, opM_int w (.bl _) q⟩
    · rw [if_neg hz] at e
      cases e
  · cases e
theorem od_notInL {k : Nat} (ok : Γ.Ok k) : OpD Γ (compareOp .NotIn) (inL true) := by
  refine ⟨rNotInD Γ.K, fun X h => by have := @op_notInD X (by rw [h.A]; exact ok.hu); rw [h.K] at this; exact this, fun H S v u x y o w vx vy e Q q => ?_⟩
  unfold inL at e
  split at e
  · rename_i ys
    by_cases hz : (SeqAt.shaped x && SeqAt.shaped (.list ys)) = true
    · rw [if_pos hz] at e
      cases e
      obtain ⟨h1, h2⟩ := Bool.and_eq_true_iff.mp hz
      exact ⟨x, ys, (vx.full w).dp, (vy.full w).dp, h1, h2, opM_int w (.bl _) q⟩
    · rw [if_neg hz] at e
      cases e
  · cases e
def inD : D → D → Option Opd := orO (inT false) (inL false)
def notInD : D → D → Option Opd := orO (inT true) (inL true)
theorem od_in {k : Nat} (ok : Γ.Ok k) : OpD Γ (compareOp .In) inD := od_inT.or (od_inL ok)
theorem od_notIn {k : Nat} (ok : Γ.Ok k) : OpD Γ (compareOp .NotIn) notInD := od_notInT.or (od_notInL ok)

/-! ### items, slices -/
def ixD : D → D → Option Opd := fun x y => match x, y with
  | .list xs, .int i => (atI xs i).map .val
  | .tuple xs, .int i => (atI xs i).map .val
  | _, _ => none
theorem atI_of {K : Frag} {S : Hp} {vs : List V} {ds : List D} {i : Int} {d : D} (h : DqAll K S vs ds) (e : atI ds i = some d) : ∃ v, atI vs i = some v ∧ Dq K S v d := by
  unfold atI at e ⊢
  rw [h.len]
  cases q : ixN ds.length i with
  | none => rw [q] at e; cases e
  | some j =>
    rw [q] at e
    exact h.getD (i := j) e
theorem od_ix : ∃ r, (∀ X, Γ.Has X → IxR X r) ∧ OpM Γ.K r ixD := by
  refine ⟨_, fun X h => IxR.or (by have := @ix_list X; rw [h.K] at this; exact this) (by have := @ix_tup X; rw [h.K] at this; exact this), fun H S v u x y o w vx vy e Q q => ?_⟩
  unfold ixD at e
  split at e
  · rename_i xs i
    obtain ⟨p, vs, rfl, hp, ha⟩ := vx.lst w
    cases q1 : atI xs i with
    | none => rw [q1] at e; cases e
    | some d =>
      rw [q1] at e
      cases e
      obtain ⟨z, hz, hd⟩ := atI_of ha q1
      exact .inl ⟨p, vs, i, z, rfl, vy.int, SqL.of hp, hz, opM_int w hd q⟩
  · rename_i xs i
    obtain ⟨p, vs, rfl, hp, ha⟩ := vx.tup
    cases q1 : atI xs i with
    | none => rw [q1] at e; cases e
    | some d =>
      rw [q1] at e
      cases e
      obtain ⟨z, hz, hd⟩ := atI_of ha q1
      exact .inr ⟨p, vs, i, z, rfl, vy.int, seqT_mono w hp, hz, opM_int w hd q⟩
  · cases e
def cutD (xs : List D) (lo hi : Option Int) : List D := (xs.drop (HT.sIx xs.length 0 lo)).take (HT.sIx xs.length xs.length hi - HT.sIx xs.length 0 lo)
theorem cut_of {K : Frag} {S : Hp} {vs : List V} {ds : List D} (h : DqAll K S vs ds) (lo hi : Option Int) : DqAll K S (cutV vs lo hi) (cutD ds lo hi) := by
  unfold cutV cutD
  rw [h.len]
  exact (h.drop _).take _
def slD : D → Option Int → Option Int → Option Opd := fun x lo hi => match x with
  | .list xs => some (.new (cutD xs lo hi))
  | .tuple xs => some (.val (.tuple (cutD xs lo hi)))
  | _ => none
theorem od_sl : ∃ r, (∀ X, Γ.Has X → SlR X r) ∧ SlM Γ.K r slD := by
  refine ⟨_, fun X h => SlR.or (by have := @sl_list X; rw [h.K] at this; exact this) (by have := @sl_tupA X; rw [h.K] at this; exact this), fun H S v x lo hi o w vx e Q q => ?_⟩
  unfold slD at e
  split at e
  · rename_i xs
    obtain ⟨p, vs, rfl, hp, ha⟩ := vx.lst w
    cases e
    exact .inl ⟨p, vs, rfl, SqL.of hp, fun p' n => q _ _ _ (.new n (cut_of ha lo hi))⟩
  · rename_i xs
    obtain ⟨p, vs, rfl, hp, ha⟩ := vx.tup
    cases e
    refine .inr ⟨p, vs, rfl, seqT_mono w hp, fun ⟨e1, e2⟩ => ?_, fun _ p' n => ?_⟩
    · have ec : cutD xs lo hi = xs := by
        unfold cutD
        rw [ha.len] at e1 e2
        rw [e1, e2]
        simp
      rw [ec] at q
      exact q _ H S (.val (Grow.refl w) (.tup hp ha))
    · have g := Grow.alloc (o := .tup (cutV vs lo hi)) w n
      exact q _ _ _ (.val g (.tup (SqT.of upd_same) (DqAll.mono g.s (cut_of ha lo hi))))
  · cases e
def revM (F : M τ Opd) : M τ Opd := bnd F fun o => bnd (getO o) fun x => match x with
  | .list xs => ret (.new xs.reverse)
  | _ => stuck
theorem DO.rev {B : Bd τ} {e : Expr} {F : M τ Opd} {k p1 p2 p3} (h : DO Γ B e F) {pos : Pos} : DO Γ B (.Subscript e (.Slice none none (some (.UnaryOp .USub (.Constant (.int 1) k p1) p2)) p3) pos) (revM F) := by
  obtain ⟨t, pe, m⟩ := h
  refine ⟨tRevL Γ.K t, fun X h => by have := pe_revL (k := k) (p1 := p1) (p2 := p2) (p3 := p3) (pos := pos) (pe X h); rw [h.K] at this; exact this, fun s σ H S g o s' e Q q => ?_⟩
  obtain ⟨o1, s1, e1, eA⟩ := bnd_some e
  obtain ⟨x, s2, e2, eB⟩ := bnd_some eA
  refine m s σ H S g o1 s1 e1 _ fun v H1 S1 g1 w1 r1 _ => ?_
  obtain ⟨rfl, vx⟩ := view_of g1 r1 e2
  cases x with
  | list xs =>
    obtain ⟨rfl, rfl⟩ := ret_some eB
    obtain ⟨p, vs, rfl, hp, ha⟩ := vx.lst g1.fr.sub
    refine ⟨p, vs, rfl, SqL.of hp, fun p' n => ?_⟩
    obtain ⟨g2, f⟩ := Good.free g1 n ha.rev
    exact q _ _ _ g2 (w1.trans (Grow.fresh g1.fr.sub n).step) ⟨p', rfl, f⟩ ⟨p', rfl, w1.dom p' n⟩
  | _ => cases eB

/-! ### built-ins -/
def lenD : List D → Option Opd := fun xs => match xs with
  | [.list ys] => some (.val (.int ys.length))
  | [.tuple ys] => some (.val (.int ys.length))
  | [.str y] => if y.length ≤ sizeLine then some (.val (.int y.length)) else none
  | _ => none
theorem viewL1 {K : Frag} {H S : Hp} {vs : List V} {x : D} (h : ViewL K H S vs [x]) : ∃ v, vs = [v] ∧ View K H S v x := by
  match vs, h with
  | [v], h => exact ⟨v, rfl, h.1⟩
  | [], h => exact h.elim
  | _ :: _ :: _, h => exact h.2.elim
theorem viewL2 {K : Frag} {H S : Hp} {vs : List V} {x y : D} (h : ViewL K H S vs [x, y]) : ∃ v u, vs = [v, u] ∧ View K H S v x ∧ View K H S u y := by
  match vs, h with
  | [v, u], h => exact ⟨v, u, rfl, h.1, h.2.1⟩
  | [], h => exact h.elim
  | [_], h => exact h.2.elim
  | _ :: _ :: _ :: _, h => exact h.2.2.elim
theorem cd_len : CallD Γ (.builtin "len") lenD := by
  refine ⟨fun xs H Q => ∃ x n, xs = [x] ∧ LenV Γ.K x H n ∧ Q (.int n) H, fun X h => by have := @call_len X; rw [h.K] at this; exact this, fun H S vs xs o w vl e Q q => ?_⟩
  unfold lenD at e
  split at e
  · rename_i ys
    obtain ⟨v, rfl, vx⟩ := viewL1 vl
    obtain ⟨p, us, rfl, hp, ha⟩ := vx.lst w
    cases e
    exact ⟨_, ys.length, rfl, .inl ⟨us, SqL.of hp, ha.len.symm⟩, opM_int w (.int _) q⟩
  · rename_i ys
    obtain ⟨v, rfl, vx⟩ := viewL1 vl
    obtain ⟨p, us, rfl, hp, ha⟩ := vx.tup
    cases e
    exact ⟨_, ys.length, rfl, .inr ⟨us, seqT_mono w hp, ha.len.symm⟩, opM_int w (.int _) q⟩
  · rename_i y
    obtain ⟨v, rfl, vx⟩ := viewL1 vl
    obtain rfl := vx.str
    by_cases hz : y.length ≤ sizeLine
    · rw [if_pos hz] at e
      cases e
      exact ⟨_, y.length, rfl, ⟨hz, rfl⟩, opM_int w (.int _) q⟩
    · rw [if_neg hz] at e
      cases e
  · cases e
def listD : List D → Option Opd := fun xs => match xs with
  | [.list ys] => some (.new ys)
  | [.tuple ys] => some (.new ys)
  | _ => none
theorem cd_list : CallD Γ (.type "list") listD := by
  refine ⟨_, fun X h => by have := @call_list_of X; rw [h.K] at this; exact this, fun H S vs xs o w vl e Q q => ?_⟩
  unfold listD at e
  split at e
  · rename_i ys
    obtain ⟨v, rfl, vx⟩ := viewL1 vl
    obtain ⟨p, us, rfl, hp, ha⟩ := vx.lst w
    cases e
    exact ⟨p, us, rfl, .inl (SqL.of hp), fun l n => q _ _ _ (.new n ha)⟩
  · rename_i ys
    obtain ⟨v, rfl, vx⟩ := viewL1 vl
    obtain ⟨p, us, rfl, hp, ha⟩ := vx.tup
    cases e
    exact ⟨p, us, rfl, .inr (seqT_mono w hp), fun l n => q _ _ _ (.new n ha)⟩
  · cases e
def tupleD : List D → Option Opd := fun xs => match xs with
  | [.list ys] => some (.val (.tuple ys))
  | [.tuple ys] => some (.val (.tuple ys))
  | _ => none
theorem cd_tuple : CallD Γ (.type "tuple") tupleD := by
  refine ⟨_, fun X h => by have := @call_tuple_of X; rw [h.K] at this; exact this, fun H S vs xs o w vl e Q q => ?_⟩
  unfold tupleD at e
  split at e
  · rename_i ys
    obtain ⟨v, rfl, vx⟩ := viewL1 vl
    obtain ⟨p, us, rfl, hp, ha⟩ := vx.lst w
    cases e
    refine ⟨p, us, rfl, .inl ⟨SqL.of hp, fun l n => ?_⟩⟩
    have g := Grow.alloc (o := .tup us) w n
    exact q _ _ _ (.val g (.tup (SqT.of upd_same) (DqAll.mono g.s ha)))
  · rename_i ys
    obtain ⟨v, rfl, vx⟩ := viewL1 vl
    obtain ⟨p, us, rfl, hp, ha⟩ := vx.tup
    cases e
    exact ⟨p, us, rfl, .inr ⟨seqT_mono w hp, q _ H S (.val (Grow.refl w) (.tup hp ha))⟩⟩
  · cases e
def intD : List D → Option Opd := fun xs => match xs with
  | [.int i] => some (.val (.int i))
  | [.bool b] => some (.val (.int (if b then 1 else 0)))
  | _ => none
theorem cd_int : CallD Γ (.type "int") intD := ⟨_, fun _ _ => call_int1, fun H S vs xs o w vl e Q q => by
  unfold intD at e
  split at e
  · rename_i i
    obtain ⟨v, rfl, vx⟩ := viewL1 vl
    obtain rfl := vx.int
    cases e
    exact .inl ⟨i, rfl, opM_int w (.int _) q⟩
  · rename_i b
    obtain ⟨v, rfl, vx⟩ := viewL1 vl
    obtain rfl := vx.bl
    cases e
    exact .inr ⟨b, rfl, opM_int w (.int _) q⟩
  · cases e⟩
def minD : List D → Option Opd := fun xs => match xs with
  | [.int i, .int j] => some (.val (.int (if j < i then j else i)))
  | _ => none
def maxD : List D → Option Opd := fun xs => match xs with
  | [.int i, .int j] => some (.val (.int (if j > i then j else i)))
  | _ => none
theorem cd_min : CallD Γ (.builtin "min") minD := ⟨_, fun X h => call_min2 h.calm, fun H S vs xs o w vl e Q q => by
  unfold minD at e
  split at e
  · rename_i i j
    obtain ⟨v, u, rfl, vx, vy⟩ := viewL2 vl
    obtain rfl := vx.int
    obtain rfl := vy.int
    cases e
    exact ⟨i, j, rfl, opM_int w (.int _) q⟩
  · cases e⟩
theorem cd_max : CallD Γ (.builtin "max") maxD := ⟨_, fun X h => call_max2 h.calm, fun H S vs xs o w vl e Q q => by
  unfold maxD at e
  split at e
  · rename_i i j
    obtain ⟨v, u, rfl, vx, vy⟩ := viewL2 vl
    obtain rfl := vx.int
    obtain rfl := vy.int
    cases e
    exact ⟨i, j, rfl, opM_int w (.int _) q⟩
  · cases e⟩
def boolsOf : List D → Option (List Bool)
  | [] => some []
  | .bool b :: r => (boolsOf r).map (b :: ·)
  | _ :: _ => none
theorem bools_of {K : Frag} {S : Hp} : ∀ {vs : List V} {ds : List D} {bs : List Bool}, DqAll K S vs ds → boolsOf ds = some bs → vs = bs.map V.bl
  | _, _, _, .nil, e => by cases e; rfl
  | _, _, _, .cons h t, e => by
    cases h with
    | bl b =>
      unfold boolsOf at e
      obtain ⟨r, e1, e2⟩ := Option.map_eq_some_iff.mp e
      subst e2
      rw [List.map_cons, bools_of t e1]
    | _ => cases e
def intsOf : List D → Option (List Int)
  | [] => some []
  | .int b :: r => (intsOf r).map (b :: ·)
  | _ :: _ => none
theorem ints_of {K : Frag} {S : Hp} : ∀ {vs : List V} {ds : List D} {bs : List Int}, DqAll K S vs ds → intsOf ds = some bs → vs = bs.map V.int
  | _, _, _, .nil, e => by cases e; rfl
  | _, _, _, .cons h t, e => by
    cases h with
    | int b =>
      unfold intsOf at e
      obtain ⟨r, e1, e2⟩ := Option.map_eq_some_iff.mp e
      subst e2
      rw [List.map_cons, ints_of t e1]
    | _ => cases e
def allD : List D → Option Opd := fun xs => match xs with
  | [.list ys] => (boolsOf ys).map fun bs => .val (.bool (bs.all id))
  | _ => none
def anyD : List D → Option Opd := fun xs => match xs with
  | [.list ys] => (boolsOf ys).map fun bs => .val (.bool (bs.any id))
  | _ => none
def sumD : List D → Option Opd := fun xs => match xs with
  | [.list ys] => (intsOf ys).map fun bs => .val (.int bs.sum)
  | _ => none
theorem cd_all : CallD Γ (.builtin "all") allD := by
  refine ⟨rAll Γ.K, fun X h => by have := @cr_all X h.calm; rw [h.K] at this; exact this, fun H S vs xs o w vl e Q q => ?_⟩
  unfold allD at e
  split at e
  · rename_i ys
    obtain ⟨v, rfl, vx⟩ := viewL1 vl
    obtain ⟨p, us, rfl, hp, ha⟩ := vx.lst w
    obtain ⟨bs, e1, rfl⟩ := Option.map_eq_some_iff.mp e
    obtain rfl := bools_of ha e1
    exact ⟨p, bs, rfl, SqL.of hp, opM_int w (.bl _) q⟩
  · cases e
theorem cd_any : CallD Γ (.builtin "any") anyD := by
  refine ⟨rAny Γ.K, fun X h => by have := @cr_any X h.calm; rw [h.K] at this; exact this, fun H S vs xs o w vl e Q q => ?_⟩
  unfold anyD at e
  split at e
  · rename_i ys
    obtain ⟨v, rfl, vx⟩ := viewL1 vl
    obtain ⟨p, us, rfl, hp, ha⟩ := vx.lst w
    obtain ⟨bs, e1, rfl⟩ := Option.map_eq_some_iff.mp e
    obtain rfl := bools_of ha e1
    exact ⟨p, bs, rfl, SqL.of hp, opM_int w (.bl _) q⟩
  · cases e
theorem cd_sum : CallD Γ (.builtin "sum") sumD := by
  refine ⟨rSum Γ.K, fun X h => by have := @cr_sum X h.calm; rw [h.K] at this; exact this, fun H S vs xs o w vl e Q q => ?_⟩
  unfold sumD at e
  split at e
  · rename_i ys
    obtain ⟨v, rfl, vx⟩ := viewL1 vl
    obtain ⟨p, us, rfl, hp, ha⟩ := vx.lst w
    obtain ⟨bs, e1, rfl⟩ := Option.map_eq_some_iff.mp e
    obtain rfl := ints_of ha e1
    exact ⟨p, bs, rfl, SqL.of hp, opM_int w (.int _) q⟩
  · cases e
/-- repr of data -/
theorem call_reprD {X : Cx} (hg : X.A.guards = some []) (hu : X.A.units + 70 < cLine) : CallR X (.builtin "repr") (fun xs H Q => ∃ x d, xs = [x] ∧ Dp X.K H x d ∧ d.showable = true ∧ d.hasDict = false ∧ d.depth ≤ 64 ∧ d.shown.length ≤ sizeLine ∧ Q (.str d.shown) H) := by
  intro pins s σ H xs us Q I r h
  obtain ⟨x, d, rfl, hd, h1, h2, h3, h4, q⟩ := h
  obtain ⟨u, rfl, rx⟩ := vals1 r
  have fin : ∀ (d : D) (t : Tok), Q (.str d.shown) H → EP X pins σ Q (.str d.shown t) { s with toks := s.toks + 1 } := fun d t q => ⟨.str d.shown, H, I.tok _, ⟨t, rfl⟩, q⟩
  obtain ⟨as, rd⟩ := Dp.reads I d x u hd rx
  cases hd with
  | non => cases rx; exact PySem.P.repr_of_none (fin .none _ q)
  | bl b => cases rx; exact PySem.P.repr_of_bool (fin (.bool b) _ q)
  | int i =>
    obtain ⟨t, rfl⟩ := rx
    exact PySem.P.repr_of_int (of_decide_eq_true h1) (fin (.int i) _ q)
  | str y =>
    obtain ⟨t, rfl⟩ := rx
    exact PySem.P.repr_of_str (fin (.str y) _ q) h4
  | lst a b =>
    cases rx
    exact repr_of_reads' rd h1 (PyData.noDict_hsm h2) hg (by omega) (fun _ _ e => e) (fun h' t tk hk => ⟨.str _, H, I.kept hk, ⟨t, rfl⟩, q⟩) h4
  | tup a b =>
    cases rx
    exact repr_of_reads' rd h1 (PyData.noDict_hsm h2) hg (by omega) (fun _ _ e => e) (fun h' t tk hk => ⟨.str _, H, I.kept hk, ⟨t, rfl⟩, q⟩) h4
def reprOk (x : D) : Bool := x.showable && !x.hasDict && decide (x.depth ≤ 64) && decide (x.shown.length ≤ sizeLine)
def reprD : List D → Option Opd := fun xs => match xs with
  | [x] => if reprOk x then some (.val (.str x.shown)) else none
  | _ => none
theorem cd_repr {k : Nat} (ok : Γ.Ok k) : CallD Γ (.builtin "repr") reprD := by
  refine ⟨_, fun X h => by have := @call_reprD X (by rw [h.A]; exact ok.gd) (by rw [h.A]; have := ok.room.un; omega); rw [h.K] at this; exact this, fun H S vs xs o w vl e Q q => ?_⟩
  unfold reprD at e
  split at e
  · rename_i x
    obtain ⟨v, rfl, vx⟩ := viewL1 vl
    by_cases hz : reprOk x = true
    · rw [if_pos hz] at e
      cases e
      unfold reprOk at hz
      simp only [Bool.and_eq_true, Bool.not_eq_true', decide_eq_true_eq] at hz
      obtain ⟨⟨⟨h1, h2⟩, h3⟩, h4⟩ := hz
      exact ⟨v, x, rfl, (vx.full w).dp, h1, h2, h3, h4, opM_int w (.str _) q⟩
    · rw [if_neg hz] at e
      cases e
  · cases e
end
end DL
end

section
set_option Elab.async false
set_option linter.all false
set_option maxRecDepth 100000
set_option maxHeartbeats 3999999
/-! WEng4: enumerate of a tuple (the layer has lists and texts alone); isinstance; list of a range; what is walked; comprehensions -/
namespace PySem
open Sem (wp)
open AutoSeq1 (wpAny_loadPart')
theorem dl_enum_new (t : Addr) (items : Array Value) (n : Nat) (dct : Option Addr) (sl : Array (Option Value)) :
    Meets (Builtin.«enumerate.__new__» ⟨[.type "enumerate", .ref t], []⟩) (fun _ R s =>
      s.heap.get? t = some { cls := .type "tuple", dict := dct, data := .seq items n, slots := sl } ∧
      R (.ok (.ret (.ref (s.heap.push { cls := .type "tuple_iterator", data := .fields #[.ref t, .int 0 0] }).objs.size)))
        ⟨(s.heap.push { cls := .type "tuple_iterator", data := .fields #[.ref t, .int 0 0] }).push { cls := .type "enumerate", data := .fields #[.none, .bool false, .ref s.heap.objs.size, rawInt 0, .none, .none] }, s.gens, s.drawn, s.toks, s.os⟩) :=
  .of_wp fun prog w A R s hh => by
    obtain ⟨hp, g, d, tk, os⟩ := s
    obtain ⟨ht, hr⟩ := hh
    have hsub := sub_enumerate
    have hT : Heap.IsTuple (Shared.heap ⟨hp, g, d, tk, os⟩) t items := ⟨_, ht, rfl, n, rfl⟩
    wp_walk using wpAny_loadPart' ht
    refine wpAny_stack_any fun st => wpAny_pure ?_
    split
    · rename_i c _ _ _ _ _
      cases (c == Value.type "enumerate") <;>
      · wp_walk using wpAny_loadPart' ht, wpAny_pyIter_tuple hT
        exact ⟨_, rfl, hr⟩
    · wp_walk using wpAny_loadPart' ht, wpAny_pyIter_tuple hT
      exact ⟨_, rfl, hr⟩
section
variable {prog : Program} {w : World} {A : Around} {E : Value → Shared → Prop} {s : Shared}
theorem dl_call_enum {t : Addr} {items : Array Value} {Q : Value → Shared → Prop} (hT : s.heap.IsTuple t items)
    (k : ∀ h', IsEnum h' (s.heap.objs.size + 1) s.heap.objs.size 0 .none → h'.IsTupleIter s.heap.objs.size t 0 →
      (∀ b o, s.heap.get? b = some o → h'.get? b = some o) → Q (.ref (s.heap.objs.size + 1)) { s with heap := h' }) :
    wpAny (model prog w) A (call (.type "enumerate") [.ref t]) Q E s := by
  obtain ⟨⟨c, dct, dt, sl⟩, ht, hc, n, hd⟩ := hT
  simp only at hc hd
  subst hc hd
  refine callType_new F.called_enumerate (by decide) (F.typeCall_enumerate_1 _) (F.newCall_enumerate_1 _)
    (fun obj => F.args_object_init_2 obj _) F.entry_enumerate_new (dl_enum_new t items n dct sl) ⟨ht, ?_⟩
  generalize hit : ({ cls := .type "tuple_iterator", data := .fields #[.ref t, .int 0 0] } : Obj) = oi
  have hz : (s.heap.push oi).objs.size = s.heap.objs.size + 1 := Heap.size_push ..
  have hf : oi.isFreed = false := by subst hit; rfl
  show _ ∧ _
  rw [hz]
  have he := Heap.get?_push_size (s.heap.push oi) (o := { cls := .type "enumerate", data := .fields #[.none, .bool false, .ref s.heap.objs.size, rawInt 0, .none, .none] }) rfl
  rw [hz] at he
  refine ⟨⟨_, he, rfl⟩, k _ he ⟨oi, Heap.get?_push_of_some _ (Heap.get?_push_size _ hf), ?_, ?_⟩ fun b o x => Heap.get?_push_of_some _ (Heap.get?_push_of_some _ x)⟩
  · subst hit; rfl
  · subst hit; rfl
end
end PySem
namespace DL
open L2 PySem PyProof.Rows PySem.Spec
/-- the tuple at a, its items numbered, in new pairs -/
def IteT (K : Frag) (a : Addr) : It where
  go := fun i H => ∃ (xs : List V) (x : V), SqT K H a xs ∧ xs[i]? = some x
  yld := fun i H v H' => ∃ T x, v = .ref T ∧ H T = none ∧ H' = upd H T (.tup [.int (i : Nat), x]) ∧ ∀ xs, SqT K H a xs → xs[i]? = some x
  stop := fun i H => ∃ xs : List V, SqT K H a xs ∧ xs.length = i
theorem turn_enumT {P : Program} {w : World} {K : Frag} {elts : List Expr} {kk : Nat} {tpos : Pos} (a e it : Addr) :
    Turn P w K (.Tuple elts kk tpos) (IteT K a) [e, it] e (fun i h => (∃ old, IsEnum h e it ((i : Nat) : Int) old) ∧ h.IsTupleIter it a i ∧ e ≠ it ∧ a ≠ it ∧ a ≠ e) where
  mem := by simp
  obj := fun i h st b hb => by
    obtain ⟨⟨old, he⟩, ⟨o, ho, hc, hd⟩, _⟩ := st
    have e' : b = e ∨ b = it := by simpa using hb
    rcases e' with rfl | rfl
    · exact ⟨_, he, fun v q => nomatch q⟩
    · exact ⟨o, ho, fun v q => by rw [hd] at q; cases q⟩
  keep := fun i h h' st k => ⟨st.1.elim fun old he => ⟨old, k e (by simp) _ he⟩, st.2.1.at fun o q => k it (by simp) o q, st.2.2⟩
  item := by
    intro X hP hw hK hc i pins s σ H E I hf st hg
    subst hP hw hK
    obtain ⟨hen, hit, hne, hai, hae⟩ := st
    obtain ⟨xs, x, hq, hx⟩ := hg
    obtain ⟨its, rv, p, hz⟩ := I.tuple hq
    obtain ⟨u, hu, ru⟩ := rv.get hx
    have hi : i < its.toArray.size := by
      obtain ⟨hlt, _⟩ := List.getElem?_eq_some_iff.mp hu
      simpa using hlt
    have G := GoesN.enumFrom (elts := elts) (x1 := kk) (pos := tpos) 0 (Draws.tuple (prog := X.prog) (w := X.w) (A := X.A.in1) (I.ok.hd hc) it a hai its.toArray) e hne (by simp [hne, Ne.symm hae]) (by simp)
    obtain ⟨old, he⟩ := hen
    refine wpAny_mono (G.goes i s (fun v s2 => ∃ x' H', Inv X pins σ H' s2 ∧ RelV x' v ∧ (IteT X.K a).yld i H x' H' ∧ (((∃ old, IsEnum s2.heap e it (((i + 1 : Nat) : Nat) : Int) old) ∧ s2.heap.IsTupleIter it a (i + 1) ∧ e ≠ it ∧ a ≠ it ∧ a ≠ e) ∧ ∀ b ∈ [e, it], H' b = none)) E hi
      ⟨⟨old, by rw [Int.zero_add]; exact he⟩, hit, p⟩ fun v h' tk hY st' hk htk => ?_) (fun r s1 h1 => ?_) fun _ _ z => z
    · obtain ⟨T, t, y, rfl, hT, hy, hTup⟩ := hY
      obtain ⟨⟨old', he'⟩, hit', _⟩ := st'
      have hy' : its[i]? = some y := by simpa using hy
      rw [hu] at hy'
      cases hy'
      rw [Int.zero_add] at hTup
      have hn : H T = none := I.hok.fresh hT
      have new : ObjOk X.prog X.w (upd H T (.tup [.int (i : Nat), x])) h' T (.tup [.int (i : Nat), x]) :=
        ⟨by show 2 ≤ sizeLine; decide, [.int (i : Nat) t, u], .cons ⟨_, rfl⟩ (.cons ru .nil), hTup⟩
      have I1 : Inv X pins σ (upd H T (.tup [.int (i : Nat), x])) { s with heap := h', toks := tk } := I.turnedNew (ch := [e, it]) hk hf hT new
      refine ⟨.ref T, _, I1, rfl, ⟨T, x, rfl, hn, rfl, fun ys hy => by rw [I.tuple_inj hy hq]; exact hx⟩, ⟨⟨old', ?_⟩, hit', hne, hai, hae⟩, fun b hb => ?_⟩
      · have e1 : ((i + 1 : Nat) : Int) = 0 + ((i + 1 : Nat) : Int) := by omega
        rw [e1]; exact he'
      · have hbl : b < s.heap.objs.size := by
          have e' : b = e ∨ b = it := by simpa using hb
          rcases e' with rfl | rfl
          · exact Heap.lt_size he
          · obtain ⟨_, q, _⟩ := hit; exact Heap.lt_size q
        rw [upd_ne (Nat.ne_of_lt (Nat.lt_of_lt_of_le hbl hT))]
        exact (hf b hb).1
    · obtain ⟨v, hr, h2⟩ := h1
      exact ⟨v, hr, h2⟩
  done := by
    intro X hP hw hK hc i pins s σ H E I hf st hg
    subst hP hw hK
    obtain ⟨⟨old, he⟩, hit, hne, hai, hae⟩ := st
    obtain ⟨xs, hq, hx⟩ := hg
    obtain ⟨its, rv, p, hz⟩ := I.tuple hq
    have hl := rv.length
    obtain ⟨f0, f1, f2, f3, f4, f5⟩ := hf it (by simp)
    have hn : its.toArray.size = i := by simp; omega
    refine wpAny_pyNext_enum_endD (Draws.tuple (prog := X.prog) (w := X.w) (A := X.A.in1) (I.ok.hd hc) it a hai its.toArray) he ⟨by rw [hn]; exact hit, p⟩ fun h' hx' => ?_
    exact ⟨rfl, I.turned (t' := s.toks) (fun b o hb q => hx' b o hb q) f0 f1 f3 f4 f5⟩
  self := fun A i s Q E st h => let ⟨⟨_, he⟩, _⟩ := st; wpAny_pyIter_enum he h
end DL
end

section
set_option Elab.async false
set_option linter.all false
set_option maxRecDepth 100000
set_option maxHeartbeats 3999999
/-! WEng5: isinstance, list of a range, what is walked, targets, comprehensions -/
namespace DL
open L2 PySem PyProof.Rows PySem.Spec
variable {τ α β : Type}
section
variable {Γ : Gam} {B : Bd τ} {pos : Pos} {e a b : Expr} {F Fa Fb : M τ Opd}
/-! ### isinstance with a built-in class -/
def tyD : D → String
  | .none => "NoneType"
  | .bool _ => "bool"
  | .int _ => "int"
  | .str _ => "str"
  | .list _ => "list"
  | .tuple _ => "tuple"
  | .dict _ => "dict"
def isiB (t T : String) : Bool := t == T || (t == "bool" && T == "int")
theorem kit_isi : ∀ t ∈ ["NoneType", "bool", "int", "str", "list", "tuple"], ∀ T ∈ ["bool", "int", "str", "list", "tuple", "dict"], kitB t T = some (isiB t T) := by decide +kernel
theorem tyD_mem {K : Frag} {S : Hp} {v : V} {d : D} (h : Dq K S v d) : tyD d ∈ ["NoneType", "bool", "int", "str", "list", "tuple"] := by cases h <;> simp [tyD]
theorem View.ty {K : Frag} {H S : Hp} {v : V} {d : D} (h : View K H S v d) (w : Same S H) : TyX K H v (.type (tyD d)) ∧ tyD d ∈ ["NoneType", "bool", "int", "str", "list", "tuple"] := by
  have go : ∀ {v : V} {d : D}, Dq K H v d → TyX K H v (.type (tyD d)) := fun {v d} h => by
    cases h with
    | non => exact .base .non
    | bl b => exact .base (.bl b)
    | int i => exact .base (.int i)
    | str x => exact .base (.str x)
    | lst h1 h2 => exact .base (.lst h1)
    | tup h1 h2 =>
      rcases h1 with (h1 | ⟨o, h1⟩) | ⟨o, its, n, h1, h2, _⟩
      · exact .base (.tup h1)
      · exact .fTuple h1
      · exact .kTuple h1 h2
  rcases h with h | ⟨p, vs, xs, rfl, h1, h2, rfl⟩
  · exact ⟨go (Dq.mono w h), tyD_mem h⟩
  · exact ⟨.base (.lst h1), by show "list" ∈ _; decide⟩
def isiM (T : String) (F : M τ Opd) : M τ Opd := bnd F fun o => bnd (getO o) fun x => ret (.val (.bool (isiB (tyD x) T)))
theorem DO.isi {T : String} {Tn : Str} {p q : Pos} (hT : T ∈ ["bool", "int", "str", "list", "tuple", "dict"]) (h : DO Γ B e F) (hg : Γ.sc.names.lookup ("isinstance" : Str) = some .globalImplicit) (hm : Γ.mg "isinstance" = none)
    (hg2 : Γ.sc.names.lookup Tn = some .globalImplicit) (hm2 : Γ.mg Tn = none) (hv : bootBuiltins Tn = some (.type T)) (hn : Tn ≠ "__name__" := by decide) (hd : (Tn == ("__debug__" : Str)) = false := by decide)
    (hst : ∀ X : Cx, starEach [e, .Name Tn q] X.env = (false, eval e X.env) :: starEach [.Name Tn q] X.env := by intro _; rfl) (hpl : ∀ X : Cx, (backTo pos (starEach [.Name Tn q] X.env)).any (·.1) = false := by intro _; rfl) :
    DO Γ B (.Call (.Name "isinstance" p) [e, .Name Tn q] [] pos) (isiM T F) := by
  obtain ⟨t, pe, m⟩ := h
  refine ⟨_, fun X h => pe_callB (r := rIsi Γ.K) (by have := @call_isi X; rw [h.K] at this; exact this) (gl_of h hg) (by rw [h.mg]; exact hm) (by decide +kernel)
    (pa_cons (pe X h) (pa_cons (pe_bltn (v := .ty T) (gl_of h hg2) (by rw [h.mg]; exact hm2) hv rfl hn hd) pa_nil) (hst X)) (by decide) (by decide) (hst X) (hpl X), fun s σ H S g o s' e Q q => ?_⟩
  obtain ⟨o1, s1, e1, eA⟩ := bnd_some e
  obtain ⟨x, s2, e2, eB⟩ := bnd_some eA
  obtain ⟨rfl, rfl⟩ := ret_some eB
  refine m s σ H S g o1 s1 e1 _ fun v H1 S1 g1 w1 r1 _ => ?_
  obtain ⟨rfl, vx⟩ := view_of g1 r1 e2
  obtain ⟨t1, t2⟩ := vx.ty g1.fr.sub
  exact ⟨v, .ty T, _, _, isiB (tyD x) T, rfl, .ty T, t1, kit_ty (kit_isi _ t2 T hT), q _ H1 S1 g1 w1 (.bl _) trivial⟩

/-! ### list(range(..)) -/
def rgD (a b : Int) : List D := (List.range (b - a).toNat).map fun i => .int (a + (i : Nat))
theorem rg_of {K : Frag} {S : Hp} (a b : Int) : DqAll K S (rgV a b) (rgD a b) := by
  have h := DqAll.ints (K := K) (S := S) ((List.range (b - a).toNat).map fun i => a + (i : Nat))
  rw [List.map_map, List.map_map] at h
  exact h
def rgOk (a b : Int) : Bool := decide (-(2 ^ 62) ≤ a) && decide (a < 2 ^ 62) && decide (-(2 ^ 62) ≤ b) && decide (b < 2 ^ 62) && decide ((b - a).toNat ≤ 2 ^ 24)
theorem rgOk_of {a b : Int} (h : rgOk a b = true) : RgOk a b := by
  unfold rgOk at h
  simp only [Bool.and_eq_true, decide_eq_true_eq] at h
  obtain ⟨⟨⟨⟨h1, h2⟩, h3⟩, h4⟩, h5⟩ := h
  exact ⟨h1, h2, h3, h4, h5⟩
def intsM (G : M τ (List Opd)) : M τ (List D) := bnd G fun os => getL os
def rng2 : List D → Option (Int × Int)
  | [.int n] => some (0, n)
  | [.int a, .int b] => some (a, b)
  | _ => none
def listRgM (G : M τ (List Opd)) : M τ Opd := bnd (intsM G) fun ds => bnd (lift (rng2 ds)) fun ab => if rgOk ab.1 ab.2 then ret (.new (rgD ab.1 ab.2)) else stuck
theorem viewL_fin {K : Frag} {B : Bd τ} {s s' : Stt τ} {σ : List (Option V)} {H S : Hp} {ds : List D} {os : List Opd} {vs : List V} (g : Good K B s σ H S) (r : RelL K S σ vs os) (e : getL os s = some (ds, s')) : s' = s ∧ ViewL K H S vs ds := viewL_of g r e
theorem DO.listRg1 {p pos p2 pos2 : Pos} (ha : DO Γ B a Fa) (hg : Γ.sc.names.lookup ("list" : Str) = some .globalImplicit) (hm : Γ.mg "list" = none) (hg2 : Γ.sc.names.lookup ("range" : Str) = some .globalImplicit) (hm2 : Γ.mg "range" = none)
    (na : ∀ X : Cx, starEach [a] X.env = (false, eval a X.env) :: starEach [] X.env := by intro _; rfl) (nb : ∀ X : Cx, starEach [.Call (.Name "range" p2) [a] [] pos2] X.env = (false, eval (.Call (.Name "range" p2) [a] [] pos2) X.env) :: starEach [] X.env := by intro _; rfl) :
    DO Γ B (.Call (.Name "list" p) [.Call (.Name "range" p2) [a] [] pos2] [] pos) (listRgM (consO Fa nilM)) := by
  obtain ⟨t, pe, m⟩ := ha
  refine ⟨_, fun X h => pe_listRg h.calm (gl_of h hg) (by rw [h.mg]; exact hm) (prg_1 (gl_of h hg2) (by rw [h.mg]; exact hm2) (pe X h) (na X)) (nb X), fun s σ H S g o s' e Q q => ?_⟩
  obtain ⟨ds, s1, e1, eA⟩ := bnd_some e
  obtain ⟨os, s2, e2, e3⟩ := bnd_some e1
  obtain ⟨o1, s3, e4, e5⟩ := bnd_some e2
  obtain ⟨os', s4, e6, e7⟩ := bnd_some e5
  obtain ⟨rfl, rfl⟩ := ret_some e6
  obtain ⟨rfl, rfl⟩ := ret_some e7
  obtain ⟨ab, s5, e8, e9⟩ := bnd_some eA
  obtain ⟨ez, rfl⟩ := lift_some e8
  refine m.late g e4 fun v H1 S1 g1 w1 r1 => ?_
  obtain ⟨rfl, vl⟩ := viewL_fin (vs := [v]) (os := [_]) g1 ⟨r1, trivial⟩ e3
  match ds, vl, ez with
  | [.int n], vl, ez =>
    cases ez
    obtain rfl := vl.1.int
    by_cases hz : rgOk 0 n = true
    · rw [if_pos hz] at e9
      obtain ⟨rfl, rfl⟩ := ret_some e9
      refine ⟨n, rfl, rgOk_of hz, fun p' np => ?_⟩
      obtain ⟨g2, f⟩ := Good.free g1 np (rg_of 0 n)
      exact q _ _ _ g2 (w1.trans (Grow.fresh g1.fr.sub np).step) ⟨p', rfl, f⟩ ⟨p', rfl, w1.dom p' np⟩
    · rw [if_neg hz] at e9
      cases e9
  | [.int a, .int b], vl, ez => exact vl.2.elim
theorem DO.listRg2 {p pos p2 pos2 : Pos} (ha : DO Γ B a Fa) (hb : DO Γ B b Fb) (hg : Γ.sc.names.lookup ("list" : Str) = some .globalImplicit) (hm : Γ.mg "list" = none) (hg2 : Γ.sc.names.lookup ("range" : Str) = some .globalImplicit) (hm2 : Γ.mg "range" = none)
    (na : ∀ X : Cx, starEach [a, b] X.env = (false, eval a X.env) :: starEach [b] X.env := by intro _; rfl) (nc : ∀ X : Cx, starEach [b] X.env = (false, eval b X.env) :: starEach [] X.env := by intro _; rfl) (np : ∀ X : Cx, (backTo pos2 (starEach [b] X.env)).any (·.1) = false := by intro _; rfl)
    (nb : ∀ X : Cx, starEach [.Call (.Name "range" p2) [a, b] [] pos2] X.env = (false, eval (.Call (.Name "range" p2) [a, b] [] pos2) X.env) :: starEach [] X.env := by intro _; rfl) :
    DO Γ B (.Call (.Name "list" p) [.Call (.Name "range" p2) [a, b] [] pos2] [] pos) (listRgM (consO Fa (consO Fb nilM))) := by
  obtain ⟨t, pe, m⟩ := ha
  obtain ⟨tb, peb, mb⟩ := hb
  refine ⟨_, fun X h => pe_listRg h.calm (gl_of h hg) (by rw [h.mg]; exact hm) (prg_2 (gl_of h hg2) (by rw [h.mg]; exact hm2) (pe X h) (peb X h) (na X) (nc X) (np X)) (nb X), fun s σ H S g o s' e Q q => ?_⟩
  obtain ⟨ds, s1, e1, eA⟩ := bnd_some e
  obtain ⟨os, s2, e2, e3⟩ := bnd_some e1
  obtain ⟨o1, s3, e4, e5⟩ := bnd_some e2
  obtain ⟨os', s4, e6, e7⟩ := bnd_some e5
  obtain ⟨o2, s6, e10, e11⟩ := bnd_some e6
  obtain ⟨os2, s7, e12, e13⟩ := bnd_some e11
  obtain ⟨rfl, rfl⟩ := ret_some e12
  obtain ⟨rfl, rfl⟩ := ret_some e13
  obtain ⟨rfl, rfl⟩ := ret_some e7
  obtain ⟨ab, s5, e8, e9⟩ := bnd_some eA
  obtain ⟨ez, rfl⟩ := lift_some e8
  refine m.late g e4 fun v H1 S1 g1 w1 r1 => ?_
  refine mb.late g1 e10 fun u H2 S2 g2 w2 r2 => ?_
  obtain ⟨rfl, vl⟩ := viewL_fin (vs := [v, u]) (os := [_, _]) g2 ⟨r1.mono w2.same, r2, trivial⟩ e3
  match ds, vl, ez with
  | [.int n], vl, ez => exact vl.2.elim
  | [.int i, .int j], vl, ez =>
    cases ez
    obtain rfl := vl.1.int
    obtain rfl := vl.2.1.int
    by_cases hz : rgOk i j = true
    · rw [if_pos hz] at e9
      obtain ⟨rfl, rfl⟩ := ret_some e9
      refine ⟨i, j, rfl, rfl, rgOk_of hz, fun p' np => ?_⟩
      obtain ⟨g3, f⟩ := Good.free g2 np (rg_of i j)
      exact q _ _ _ g3 ((w1.trans w2).trans (Grow.fresh g2.fr.sub np).step) ⟨p', rfl, f⟩ ⟨p', rfl, (w1.trans w2).dom p' np⟩
    · rw [if_neg hz] at e9
      cases e9

/-! ### what is walked -/
structure DWalk (K : Frag) (S : Hp) (J : It) (xs : List D) : Prop where
  go : ∀ i H, i < xs.length → Same S H → J.go i H
  stop : ∀ H, Same S H → J.stop xs.length H
  yld : ∀ i H x H' S1 d, xs[i]? = some d → Same S S1 → Same S1 H → J.yld i H x H' → ∃ S2, Grow H S1 H' S2 ∧ Dq K S2 x d
def MeanI (K : Frag) (B : Bd τ) (wi : TI) (F : M τ (List D)) : Prop := ∀ s σ H S, Good K B s σ H S → ∀ xs s', F s = some (xs, s') →
  ∀ R : It → Hp → Prop, (∀ J H' S', Good K B s' σ H' S' → Step K B σ s H S s' H' S' → DWalk K S' J xs → R J H') → wi σ H R
def DI (Γ : Gam) (B : Bd τ) (tg iter : Expr) (F : M τ (List D)) : Prop := ∃ wi, (∀ X, Γ.Has X → PI X tg iter wi) ∧ MeanI Γ.K B wi F
def iOr (w1 w2 : TI) : TI := fun σ H R => w1 σ H R ∨ w2 σ H R
theorem pi_or {X : Cx} {tg iter : Expr} {w1 w2 : TI} (h1 : PI X tg iter w1) (h2 : PI X tg iter w2) : PI X tg iter (iOr w1 w2) :=
  ⟨fun pins s σ H R I h => h.elim (fun h => h1.run pins s σ H R I h) fun h => h2.run pins s σ H R I h⟩
theorem lt_get {α : Type} {l : List α} {i : Nat} (h : i < l.length) : ∃ a, l[i]? = some a := ⟨l[i], List.getElem?_eq_getElem h⟩
theorem walkL {K : Frag} {S : Hp} {a : Addr} {vs : List V} {xs : List D} (h : S a = some (.lst vs)) (q : DqAll K S vs xs) : DWalk K S (Itl K a) xs where
  go := fun i H hi w => by
    obtain ⟨x, hx⟩ := lt_get hi
    obtain ⟨v, hv, _⟩ := q.getD hx
    exact ⟨vs, v, SqL.of (w _ _ h), hv⟩
  stop := fun H w => ⟨vs, SqL.of (w _ _ h), by rw [q.len]; exact Nat.le_refl _⟩
  yld := fun i H x H' S1 d hd w w1 y => by
    obtain ⟨rfl, y⟩ := y
    have hx := y vs (SqL.of (w1 _ _ (w _ _ h)))
    obtain ⟨v, hv, hq⟩ := q.getD hd
    rw [hx] at hv
    cases hv
    exact ⟨S1, Grow.refl w1, Dq.mono w hq⟩
theorem walkT {K : Frag} {S : Hp} {a : Addr} {vs : List V} {xs : List D} (h : SqT K S a vs) (q : DqAll K S vs xs) : DWalk K S (Itt K a) xs where
  go := fun i H hi w => by
    obtain ⟨x, hx⟩ := lt_get hi
    obtain ⟨v, hv, _⟩ := q.getD hx
    exact ⟨vs, v, seqT_mono w h, hv⟩
  stop := fun H w => ⟨vs, seqT_mono w h, by rw [q.len]; exact Nat.le_refl _⟩
  yld := fun i H x H' S1 d hd w w1 y => by
    obtain ⟨rfl, y⟩ := y
    have hx := y vs (seqT_mono w1 (seqT_mono w h))
    obtain ⟨v, hv, hq⟩ := q.getD hd
    rw [hx] at hv
    cases hv
    exact ⟨S1, Grow.refl w1, Dq.mono w hq⟩
def seqO (d : D) : M τ (List D) := match d with
  | .list xs => ret xs
  | .tuple xs => ret xs
  | _ => stuck
def iterM (F : M τ Opd) : M τ (List D) := bnd (valM F) seqO
theorem DI.seq {tg : Expr} (h : DO Γ B e F) : DI Γ B tg e (iterM F) := by
  obtain ⟨t, pe, m⟩ := h
  refine ⟨iOr (iList Γ.K t) (iTup Γ.K t), fun X h => pi_or (by have := @pi_list X tg e t (pe X h); rw [h.K] at this; exact this) (by have := @pi_tup X tg e t (pe X h); rw [h.K] at this; exact this), fun s σ H S g xs s' e R q => ?_⟩
  obtain ⟨d, s1, e1, e2⟩ := bnd_some e
  cases d with
  | list ys =>
    obtain ⟨rfl, rfl⟩ := ret_some e2
    refine .inl (m.val g e1 fun v H1 S1 g1 w1 r1 => ?_)
    cases r1 with
    | lst h1 h2 => exact ⟨_, rfl, ⟨_, SqL.of (g1.fr.sub _ _ h1)⟩, q _ H1 S1 g1 w1 (walkL h1 h2)⟩
  | tuple ys =>
    obtain ⟨rfl, rfl⟩ := ret_some e2
    refine .inr (m.val g e1 fun v H1 S1 g1 w1 r1 => ?_)
    cases r1 with
    | tup h1 h2 => exact ⟨_, rfl, ⟨_, seqT_mono g1.fr.sub h1⟩, q _ H1 S1 g1 w1 (walkT h1 h2)⟩
  | _ => cases e2
theorem walkR {K : Frag} {S : Hp} (a b : Int) : DWalk K S (Itr a (b - a).toNat) (rgD a b) where
  go := fun i H hi w => by
    show i < (b - a).toNat
    unfold rgD at hi
    rw [List.length_map, List.length_range] at hi
    exact hi
  stop := fun H w => by
    show (b - a).toNat ≤ (rgD a b).length
    unfold rgD
    simp
  yld := fun i H x H' S1 d hd w w1 y => by
    obtain ⟨rfl, rfl⟩ := y
    unfold rgD at hd
    rw [List.getElem?_map] at hd
    obtain ⟨j, h1, h2⟩ := Option.map_eq_some_iff.mp hd
    have hj : j = i := by
      have := List.getElem?_eq_some_iff.mp h1
      obtain ⟨hl, h3⟩ := this
      rw [List.getElem_range] at h3
      exact h3.symm
    subst hj
    subst h2
    exact ⟨S1, Grow.refl w1, .int _⟩
def rangeM (G : M τ (List Opd)) : M τ (List D) := bnd (intsM G) fun ds => bnd (lift (rng2 ds)) fun ab => if rgOk ab.1 ab.2 then ret (rgD ab.1 ab.2) else stuck
theorem DI.range1 {tg : Expr} {p : Pos} (ha : DA Γ B [a] (consO Fa nilM)) (hg : Γ.sc.names.lookup ("range" : Str) = some .globalImplicit) (hm : Γ.mg "range" = none) (hs : ∀ X : Cx, starEach [a] X.env = [(false, eval a X.env)] := by intro _; rfl) :
    DI Γ B tg (.Call (.Name "range" p) [a] [] pos) (rangeM (consO Fa nilM)) := by
  obtain ⟨t, pa, m⟩ := ha
  refine ⟨_, fun X h => pi_range1 (gl_of h hg) (by rw [h.mg]; exact hm) (pa X h) (hs X), fun s σ H S g xs s' e R q => ?_⟩
  obtain ⟨ds, s1, e1, eA⟩ := bnd_some e
  obtain ⟨os, s2, e2, e3⟩ := bnd_some e1
  obtain ⟨ab, s5, e8, e9⟩ := bnd_some eA
  obtain ⟨ez, rfl⟩ := lift_some e8
  have hos : ∃ o1, os = [o1] := by
    obtain ⟨o1, s3, e4, e5⟩ := bnd_some e2
    obtain ⟨os', s4, e6, e7⟩ := bnd_some e5
    obtain ⟨rfl, rfl⟩ := ret_some e6
    obtain ⟨rfl, rfl⟩ := ret_some e7
    exact ⟨_, rfl⟩
  obtain ⟨o1, rfl⟩ := hos
  refine m s σ H S g _ s2 e2 _ fun vs H1 S1 g1 w1 r1 => ?_
  obtain ⟨rfl, vl⟩ := viewL_fin g1 r1 e3
  match vs, r1, ds, vl, ez with
  | [v], r1, [.int n], vl, ez =>
    cases ez
    obtain rfl := vl.1.int
    by_cases hz : rgOk 0 n = true
    · rw [if_pos hz] at e9
      obtain ⟨rfl, rfl⟩ := ret_some e9
      obtain ⟨b1, b2, b3, b4, b5⟩ := rgOk_of hz
      have wk := walkR (K := Γ.K) (S := S1) 0 n
      rw [Int.sub_zero] at wk
      exact ⟨n, rfl, b3, b4, q _ H1 S1 g1 w1 wk⟩
    · rw [if_neg hz] at e9
      cases e9
  | [v], r1, [.int i, .int j], vl, ez => exact vl.2.elim
theorem DI.range2 {tg : Expr} {p : Pos} (ha : DA Γ B [a, b] (consO Fa (consO Fb nilM))) (hg : Γ.sc.names.lookup ("range" : Str) = some .globalImplicit) (hm : Γ.mg "range" = none) (hs : ∀ X : Cx, starEach [a, b] X.env = [(false, eval a X.env), (false, eval b X.env)] := by intro _; rfl)
    (hs2 : ∀ X : Cx, starEach [b] X.env = [(false, eval b X.env)] := by intro _; rfl) : DI Γ B tg (.Call (.Name "range" p) [a, b] [] pos) (rangeM (consO Fa (consO Fb nilM))) := by
  obtain ⟨t, pa, m⟩ := ha
  refine ⟨_, fun X h => pi_range2 (gl_of h hg) (by rw [h.mg]; exact hm) (pa X h) (hs X) (hs2 X), fun s σ H S g xs s' e R q => ?_⟩
  obtain ⟨ds, s1, e1, eA⟩ := bnd_some e
  obtain ⟨os, s2, e2, e3⟩ := bnd_some e1
  obtain ⟨ab, s5, e8, e9⟩ := bnd_some eA
  obtain ⟨ez, rfl⟩ := lift_some e8
  have hos : ∃ o1 o2, os = [o1, o2] := by
    obtain ⟨o1, s3, e4, e5⟩ := bnd_some e2
    obtain ⟨os', s4, e6, e7⟩ := bnd_some e5
    obtain ⟨o2, s6, e10, e11⟩ := bnd_some e6
    obtain ⟨os2, s7, e12, e13⟩ := bnd_some e11
    obtain ⟨rfl, rfl⟩ := ret_some e12
    obtain ⟨rfl, rfl⟩ := ret_some e13
    obtain ⟨rfl, rfl⟩ := ret_some e7
    exact ⟨_, _, rfl⟩
  obtain ⟨o1, o2, rfl⟩ := hos
  refine m s σ H S g _ s2 e2 _ fun vs H1 S1 g1 w1 r1 => ?_
  obtain ⟨rfl, vl⟩ := viewL_fin g1 r1 e3
  match vs, r1, ds, vl, ez with
  | [v, u], r1, [.int i, .int j], vl, ez =>
    cases ez
    obtain rfl := vl.1.int
    obtain rfl := vl.2.1.int
    by_cases hz : rgOk i j = true
    · rw [if_pos hz] at e9
      obtain ⟨rfl, rfl⟩ := ret_some e9
      obtain ⟨b1, b2, b3, b4, b5⟩ := rgOk_of hz
      exact ⟨i, j, rfl, ⟨b1, b2, b3, b4⟩, q _ H1 S1 g1 w1 (walkR i j)⟩
    · rw [if_neg hz] at e9
      cases e9
  | [v, u], r1, [.int i], vl, ez => exact vl.2.elim
/-! enumerate -/
def enumL : Nat → List D → List D
  | _, [] => []
  | k, x :: xs => .tuple [.int (k : Nat), x] :: enumL (k + 1) xs
theorem enumL_len : ∀ (k : Nat) (xs : List D), (enumL k xs).length = xs.length
  | _, [] => rfl
  | k, x :: xs => by rw [enumL, List.length_cons, List.length_cons, enumL_len]
theorem enumL_get : ∀ (k : Nat) (xs : List D) (i : Nat) (d : D), (enumL k xs)[i]? = some d → ∃ x, xs[i]? = some x ∧ d = .tuple [.int ((k + i : Nat)), x]
  | _, [], _, _, h => by simp [enumL] at h
  | k, x :: xs, 0, d, h => by
    simp [enumL] at h
    exact ⟨x, rfl, h.symm⟩
  | k, x :: xs, i + 1, d, h => by
    have h' : (enumL (k + 1) xs)[i]? = some d := by simpa [enumL] using h
    obtain ⟨y, h1, h2⟩ := enumL_get (k + 1) xs i d h'
    exact ⟨y, by simpa using h1, by rw [h2, show k + 1 + i = k + (i + 1) by omega]⟩
theorem new_pair {K : Frag} {H S1 : Hp} {T : Addr} {v u : V} {x y : D} (w : Same S1 H) (n : H T = none) (h1 : Dq K S1 v x) (h2 : Dq K S1 u y) :
    ∃ S2, Grow H S1 (upd H T (.tup [v, u])) S2 ∧ Dq K S2 (.ref T) (.tuple [x, y]) := by
  have g := Grow.alloc (o := .tup [v, u]) w n
  exact ⟨_, g, .tup (SqT.of upd_same) (.cons (Dq.mono g.s h1) (.cons (Dq.mono g.s h2) .nil))⟩
theorem walkEL {K : Frag} {S : Hp} {a : Addr} {vs : List V} {xs : List D} (h : S a = some (.lst vs)) (q : DqAll K S vs xs) : DWalk K S (Ite K a) (enumL 0 xs) where
  go := fun i H hi w => by
    rw [enumL_len] at hi
    obtain ⟨x, hx⟩ := lt_get hi
    obtain ⟨v, hv, _⟩ := q.getD hx
    exact ⟨vs, v, SqL.of (w _ _ h), hv⟩
  stop := fun H w => ⟨vs, SqL.of (w _ _ h), by rw [q.len, enumL_len]; exact Nat.le_refl _⟩
  yld := fun i H x H' S1 d hd w w1 y => by
    obtain ⟨T, v, rfl, n, rfl, y⟩ := y
    have hx := y vs (SqL.of (w1 _ _ (w _ _ h)))
    obtain ⟨z, hz, rfl⟩ := enumL_get _ _ _ _ hd
    obtain ⟨v', hv, hq⟩ := q.getD hz
    rw [hx] at hv
    cases hv
    rw [Nat.zero_add]
    exact new_pair w1 n (.int _) (Dq.mono w hq)
theorem walkET {K : Frag} {S : Hp} {a : Addr} {vs : List V} {xs : List D} (h : SqT K S a vs) (q : DqAll K S vs xs) : DWalk K S (IteT K a) (enumL 0 xs) where
  go := fun i H hi w => by
    rw [enumL_len] at hi
    obtain ⟨x, hx⟩ := lt_get hi
    obtain ⟨v, hv, _⟩ := q.getD hx
    exact ⟨vs, v, seqT_mono w h, hv⟩
  stop := fun H w => ⟨vs, seqT_mono w h, by rw [q.len, enumL_len]⟩
  yld := fun i H x H' S1 d hd w w1 y => by
    obtain ⟨T, v, rfl, n, rfl, y⟩ := y
    have hx := y vs (seqT_mono w1 (seqT_mono w h))
    obtain ⟨z, hz, rfl⟩ := enumL_get _ _ _ _ hd
    obtain ⟨v', hv, hq⟩ := q.getD hz
    rw [hx] at hv
    cases hv
    rw [Nat.zero_add]
    exact new_pair w1 n (.int _) (Dq.mono w hq)
def iEnumT (K : Frag) (ta : TA) : TI := fun σ H R => ta σ H fun vs H1 => ∃ a xs, vs = [.ref a] ∧ SqT K H1 a xs ∧ R (IteT K a) H1
theorem pi_enumT {X : Cx} {e : Expr} {ta : TA} {p pos tpos : Pos} {elts : List Expr} {kk : Nat} (hg : Gl X "enumerate") (hm : X.mg "enumerate" = none) (ha : PA X [e] ta) (hs : starEach [e] X.env = [(false, eval e X.env)]) :
    PI X (.Tuple elts kk tpos) (.Call (.Name "enumerate" p) [e] [] pos) (iEnumT X.K ta) := by
  refine ⟨fun pins s σ H R I h => ?_⟩
  refine Call_ (ld_blt I hg hm PyProof.Rows.boot_enumerate (PyProof.Rows.callWith_type1 (thn (ha.run pos pins s σ H _ I h) fun us s1 ⟨vs, H1, I1, r1, q1⟩ => ?_) hs rfl))
  obtain ⟨a, xs, ex, hq, q⟩ := q1
  subst ex
  obtain ⟨u, rfl, ru⟩ := vals1 r1
  cases ru
  obtain ⟨its, rv, p', hz⟩ := I1.tuple hq
  have hal : a < s1.heap.objs.size := p'.lt
  refine dl_call_enum (show s1.heap.IsTuple a its.toArray from p') fun h' he hit hk => wpAny_pyIter_enum he ?_
  have I2 : Inv X pins σ H1 { s1 with heap := h' } := I1.kept (t' := s1.toks) hk
  refine ⟨s1.heap.objs.size + 1, [s1.heap.objs.size + 1, s1.heap.objs.size], _, _, H1, rfl, I2, turn_enumT a (s1.heap.objs.size + 1) s1.heap.objs.size, ⟨⟨.none, he⟩, hit, Nat.succ_ne_self _, Nat.ne_of_lt hal, Nat.ne_of_lt (Nat.lt_succ_of_lt hal)⟩, fun b hb => ?_, q⟩
  have hle : s1.heap.objs.size ≤ b := by
    have e' : b = s1.heap.objs.size + 1 ∨ b = s1.heap.objs.size := by simpa using hb
    rcases e' with z | z
    · rw [z]; exact Nat.le_succ _
    · rw [z]; exact Nat.le_refl _
  exact I1.fpOk hle (I1.hok.fresh hle)
def enumM (F : M τ Opd) : M τ (List D) := bnd (iterM F) fun xs => ret (enumL 0 xs)
theorem DI.enum {p tpos : Pos} {elts : List Expr} {kk : Nat} (h : DO Γ B e F) (hg : Γ.sc.names.lookup ("enumerate" : Str) = some .globalImplicit) (hm : Γ.mg "enumerate" = none) (hs : ∀ X : Cx, starEach [e] X.env = [(false, eval e X.env)] := by intro _; rfl) :
    DI Γ B (.Tuple elts kk tpos) (.Call (.Name "enumerate" p) [e] [] pos) (enumM F) := by
  obtain ⟨t, pe, m⟩ := h
  have hs' : ∀ X : Cx, starEach [e] X.env = (false, eval e X.env) :: starEach [] X.env := fun X => hs X
  refine ⟨iOr (iEnum Γ.K (tCons t tNil)) (iEnumT Γ.K (tCons t tNil)), fun X h => pi_or (by have := @pi_enum X e _ p pos tpos elts kk (gl_of h hg) (by rw [h.mg]; exact hm) (pa_cons (pe X h) pa_nil (hs' X)) (hs X); rw [h.K] at this; exact this)
    (by have := @pi_enumT X e _ p pos tpos elts kk (gl_of h hg) (by rw [h.mg]; exact hm) (pa_cons (pe X h) pa_nil (hs' X)) (hs X); rw [h.K] at this; exact this), fun s σ H S g xs s' e R q => ?_⟩
  obtain ⟨ys, s1, e1, e2⟩ := bnd_some e
  obtain ⟨rfl, rfl⟩ := ret_some e2
  obtain ⟨d, s2, e3, e4⟩ := bnd_some e1
  cases d with
  | list zs =>
    obtain ⟨rfl, rfl⟩ := ret_some e4
    refine .inl (m.val g e3 fun v H1 S1 g1 w1 r1 => ?_)
    cases r1 with
    | lst h1 h2 => exact ⟨_, _, rfl, SqL.of (g1.fr.sub _ _ h1), q _ H1 S1 g1 w1 (walkEL h1 h2)⟩
  | tuple zs =>
    obtain ⟨rfl, rfl⟩ := ret_some e4
    refine .inr (m.val g e3 fun v H1 S1 g1 w1 r1 => ?_)
    cases r1 with
    | tup h1 h2 => exact ⟨_, _, rfl, seqT_mono g1.fr.sub h1, q _ H1 S1 g1 w1 (walkET h1 h2)⟩
  | _ => cases e4
/-! zip of two lists or of two tuples -/
def zipL : List D → List D → List D
  | x :: xs, y :: ys => .tuple [x, y] :: zipL xs ys
  | _, _ => []
theorem zipL_len : ∀ (xs ys : List D), (zipL xs ys).length = min xs.length ys.length
  | [], _ => by simp [zipL]
  | _ :: _, [] => by simp [zipL]
  | x :: xs, y :: ys => by rw [zipL, List.length_cons, zipL_len, List.length_cons, List.length_cons]; omega
theorem zipL_get : ∀ (xs ys : List D) (i : Nat) (d : D), (zipL xs ys)[i]? = some d → ∃ x y, xs[i]? = some x ∧ ys[i]? = some y ∧ d = .tuple [x, y]
  | [], _, _, _, h => by simp [zipL] at h
  | _ :: _, [], _, _, h => by simp [zipL] at h
  | x :: xs, y :: ys, 0, d, h => by
    simp [zipL] at h
    exact ⟨x, y, rfl, rfl, h.symm⟩
  | x :: xs, y :: ys, i + 1, d, h => by
    have h' : (zipL xs ys)[i]? = some d := by simpa [zipL] using h
    obtain ⟨a, b, h1, h2, h3⟩ := zipL_get xs ys i d h'
    exact ⟨a, b, by simpa using h1, by simpa using h2, h3⟩
theorem walkZ {K : Frag} {S : Hp} {a b : Addr} {vs us : List V} {xs ys : List D} (h : S a = some (.lst vs)) (h' : S b = some (.lst us)) (q : DqAll K S vs xs) (q' : DqAll K S us ys) : DWalk K S (Itz K a b) (zipL xs ys) where
  go := fun i H hi w => by
    rw [zipL_len] at hi
    obtain ⟨x, hx⟩ := lt_get (show i < xs.length by omega)
    obtain ⟨y, hy⟩ := lt_get (show i < ys.length by omega)
    obtain ⟨v, hv, _⟩ := q.getD hx
    obtain ⟨u, hu, _⟩ := q'.getD hy
    exact ⟨vs, us, v, u, SqL.of (w _ _ h), SqL.of (w _ _ h'), hv, hu⟩
  stop := fun H w => ⟨vs, us, SqL.of (w _ _ h), SqL.of (w _ _ h'), by rw [q.len, q'.len, zipL_len]; omega⟩
  yld := fun i H x H' S1 d hd w w1 y => by
    obtain ⟨T, v, u, rfl, n, rfl, y1, y2⟩ := y
    have hx := y1 vs (SqL.of (w1 _ _ (w _ _ h)))
    have hy := y2 us (SqL.of (w1 _ _ (w _ _ h')))
    obtain ⟨z, z', hz, hz', rfl⟩ := zipL_get _ _ _ _ hd
    obtain ⟨v', hv, hq⟩ := q.getD hz
    obtain ⟨u', hu, hq'⟩ := q'.getD hz'
    rw [hx] at hv
    rw [hy] at hu
    cases hv
    cases hu
    exact new_pair w1 n (Dq.mono w hq) (Dq.mono w hq')
theorem walkZT {K : Frag} {S : Hp} {a b : Addr} {vs us : List V} {xs ys : List D} (h : SqT K S a vs) (h' : SqT K S b us) (q : DqAll K S vs xs) (q' : DqAll K S us ys) : DWalk K S (RZ.ItzT K a b) (zipL xs ys) where
  go := fun i H hi w => by
    rw [zipL_len] at hi
    obtain ⟨x, hx⟩ := lt_get (show i < xs.length by omega)
    obtain ⟨y, hy⟩ := lt_get (show i < ys.length by omega)
    obtain ⟨v, hv, _⟩ := q.getD hx
    obtain ⟨u, hu, _⟩ := q'.getD hy
    exact ⟨vs, us, v, u, seqT_mono w h, seqT_mono w h', hv, hu⟩
  stop := fun H w => ⟨vs, us, seqT_mono w h, seqT_mono w h', by rw [q.len, q'.len, zipL_len]; omega⟩
  yld := fun i H x H' S1 d hd w w1 y => by
    obtain ⟨T, v, u, rfl, n, rfl, y1, y2⟩ := y
    have hx := y1 vs (seqT_mono w1 (seqT_mono w h))
    have hy := y2 us (seqT_mono w1 (seqT_mono w h'))
    obtain ⟨z, z', hz, hz', rfl⟩ := zipL_get _ _ _ _ hd
    obtain ⟨v', hv, hq⟩ := q.getD hz
    obtain ⟨u', hu, hq'⟩ := q'.getD hz'
    rw [hx] at hv
    rw [hy] at hu
    cases hv
    cases hu
    exact new_pair w1 n (Dq.mono w hq) (Dq.mono w hq')
def zipD : List D → Option (List D)
  | [.list xs, .list ys] => some (zipL xs ys)
  | [.tuple xs, .tuple ys] => some (zipL xs ys)
  | _ => none
def zipM (G : M τ (List D)) : M τ (List D) := bnd G fun ds => lift (zipD ds)
theorem DI.zip {p tpos : Pos} {elts : List Expr} {kk : Nat} {G : M τ (List D)} (h : DV Γ B [a, b] G) (hg : Γ.sc.names.lookup ("zip" : Str) = some .globalImplicit) (hm : Γ.mg "zip" = none) (hz : ∀ X : Cx, starEach [a, b] X.env = (false, eval a X.env) :: starEach [b] X.env := by intro _; rfl)
    (hz2 : ∀ X : Cx, (backTo pos (starEach [b] X.env)).any (·.1) = false := by intro _; rfl) :
    DI Γ B (.Tuple elts kk tpos) (.Call (.Name "zip" p) [a, b] [] pos) (zipM G) := by
  obtain ⟨t, pa, m⟩ := h
  refine ⟨RZ.iZipA Γ.K t, fun X h => by have := RZ.pi_zipA (X := X) (elts := elts) (kk := kk) (tpos := tpos) (p := p) (pos := pos) (gl_of h hg) (by rw [h.mg]; exact hm) (pa X h) (hz X) (hz2 X); rw [h.K] at this; exact this, fun s σ H S g xs s' e R q => ?_⟩
  obtain ⟨ds, s1, e1, e2⟩ := bnd_some e
  obtain ⟨ez, rfl⟩ := lift_some e2
  refine m s σ H S g ds _ e1 _ fun vs H1 S1 g1 w1 r1 => ?_
  match ds, r1, ez with
  | [.list xs, .list ys], .cons (.lst h1 h2) (.cons (.lst h3 h4) .nil), ez =>
    cases ez
    exact ⟨_, _, _, _, rfl, .inl ⟨SqL.of (g1.fr.sub _ _ h1), SqL.of (g1.fr.sub _ _ h3), q _ H1 S1 g1 w1 (walkZ h1 h3 h2 h4)⟩⟩
  | [.tuple xs, .tuple ys], .cons (.tup h1 h2) (.cons (.tup h3 h4) .nil), ez =>
    cases ez
    exact ⟨_, _, _, _, rfl, .inr ⟨seqT_mono g1.fr.sub h1, seqT_mono g1.fr.sub h3, q _ H1 S1 g1 w1 (walkZT h1 h3 h2 h4)⟩⟩
end
end DL
end

section
set_option Elab.async false
set_option linter.all false
set_option maxRecDepth 100000
set_option maxHeartbeats 3999999
/-! WEng6: targets, comprehensions -/
namespace DL
open L2 PySem PyProof.Rows PySem.Spec
variable {τ α β : Type}

/-! ### slots forgotten -/
def wipeE (env : List (Option Sl)) : List Nat → List (Option Sl)
  | [] => env
  | v :: vs => (wipeE env vs).set v none
theorem wipeE_len (env : List (Option Sl)) : ∀ vs, (wipeE env vs).length = env.length
  | [] => rfl
  | v :: vs => by unfold wipeE; rw [List.length_set, wipeE_len]
theorem wipeE_some {env : List (Option Sl)} {i : Nat} {z : Sl} : ∀ {vs : List Nat}, (wipeE env vs)[i]? = some (some z) → env[i]? = some (some z) ∧ i ∉ vs
  | [], h => ⟨h, by simp⟩
  | v :: vs, h => by
    unfold wipeE at h
    rcases set_get h with ⟨_, q⟩ | ⟨n, q⟩
    · cases q
    · obtain ⟨h1, h2⟩ := wipeE_some q
      exact ⟨h1, fun m => (List.mem_cons.mp m).elim (fun e => n e.symm) h2⟩
theorem wipe_get (σ : List (Option V)) (j : Nat) : ∀ vs : List Nat, (wipe σ vs)[j]? = if j ∈ vs then σ[j]?.map (fun _ => none) else σ[j]?
  | [] => by simp [wipe]
  | v :: vs => by
    unfold wipe
    by_cases e : v = j
    · subst e
      rw [if_pos List.mem_cons_self]
      by_cases hl : v < (wipe σ vs).length
      · rw [List.getElem?_set_self hl]
        rw [wipe_length] at hl
        rw [List.getElem?_eq_getElem hl]
        rfl
      · rw [List.getElem?_eq_none (by rw [List.length_set]; omega)]
        rw [wipe_length] at hl
        rw [List.getElem?_eq_none (by omega)]
        rfl
    · rw [List.getElem?_set_ne e, wipe_get]
      by_cases m : j ∈ vs
      · rw [if_pos m, if_pos (List.mem_cons_of_mem _ m)]
      · rw [if_neg m, if_neg (fun q => (List.mem_cons.mp q).elim (fun z => e z.symm) m)]
theorem wipe_set {σ : List (Option V)} {i : Nat} {x : Option V} {vs : List Nat} (h : i ∈ vs) : wipe (σ.set i x) vs = wipe σ vs := by
  apply List.ext_getElem?
  intro j
  rw [wipe_get, wipe_get]
  by_cases e : i = j
  · subst e
    rw [if_pos h, if_pos h]
    by_cases hl : i < σ.length
    · rw [List.getElem?_set_self hl, List.getElem?_eq_getElem hl]; rfl
    · rw [List.getElem?_eq_none (by rw [List.length_set]; omega), List.getElem?_eq_none (by omega)]
  · rw [List.getElem?_set_ne e]
theorem wipe_wipe {σ : List (Option V)} {us vs : List Nat} (h : ∀ i ∈ us, i ∈ vs) : wipe (wipe σ us) vs = wipe σ vs := by
  apply List.ext_getElem?
  intro j
  rw [wipe_get, wipe_get, wipe_get]
  by_cases m : j ∈ vs
  · rw [if_pos m, if_pos m]
    by_cases m' : j ∈ us
    · rw [if_pos m']; cases σ[j]? <;> rfl
    · rw [if_neg m']
  · rw [if_neg m, if_neg m, if_neg (fun q => m (h j q))]
section
variable {K : Frag} {B : Bd τ} {s s' s1 : Stt τ} {σ : List (Option V)} {H S H' S' : Hp} {ws : List Nat}
theorem Good.wipe (g : Good K B s σ H S) (ws : List Nat) : Good K B { s with env := wipeE s.env ws } (L2.wipe σ ws) H S := by
  refine ⟨g.fr, g.at_, by rw [wipeE_len, wipe_length]; exact g.len, fun i z e => ?_, fun i j xs ys n e1 e2 => ?_⟩
  · obtain ⟨e', hn⟩ := wipeE_some e
    rw [wipe_out hn]
    exact g.slot i z e'
  · obtain ⟨q1, n1⟩ := wipeE_some e1
    obtain ⟨q2, n2⟩ := wipeE_some e2
    rw [wipe_out n1, wipe_out n2]
    exact g.disj i j xs ys n q1 q2
theorem Free.wipe {p : Addr} {xs : List D} (f : Free K B s σ H S p xs) (ws : List Nat) : Free K B { s with env := wipeE s.env ws } (L2.wipe σ ws) H S p xs :=
  ⟨f.at_, f.ns, f.n0, f.nr, fun j ys e => by
    obtain ⟨e', hn⟩ := wipeE_some e
    rw [wipe_out hn]
    exact f.no j ys e'⟩
def keepD : Option (Option Sl) → Option Sl
  | some (some (.d x)) => some (.d x)
  | _ => none
def restE (env0 : List (Option Sl)) : List Nat → List (Option Sl) → List (Option Sl)
  | [], env => env
  | v :: vs, env => (restE env0 vs env).set v (keepD env0[v]?)
theorem restE_len (env0 env : List (Option Sl)) : ∀ vs, (restE env0 vs env).length = env.length
  | [] => rfl
  | v :: vs => by unfold restE; rw [List.length_set, restE_len]
theorem restE_some {env0 env : List (Option Sl)} {i : Nat} {z : Sl} : ∀ {vs : List Nat}, (restE env0 vs env)[i]? = some (some z) → (i ∈ vs ∧ ∃ x, z = .d x ∧ env0[i]? = some (some (.d x))) ∨ (i ∉ vs ∧ env[i]? = some (some z))
  | [], h => .inr ⟨by simp, h⟩
  | v :: vs, h => by
    unfold restE at h
    rcases set_get h with ⟨rfl, q⟩ | ⟨n, q⟩
    · refine .inl ⟨List.mem_cons_self, ?_⟩
      unfold keepD at q
      split at q
      · rename_i x e
        cases q
        exact ⟨x, rfl, e⟩
      · cases q
    · rcases restE_some q with ⟨m, r⟩ | ⟨m, r⟩
      · exact .inl ⟨List.mem_cons_of_mem _ m, r⟩
      · exact .inr ⟨fun k => (List.mem_cons.mp k).elim (fun e => n e.symm) m, r⟩
theorem Good.unwipe (g1 : Good K B s1 σ H S) (g : Good K B s' (L2.wipe σ ws) H' S') (w : Same S S') : Good K B { s' with env := restE s1.env ws s'.env } σ H' S' := by
  refine ⟨g.fr, g.at_, by rw [restE_len, g.len, wipe_length], fun i z e => ?_, fun i j xs ys n e1 e2 => ?_⟩
  · rcases restE_some e with ⟨_, x, rfl, q⟩ | ⟨m, q⟩
    · obtain ⟨v, h1, h2⟩ := g1.get q
      exact ⟨v, h1, Dq.mono w h2⟩
    · obtain ⟨v, h1, h2⟩ := g.slot i z q
      exact ⟨v, (wipe_some h1).1, h2⟩
  · rcases restE_some e1 with ⟨_, x, q, _⟩ | ⟨m1, q1⟩
    · cases q
    rcases restE_some e2 with ⟨_, x, q, _⟩ | ⟨m2, q2⟩
    · cases q
    have := g.disj i j xs ys n q1 q2
    rw [wipe_out m1, wipe_out m2] at this
    exact this
theorem Free.unwipe {p : Addr} {xs : List D} {env0 : List (Option Sl)} (f : Free K B s' (L2.wipe σ ws) H' S' p xs) : Free K B { s' with env := restE env0 ws s'.env } σ H' S' p xs :=
  ⟨f.at_, f.ns, f.n0, f.nr, fun j ys e => by
    rcases restE_some e with ⟨_, x, q, _⟩ | ⟨m, q⟩
    · cases q
    · have := f.no j ys q
      rw [wipe_out m] at this
      exact this⟩
/-- the contents of a list that nobody knows are changed -/
theorem Good.changeFree {p : Addr} {xs : List D} {us : List V} (g : Good K B s σ H S) (f : Free K B s σ H S p xs) : Good K B s σ (upd H p (.lst us)) S := by
  obtain ⟨⟨vs, hp, _⟩, ns, n0, nr, no⟩ := f
  refine ⟨⟨fun b o e r => ?_, g.fr.s, fun b o e => ?_, g.fr.new, g.fr.nor⟩, ?_, g.len, fun j z e => ?_, g.disj⟩
  · rw [upd_ne (fun q => by rw [q, n0] at e; cases e)]
    exact g.fr.keep b o e r
  · rw [upd_ne (fun q => by rw [q, ns] at e; cases e)]
    exact g.fr.sub b o e
  · exact B.dr.stay _ _ _ g.at_ fun b o r e => by rw [upd_ne (fun q => nr (by rw [← q]; exact r))]; exact e
  · obtain ⟨v, h1, h2⟩ := g.slot j z e
    refine ⟨v, h1, ?_⟩
    cases z with
    | d x => exact h2
    | own as =>
      obtain ⟨q', us', e1, e2, e3⟩ := h2
      subst e1
      exact ⟨q', us', rfl, by rw [upd_ne (fun z => no j as e (by rw [h1, z]))]; exact e2, e3⟩
    | h => exact h2
    | s ns => exact h2
theorem Free.change {p : Addr} {xs ys : List D} {us : List V} (f : Free K B s σ H S p xs) (h : DqAll K S us ys) : Free K B s σ (upd H p (.lst us)) S p ys := ⟨⟨us, upd_same, h⟩, f.ns, f.n0, f.nr, f.no⟩
theorem Free.other {p q : Addr} {xs : List D} {o : HO} (f : Free K B s σ H S q xs) (n : q ≠ p) : Free K B s σ (upd H p o) S q xs :=
  ⟨let ⟨vs, h1, h2⟩ := f.at_; ⟨vs, by rw [upd_ne n]; exact h1, h2⟩, f.ns, f.n0, f.nr, f.no⟩
end

/-! ### targets -/
structure Moved (K : Frag) (B : Bd τ) (ws : List Nat) (s : Stt τ) (σ : List (Option V)) (s' : Stt τ) (σ' : List (Option V)) : Prop where
  free : ∀ H S p xs, Free K B s σ H S p xs → Free K B s' σ' H S p xs
  wipe : ∀ vs : List Nat, (∀ i ∈ ws, i ∈ vs) → L2.wipe σ' vs = L2.wipe σ vs
def MeanG (K : Frag) (B : Bd τ) (g : TG) (ws : List Nat) (G : D → M τ Unit) : Prop := ∀ s σ H S, Good K B s σ H S → ∀ v d, Dq K S v d → ∀ s', G d s = some ((), s') →
  ∀ Q : List (Option V) → Hp → Prop, (∀ σ', Good K B s' σ' H S → Moved K B ws s σ s' σ' → Q σ' H) → g v σ H Q
def DG (Γ : Gam) (B : Bd τ) (tg : Expr) (ws : List Nat) (G : D → M τ Unit) : Prop := ∃ g, (∀ X, Γ.Has X → PG X tg g) ∧ MeanG Γ.K B g ws G
def MeanGs (K : Frag) (B : Bd τ) (g : TGs) (ws : List Nat) (G : List D → M τ Unit) : Prop := ∀ s σ H S, Good K B s σ H S → ∀ v d, DqAll K S v d → ∀ s', G d s = some ((), s') →
  ∀ Q : List (Option V) → Hp → Prop, (∀ σ', Good K B s' σ' H S → Moved K B ws s σ s' σ' → Q σ' H) → g v σ H Q
def DGs (Γ : Gam) (B : Bd τ) (tg : List Expr) (ws : List Nat) (G : List D → M τ Unit) : Prop := ∃ g, (∀ X, Γ.Has X → PGs X tg g) ∧ MeanGs Γ.K B g ws G
def setM (i : Nat) (d : D) : M τ Unit := fun s => some ((), { s with env := s.env.set i (some (.d d)) })
def gsNil : List D → M τ Unit := fun ds => match ds with
  | [] => ret ()
  | _ => stuck
def gsCons (G : D → M τ Unit) (Gs : List D → M τ Unit) : List D → M τ Unit := fun ds => match ds with
  | [] => stuck
  | d :: ds => bnd (G d) fun _ => Gs ds
def tupG (n : Nat) (Gs : List D → M τ Unit) : D → M τ Unit := fun d => match d with
  | .tuple ds => if ds.length = n then Gs ds else stuck
  | _ => stuck
theorem Moved.trans {K : Frag} {B : Bd τ} {ws us : List Nat} {s s1 s2 : Stt τ} {σ σ1 σ2 : List (Option V)} (a : Moved K B ws s σ s1 σ1) (b : Moved K B us s1 σ1 s2 σ2) : Moved K B (ws ++ us) s σ s2 σ2 :=
  ⟨fun H S p xs f => b.free H S p xs (a.free H S p xs f), fun vs h => by
    rw [b.wipe vs fun i m => h i (List.mem_append_right _ m), a.wipe vs fun i m => h i (List.mem_append_left _ m)]⟩
section
variable {Γ : Gam} {B : Bd τ} {pos : Pos}
theorem DG.name {i : Nat} {x : Str} (nd : Γ.N.Nodup) (hi : Γ.N[i]? = some x) (hx : Loc Γ.sc x) (hf : Γ.fn x = true ∨ Γ.sc.names.lookup x = some .local) : DG Γ B (.Name x pos) [i] (setM i) := by
  refine ⟨gName i, fun X h => pg_name (by rw [h.N]; exact nd) (by rw [h.N]; exact hi) (by rw [h.sc]; exact hx) (by
    rcases hf with z | z
    · exact h.fn x z
    · exact .inr (by rw [h.sc]; exact z)), fun s σ H S g v d hd s' e Q q => ?_⟩
  cases e
  refine q _ (g.set hd) ⟨fun H S p xs f => ⟨f.at_, f.ns, f.n0, f.nr, fun j ys e => ?_⟩, fun vs h => wipe_set (h i (by simp))⟩
  rcases set_get e with ⟨_, z⟩ | ⟨n, z⟩
  · cases z
  · rw [List.getElem?_set_ne n]
    exact f.no j ys z
theorem DGs.nil : DGs Γ B [] [] gsNil := ⟨gNil, fun X h => pgs_nil, fun s σ H S g v d hd s' e Q q => by
  cases hd with
  | nil =>
    obtain ⟨_, rfl⟩ := ret_some e
    exact ⟨rfl, q σ g ⟨fun _ _ _ _ f => f, fun _ _ => rfl⟩⟩
  | cons _ _ => cases e⟩
theorem DGs.cons {e : Expr} {es : List Expr} {ws us : List Nat} {G : D → M τ Unit} {Gs : List D → M τ Unit} (h : DG Γ B e ws G) (hs : DGs Γ B es us Gs)
    (ha : ∀ X : Cx, (assignEach (e :: es) X.env).map (·.2) = assign e X.env :: (assignEach es X.env).map (·.2) := by intro _; rfl) : DGs Γ B (e :: es) (ws ++ us) (gsCons G Gs) := by
  obtain ⟨g, pg, mg⟩ := h
  obtain ⟨gs, pgs, mgs⟩ := hs
  refine ⟨gCons g gs, fun X h => pgs_cons (pg X h) (pgs X h) (ha X), fun s σ H S gd v d hd s' e Q q => ?_⟩
  cases hd with
  | nil => cases e
  | cons h1 h2 =>
    obtain ⟨_, s1, e1, e2⟩ := bnd_some e
    exact ⟨_, _, rfl, mg s σ H S gd _ _ h1 s1 e1 _ fun σ1 g1 m1 => mgs s1 σ1 H S g1 _ _ h2 s' e2 Q fun σ2 g2 m2 => q σ2 g2 (m1.trans m2)⟩
theorem DG.tup {es : List Expr} {k n : Nat} {ws : List Nat} {Gs : List D → M τ Unit} (h : DGs Γ B es ws Gs) (hn : ∀ X : Cx, (assignEach es X.env).length = n := by intro _; rfl) (hst : ∀ X : Cx, (assignEach es X.env).findIdx? (·.1) = none := by intro _; rfl) :
    DG Γ B (.Tuple es k pos) ws (tupG n Gs) := by
  obtain ⟨g, pg, mg⟩ := h
  refine ⟨gTup Γ.K n g, fun X h => by have := pg_tup (k := k) (pos := pos) h.calm (pg X h) (hn X) (hst X); rw [h.K] at this; exact this, fun s σ H S gd v d hd s' e Q q => ?_⟩
  unfold tupG at e
  split at e
  · rename_i ds
    by_cases hz : ds.length = n
    · rw [if_pos hz] at e
      cases hd with
      | tup h1 h2 => exact ⟨_, _, rfl, seqT_mono gd.fr.sub h1, by rw [h2.len]; exact hz, mg s σ H S gd _ _ h2 s' e Q q⟩
    · rw [if_neg hz] at e
      cases e
  · cases e
end

/-! ### comprehensions -/
def Gam.blk (Γ : Gam) (scope : Scope) : Gam := { Γ with sc := relS scope Γ.sc, fn := fun x => scope.names.lookup x == some .cell }
theorem blk_has {Γ : Gam} {X : Cx} (h : Γ.Has X) {scope : Scope} {s : Shared} {H : Hp} {C : Addr} {cl : List (Str × Addr)} {fp : List Addr} : (Γ.blk scope).Has (X.blk s H scope (compEnvC scope cl C X.env) fp) :=
  ⟨h.P, h.w, h.K, h.mg, by
    show X.base = Γ.base
    exact h.base, h.A, h.N, by
    show relS scope X.env.scope = relS scope Γ.sc
    rw [h.sc], h.calm, fun x hx => .inl hx, PassesOwn.never⟩
def DTs (Γ : Gam) (B : Bd τ) (ifs : List Expr) (F : M τ Bool) : Prop := ∃ t, (∀ X, Γ.Has X → PTs X ifs t) ∧ MeanT Γ.K B t F
theorem DTs.nil {Γ : Gam} {B : Bd τ} : DTs Γ B [] (ret true) := ⟨tYes, fun X h => pts_nil, fun s σ H S g k s' e Q q => by
  obtain ⟨rfl, rfl⟩ := ret_some e
  exact q H S g Step.refl⟩
theorem DTs.one {Γ : Gam} {B : Bd τ} {c : Expr} {F : M τ Bool} (h : DT Γ B c F) : DTs Γ B [c] F := by
  obtain ⟨t, p, m⟩ := h
  exact ⟨t, fun X h => pts_one (p X h), m⟩
def turnM (G : D → M τ Unit) (T : M τ Bool) (E : M τ D) (x : D) (acc : List D) : M τ (List D) := bnd (G x) fun _ => bnd T fun k => if k then bnd E fun d => ret (acc ++ [d]) else ret acc
def lcLoop (ws : List Nat) (G : D → M τ Unit) (T : M τ Bool) (E : M τ D) : List D → List D → M τ (List D)
  | [], acc => ret acc
  | x :: xs, acc => fun s => match turnM G T E x acc s with
    | none => none
    | some (acc', s') => lcLoop ws G T E xs acc' { s' with env := wipeE s'.env ws }
/-- all but the list at D that grows -/
structure StepD (K : Frag) (B : Bd τ) (σ : List (Option V)) (A : Addr) (s : Stt τ) (H S : Hp) (s' : Stt τ) (H' S' : Hp) : Prop where
  same : Same S S'
  dom : ∀ p, H' p = none → H p = none
  free : ∀ (p : Addr) (xs : List D), p ≠ A → Free K B s σ H S p xs → Free K B s' σ H' S' p xs
theorem StepD.trans {K : Frag} {B : Bd τ} {σ : List (Option V)} {A : Addr} {s s1 s2 : Stt τ} {H S H1 S1 H2 S2 : Hp} (a : StepD K B σ A s H S s1 H1 S1) (b : StepD K B σ A s1 H1 S1 s2 H2 S2) : StepD K B σ A s H S s2 H2 S2 :=
  ⟨a.same.trans b.same, fun p h => a.dom p (b.dom p h), fun p xs n f => b.free p xs n (a.free p xs n f)⟩
theorem StepD.refl {K : Frag} {B : Bd τ} {σ : List (Option V)} {A : Addr} {s : Stt τ} {H S : Hp} : StepD K B σ A s H S s H S := ⟨Same.refl _, fun _ h => h, fun _ _ _ f => f⟩
theorem upd_dom {H : Hp} {A : Addr} {o u : HO} (h : H A = some o) : ∀ p, upd H A u p = none → H p = none := fun p e => by
  by_cases q : p = A
  · subst q; rw [upd_same] at e; cases e
  · rw [upd_ne q] at e; exact e
/-- one clause: the loop of a block, from a state whose block names are forgotten -/
theorem lc_run {K : Frag} {B : Bd τ} {g : TG} {ws us : List Nat} {G : D → M τ Unit} {tt : TT} {T : M τ Bool} {te : TE} {E : M τ Opd} {σ : List (Option V)} {J : It} {xs : List D} {S0 : Hp} {A : Addr}
    (wk : DWalk K S0 J xs) (mg : MeanG K B g us G) (hu : ∀ i ∈ us, i ∈ ws) (mt : MeanT K B tt T) (me : Mean K B te E) {s s' : Stt τ} {acc ds : List D} {H S : Hp} (hz : acc.length + xs.length ≤ sizeLine)
    (gd : Good K B s (wipe σ ws) H S) (hS : Same S0 S) (f : Free K B s (wipe σ ws) H S A acc) (e : lcLoop ws G T (valM E) xs acc s = some (ds, s')) {Qd : Hp → Prop}
    (q : ∀ H' S', Good K B s' (wipe σ ws) H' S' → Free K B s' (wipe σ ws) H' S' A ds → StepD K B (wipe σ ws) A s H S s' H' S' → ds.length ≤ acc.length + xs.length → Qd H') :
    ∃ W : Nat → Nat → Hp → Prop, (∃ m, W 0 m H) ∧ ∀ i m H, W i m H →
      (J.stop i H ∧ Qd H) ∨ (J.go i H ∧ ∃ Nx : Hp → Prop, (∀ H', Nx H' → ∃ m', m' < m ∧ W (i + 1) m' H') ∧ ∀ x H', J.yld i H x H' → g x (wipe σ ws) H' fun σ2 H2 => wipe σ2 ws = wipe σ ws ∧ tt σ2 H2 fun b H3 =>
        if b = true then te σ2 H3 fun y H4 => ∃ acc, H4 A = some (.lst acc) ∧ acc.length < sizeLine ∧ Nx (upd H4 A (.lst (acc ++ [y]))) else Nx H3) := by
  refine ⟨fun i m H1 => m = xs.length - i ∧ i ≤ xs.length ∧ ∃ s1 S1 acc1, Good K B s1 (wipe σ ws) H1 S1 ∧ Free K B s1 (wipe σ ws) H1 S1 A acc1 ∧ StepD K B (wipe σ ws) A s H S s1 H1 S1 ∧ acc1.length ≤ acc.length + i ∧ lcLoop ws G T (valM E) (xs.drop i) acc1 s1 = some (ds, s'),
    ⟨xs.length, by simp, Nat.zero_le _, s, S, acc, gd, f, StepD.refl, Nat.le_refl _, by rw [List.drop_zero]; exact e⟩, ?_⟩
  rintro i m H1 ⟨rfl, hi, s1, S1, acc1, g1, f1, w1, l1, e1⟩
  by_cases hlt : i < xs.length
  · refine .inr ⟨wk.go i H1 hlt ((hS.trans w1.same).trans g1.fr.sub), fun H2 => ∃ s2 S2 acc2, Good K B s2 (wipe σ ws) H2 S2 ∧ Free K B s2 (wipe σ ws) H2 S2 A acc2 ∧ StepD K B (wipe σ ws) A s H S s2 H2 S2 ∧ acc2.length ≤ acc.length + (i + 1) ∧ lcLoop ws G T (valM E) (xs.drop (i + 1)) acc2 s2 = some (ds, s'),
      fun H2 n2 => ⟨xs.length - (i + 1), by omega, rfl, hlt, n2⟩, fun x H2 y => ?_⟩
    rw [List.drop_eq_getElem_cons hlt] at e1
    have hx : xs[i]? = some xs[i] := List.getElem?_eq_getElem hlt
    obtain ⟨S2, wg, hd⟩ := wk.yld i H1 x H2 S1 _ hx (hS.trans w1.same) g1.fr.sub y
    have g2 := g1.grow wg
    have f2 := f1.grow wg
    unfold lcLoop at e1
    split at e1
    · cases e1
    rename_i acc' s5 et
    obtain ⟨_, s3, e3, et⟩ := bnd_some et
    refine mg s1 _ H2 S2 g2 x _ hd s3 e3 _ fun σ3 g3 m3 => ?_
    have f3 := m3.free _ _ _ _ f2
    have hw3 : wipe σ3 ws = wipe σ ws := by
      rw [m3.wipe ws hu]
      exact wipe_wipe fun i m => m
    refine ⟨hw3, ?_⟩
    obtain ⟨k, s4, e4, et⟩ := bnd_some et
    refine mt s3 σ3 H2 S2 g3 k s4 e4 _ fun H3 S3 g4 w4 => ?_
    have f4 := w4.free _ _ f3
    -- what a turn leaves, whatever slots it used
    have fin : ∀ {s6 : Stt τ} {H6 S6 : Hp} {acc6 : List D}, Good K B s6 σ3 H6 S6 → Free K B s6 σ3 H6 S6 A acc6 → (∀ p, H6 p = none → H2 p = none) → Same S2 S6 → (∀ (p : Addr) (ys : List D), p ≠ A → Free K B s3 σ3 H2 S2 p ys → Free K B s6 σ3 H6 S6 p ys) →
        acc6.length ≤ acc1.length + 1 → lcLoop ws G T (valM E) (xs.drop (i + 1)) acc6 { s6 with env := wipeE s6.env ws } = some (ds, s') →
        ∃ s2 S2 acc2, Good K B s2 (wipe σ ws) H6 S2 ∧ Free K B s2 (wipe σ ws) H6 S2 A acc2 ∧ StepD K B (wipe σ ws) A s H S s2 H6 S2 ∧ acc2.length ≤ acc.length + (i + 1) ∧ lcLoop ws G T (valM E) (xs.drop (i + 1)) acc2 s2 = some (ds, s') := fun {s6 H6 S6 acc6} g6 f6 d6 w6 fr6 l6 e6 => by
      have g7 := g6.wipe ws
      have f7 := f6.wipe ws
      rw [hw3] at g7 f7
      refine ⟨_, S6, acc6, g7, f7, ⟨(w1.same.trans wg.s).trans w6, fun p h => w1.dom p (wg.h.free (d6 p h)), fun p ys n fp => ?_⟩, by omega, e6⟩
      have r := (fr6 p ys n (m3.free _ _ _ _ ((w1.free p ys n fp).grow wg))).wipe ws
      rw [hw3] at r
      exact r
    cases k with
    | false =>
      obtain ⟨rfl, rfl⟩ := ret_some et
      exact iteF (fin g4 f4 w4.dom w4.same (fun p ys _ fp => w4.free p ys fp) (by omega) e1)
    | true =>
      refine iteT ?_
      obtain ⟨d, s6, e6, et⟩ := bnd_some (show (bnd (valM E) fun d => ret (acc1 ++ [d])) s4 = some (acc', s5) from et)
      obtain ⟨rfl, rfl⟩ := ret_some et
      refine me.val g4 e6 fun y H6 S6 g6 w6 r6 => ?_
      have f6 := w6.free _ _ f4
      obtain ⟨vs, hv, hq⟩ := f6.at_
      refine ⟨vs, hv, by rw [hq.len]; omega, fin (g6.changeFree f6) (f6.change (hq.app (.cons r6 .nil))) (fun p h => w4.dom p (w6.dom p (upd_dom hv p h))) (w4.same.trans w6.same) (fun p ys n fp => ((w4.trans w6).free p ys fp).other n) (by simp) e1⟩
  · have ei : i = xs.length := by omega
    subst ei
    rw [List.drop_length] at e1
    obtain ⟨rfl, rfl⟩ := ret_some e1
    exact .inl ⟨wk.stop H1 ((hS.trans w1.same).trans g1.fr.sub), q H1 S1 g1 f1 w1 l1⟩
def lcM (ws : List Nat) (Fi : M τ (List D)) (G : D → M τ Unit) (T : M τ Bool) (E : M τ Opd) : M τ Opd := bnd Fi fun xs => if fitsL xs then fun s => match lcLoop ws G T (valM E) xs [] { s with env := wipeE s.env ws } with
    | none => none
    | some (ds, s') => some (.new ds, { s' with env := restE s.env ws s'.env })
  else stuck
theorem mean_lc {K : Frag} {B : Bd τ} {wi : TI} {g : TG} {ws us : List Nat} {Fi : M τ (List D)} {G : D → M τ Unit} {tt : TT} {T : M τ Bool} {te : TE} {E : M τ Opd} (mi : MeanI K B wi Fi) (mg : MeanG K B g us G) (hu : ∀ i ∈ us, i ∈ ws) (mt : MeanT K B tt T) (me : Mean K B te E) :
    Mean K B (tLc wi g tt te ws) (lcM ws Fi G T E) := fun s σ H S gd o s' e Q q => by
  obtain ⟨xs, s1, e1, e2⟩ := bnd_some e
  by_cases hz : fitsL xs = true
  · rw [if_pos hz] at e2
    split at e2
    · cases e2
    rename_i ds s2 e3
    cases e2
    refine mi s σ H S gd xs s1 e1 _ fun J H1 S1 g1 w1 wk => ?_
    intro A hA
    have gw := g1.wipe ws
    obtain ⟨g2, f2⟩ := Good.free gw hA .nil
    have wA : Grow H1 S1 (upd H1 A (.lst [])) S1 := Grow.fresh g1.fr.sub hA
    refine lc_run wk mg hu mt me (by have := of_decide_eq_true hz; simpa using this) g2 (Same.refl _) f2 e3 fun H3 S3 g3 f3 w3 _ => ?_
    have hne : ∀ {p : Addr} {ys : List D}, Free K B s1 σ H1 S1 p ys → p ≠ A := fun {p ys} f z => by
      obtain ⟨vs, h, _⟩ := f.at_
      rw [z, hA] at h
      cases h
    refine q _ H3 S3 (g1.unwipe g3 w3.same) ⟨w1.same.trans w3.same, fun p h => w1.dom p (wA.h.free (w3.dom p h)), fun p ys f => ?_⟩ ⟨A, rfl, f3.unwipe⟩ ⟨A, rfl, w1.dom A hA⟩
    have f1 := w1.free p ys f
    exact (w3.free p ys (hne f1) ((f1.wipe ws).grow wA)).unwipe
  · rw [if_neg hz] at e2
    cases e2
section
variable {Γ : Gam} {B : Bd τ} {pos : Pos}
theorem DO.lc {elt tg iter : Expr} {ifs : List Expr} {scope : Scope} {own : List (Str × Nat)} {us : List Nat} {Fi : M τ (List D)} {G : D → M τ Unit} {T : M τ Bool} {E : M τ Opd} (nd : Γ.N.Nodup) (hi : DI Γ B tg iter Fi) (ok : BlkOk Γ.N Γ.sc scope own)
    (hg : DG (Γ.blk scope) B tg us G) (hu : ∀ i ∈ us, i ∈ own.map (·.2)) (ht : DTs (Γ.blk scope) B ifs T) (he : DO (Γ.blk scope) B elt E) (hs : ∀ (X : Cx) x, foldedSetIterable iter X.env x = pure x := by intro _ _; rfl) :
    DO Γ B (.ListComp elt [⟨tg, iter, ifs, 0⟩] scope pos) (lcM (own.map (·.2)) Fi G T E) := by
  obtain ⟨wi, pi, mi⟩ := hi
  obtain ⟨g, pg, mg⟩ := hg
  obtain ⟨tt, pt, mt⟩ := ht
  obtain ⟨te, pe, me⟩ := he
  exact ⟨_, fun X h => pe_lc h.calm (by rw [h.N]; exact nd) (pi X h) (by rw [h.N, h.sc]; exact ok) (fun _ _ _ _ _ => pg _ (blk_has h)) (fun _ _ _ _ _ => pt _ (blk_has h)) (fun _ _ _ _ _ => pe _ (blk_has h)) (hs X), mean_lc mi mg hu mt me⟩
end
/-! two clauses -/
def lc2Loop (ws ws1 : List Nat) (G : D → M τ Unit) (T : M τ Bool) (Fi1 : M τ (List D)) (G1 : D → M τ Unit) (T1 : M τ Bool) (E : M τ D) : List D → List D → M τ (List D)
  | [], acc => ret acc
  | x :: xs, acc => fun s => match (bnd (G x) fun _ => bnd T fun k => if k then bnd Fi1 fun ys => if decide (acc.length + ys.length ≤ sizeLine) then fun s => lcLoop ws1 G1 T1 E ys acc { s with env := wipeE s.env ws1 } else stuck else ret acc) s with
    | none => none
    | some (acc', s') => lc2Loop ws ws1 G T Fi1 G1 T1 E xs acc' { s' with env := wipeE s'.env ws }
def lc2M (ws ws1 : List Nat) (Fi : M τ (List D)) (G : D → M τ Unit) (T : M τ Bool) (Fi1 : M τ (List D)) (G1 : D → M τ Unit) (T1 : M τ Bool) (E : M τ Opd) : M τ Opd := bnd Fi fun xs => fun s => match lc2Loop ws ws1 G T Fi1 G1 T1 (valM E) xs [] { s with env := wipeE s.env ws } with
    | none => none
    | some (ds, s') => some (.new ds, { s' with env := restE s.env ws s'.env })
theorem mean_lc2 {K : Frag} {B : Bd τ} {wi wi1 : TI} {g g1 : TG} {ws ws1 us us1 : List Nat} {Fi Fi1 : M τ (List D)} {G G1 : D → M τ Unit} {tt tt1 : TT} {T T1 : M τ Bool} {te : TE} {E : M τ Opd} (mi : MeanI K B wi Fi) (mg : MeanG K B g us G) (hu : ∀ i ∈ us, i ∈ ws) (mt : MeanT K B tt T)
    (mi1 : MeanI K B wi1 Fi1) (mg1 : MeanG K B g1 us1 G1) (hu1 : ∀ i ∈ us1, i ∈ ws1) (hw : ∀ i ∈ ws1, i ∈ ws) (mt1 : MeanT K B tt1 T1) (me : Mean K B te E) :
    Mean K B (tLc2 wi g tt wi1 g1 tt1 te ws ws1) (lc2M ws ws1 Fi G T Fi1 G1 T1 E) := fun s σ H S gd o s' e Q q => by
  obtain ⟨xs, s1, e1, e2⟩ := bnd_some e
  split at e2
  · cases e2
  rename_i ds s2 e3
  cases e2
  refine mi s σ H S gd xs s1 e1 _ fun J H1 S1 gd1 w1 wk => ?_
  intro A hA
  have gw := gd1.wipe ws
  obtain ⟨gd2, f2⟩ := Good.free gw hA .nil
  have wA : Grow H1 S1 (upd H1 A (.lst [])) S1 := Grow.fresh gd1.fr.sub hA
  generalize hsw : ({ s1 with env := wipeE s1.env ws } : Stt τ) = sw at gw gd2 f2 e3
  refine ⟨fun i m H3 => m = xs.length - i ∧ i ≤ xs.length ∧ ∃ s3 S3 acc3, Good K B s3 (wipe σ ws) H3 S3 ∧ Free K B s3 (wipe σ ws) H3 S3 A acc3 ∧ StepD K B (wipe σ ws) A sw (upd H1 A (.lst [])) S1 s3 H3 S3 ∧ lc2Loop ws ws1 G T Fi1 G1 T1 (valM E) (xs.drop i) acc3 s3 = some (ds, s2),
    ⟨xs.length, by simp, Nat.zero_le _, sw, S1, [], gd2, f2, StepD.refl, by rw [List.drop_zero]; exact e3⟩, ?_⟩
  rintro i m H3 ⟨rfl, hi, s3, S3, acc3, gd3, f3, w3, e4⟩
  by_cases hlt : i < xs.length
  · refine .inr ⟨wk.go i H3 hlt (w3.same.trans gd3.fr.sub), fun H4 => ∃ s4 S4 acc4, Good K B s4 (wipe σ ws) H4 S4 ∧ Free K B s4 (wipe σ ws) H4 S4 A acc4 ∧ StepD K B (wipe σ ws) A sw (upd H1 A (.lst [])) S1 s4 H4 S4 ∧ lc2Loop ws ws1 G T Fi1 G1 T1 (valM E) (xs.drop (i + 1)) acc4 s4 = some (ds, s2),
      fun H4 n4 => ⟨xs.length - (i + 1), by omega, rfl, hlt, n4⟩, fun x H4 y => ?_⟩
    rw [List.drop_eq_getElem_cons hlt] at e4
    have hx : xs[i]? = some xs[i] := List.getElem?_eq_getElem hlt
    obtain ⟨S4, wg, hd⟩ := wk.yld i H3 x H4 S3 _ hx w3.same gd3.fr.sub y
    have gd4 := gd3.grow wg
    have f4 := f3.grow wg
    unfold lc2Loop at e4
    split at e4
    · cases e4
    rename_i acc' s9 et
    obtain ⟨_, s5, e5, et⟩ := bnd_some et
    refine mg s3 _ H4 S4 gd4 x _ hd s5 e5 _ fun σ5 gd5 m5 => ?_
    have f5 := m5.free _ _ _ _ f4
    have hw5 : wipe σ5 ws = wipe σ ws := by
      rw [m5.wipe ws hu]
      exact wipe_wipe fun i m => m
    refine ⟨hw5, ?_⟩
    obtain ⟨k, s6, e6, et⟩ := bnd_some et
    refine mt s5 σ5 H4 S4 gd5 k s6 e6 _ fun H6 S6 gd6 w6 => ?_
    have f6 := w6.free _ _ f5
    have fin : ∀ {s7 : Stt τ} {σ7 : List (Option V)} {H7 S7 : Hp} {acc7 : List D}, wipe σ7 ws = wipe σ ws → Good K B s7 σ7 H7 S7 → Free K B s7 σ7 H7 S7 A acc7 → (∀ p, H7 p = none → H4 p = none) → Same S4 S7 → (∀ (p : Addr) (ys : List D), p ≠ A → Free K B s5 σ5 H4 S4 p ys → Free K B s7 σ7 H7 S7 p ys) →
        lc2Loop ws ws1 G T Fi1 G1 T1 (valM E) (xs.drop (i + 1)) acc7 { s7 with env := wipeE s7.env ws } = some (ds, s2) →
        ∃ s4 S4 acc4, Good K B s4 (wipe σ ws) H7 S4 ∧ Free K B s4 (wipe σ ws) H7 S4 A acc4 ∧ StepD K B (wipe σ ws) A sw (upd H1 A (.lst [])) S1 s4 H7 S4 ∧ lc2Loop ws ws1 G T Fi1 G1 T1 (valM E) (xs.drop (i + 1)) acc4 s4 = some (ds, s2) := fun {s7 σ7 H7 S7 acc7} hw7 g7 f7 d7 w7 fr7 e7 => by
      have g8 := g7.wipe ws
      have f8 := f7.wipe ws
      rw [hw7] at g8 f8
      refine ⟨_, S7, acc7, g8, f8, ⟨(w3.same.trans wg.s).trans w7, fun p h => w3.dom p (wg.h.free (d7 p h)), fun p ys n fp => ?_⟩, e7⟩
      have r := (fr7 p ys n (m5.free _ _ _ _ ((w3.free p ys n fp).grow wg))).wipe ws
      rw [hw7] at r
      exact r
    cases k with
    | false =>
      obtain ⟨rfl, rfl⟩ := ret_some et
      exact iteF (fin hw5 gd6 f6 w6.dom w6.same (fun p ys _ fp => w6.free p ys fp) e4)
    | true =>
      refine iteT ?_
      obtain ⟨ys, s7, e7, et⟩ := bnd_some (show (bnd Fi1 fun ys => if decide (acc3.length + ys.length ≤ sizeLine) then fun s => lcLoop ws1 G1 T1 (valM E) ys acc3 { s with env := wipeE s.env ws1 } else stuck) s6 = some (acc', s9) from et)
      by_cases hz : decide (acc3.length + ys.length ≤ sizeLine) = true
      · rw [if_pos hz] at et
        refine mi1 s6 σ5 H6 S6 gd6 ys s7 e7 _ fun J1 H7 S7 gd7 w7 wk1 => ?_
        have f7 := w7.free _ _ f6
        refine lc_run wk1 mg1 hu1 mt1 me (of_decide_eq_true hz) (gd7.wipe ws1) (Same.refl _) (f7.wipe ws1) et fun H8 S8 gd8 f8 w8 _ => ?_
        refine fin (by rw [wipe_wipe hw]; exact hw5) gd8 f8 (fun p h => w6.dom p (w7.dom p (w8.dom p h))) ((w6.same.trans w7.same).trans w8.same) (fun p zs n fp => ?_) e4
        exact w8.free p zs n (((w6.trans w7).free p zs fp).wipe ws1)
      · rw [if_neg hz] at et
        cases et
  · have ei : i = xs.length := by omega
    subst ei
    rw [List.drop_length] at e4
    obtain ⟨rfl, rfl⟩ := ret_some e4
    have hne : ∀ {p : Addr} {ys : List D}, Free K B s1 σ H1 S1 p ys → p ≠ A := fun {p ys} f z => by
      obtain ⟨vs, h, _⟩ := f.at_
      rw [z, hA] at h
      cases h
    refine .inl ⟨wk.stop H3 (w3.same.trans gd3.fr.sub), q _ H3 S3 (gd1.unwipe gd3 w3.same) ⟨w1.same.trans w3.same, fun p h => w1.dom p (wA.h.free (w3.dom p h)), fun p ys f => ?_⟩ ⟨A, rfl, f3.unwipe⟩ ⟨A, rfl, w1.dom A hA⟩⟩
    have f1 := w1.free p ys f
    have := (f1.wipe ws).grow wA
    rw [hsw] at this
    exact (w3.free p ys (hne f1) this).unwipe
section
variable {Γ : Gam} {B : Bd τ} {pos : Pos}
theorem DO.lc2 {elt tg iter tg1 iter1 : Expr} {ifs ifs1 : List Expr} {scope : Scope} {own : List (Str × Nat)} {us us1 ws1 : List Nat} {Fi Fi1 : M τ (List D)} {G G1 : D → M τ Unit} {T T1 : M τ Bool} {E : M τ Opd} (nd : Γ.N.Nodup) (hi : DI Γ B tg iter Fi) (ok : BlkOk Γ.N Γ.sc scope own)
    (hg : DG (Γ.blk scope) B tg us G) (hu : ∀ i ∈ us, i ∈ own.map (·.2)) (ht : DTs (Γ.blk scope) B ifs T)
    (hi1 : DI (Γ.blk scope) B tg1 iter1 Fi1) (hg1 : DG (Γ.blk scope) B tg1 us1 G1) (hu1 : ∀ i ∈ us1, i ∈ ws1) (hw : ∀ i ∈ ws1, i ∈ own.map (·.2)) (ht1 : DTs (Γ.blk scope) B ifs1 T1) (he : DO (Γ.blk scope) B elt E)
    (hs : ∀ (X : Cx) x, foldedSetIterable iter X.env x = pure x := by intro _ _; rfl) (hs1 : ∀ env x, foldedSetIterable iter1 env x = pure x := by intro _ _; rfl) :
    DO Γ B (.ListComp elt [⟨tg, iter, ifs, 0⟩, ⟨tg1, iter1, ifs1, 0⟩] scope pos) (lc2M (own.map (·.2)) ws1 Fi G T Fi1 G1 T1 E) := by
  obtain ⟨wi, pi, mi⟩ := hi
  obtain ⟨g, pg, mg⟩ := hg
  obtain ⟨tt, pt, mt⟩ := ht
  obtain ⟨wi1, pi1, mi1⟩ := hi1
  obtain ⟨g1, pg1, mg1⟩ := hg1
  obtain ⟨tt1, pt1, mt1⟩ := ht1
  obtain ⟨te, pe, me⟩ := he
  exact ⟨_, fun X h => pe_lc2 h.calm (by rw [h.N]; exact nd) (pi X h) (by rw [h.N, h.sc]; exact ok) hw (fun _ _ _ _ _ => pg _ (blk_has h)) (fun _ _ _ _ _ => pt _ (blk_has h)) (fun _ _ _ _ _ => pi1 _ (blk_has h)) (fun _ _ _ _ _ => pg1 _ (blk_has h)) (fun _ _ _ _ _ => pt1 _ (blk_has h)) (fun _ _ _ _ _ => pe _ (blk_has h)) (hs X) hs1,
    mean_lc2 mi mg hu mt mi1 mg1 hu1 hw mt1 me⟩
end
end DL
end

section
set_option Elab.async false
set_option linter.all false
set_option maxRecDepth 100000
set_option maxHeartbeats 3999999
/-! WEng7: statements, loops, defs and their calls -/
namespace DL
open L2 PySem PyProof.Rows PySem.Spec
variable {τ α β : Type}

def EndOk (K : Frag) (B : Bd τ) (S : Hp) (o : Out) (s' : Stt τ) (D : Ends) : Prop := match o with
  | .nx => ∀ σ' H' S', Good K B s' σ' H' S' → Same S S' → D.nx σ' H'
  | .bk => ∀ σ' H' S', Good K B s' σ' H' S' → Same S S' → D.bk σ' H'
  | .ct => ∀ σ' H' S', Good K B s' σ' H' S' → Same S S' → D.ct σ' H'
  | .rt d => ∀ v H' S', Fr B.dr B.H0 B.S0 H' S' → B.dr.At s'.dr H' → Dq K S' v d → D.rt v H'
  | .rn xs => ∀ p vs H' S', Fr B.dr B.H0 B.S0 H' S' → B.dr.At s'.dr H' → H' p = some (.lst vs) → DqAll K S' vs xs → S' p = none → B.H0 p = none → ¬ B.dr.R p → D.rt (.ref p) H'
def MeanS (K : Frag) (B : Bd τ) (t : TS) (F : M τ Out) : Prop := ∀ s σ H S, Good K B s σ H S → ∀ o s', F s = some (o, s') → ∀ D : Ends, EndOk K B S o s' D → t D σ H
def DS (Γ : Gam) (B : Bd τ) (st : Stmt) (F : M τ Out) : Prop := ∃ t, (∀ X, Γ.Has X → PS X st t) ∧ MeanS Γ.K B t F
def DSs (Γ : Gam) (B : Bd τ) (st : List Stmt) (F : M τ Out) : Prop := ∃ t, (∀ X, Γ.Has X → PSs X st t) ∧ MeanS Γ.K B t F
def seqM (F G : M τ Out) : M τ Out := bnd F fun o => match o with
  | .nx => G
  | .bk => ret .bk
  | .ct => ret .ct
  | .rt d => ret (.rt d)
  | .rn xs => ret (.rn xs)
def dropM (F : M τ Opd) : M τ Out := bnd F fun _ => ret .nx
def retM (F : M τ Opd) : M τ Out := bnd (valM F) fun d => ret (.rt d)
def ifM (T : M τ Bool) (F G : M τ Out) : M τ Out := bnd T fun k => if k then F else G
/-- an operand goes into a slot -/
def putM (i : Nat) (o : Opd) : M τ Unit := match o with
  | .new xs => fun s => some ((), { s with env := s.env.set i (some (.own xs)) })
  | .val d => setM i d
  | .slot j => bnd (toD (.slot j)) (setM i)
def asgM (i : Nat) (F : M τ Opd) : M τ Out := bnd F fun o => bnd (putM i o) fun _ => ret .nx
section
variable {K : Frag} {B : Bd τ} {s s' : Stt τ} {σ : List (Option V)} {H S : Hp}
theorem EndOk.mono {S1 : Hp} {o : Out} {D : Ends} (h : EndOk K B S o s' D) (w : Same S S1) : EndOk K B S1 o s' D := by
  cases o with
  | nx => exact fun σ' H' S' g w' => h σ' H' S' g (w.trans w')
  | bk => exact fun σ' H' S' g w' => h σ' H' S' g (w.trans w')
  | ct => exact fun σ' H' S' g w' => h σ' H' S' g (w.trans w')
  | rt d => exact h
  | rn xs => exact h
theorem put_of {v : V} {o : Opd} {i : Nat} (g : Good K B s σ H S) (r : RelO K B s σ H S v o) (e : putM i o s = some ((), s')) : ∃ S', Same S S' ∧ Good K B s' (σ.set i (some v)) H S' := by
  cases o with
  | new xs =>
    cases e
    obtain ⟨p, rfl, f⟩ := r
    exact ⟨S, Same.refl _, g.setOwn f⟩
  | val d =>
    cases e
    exact ⟨S, Same.refl _, g.set r⟩
  | slot j =>
    obtain ⟨d, s1, e1, e2⟩ := bnd_some e
    cases e2
    obtain ⟨S2, w2, g2, r2, _⟩ := toD_of g r e1
    exact ⟨S2, w2, g2.set r2⟩
end
section
variable {Γ : Gam} {B : Bd τ} {pos : Pos} {st : Stmt} {sts : List Stmt} {e : Expr} {F : M τ Opd} {Fs Gs : M τ Out}
theorem DSs.nil : DSs Γ B [] (ret .nx) := ⟨tNext, fun X h => pss_nil, fun s σ H S g o s' e D q => by
  obtain ⟨rfl, rfl⟩ := ret_some e
  exact q σ H S g (Same.refl _)⟩
theorem DSs.cons (h : DS Γ B st Fs) (hs : DSs Γ B sts Gs) : DSs Γ B (st :: sts) (seqM Fs Gs) := by
  obtain ⟨t, p, m⟩ := h
  obtain ⟨u, pu, mu⟩ := hs
  refine ⟨_, fun X h => pss_cons (p X h) (pu X h), fun s σ H S g o s' e D q => ?_⟩
  obtain ⟨o1, s1, e1, e2⟩ := bnd_some e
  refine m s σ H S g o1 s1 e1 _ ?_
  cases o1 with
  | nx => exact fun σ1 H1 S1 g1 w1 => mu s1 σ1 H1 S1 g1 o s' e2 D (q.mono w1)
  | bk => obtain ⟨rfl, rfl⟩ := ret_some e2; exact q
  | ct => obtain ⟨rfl, rfl⟩ := ret_some e2; exact q
  | rt d => obtain ⟨rfl, rfl⟩ := ret_some e2; exact q
  | rn xs => obtain ⟨rfl, rfl⟩ := ret_some e2; exact q
theorem DSs.one (h : DS Γ B st Fs) : DSs Γ B [st] Fs := by
  obtain ⟨t, p, m⟩ := h
  exact ⟨t, fun X h => pss_one (p X h), m⟩
theorem DS.pass : DS Γ B (.Pass pos) (ret .nx) := ⟨tNext, fun X h => ps_pass, fun s σ H S g o s' e D q => by
  obtain ⟨rfl, rfl⟩ := ret_some e
  exact q σ H S g (Same.refl _)⟩
theorem DS.brk : DS Γ B (.Break pos) (ret .bk) := ⟨tBreak, fun X h => ps_break, fun s σ H S g o s' e D q => by
  obtain ⟨rfl, rfl⟩ := ret_some e
  exact q σ H S g (Same.refl _)⟩
theorem DS.cont : DS Γ B (.Continue pos) (ret .ct) := ⟨tCont, fun X h => ps_continue, fun s σ H S g o s' e D q => by
  obtain ⟨rfl, rfl⟩ := ret_some e
  exact q σ H S g (Same.refl _)⟩
theorem DS.never : DS Γ B st stuck := ⟨tNever, fun X h => ps_never, fun s σ H S g o s' e D q => by cases e⟩
theorem DS.expr (h : DO Γ B e F) (hs : ∀ X : Cx, swapsWith e none pos.line X.env = pure false := by intro _; rfl) : DS Γ B (.Expr e pos) (dropM F) := by
  obtain ⟨t, p, m⟩ := h
  refine ⟨_, fun X h => ps_expr (p X h) (hs X), fun s σ H S g o s' e D q => ?_⟩
  obtain ⟨o1, s1, e1, e2⟩ := bnd_some e
  obtain ⟨rfl, rfl⟩ := ret_some e2
  exact m s σ H S g o1 _ e1 _ fun v H1 S1 g1 w1 _ _ => q σ H1 S1 g1 w1.same
theorem DS.ret (h : DO Γ B e F) : DS Γ B (.Return (some e) pos) (retM F) := by
  obtain ⟨t, p, m⟩ := h
  refine ⟨_, fun X h => ps_ret (p X h), fun s σ H S g o s' e D q => ?_⟩
  obtain ⟨d, s1, e1, e2⟩ := bnd_some e
  obtain ⟨rfl, rfl⟩ := ret_some e2
  exact m.val g e1 fun v H1 S1 g1 w1 r1 => q v H1 S1 g1.fr g1.at_ r1
/-- a list that is new goes out unshared -/
def retF (F : M τ Opd) : M τ Out := bnd F fun o => match o with
  | .new xs => DL.ret (.rn xs)
  | .slot i => fun s => (match s.env[i]? with
    | some (some (.own xs)) => some (.rn xs, s)
    | _ => none)
  | .val _ => stuck
theorem DS.retF (h : DO Γ B e F) : DS Γ B (.Return (some e) pos) (DL.retF F) := by
  obtain ⟨t, p, m⟩ := h
  refine ⟨_, fun X h => ps_ret (p X h), fun s σ H S g o s' e D q => ?_⟩
  obtain ⟨o1, s1, e1, e2⟩ := bnd_some e
  refine m s σ H S g o1 s1 e1 _ fun v H1 S1 g1 w1 r1 _ => ?_
  cases o1 with
  | new xs =>
    obtain ⟨rfl, rfl⟩ := ret_some e2
    obtain ⟨p, rfl, ⟨vs, h1, h2⟩, ns, n0, nr, _⟩ := r1
    exact q p vs H1 S1 g1.fr g1.at_ h1 h2 ns n0 nr
  | slot i =>
    dsimp only at e2
    split at e2
    · rename_i xs q1
      cases e2
      obtain ⟨p, vs, h1, hp, ha, ns, n0, nr⟩ := g1.getOwn q1
      have r1' : σ[i]? = some (some v) := r1
      rw [h1] at r1'
      cases r1'
      exact q p vs H1 S1 g1.fr g1.at_ hp ha ns n0 nr
    · cases e2
  | val x => cases e2
theorem DS.retN : DS Γ B (.Return none pos) (DL.ret (.rt .none)) := ⟨tRetN, fun X h => ps_retN, fun s σ H S g o s' e D q => by
  obtain ⟨rfl, rfl⟩ := ret_some e
  exact q .non H S g.fr g.at_ .non⟩
theorem DS.if_ {c : Expr} {as bs : List Stmt} {T : M τ Bool} (hc : DT Γ B c T) (ha : DSs Γ B as Fs) (hb : DSs Γ B bs Gs) : DS Γ B (.If c as bs pos) (ifM T Fs Gs) := by
  obtain ⟨tc, pc, mc⟩ := hc
  obtain ⟨ta, pa, ma⟩ := ha
  obtain ⟨tb, pb, mb⟩ := hb
  refine ⟨_, fun X h => ps_if (pc X h) (pa X h) (pb X h), fun s σ H S g o s' e D q => ?_⟩
  obtain ⟨k, s1, e1, e2⟩ := bnd_some e
  refine mc s σ H S g k s1 e1 _ fun H1 S1 g1 w1 => ?_
  cases k with
  | true => exact iteT (ma s1 σ H1 S1 g1 o s' e2 D (q.mono w1.same))
  | false => exact iteF (mb s1 σ H1 S1 g1 o s' e2 D (q.mono w1.same))
theorem mean_asg {t : TE} {i : Nat} (m : Mean Γ.K B t F) : MeanS Γ.K B (tAsg t (gName i)) (asgM i F) := fun s σ H S g o s' e D q => by
  obtain ⟨o1, s1, e1, e2⟩ := bnd_some e
  obtain ⟨_, s2, e3, e4⟩ := bnd_some e2
  obtain ⟨rfl, rfl⟩ := ret_some e4
  refine m s σ H S g o1 s1 e1 _ fun v H1 S1 g1 w1 r1 _ => ?_
  obtain ⟨S2, w2, g2⟩ := put_of g1 r1 e3
  exact q _ H1 S2 g2 (w1.same.trans w2)
theorem DS.set {i : Nat} {x : Str} {pos' : Pos} (nd : Γ.N.Nodup) (hi : Γ.N[i]? = some x) (hx : Loc Γ.sc x) (hf : Γ.fn x = true ∨ Γ.sc.names.lookup x = some .local) (h : DO Γ B e F)
    (hs : ∀ X : Cx, swapsWith e (some (.Name x pos')) pos.line X.env = pure false := by intro _; rfl) : DS Γ B (.Assign [.Name x pos'] e pos) (asgM i F) := by
  obtain ⟨t, p, m⟩ := h
  exact ⟨_, fun X h => ps_set (by rw [h.N]; exact nd) (by rw [h.N]; exact hi) (by rw [h.sc]; exact hx) (p X h) (hs X) (by
    rcases hf with z | z
    · exact h.fn x z
    · exact .inr (by rw [h.sc]; exact z)), mean_asg m⟩
/-- name = [..], the comprehension used at once -/
theorem DS.setLc {i : Nat} {x : Str} {py : Pos} {elt tg iter : Expr} {ifs : List Expr} {scope : Scope} {own : List (Str × Nat)} {us : List Nat} {cpos : Pos} {Fi : M τ (List D)} {G : D → M τ Unit} {T : M τ Bool} {E : M τ Opd} (nd : Γ.N.Nodup) (hk : ∀ X, Γ.Has X → X.env.scope.kind = .function)
    (hx : Γ.N[i]? = some x) (hxl : Γ.sc.names.lookup x = some .local) (hln : (py.line == cpos.line) = true) (hna : (scope.names.any fun (n, k) => n == x && (k == .local || k == .cell)) = false) (hi : DI Γ B tg iter Fi) (ok : BlkOk Γ.N Γ.sc scope own)
    (hg : DG (Γ.blk scope) B tg us G) (hu : ∀ i ∈ us, i ∈ own.map (·.2)) (ht : DTs (Γ.blk scope) B ifs T) (he : DO (Γ.blk scope) B elt E) (hs : ∀ (X : Cx) y, foldedSetIterable iter X.env y = pure y := by intro _ _; rfl) :
    DS Γ B (.Assign [.Name x py] (.ListComp elt [⟨tg, iter, ifs, 0⟩] scope cpos) pos) (asgM i (lcM (own.map (·.2)) Fi G T E)) := by
  obtain ⟨wi, pi, mi⟩ := hi
  obtain ⟨g, pg, mg⟩ := hg
  obtain ⟨tt, pt, mt⟩ := ht
  obtain ⟨te, pe, me⟩ := he
  exact ⟨_, fun X h => ps_setLc h.calm (by rw [h.N]; exact nd) (by rw [h.N]; exact hx) (by rw [h.sc]; exact hxl) (sw_true (hk X h) (by rw [h.sc]; exact hxl) hln hna) (pi X h) (by rw [h.N, h.sc]; exact ok) (fun _ _ _ _ _ => pg _ (blk_has h)) (fun _ _ _ _ _ => pt _ (blk_has h))
    (fun _ _ _ _ _ => pe _ (blk_has h)) (hs X), mean_asg (mean_lc mi mg hu mt me)⟩
/-- (a, b) = e -/
def unpM (F : M τ Opd) (G : D → M τ Unit) : M τ Out := bnd (valM F) fun d => bnd (G d) fun _ => ret .nx
theorem DS.unp {tg : Expr} {ws : List Nat} {G : D → M τ Unit} (h : DO Γ B e F) (hg : DG Γ B tg ws G) (hs : ∀ X : Cx, swapsWithSole [tg] e pos.line X.env = pure false := by intro _; rfl) (hw : ∀ X, Γ.Has X → swappedStores [tg] e X.env = pure none := by intro _ _; rfl)
    (h1 : ∀ X : Cx, (assignEach [tg] X.env).map (·.2) = [assign tg X.env] := by intro _; rfl) : DS Γ B (.Assign [tg] e pos) (unpM F G) := by
  obtain ⟨t, p, m⟩ := h
  obtain ⟨g, pg, mg⟩ := hg
  refine ⟨_, fun X h => ps_asg (p X h) (pg X h) (hs X) (hw X h) (h1 X), fun s σ H S gd o s' e D q => ?_⟩
  obtain ⟨d, s1, e1, e2⟩ := bnd_some e
  obtain ⟨_, s2, e3, e4⟩ := bnd_some e2
  obtain ⟨rfl, rfl⟩ := ret_some e4
  exact m.val gd e1 fun v H1 S1 g1 w1 r1 => mg s1 σ H1 S1 g1 v d r1 _ e3 _ fun σ' g2 _ => q σ' H1 S1 g2 w1.same
/-- name op= e, plain values -/
def augM (i : Nat) (f : D → D → Option Opd) (F : M τ Opd) : M τ Out := fun s => match s.env[i]? with
  | some (some (.d x)) => (bnd F fun o => bnd (getO o) fun y => bnd (lift (f x y)) fun r => bnd (putM i r) fun _ => ret .nx) s
  | _ => none
theorem DS.aug {i : Nat} {x : Str} {pos' : Pos} {op : Operator} {f : D → D → Option Opd} (ho : OpD Γ (inplaceOp op) f) (nd : Γ.N.Nodup) (hi : Γ.N[i]? = some x) (hx : Loc Γ.sc x) (hf : Γ.fn x = true ∨ Γ.sc.names.lookup x = some .local) (h : DO Γ B e F) : DS Γ B (.AugAssign (.Name x pos') op e pos) (augM i f F) := by
  obtain ⟨t, p, m⟩ := h
  obtain ⟨r, ro, mo⟩ := ho
  refine ⟨_, fun X h => ps_aug (by rw [h.N]; exact nd) (by rw [h.N]; exact hi) (by rw [h.sc]; exact hx) (p X h) (ro X h) (by
    rcases hf with z | z
    · exact h.fn x z
    · exact .inr (by rw [h.sc]; exact z)), fun s σ H S g o s' e D q => ?_⟩
  unfold augM at e
  split at e
  · rename_i a ea
    obtain ⟨o1, s1, e1, e2⟩ := bnd_some e
    obtain ⟨y, s2, e3, e4⟩ := bnd_some e2
    obtain ⟨ro', s3, e5, e6⟩ := bnd_some e4
    obtain ⟨_, s4, e7, e8⟩ := bnd_some e6
    obtain ⟨ez, rfl⟩ := lift_some e5
    obtain ⟨rfl, rfl⟩ := ret_some e8
    obtain ⟨v, h1, h2⟩ := g.get ea
    refine ⟨v, h1, m s σ H S g o1 s1 e1 _ fun u H1 S1 g1 w1 r1 _ => ?_⟩
    obtain ⟨rfl, vy⟩ := view_of g1 r1 e3
    refine mo H1 S1 v u a y ro' g1.fr.sub (.inl (Dq.mono w1.same h2)) vy ez _ fun z H2 S2 rr => ?_
    obtain ⟨g2, w2, r2, _⟩ := rr.good g1
    obtain ⟨S3, w3, g3⟩ := put_of g2 r2 e7
    exact q _ H2 S3 g3 ((w1.same.trans w2.same).trans w3)
  · cases e
/-- xs.append(e), xs.extend(e), xs a list that the slot owns -/
def appM (i : Nat) (F : M τ Opd) : M τ Out := bnd (valM F) fun d => fun s => match s.env[i]? with
  | some (some (.own xs)) => if xs.length < sizeLine then some (.nx, { s with env := s.env.set i (some (.own (xs ++ [d]))) }) else none
  | _ => none
def extM (i : Nat) (F : M τ Opd) : M τ Out := bnd (lateM F) fun o => bnd (getO o) fun y => fun s => match s.env[i]?, y with
  | some (some (.own xs)), .list ys => if xs.length + ys.length ≤ sizeLine then some (.nx, { s with env := s.env.set i (some (.own (xs ++ ys))) }) else none
  | _, _ => none
def ownAt (i : Nat) : M τ Unit := fun s => match s.env[i]? with
  | some (some (.own _)) => some ((), s)
  | _ => none
theorem DS.app {i : Nat} {x : Str} {p0 apos cpos : Pos} (hN : Γ.N[i]? = some x) (hv : Vis Γ.sc x) (h : DO Γ B e F) (hl : (apos.endLine == cpos.line) = true := by rfl) (hst : ∀ X : Cx, starEach [e] X.env = (false, eval e X.env) :: starEach [] X.env := by intro _; rfl)
    (hs : ∀ X : Cx, swapsWith (.Call (.Attribute (.Name x p0) "append" apos) [e] [] cpos) none pos.line X.env = pure false := by intro _; rfl) (hd : (x == ("__debug__" : Str)) = false := by decide) (hcd : (x == ("__classdict__" : Str)) = false := by decide)
    (hb : ∀ X : Cx, attributeBase (.Name x p0) "append" X.env (eval (.Name x p0) X.env) = eval (.Name x p0) X.env := by intro _; rfl)
    (hfew : ∀ X : Cx, ((backTo cpos (starEach [e] X.env)).all (fun x => !x.1) && (backToKw cpos (keywordEach [] X.env)).all (fun x => x.1.isSome) && decide ([e].length + ([] : List Keyword).length + (if ([] : List Keyword).isEmpty then 0 else 1) < 30)) = true := by intro _; rfl) :
    DS Γ B (.Expr (.Call (.Attribute (.Name x p0) "append" apos) [e] [] cpos) pos) (bnd (ownAt i) fun _ => appM i F) := by
  obtain ⟨t, p, m⟩ := h
  refine ⟨tDrop (tBM Γ.K "list" rAppend (tVar i) (tCons t tNil)), fun X h => by
      have r := pe_bm PySem.F.plainAttrs_list PySem.F.slot_list_append PySem.F.type_list_append mt_append (pe_var (i := i) (by rw [h.N]; exact hN) (by rw [h.sc]; exact hv) hd hcd) (pa_cons (p X h) pa_nil (hst X)) (hb X) (hfew X) hl (hst X) rfl
      rw [h.K] at r
      exact ps_expr r (hs X),
    fun s σ H S g o s' e D q => ?_⟩
  obtain ⟨_, s0, e0, e⟩ := bnd_some e
  obtain ⟨d, s1, e1, e2⟩ := bnd_some e
  unfold ownAt at e0
  split at e0
  · rename_i xs0 q0
    cases e0
    obtain ⟨pa, vs0, h1, hp0, _⟩ := g.getOwn q0
    refine ⟨_, h1, .inl ⟨rfl, _, SqL.of hp0⟩, m.val g e1 fun v H1 S1 g1 w1 r1 => ?_⟩
    split at e2
    · rename_i xs q1
      split at e2
      · rename_i hz
        cases e2
        obtain ⟨pb, vs, h2, hp, ha, _⟩ := g1.getOwn q1
        rw [h1] at h2
        cases h2
        exact ⟨_, vs, v, rfl, rfl, hp, by rw [ha.len]; exact hz, q σ _ S1 (g1.change q1 h1 (ha.app (.cons r1 .nil))) w1.same⟩
      · cases e2
    · cases e2
  · cases e0
theorem DS.ext {i : Nat} {x : Str} {p0 apos cpos : Pos} (hN : Γ.N[i]? = some x) (hv : Vis Γ.sc x) (h : DO Γ B e F) (hl : (apos.endLine == cpos.line) = true := by rfl) (hst : ∀ X : Cx, starEach [e] X.env = (false, eval e X.env) :: starEach [] X.env := by intro _; rfl)
    (hs : ∀ X : Cx, swapsWith (.Call (.Attribute (.Name x p0) "extend" apos) [e] [] cpos) none pos.line X.env = pure false := by intro _; rfl) (hd : (x == ("__debug__" : Str)) = false := by decide) (hcd : (x == ("__classdict__" : Str)) = false := by decide)
    (hb : ∀ X : Cx, attributeBase (.Name x p0) "extend" X.env (eval (.Name x p0) X.env) = eval (.Name x p0) X.env := by intro _; rfl)
    (hfew : ∀ X : Cx, ((backTo cpos (starEach [e] X.env)).all (fun x => !x.1) && (backToKw cpos (keywordEach [] X.env)).all (fun x => x.1.isSome) && decide ([e].length + ([] : List Keyword).length + (if ([] : List Keyword).isEmpty then 0 else 1) < 30)) = true := by intro _; rfl) :
    DS Γ B (.Expr (.Call (.Attribute (.Name x p0) "extend" apos) [e] [] cpos) pos) (bnd (ownAt i) fun _ => extM i F) := by
  obtain ⟨t, p, m⟩ := h
  refine ⟨tDrop (tBM Γ.K "list" rExtend (tVar i) (tCons t tNil)), fun X h => by
      have r := pe_bm PySem.F.plainAttrs_list PySem.F.slot_list_extend PySem.F.type_list_extend mt_extend (pe_var (i := i) (by rw [h.N]; exact hN) (by rw [h.sc]; exact hv) hd hcd) (pa_cons (p X h) pa_nil (hst X)) (hb X) (hfew X) hl (hst X) rfl
      rw [h.K] at r
      exact ps_expr r (hs X),
    fun s σ H S g o s' e D q => ?_⟩
  obtain ⟨_, s0, e0, e⟩ := bnd_some e
  obtain ⟨o1, s1, e1, e2⟩ := bnd_some e
  obtain ⟨y, s2, e3, e4⟩ := bnd_some e2
  unfold ownAt at e0
  split at e0
  · rename_i xs0 q0
    cases e0
    obtain ⟨pa, vs0, h1, hp0, _⟩ := g.getOwn q0
    refine ⟨_, h1, .inl ⟨rfl, _, SqL.of hp0⟩, m.late g e1 fun v H1 S1 g1 w1 r1 => ?_⟩
    obtain ⟨rfl, vy⟩ := view_of g1 r1.rel e3
    split at e4
    · rename_i xs ys q1
      split at e4
      · rename_i hz
        cases e4
        obtain ⟨pb, vs, h2, hp, ha, _⟩ := g1.getOwn q1
        rw [h1] at h2
        cases h2
        obtain ⟨b, us, rfl, hb', hu⟩ := vy.lst g1.fr.sub
        exact ⟨_, b, vs, us, rfl, rfl, hp, hb', by rw [ha.len, hu.len]; exact hz, q σ _ S1 (g1.change q1 h1 (ha.app hu)) w1.same⟩
      · cases e4
    · cases e4
  · cases e0

/-! ### for -/
def forM (G : D → M τ Unit) (body : M τ Out) : List D → M τ Out
  | [] => ret .nx
  | x :: xs => bnd (G x) fun _ => bnd body fun o => match o with
    | .nx => forM G body xs
    | .ct => forM G body xs
    | .bk => ret .nx
    | .rt d => ret (.rt d)
    | .rn ys => ret (.rn ys)
def loopM (Fi : M τ (List D)) (G : D → M τ Unit) (body : M τ Out) : M τ Out := bnd Fi fun xs => forM G body xs
theorem DS.for_ {tg iter : Expr} {body : List Stmt} {ws : List Nat} {Fi : M τ (List D)} {G : D → M τ Unit} (hi : DI Γ B tg iter Fi) (hg : DG Γ B tg ws G) (hb : DSs Γ B body Fs)
    (hs : ∀ (X : Cx) x, foldedSetIterable iter X.env x = pure x := by intro _ _; rfl) : DS Γ B (.For tg iter body [] pos) (loopM Fi G Fs) := by
  obtain ⟨wi, pi, mi⟩ := hi
  obtain ⟨g, pg, mg⟩ := hg
  obtain ⟨tb, pb, mb⟩ := hb
  refine ⟨_, fun X h => ps_for h.pass h.calm (pi X h) (pg X h) (pb X h) (hs X), fun s σ H S gd o s' e D q => ?_⟩
  obtain ⟨xs, s1, e1, e2⟩ := bnd_some e
  refine mi s σ H S gd xs s1 e1 _ fun J H1 S1 g1 w1 wk => ?_
  have q := q.mono w1.same
  refine ⟨fun i m σ2 H2 => m = xs.length - i ∧ i ≤ xs.length ∧ ∃ s2 S2, Good Γ.K B s2 σ2 H2 S2 ∧ Same S1 S2 ∧ forM G Fs (xs.drop i) s2 = some (o, s'),
    ⟨xs.length, by simp, Nat.zero_le _, s1, S1, g1, Same.refl _, by rw [List.drop_zero]; exact e2⟩, ?_⟩
  rintro i m σ2 H2 ⟨rfl, hi, s2, S2, g2, w2, e3⟩
  by_cases hlt : i < xs.length
  · refine .inr ⟨wk.go i H2 hlt (w2.trans g2.fr.sub), fun σ3 H3 => ∃ s3 S3, Good Γ.K B s3 σ3 H3 S3 ∧ Same S1 S3 ∧ forM G Fs (xs.drop (i + 1)) s3 = some (o, s'),
      fun σ3 H3 n3 => ⟨xs.length - (i + 1), by omega, rfl, hlt, n3⟩, fun x H3 y => ?_⟩
    rw [List.drop_eq_getElem_cons hlt] at e3
    obtain ⟨S3, wg, hd⟩ := wk.yld i H2 x H3 S2 _ (List.getElem?_eq_getElem hlt) w2 g2.fr.sub y
    obtain ⟨_, s3, e4, e5⟩ := bnd_some e3
    obtain ⟨o1, s4, e6, e7⟩ := bnd_some e5
    refine mg s2 σ2 H3 S3 (g2.grow wg) x _ hd s3 e4 _ fun σ3 g3 _ => ?_
    have w3 := w2.trans wg.s
    refine mb s3 σ3 H3 S3 g3 o1 s4 e6 _ ?_
    cases o1 with
    | nx => exact fun σ5 H5 S5 g5 w5 => ⟨s4, S5, g5, w3.trans w5, e7⟩
    | ct => exact fun σ5 H5 S5 g5 w5 => ⟨s4, S5, g5, w3.trans w5, e7⟩
    | bk =>
      obtain ⟨rfl, rfl⟩ := ret_some e7
      exact fun σ5 H5 S5 g5 w5 => q σ5 H5 S5 g5 (w3.trans w5)
    | rt d =>
      obtain ⟨rfl, rfl⟩ := ret_some e7
      exact q
    | rn ys =>
      obtain ⟨rfl, rfl⟩ := ret_some e7
      exact q
  · have ei : i = xs.length := by omega
    subst ei
    rw [List.drop_length] at e3
    obtain ⟨rfl, rfl⟩ := ret_some e3
    exact .inl ⟨wk.stop H2 (w2.trans g2.fr.sub), q σ2 H2 S2 g2 w2⟩
end

/-! ### a def and its calls; the guards of repr told beside the room -/
structure FnG (P : Program) (w : World) (K : Frag) (mg : Str → Option Value) (base : Heap) (k : Nat) (f : Addr) (fd : FuncData) (ps : List Str) (sp : Sp) : Prop where
  len : ∀ vs H Q E, sp vs H Q E → vs.length = ps.length
  run : ∀ (A : Around) (outer : List Env) (s : Shared) (H : Hp) (args : Args) (us : List Value) (vs : List V) (Q : VK) (E : XK), Room k A → A.guards = some [] → Env0 P w K mg base A outer s H →
    BindsTo s fd args (ps.zip us) → Vals vs us → sp vs H Q E → codeAny (model P w) A (.call (.ref f) args) (CR CX0 outer P w H s Q E) s
theorem FnG.mono {P : Program} {w : World} {K : Frag} {mg : Str → Option Value} {base : Heap} {j k : Nat} {f : Addr} {fd : FuncData} {ps : List Str} {sp : Sp} (F : FnG P w K mg base j f fd ps sp) (h : j ≤ k) : FnG P w K mg base k f fd ps sp :=
  ⟨F.len, fun A outer s H args us vs Q E hr => F.run A outer s H args us vs Q E (hr.mono h)⟩
section
variable {X : Cx} {k : Nat} {f : Addr} {fd : FuncData} {ps : List Str} {sp : Sp} {x : Str} {p pos : Pos} {e : Expr} {es : List Expr} {t : TA}
theorem runG {pins : List (Addr × Obj)} {σ : List (Option V)} {H : Hp} {s : Shared} {Q : VK} {us : List Value} {vs : List V} (F : FnG X.prog X.w X.K X.mg X.base k f fd ps sp) (hr : Room k X.A) (gd : X.A.guards = some []) (hb : Binds X.K fd ps [])
    (I : L2.Inv X pins σ H s) (r : Vals vs us) (h : sp vs H Q E0) : wpAny (model X.prog X.w) X.A (call (.ref f) us) (EP X pins σ Q) X.xe s := by
  have hl : us.length = ps.length := by
    rw [← r.length]
    exact F.len _ _ _ _ h
  have hbb := hb s us I.kIn (by rw [List.append_nil]; exact hl)
  rw [List.append_nil] at hbb
  have run := F.run X.A X.stack s H ⟨us, []⟩ us vs Q E0 hr gd I.env0 hbb r h
  refine wpAny_call (codeAny_mono run ?_)
  intro res s' hq
  match res, hq with
  | .ok (.ret u), hq => exact I.after hq
  | .ok .next, hq => exact False.elim hq
  | .ok .brk, hq => exact False.elim hq
  | .ok .cont, hq => exact False.elim hq
  | .error ex, hq => exact False.elim hq
theorem pe_callG (F : FnG X.prog X.w X.K X.mg X.base k f fd ps sp) (hr : Room k X.A) (gd : X.A.guards = some []) (hg : Gl X x) (hm : X.mg x = some (.ref f)) (hk : PySem.W.keepIn X.K (.ref f) = true) (hb : Binds X.K fd ps []) (ha : PA X (e :: es) t)
    (hdb : (x == ("__debug__" : Str)) = false) (he : starEach (e :: es) X.env = (false, eval e X.env) :: starEach es X.env) (hpl : (backTo pos (starEach es X.env)).any (·.1) = false) :
    PE X (.Call (.Name x p) (e :: es) [] pos) (tCall sp [] E0 t) := by
  constructor
  intro pins s σ H Q I h
  refine wpAny_Call_Name_kw (ld_glob I hg hm ?_ hdb)
  refine PySem.W.callWith_K (h₀ := X.base) I.ok.mod.kin hk ?_ he hpl
  refine thn (ha.run pos pins s σ H _ I h) ?_
  rintro us s1 ⟨vs, H1, I1, r, q⟩
  rw [List.append_nil] at q
  exact ⟨I1.kIn, runG F hr gd hb I1 r q⟩
end
/-- what a def of plain data promises -/
def spP (K : Frag) (f : List D → Option D) : Sp := fun vs H Q _ => ∃ S ds d, Same S H ∧ DqAll K S vs ds ∧ f ds = some d ∧ ∀ v H' S', Grow H S H' S' → Dq K S' v d → Q v H'
def callP (f : List D → Option D) (G : M τ (List D)) : M τ Opd := bnd G fun ds => bnd (lift (f ds)) fun d => ret (.val d)
section
variable {Γ : Gam} {B : Bd τ} {pos : Pos} {e : Expr} {es : List Expr} {G : M τ (List D)}
/-- what stands of a def: its object, its promise, how it binds -/
structure DefP (Γ : Gam) (k : Nat) (x : Str) (ps : List Str) (f : List D → Option D) : Prop where
  ex : ∃ (a : Addr) (fd : FuncData), FnG Γ.P Γ.w Γ.K Γ.mg Γ.base k a fd ps (spP Γ.K f) ∧ Γ.mg x = some (.ref a) ∧ PySem.W.keepIn Γ.K (.ref a) = true ∧ Binds Γ.K fd ps []
theorem DO.call {x : Str} {p : Pos} {k : Nat} {ps : List Str} {f : List D → Option D} (F : DefP Γ k x ps f) {j : Nat} (ok : Γ.Ok j) (hj : k ≤ j) (hg : Γ.sc.names.lookup x = some .globalImplicit) (ha : DV Γ B (e :: es) G) (hdb : (x == ("__debug__" : Str)) = false := by decide)
    (he : ∀ X : Cx, starEach (e :: es) X.env = (false, eval e X.env) :: starEach es X.env := by intro _; rfl) (hpl : ∀ X : Cx, (backTo pos (starEach es X.env)).any (·.1) = false := by intro _; rfl) : DO Γ B (.Call (.Name x p) (e :: es) [] pos) (callP f G) := by
  obtain ⟨a, fd, F, hm, hk, hb⟩ := F.ex
  obtain ⟨t, pa, m⟩ := ha
  refine ⟨tCall (spP Γ.K f) [] E0 t, fun X h => ?_, fun s σ H S g o s' e Q q => ?_⟩
  · have F' := F.mono hj
    rw [← h.P, ← h.w, ← h.K, ← h.mg, ← h.base] at F'
    have r := pe_callG (x := x) (p := p) (pos := pos) F' (by rw [h.A]; exact ok.room) (by rw [h.A]; exact ok.gd) (gl_of h hg) (by rw [h.mg]; exact hm) (by rw [h.K]; exact hk) (by rw [h.K]; exact hb) (pa X h) hdb (he X) (hpl X)
    rw [h.K] at r
    exact r
  · obtain ⟨ds, s1, e1, e2⟩ := bnd_some e
    obtain ⟨d, s2, e3, e4⟩ := bnd_some e2
    obtain ⟨ez, rfl⟩ := lift_some e3
    obtain ⟨rfl, rfl⟩ := ret_some e4
    refine m s σ H S g ds _ e1 _ fun vs H1 S1 g1 w1 r1 => ?_
    refine ⟨S1, ds, d, g1.fr.sub, by rw [List.append_nil]; exact r1, ez, fun v H2 S2 w2 r2 => ?_⟩
    exact q v H2 S2 (g1.grow w2) (w1.trans w2.step) r2 trivial
end
/-- a def's body as a function of its arguments -/
def runP (n : Nat) (F : M Unit Out) (ds : List D) : Option D := match F ⟨ds.map (fun d => some (.d d)) ++ List.replicate (n - ds.length) none, ()⟩ with
  | some (.rt d, _) => some d
  | some (.nx, _) => some .none
  | _ => none
/-- a state at a def's entry -/
theorem good_start {K : Frag} {H S : Hp} {vs : List V} {ds : List D} {N : List Str} (w : Same S H) (h : DqAll K S vs ds) :
    Good K (B := ⟨dr0, H, S⟩) ⟨ds.map (fun d => some (.d d)) ++ List.replicate (N.length - ds.length) none, ()⟩ (L2.start N vs) H S := by
  have get : ∀ (i : Nat) (z : Sl), ((ds.map fun d => some (Sl.d d)) ++ List.replicate (N.length - ds.length) none)[i]? = some (some z) → ∃ d, ds[i]? = some d ∧ z = .d d := fun i z e => by
    by_cases hi : i < ds.length
    · rw [List.getElem?_append_left (by simpa using hi), List.getElem?_map] at e
      obtain ⟨d, h1, h2⟩ := Option.map_eq_some_iff.mp e
      cases h2
      exact ⟨d, h1, rfl⟩
    · rw [List.getElem?_append_right (by simpa using hi), List.getElem?_replicate] at e
      split at e <;> cases e
  refine ⟨⟨fun b o e _ => e, Same.refl _, w, (fun b o e n => by
    rw [show S b = none from n] at e
    cases e), fun b r => r.elim⟩, trivial, ?_, fun i z e => ?_, fun i j xs ys n e1 e2 => ?_⟩
  · unfold L2.start
    rw [List.length_append, List.length_append, List.length_map, List.length_map, List.length_replicate, List.length_replicate, h.len]
  · obtain ⟨d, h1, rfl⟩ := get i z e
    obtain ⟨v, h2, h3⟩ := h.getD h1
    refine ⟨v, ?_, h3⟩
    unfold L2.start
    have hi : i < vs.length := (List.getElem?_eq_some_iff.mp h2).1
    rw [List.getElem?_append_left (by simpa using hi), List.getElem?_map, h2]
    rfl
  · obtain ⟨d, _, q⟩ := get i _ e1
    cases q
/-- THE RULE for a def of plain data -/
theorem fnP {P : Program} {w : World} {K : Frag} {mg : Str → Option Value} {base : Heap} {x qual : Str} {st : Stmt} {f : Addr} {fd : FuncData} {N ps : List Str} {k : Nat} {F : M Unit Out} (Fn : Fun K x qual st f fd) (Sc : FnScope N ps (defScope st)) (hlen : ∀ ds d, runP N.length F ds = some d → ds.length = ps.length)
    (body : ∀ (A : Around) (B : Bd Unit), Gam.Ok ⟨P, w, K, mg, base, A, N, defScope st, fun _ => true⟩ k → DSs ⟨P, w, K, mg, base, A, N, defScope st, fun _ => true⟩ B (defBody st) F) :
    FnG P w K mg base (k + 1) f fd ps (spP K (runP N.length F)) := by
  obtain ⟨oc, od, kV, doc, pm, an, cdv, ct, osl, rfl, lk, hcd⟩ := Fn.ex
  have hl : ∀ vs H Q E, spP K (runP N.length F) vs H Q E → vs.length = ps.length := by
    rintro vs H Q E ⟨S, ds, d, _, h, e, _⟩
    rw [h.len]
    exact hlen ds d e
  refine ⟨hl, fun A outer s H args us vs Q E hr gd e0 hb r hsp => ?_⟩
  have hvl := hl _ _ _ _ hsp
  have KX : K.In s.heap := e0.mod.kin.keeps fun b o e => (e0.bs b o e).1
  have lim : s.heap.NoLimit := e0.mod.nolimit.keeps fun b o e => (e0.bs b o e).1
  have hkind : ∀ y ∈ ps.zip us, (defScope st).names.lookup y.1 = some .local ∨
      ((defScope st).names.lookup y.1 = some .cell ∧ ((cellsFrom (s.heap.objs.size + 1) (defScope st).names []).lookup y.1).isSome = true) := by
    rintro ⟨n, v⟩ hy
    rcases Sc.par n (List.of_mem_zip hy).1 with q | q
    · exact .inl q
    · exact .inr ⟨q, PySem.W.cellsFrom_some _ _ _ (.inl q)⟩
  refine codeAny_call_function hr.depth (KX _ _ lk) rfl Sc.co Sc.gen rfl (PySem.W.codeRec_of KX hcd) (hb _ _ _ _ ?_)
  refine wpAny_newFunctionEnv_cells Sc.kind hkind ?_
  intro env he s1 xin
  subst he
  refine ⟨lim.keeps xin.toInCall.keep, codeAny_func ?_⟩
  obtain ⟨S, ds, d, wS, hds, hrun, hQ⟩ := hsp
  have I : L2.Inv (cxOf CX0 P w K mg base N qual (defScope st) f cdv A outer s H E) [] (L2.start N vs) H s1 := inv_start Sc hr.hd e0 hvl r xin
  have hr' : Room k (A.deeper (envOfC qual (defScope st) s.heap.objs.size f cdv)) := hr.deeper _
  obtain ⟨t, pt, mt⟩ := body (A.deeper (envOfC qual (defScope st) s.heap.objs.size f cdv)) ⟨dr0, H, S⟩ ⟨Sc.nd, hr', gd⟩
  have hX : Gam.Has ⟨P, w, K, mg, base, A.deeper (envOfC qual (defScope st) s.heap.objs.size f cdv), N, defScope st, fun _ => true⟩ (cxOf CX0 P w K mg base N qual (defScope st) f cdv A outer s H E).nox :=
    ⟨rfl, rfl, rfl, rfl, rfl, rfl, rfl, rfl, rfl, fun _ _ => .inl rfl, PassesOwn.never⟩
  have ht := (pt _ hX).nox
  have gs := good_start (K := K) (N := N) wS hds
  unfold runP at hrun
  have hq : t { nx := fun _ H' => Q .non H', rt := Q } (L2.start N vs) H := by
    split at hrun
    · rename_i d' s' e
      cases hrun
      refine mt _ _ H S gs _ _ e _ fun v H' S' fr _ hd => ?_
      exact hQ v H' S' ⟨fun b o e => fr.keep b o e (fun z => z), fr.s, fr.sub, fr.new⟩ hd
    · rename_i s' e
      cases hrun
      refine mt _ _ H S gs _ _ e _ fun σ' H' S' g' w' => ?_
      exact hQ .non H' S' ⟨fun b o e => g'.fr.keep b o e (fun z => z), g'.fr.s, g'.fr.sub, g'.fr.new⟩ .non
    · cases hrun
  refine wpAny_mono (ht.run [] s1 (L2.start N vs) H _ I hq) ?_ fun e s' hs => hs
  intro fl s' hs
  match fl, hs with
  | .ret u, ⟨v, σ', H', J, rv, q⟩ => exact ⟨v, H', J.os, J.bare, J.base, J.hok, rv, q⟩
  | .next, ⟨σ', H', J, q⟩ => exact ⟨V.non, H', J.os, J.bare, J.base, J.hok, rfl, q⟩
  | .brk, ⟨_, _, _, q⟩ => exact False.elim q
  | .cont, ⟨_, _, _, q⟩ => exact False.elim q
end DL
end

section
set_option Elab.async false
set_option linter.all false
set_option maxRecDepth 100000
set_option maxHeartbeats 3999999
/-! WEng8: several targets at once, items stored, the script, the drawn numbers -/
namespace DL
open L2 PySem PyProof.Rows PySem.Spec
variable {τ α β : Type}
section
variable {K : Frag} {B : Bd τ} {s s' : Stt τ} {σ : List (Option V)} {H S : Hp}
/-- the values of several expressions, new lists still unknown to all -/
def RelN (K : Frag) (B : Bd τ) (s : Stt τ) (σ : List (Option V)) (H S : Hp) : List V → List Opd → Prop
  | [], [] => True
  | v :: vs, o :: os => RelO K B s σ H S v o ∧ RelN K B s σ H S vs os ∧ ∀ (xs : List D) (p : Addr), o = Opd.new xs → v = V.ref p → ∀ (j : Nat) (ys : List D), os[j]? = some (Opd.new ys) → vs[j]? ≠ some (V.ref p)
  | _, _ => False
def FreshN (H : Hp) (vs : List V) (os : List Opd) : Prop := ∀ (j : Nat) (ys : List D), os[j]? = some (Opd.new ys) → ∃ p, vs[j]? = some (V.ref p) ∧ H p = none
def MeanN (K : Frag) (B : Bd τ) (t : TA) (F : M τ (List Opd)) : Prop := ∀ s σ H S, Good K B s σ H S → ∀ os s', F s = some (os, s') →
  ∀ Q : List V → Hp → Prop, (∀ vs H' S', Good K B s' σ H' S' → Step K B σ s H S s' H' S' → RelN K B s' σ H' S' vs os → FreshN H vs os → Q vs H') → t σ H Q
def DN (Γ : Gam) (B : Bd τ) (es : List Expr) (F : M τ (List Opd)) : Prop := ∃ t, (∀ X, Γ.Has X → PA X es t) ∧ MeanN Γ.K B t F
def consN (F : M τ Opd) (G : M τ (List Opd)) : M τ (List Opd) := bnd F fun o => bnd G fun os => ret (o :: os)
theorem RelO.step {s1 : Stt τ} {H1 S1 : Hp} {v : V} {o : Opd} (r : RelO K B s σ H S v o) (w : Step K B σ s H S s1 H1 S1) : RelO K B s1 σ H1 S1 v o := by
  cases o with
  | val x => exact Dq.mono w.same r
  | slot i => exact r
  | new xs =>
    obtain ⟨p, e, f⟩ := r
    exact ⟨p, e, w.free p xs f⟩
theorem DN.nil {Γ : Gam} {B : Bd τ} : DN Γ B [] nilM := ⟨_, fun X h => pa_nil, fun s σ H S g os s' e Q q => by
  obtain ⟨rfl, rfl⟩ := ret_some e
  exact q [] H S g Step.refl trivial fun j ys h => by simp at h⟩
theorem DN.cons {Γ : Gam} {B : Bd τ} {e : Expr} {es : List Expr} {F : M τ Opd} {G : M τ (List Opd)} (h : DO Γ B e F) (hs : DN Γ B es G) (hst : ∀ X : Cx, starEach (e :: es) X.env = (false, eval e X.env) :: starEach es X.env := by intro _; rfl) : DN Γ B (e :: es) (consN F G) := by
  obtain ⟨t, p, m⟩ := h
  obtain ⟨u, pu, mu⟩ := hs
  refine ⟨_, fun X h => pa_cons (p X h) (pu X h) (hst X), fun s σ H S g os s' e Q q => ?_⟩
  obtain ⟨o, s1, e1, e2⟩ := bnd_some e
  obtain ⟨os', s2, e3, e4⟩ := bnd_some e2
  obtain ⟨rfl, rfl⟩ := ret_some e4
  refine m s σ H S g o s1 e1 _ fun v H1 S1 g1 w1 r1 f1 => ?_
  refine mu s1 σ H1 S1 g1 os' _ e3 _ fun vs H2 S2 g2 w2 r2 f2 => ?_
  refine q (v :: vs) H2 S2 g2 (w1.trans w2) ⟨r1.step w2, r2, fun xs p ho hv j ys hj => ?_⟩ fun j ys hj => ?_
  · subst ho
    intro hvj
    obtain ⟨p', h1, h2⟩ := f2 j ys hj
    rw [hvj] at h1
    cases h1
    obtain ⟨p1, h3, ⟨us, h4, _⟩, _⟩ := r1
    rw [hv] at h3
    cases h3
    rw [h2] at h4
    cases h4
  · cases j with
    | zero =>
      have hj' : o = .new ys := by simpa using hj
      subst hj'
      obtain ⟨p, h1, h2⟩ := f1
      exact ⟨p, by simp [h1], h2⟩
    | succ j =>
      obtain ⟨p, h1, h2⟩ := f2 j ys (by simpa using hj)
      exact ⟨p, by simpa using h1, w1.dom p h2⟩
/-- slots are read ahead of all stores -/
def fixM : List Opd → M τ (List Opd)
  | [] => ret []
  | o :: os => bnd (match o with
    | .slot i => bnd (toD (.slot i)) fun d => ret (.val d)
    | .val x => ret (.val x)
    | .new xs => ret (.new xs)) fun o' => bnd (fixM os) fun os' => ret (o' :: os')
def NoSlot : List Opd → Prop
  | [] => True
  | .slot _ :: _ => False
  | _ :: os => NoSlot os
theorem RelN.free {s1 : Stt τ} {S1 : Hp} (ws : Same S S1) (k : ∀ (p : Addr) (xs : List D), Free K B s σ H S p xs → Free K B s1 σ H S1 p xs) : ∀ {vs : List V} {os : List Opd}, RelN K B s σ H S vs os → RelN K B s1 σ H S1 vs os
  | [], [], _ => trivial
  | v :: vs, o :: os, ⟨h1, h2, h3⟩ => ⟨by
      cases o with
      | val x => exact Dq.mono ws h1
      | slot i => exact h1
      | new xs =>
        obtain ⟨p, e, f⟩ := h1
        exact ⟨p, e, k p xs f⟩, RelN.free ws k h2, h3⟩
theorem fix_of : ∀ {vs : List V} {os os' : List Opd} {s s' : Stt τ} {S : Hp}, Good K B s σ H S → RelN K B s σ H S vs os → fixM os s = some (os', s') → ∃ S', Same S S' ∧ Good K B s' σ H S' ∧ RelN K B s' σ H S' vs os' ∧ NoSlot os' ∧
    (∀ (j : Nat) (ys : List D), os'[j]? = some (Opd.new ys) → os[j]? = some (Opd.new ys)) ∧ ∀ (p : Addr) (xs : List D), Free K B s σ H S p xs → Free K B s' σ H S' p xs
  | [], [], os', s, s', S, g, _, e => by
    obtain ⟨rfl, rfl⟩ := ret_some e
    exact ⟨S, Same.refl _, g, trivial, trivial, fun _ _ h => h, fun _ _ f => f⟩
  | v :: vs, o :: os, os', s, s', S, g, ⟨h1, h2, h3⟩, e => by
    obtain ⟨o1, s1, e1, e2⟩ := bnd_some e
    obtain ⟨os1, s2, e3, e4⟩ := bnd_some e2
    obtain ⟨rfl, rfl⟩ := ret_some e4
    cases o with
    | slot i =>
      obtain ⟨d, s3, e5, e6⟩ := bnd_some e1
      obtain ⟨rfl, rfl⟩ := ret_some e6
      obtain ⟨S1, w1, g1, r1, f1⟩ := toD_of g h1 e5
      have f1' : ∀ (p : Addr) (xs : List D), Free K B s σ H S p xs → Free K B s1 σ H S1 p xs := fun p xs f => f1 p xs (fun _ q => by cases q) f
      obtain ⟨S2, w2, g2, r2, n2, k2, f2⟩ := fix_of g1 (h2.free w1 f1') e3
      refine ⟨S2, w1.trans w2, g2, ⟨Dq.mono w2 r1, r2, fun xs p q => by cases q⟩, n2, fun j ys h => ?_, fun p xs f => f2 p xs (f1' p xs f)⟩
      cases j with
      | zero => simp at h
      | succ j => simpa using k2 j ys (by simpa using h)
    | val x =>
      obtain ⟨rfl, rfl⟩ := ret_some e1
      obtain ⟨S2, w2, g2, r2, n2, k2, f2⟩ := fix_of g h2 e3
      refine ⟨S2, w2, g2, ⟨Dq.mono w2 h1, r2, fun xs p q => by cases q⟩, n2, fun j ys h => ?_, f2⟩
      cases j with
      | zero => simp at h
      | succ j => simpa using k2 j ys (by simpa using h)
    | new xs =>
      obtain ⟨rfl, rfl⟩ := ret_some e1
      obtain ⟨S2, w2, g2, r2, n2, k2, f2⟩ := fix_of g h2 e3
      obtain ⟨p, ep, fp⟩ := h1
      refine ⟨S2, w2, g2, ⟨⟨p, ep, f2 p xs fp⟩, r2, fun ys q ho hv j zs hj => h3 ys q ho hv j zs (k2 j zs hj)⟩, n2, fun j ys h => ?_, f2⟩
      cases j with
      | zero => simpa using h
      | succ j => simpa using k2 j ys (by simpa using h)
  | [], _ :: _, _, _, _, _, _, h, _ => h.elim
  | _ :: _, [], _, _, _, _, _, h, _ => h.elim
def setsM : List Nat → List Opd → M τ Unit
  | [], [] => ret ()
  | i :: is, o :: os => bnd (putM i o) fun _ => setsM is os
  | _, _ => stuck
def sets (σ : List (Option V)) : List Nat → List V → List (Option V)
  | i :: is, v :: vs => sets (σ.set i (some v)) is vs
  | _, _ => σ
theorem free_put {p : Addr} {xs : List D} {i : Nat} {v : V} {o : Opd} (f : Free K B s σ H S p xs) (e : putM i o s = some ((), s')) (ns : NoSlot [o]) (hn : ∀ ys, o = .new ys → v ≠ .ref p) : Free K B s' (σ.set i (some v)) H S p xs := by
  have go : ∀ z : Sl, (∀ ys, z = .own ys → v ≠ .ref p) → Free K B { s with env := s.env.set i (some z) } (σ.set i (some v)) H S p xs := fun z hz => ⟨f.at_, f.ns, f.n0, f.nr, fun j ys e => by
    by_cases hl : i < σ.length
    · rcases set_get e with ⟨rfl, q⟩ | ⟨n, q⟩
      · cases q
        rw [List.getElem?_set_self hl]
        exact fun q => hz ys rfl (Option.some.inj (Option.some.inj q))
      · rw [List.getElem?_set_ne n]
        exact f.no j ys q
    · rw [List.set_eq_of_length_le (by omega)]
      rcases set_get e with ⟨rfl, q⟩ | ⟨n, q⟩
      · intro q'
        have := (List.getElem?_eq_some_iff.mp q').1
        omega
      · exact f.no j ys q⟩
  cases o with
  | val x => cases e; exact go (.d x) fun ys q => by cases q
  | new zs => cases e; exact go (.own zs) fun ys q => hn zs rfl
  | slot j => exact ns.elim
theorem sets_of : ∀ {is : List Nat} {vs : List V} {os : List Opd} {s s' : Stt τ} {σ : List (Option V)} {S : Hp}, Good K B s σ H S → RelN K B s σ H S vs os → NoSlot os → setsM is os s = some ((), s') → ∃ S', Same S S' ∧ Good K B s' (sets σ is vs) H S'
  | [], [], [], s, s', σ, S, g, _, _, e => by
    obtain ⟨_, rfl⟩ := ret_some e
    exact ⟨S, Same.refl _, g⟩
  | i :: is, v :: vs, o :: os, s, s', σ, S, g, ⟨h1, h2, h3⟩, ns, e => by
    obtain ⟨_, s1, e1, e2⟩ := bnd_some e
    have ns1 : NoSlot [o] ∧ NoSlot os := by
      cases o with
      | val x => exact ⟨trivial, ns⟩
      | new xs => exact ⟨trivial, ns⟩
      | slot j => exact ns.elim
    have same : ∃ g1 : Good K B s1 (σ.set i (some v)) H S, True := by
      cases o with
      | val x => cases e1; exact ⟨g.set h1, trivial⟩
      | new xs =>
        cases e1
        obtain ⟨p, rfl, f⟩ := h1
        exact ⟨g.setOwn f, trivial⟩
      | slot j => exact ns.elim
    obtain ⟨g1, _⟩ := same
    have rel : ∀ {vs : List V} {os : List Opd}, RelN K B s σ H S vs os → NoSlot os → (∀ (xs : List D) (p : Addr), o = Opd.new xs → v = V.ref p → ∀ (j : Nat) (ys : List D), os[j]? = some (Opd.new ys) → vs[j]? ≠ some (V.ref p)) → RelN K B s1 (σ.set i (some v)) H S vs os := by
      intro vs
      induction vs with
      | nil => intro os h _ _; cases os with
        | nil => trivial
        | cons _ _ => exact h.elim
      | cons u us ih =>
        intro os h n hd
        cases os with
        | nil => exact h.elim
        | cons o2 os2 =>
          obtain ⟨k1, k2, k3⟩ := h
          have n2 : NoSlot os2 := by
            cases o2 with
            | val x => exact n
            | new xs => exact n
            | slot j => exact n.elim
          refine ⟨?_, ih k2 n2 fun xs p ho hv j ys hj => by simpa using hd xs p ho hv (j + 1) ys (by simpa using hj), k3⟩
          cases o2 with
          | val x => exact k1
          | slot j => exact n.elim
          | new ys =>
            obtain ⟨p, rfl, f⟩ := k1
            refine ⟨p, rfl, free_put f e1 ns1.1 fun zs ho hv => ?_⟩
            exact hd zs p ho hv 0 ys rfl rfl
    exact sets_of (is := is) g1 (rel h2 ns1.2 h3) ns1.2 e2
  | [], _ :: _, _ :: _, _, _, _, _, _, _, _, e => by cases e
  | _ :: _, [], [], _, _, _, _, _, _, _, e => by cases e
  | _, [], _ :: _, _, _, _, _, _, h, _, _ => h.elim
  | _, _ :: _, [], _, _, _, _, _, h, _, _ => h.elim
end
end DL
end

section
set_option Elab.async false
set_option linter.all false
set_option maxRecDepth 100000
set_option maxHeartbeats 3999999
/-! WEng9: a, b = .., items stored, the script, the drawn numbers, a law's end -/
namespace DL
open L2 PySem PyProof.Rows PySem.Spec
variable {τ α β : Type}
section
variable {Γ : Gam} {B : Bd τ} {pos : Pos} {e a b c : Expr} {F : M τ Opd} {G : M τ (List Opd)}
def parM (is : List Nat) (G : M τ (List Opd)) : M τ Out := bnd G fun os => bnd (fixM os) fun os' => bnd (setsM is os') fun _ => ret .nx
theorem RelN.len {K : Frag} {B : Bd τ} {s : Stt τ} {σ : List (Option V)} {H S : Hp} : ∀ {vs : List V} {os : List Opd}, RelN K B s σ H S vs os → vs.length = os.length
  | [], [], _ => rfl
  | _ :: _, _ :: _, h => by rw [List.length_cons, List.length_cons, RelN.len h.2.1]
  | [], _ :: _, h => h.elim
  | _ :: _, [], h => h.elim
theorem fix_len : ∀ {os os' : List Opd} {s s' : Stt τ}, fixM os s = some (os', s') → os'.length = os.length
  | [], _, _, _, e => by obtain ⟨rfl, _⟩ := ret_some e; rfl
  | o :: os, os', s, s', e => by
    obtain ⟨o1, s1, e1, e2⟩ := bnd_some e
    obtain ⟨os1, s2, e3, e4⟩ := bnd_some e2
    obtain ⟨rfl, _⟩ := ret_some e4
    rw [List.length_cons, List.length_cons, fix_len e3]
theorem sets_len : ∀ {is : List Nat} {os : List Opd} {s s' : Stt τ}, setsM is os s = some ((), s') → is.length = os.length
  | [], [], _, _, _ => rfl
  | i :: is, o :: os, s, s', e => by
    obtain ⟨_, s1, e1, e2⟩ := bnd_some e
    rw [List.length_cons, List.length_cons, sets_len e2]
  | [], _ :: _, _, _, e => by cases e
  | _ :: _, [], _, _, e => by cases e
theorem mean_par {t : TA} {is : List Nat} (m : MeanN Γ.K B t G) {s s' : Stt τ} {σ : List (Option V)} {H S : Hp} {o : Out} (g : Good Γ.K B s σ H S) (e : parM is G s = some (o, s')) {D : Ends} (q : EndOk Γ.K B S o s' D) :
    t σ H fun vs H1 => vs.length = is.length ∧ D.nx (sets σ is vs) H1 := by
  obtain ⟨os, s1, e1, e2⟩ := bnd_some e
  obtain ⟨os', s2, e3, e4⟩ := bnd_some e2
  obtain ⟨_, s3, e5, e6⟩ := bnd_some e4
  obtain ⟨rfl, rfl⟩ := ret_some e6
  refine m s σ H S g os s1 e1 _ fun vs H1 S1 g1 w1 r1 _ => ?_
  obtain ⟨S2, w2, g2, r2, n2, _, _⟩ := fix_of g1 r1 e3
  obtain ⟨S3, w3, g3⟩ := sets_of g2 r2 n2 e5
  exact ⟨by rw [r2.len, sets_len e5], q _ H1 S3 g3 ((w1.same.trans w2).trans w3)⟩
theorem DS.par2 {i j : Nat} {x y : Str} {px py pt : Pos} {kt k2 pt2} (nd : Γ.N.Nodup) (hi : Γ.N[i]? = some x) (hj : Γ.N[j]? = some y) (hij : i ≠ j) (hx : Γ.sc.names.lookup x = some .local) (hy : Γ.sc.names.lookup y = some .local) (h : DN Γ B [a, b] G)
    (hw : ∀ X, Γ.Has X → swappedStores [.Tuple [.Name x px, .Name y py] kt pt] (.Tuple [a, b] k2 pt2) X.env = pure (some [x, y])) (hs : ∀ X : Cx, swapsWithSole [.Tuple [.Name x px, .Name y py] kt pt] (.Tuple [a, b] k2 pt2) pos.line X.env = pure false := by intro _; rfl) :
    DS Γ B (.Assign [.Tuple [.Name x px, .Name y py] kt pt] (.Tuple [a, b] k2 pt2) pos) (parM [i, j] G) := by
  obtain ⟨t, p, m⟩ := h
  refine ⟨tPar i j (fun σ H Q => t σ H fun vs H1 => vs.length = 2 ∧ Q vs H1), fun X h => ?_, fun s σ H S g o s' e D q => ?_⟩
  · refine ps_par h.calm (by rw [h.N]; exact nd) (by rw [h.N]; exact hi) (by rw [h.N]; exact hj) hij (by rw [h.sc]; exact hx) (by rw [h.sc]; exact hy) ⟨fun ps pins s σ H Q I hh => ?_⟩ (hw X h) (hs X)
    refine thn ((p X h).run ps pins s σ H _ I hh) ?_
    rintro us s1 ⟨vs, H1, I1, r1, _, q1⟩
    exact ⟨vs, H1, I1, r1, q1⟩
  · have r := mean_par (is := [i, j]) m g e q
    have key : ∀ (vs : List V) (H1 : Hp), (vs.length = 2 ∧ D.nx (sets σ [i, j] vs) H1) → (vs.length = 2 ∧ ∃ v w, vs = [v, w] ∧ D.nx ((σ.set i (some v)).set j (some w)) H1) := by
      rintro vs H1 ⟨hl, hq⟩
      match vs, hl with
      | [v, w], _ => exact ⟨rfl, v, w, rfl, hq⟩
    have eqq : (fun (vs : List V) (H1 : Hp) => vs.length = [i, j].length ∧ D.nx (sets σ [i, j] vs) H1) = fun vs H1 => vs.length = 2 ∧ ∃ v w, vs = [v, w] ∧ D.nx ((σ.set i (some v)).set j (some w)) H1 := by
      funext vs H1
      refine propext ⟨key vs H1, ?_⟩
      rintro ⟨hl, v, w, rfl, hq⟩
      exact ⟨rfl, hq⟩
    rw [eqq] at r
    exact r
theorem DS.par3 {i j l : Nat} {x y z : Str} {px py pz pt : Pos} {kt k2 pt2} (nd : Γ.N.Nodup) (hi : Γ.N[i]? = some x) (hj : Γ.N[j]? = some y) (hl : Γ.N[l]? = some z) (hij : i ≠ j) (hil : i ≠ l) (hjl : j ≠ l) (hx : Γ.sc.names.lookup x = some .local) (hy : Γ.sc.names.lookup y = some .local) (hz : Γ.sc.names.lookup z = some .local) (h : DN Γ B [a, b, c] G)
    (hw : ∀ X, Γ.Has X → swappedStores [.Tuple [.Name x px, .Name y py, .Name z pz] kt pt] (.Tuple [a, b, c] k2 pt2) X.env = pure (some [x, y, z])) (hs : ∀ X : Cx, swapsWithSole [.Tuple [.Name x px, .Name y py, .Name z pz] kt pt] (.Tuple [a, b, c] k2 pt2) pos.line X.env = pure false := by intro _; rfl) :
    DS Γ B (.Assign [.Tuple [.Name x px, .Name y py, .Name z pz] kt pt] (.Tuple [a, b, c] k2 pt2) pos) (parM [i, j, l] G) := by
  obtain ⟨t, p, m⟩ := h
  refine ⟨tPar3 i j l (fun σ H Q => t σ H fun vs H1 => vs.length = 3 ∧ Q vs H1), fun X h => ?_, fun s σ H S g o s' e D q => ?_⟩
  · refine ps_par3 h.calm (by rw [h.N]; exact nd) (by rw [h.N]; exact hi) (by rw [h.N]; exact hj) (by rw [h.N]; exact hl) hij hil hjl (by rw [h.sc]; exact hx) (by rw [h.sc]; exact hy) (by rw [h.sc]; exact hz) ⟨fun ps pins s σ H Q I hh => ?_⟩ (hw X h) (hs X)
    refine thn ((p X h).run ps pins s σ H _ I hh) ?_
    rintro us s1 ⟨vs, H1, I1, r1, _, q1⟩
    exact ⟨vs, H1, I1, r1, q1⟩
  · have r := mean_par (is := [i, j, l]) m g e q
    have eqq : (fun (vs : List V) (H1 : Hp) => vs.length = [i, j, l].length ∧ D.nx (sets σ [i, j, l] vs) H1) = fun vs H1 => vs.length = 3 ∧ ∃ u v w, vs = [u, v, w] ∧ D.nx (((σ.set i (some u)).set j (some v)).set l (some w)) H1 := by
      funext vs H1
      refine propext ⟨?_, ?_⟩
      · rintro ⟨hl, hq⟩
        match vs, hl with
        | [u, v, w], _ => exact ⟨rfl, u, v, w, rfl, hq⟩
      · rintro ⟨hl, u, v, w, rfl, hq⟩
        exact ⟨rfl, hq⟩
    rw [eqq] at r
    exact r
/-- xs[i] = e, xs a list that the slot owns -/
def setIxM (i : Nat) (F : M τ Opd) (Fi : M τ Opd) : M τ Out := bnd (valM F) fun d => bnd Fi fun oi => bnd (getO oi) fun ix => fun s => match s.env[i]?, ix with
  | some (some (.own xs)), .int k => match ixN xs.length k with
    | some j => some (.nx, { s with env := s.env.set i (some (.own (xs.set j d))) })
    | none => none
  | _, _ => none
theorem DS.setIx {i : Nat} {x : Str} {p0 pt : Pos} {ix : Expr} {Fi : M τ Opd} (hN : Γ.N[i]? = some x) (hv : Vis Γ.sc x) (h : DO Γ B e F) (hi : DO Γ B ix Fi) (hd : (x == ("__debug__" : Str)) = false := by decide) (hcd : (x == ("__classdict__" : Str)) = false := by decide)
    (hs : ∀ X : Cx, swapsWithSole [.Subscript (.Name x p0) ix pt] e pos.line X.env = pure false := by intro _; rfl) (hw : ∀ X : Cx, swappedStores [.Subscript (.Name x p0) ix pt] e X.env = pure none := by intro _; rfl)
    (h1 : ∀ X : Cx, (assignEach [.Subscript (.Name x p0) ix pt] X.env).map (·.2) = [assign (.Subscript (.Name x p0) ix pt) X.env] := by intro _; rfl)
    (ha : ∀ (X : Cx) v, assign (.Subscript (.Name x p0) ix pt) X.env v = (do
      let ov ← holding [v] (eval (.Name x p0) X.env)
      let iv ← holding [v, ov] (eval ix X.env)
      standAt pt
      holding [v, ov, iv] (setItem ov iv v)
      release [v, ov, iv] []) := by intro _ _; rfl) :
    DS Γ B (.Assign [.Subscript (.Name x p0) ix pt] e pos) (bnd (valM F) fun d => bnd (ownAt i) fun _ => setIxM i (DL.ret (Opd.val d)) Fi) := by
  obtain ⟨t, p, m⟩ := h
  obtain ⟨ti, pi, mi⟩ := hi
  refine ⟨tAsg t (gSub (tVar i) ti rSetL), fun X h => ps_asg (p X h) (pg_sub (pe_var (by rw [h.N]; exact hN) (by rw [h.sc]; exact hv) hd hcd) (pi X h) set_list (ha X)) (hs X) (hw X) (h1 X), fun s σ H S g o s' e D q => ?_⟩
  obtain ⟨d, s1, e1, e2⟩ := bnd_some e
  obtain ⟨_, s2, e3, e4⟩ := bnd_some e2
  obtain ⟨d', s3, e5, e6⟩ := bnd_some e4
  have hd' : d' = d ∧ s3 = s2 := by
    have : valM (τ := τ) (DL.ret (Opd.val d)) s2 = some (d, s2) := rfl
    rw [this] at e5
    cases e5
    exact ⟨rfl, rfl⟩
  obtain ⟨rfl, rfl⟩ := hd'
  obtain ⟨oi, s4, e7, e8⟩ := bnd_some e6
  obtain ⟨ixd, s5, e9, e10⟩ := bnd_some e8
  refine m.val g e1 fun v H1 S1 g1 w1 r1 => ?_
  unfold ownAt at e3
  split at e3
  · rename_i xs0 q0
    cases e3
    obtain ⟨pa, vs0, k1, hp0, _⟩ := g1.getOwn q0
    refine ⟨_, k1, mi _ σ H1 S1 g1 oi s4 e7 _ fun u H2 S2 g2 w2 r2 _ => ?_⟩
    obtain ⟨rfl, vy⟩ := view_of g2 r2 e9
    split at e10
    · rename_i xs k q1
      split at e10
      · rename_i j hj
        cases e10
        obtain ⟨pb, vs, k2, hp, hqa, _⟩ := g2.getOwn q1
        rw [k1] at k2
        cases k2
        exact ⟨_, vs, k, j, rfl, vy.int, hp, by rw [hqa.len]; exact hj, q σ _ S2 (g2.change q1 k1 (DqAll.set (Dq.mono w2.same r1) j hqa)) (w1.same.trans w2.same)⟩
      · cases e10
    · cases e10
  · cases e3
/-! in-place operators on plain values -/
theorem oi_add : OpD Γ (inplaceOp .Add) (opI (fun _ _ => true) fun i j => .int (i + j)) := opI0_of (fun _ _ => iop_add) fun _ _ _ => .int _
theorem oi_sub : OpD Γ (inplaceOp .Sub) (opI (fun _ _ => true) fun i j => .int (i - j)) := opI0_of (fun _ _ => iop_sub) fun _ _ _ => .int _
def mulOk1 (i j : Int) : Bool := (decide (-(2 ^ 64) < i) && decide (i < 2 ^ 64)) || (decide (-(2 ^ 64) < j) && decide (j < 2 ^ 64))
theorem oi_mul : OpD Γ (inplaceOp .Mult) (opI mulOk1 fun i j => .int (i * j)) := opI_of (fun _ _ => iop_mul) (fun i j h => by
  unfold mulOk1 at h
  simp only [Bool.or_eq_true, Bool.and_eq_true, decide_eq_true_eq] at h
  exact h) fun _ _ _ => .int _
theorem oi_fdiv : OpD Γ (inplaceOp .FloorDiv) fdivD := opI_of (fun _ _ => iop_fdivW) (fun i j h => by
  have h' := Bool.and_eq_true_iff.mp h
  exact ⟨of_decide_eq_true h'.1, of_decide_eq_true h'.2⟩) fun _ _ _ => .int _

/-! ### the script -/
def scrAt (i : Nat) : M τ (List Int) := fun s => match s.env[i]? with
  | some (some (.s ns)) => some (ns, s)
  | _ => none
def scrL (i : Nat) : M τ (List D) := bnd (scrAt i) fun ns => ret (ns.map PyData.int)
theorem scr_of {K : Frag} {s s' : Stt τ} {σ : List (Option V)} {H S : Hp} {i : Nat} {ns : List Int} (g : Good K B s σ H S) (e : scrAt i s = some (ns, s')) : s' = s ∧ ∃ p, σ[i]? = some (some (.ref p)) ∧ SqL K S p (ns.map V.int) := by
  unfold scrAt at e
  split at e
  · rename_i ms q
    cases e
    obtain ⟨v, h1, p, rfl, h2⟩ := g.slot i _ q
    exact ⟨rfl, p, h1, h2⟩
  · cases e
theorem walkS {K : Frag} {S : Hp} {a : Addr} {ns : List Int} (h : SqL K S a (ns.map V.int)) : DWalk K S (Itl K a) (ns.map PyData.int) where
  go := fun i H hi w => by
    rw [List.length_map] at hi
    obtain ⟨x, hx⟩ := lt_get hi
    exact ⟨_, .int x, Same.seq w h, by rw [List.getElem?_map, hx]; rfl⟩
  stop := fun H w => ⟨_, Same.seq w h, by rw [List.length_map, List.length_map]; exact Nat.le_refl _⟩
  yld := fun i H x H' S1 d hd w w1 y => by
    obtain ⟨rfl, y⟩ := y
    have hx := y _ (Same.seq w1 (Same.seq w h))
    rw [List.getElem?_map] at hd hx
    obtain ⟨n, h1, rfl⟩ := Option.map_eq_some_iff.mp hd
    rw [h1] at hx
    cases hx
    exact ⟨S1, Grow.refl w1, .int n⟩
theorem walkES {K : Frag} {S : Hp} {a : Addr} {ns : List Int} (h : SqL K S a (ns.map V.int)) : DWalk K S (Ite K a) (enumL 0 (ns.map PyData.int)) where
  go := fun i H hi w => by
    rw [enumL_len, List.length_map] at hi
    obtain ⟨x, hx⟩ := lt_get hi
    exact ⟨_, .int x, Same.seq w h, by rw [List.getElem?_map, hx]; rfl⟩
  stop := fun H w => ⟨_, Same.seq w h, by rw [enumL_len, List.length_map, List.length_map]; exact Nat.le_refl _⟩
  yld := fun i H x H' S1 d hd w w1 y => by
    obtain ⟨T, v, rfl, n, rfl, y⟩ := y
    have hx := y _ (Same.seq w1 (Same.seq w h))
    obtain ⟨z, hz, rfl⟩ := enumL_get _ _ _ _ hd
    rw [List.getElem?_map] at hx hz
    obtain ⟨m, h1, rfl⟩ := Option.map_eq_some_iff.mp hz
    rw [h1] at hx
    cases hx
    rw [Nat.zero_add]
    exact new_pair w1 n (.int _) (.int m)
theorem DI.scr {i : Nat} {x : Str} {p : Pos} {tg : Expr} (hN : Γ.N[i]? = some x) (hv : Vis Γ.sc x) (hd : (x == ("__debug__" : Str)) = false := by decide) (hcd : (x == ("__classdict__" : Str)) = false := by decide) : DI Γ B tg (.Name x p) (scrL i) := by
  refine ⟨iList Γ.K (tVar i), fun X h => by have r := pi_list (tg := tg) (pe_var (X := X) (i := i) (x := x) (pos := p) (by rw [h.N]; exact hN) (by rw [h.sc]; exact hv) hd hcd); rw [h.K] at r; exact r, fun s σ H S g xs s' e R q => ?_⟩
  obtain ⟨ns, s1, e1, e2⟩ := bnd_some e
  obtain ⟨rfl, rfl⟩ := ret_some e2
  obtain ⟨rfl, a, h1, h2⟩ := scr_of g e1
  exact ⟨_, h1, a, rfl, ⟨_, Same.seq g.fr.sub h2⟩, q _ H S g Step.refl (walkS h2)⟩
theorem DI.enumScr {i : Nat} {x : Str} {p p2 tpos : Pos} {elts : List Expr} {kk : Nat} (hN : Γ.N[i]? = some x) (hv : Vis Γ.sc x) (hg : Γ.sc.names.lookup ("enumerate" : Str) = some .globalImplicit) (hm : Γ.mg "enumerate" = none) (hd : (x == ("__debug__" : Str)) = false := by decide) (hcd : (x == ("__classdict__" : Str)) = false := by decide) :
    DI Γ B (.Tuple elts kk tpos) (.Call (.Name "enumerate" p) [.Name x p2] [] pos) (bnd (scrL i) fun xs => ret (enumL 0 xs)) := by
  refine ⟨iEnum Γ.K (tCons (tVar i) tNil), fun X h => by
    have r := @pi_enum X (.Name x p2) _ p pos tpos elts kk (gl_of h hg) (by rw [h.mg]; exact hm) (pa_cons (pe_var (i := i) (by rw [h.N]; exact hN) (by rw [h.sc]; exact hv) hd hcd) pa_nil rfl) rfl
    rw [h.K] at r
    exact r, fun s σ H S g xs s' e R q => ?_⟩
  obtain ⟨ys, s1, e1, e2⟩ := bnd_some e
  obtain ⟨rfl, rfl⟩ := ret_some e2
  obtain ⟨ns, s2, e3, e4⟩ := bnd_some e1
  obtain ⟨rfl, rfl⟩ := ret_some e4
  obtain ⟨rfl, a, h1, h2⟩ := scr_of g e3
  exact ⟨_, h1, a, _, rfl, Same.seq g.fr.sub h2, q _ H S g Step.refl (walkES h2)⟩
def lenScr (i : Nat) : M τ Opd := bnd (scrAt i) fun ns => ret (.val (.int ns.length))
theorem DO.lenScr {i : Nat} {x : Str} {p p2 : Pos} (hN : Γ.N[i]? = some x) (hv : Vis Γ.sc x) (hg : Γ.sc.names.lookup ("len" : Str) = some .globalImplicit) (hm : Γ.mg "len" = none) (hd : (x == ("__debug__" : Str)) = false := by decide) (hcd : (x == ("__classdict__" : Str)) = false := by decide) :
    DO Γ B (.Call (.Name "len" p) [.Name x p2] [] pos) (lenScr i) := by
  refine ⟨tCB (fun xs H Q => ∃ x n, xs = [x] ∧ LenV Γ.K x H n ∧ Q (.int n) H) (tCons (tVar i) tNil), fun X h => pe_callB (id := "len") (by have := @call_len X; rw [h.K] at this; exact this) (gl_of h hg) (by rw [h.mg]; exact hm) PySem.boot_len
    (pa_cons (pe_var (i := i) (by rw [h.N]; exact hN) (by rw [h.sc]; exact hv) hd hcd) pa_nil rfl) (by decide) (by decide) rfl rfl, fun s σ H S g o s' e Q q => ?_⟩
  obtain ⟨ns, s1, e1, e2⟩ := bnd_some e
  obtain ⟨rfl, rfl⟩ := ret_some e2
  obtain ⟨rfl, a, h1, h2⟩ := scr_of g e1
  exact ⟨_, h1, _, ns.length, rfl, .inl ⟨_, Same.seq g.fr.sub h2, by rw [List.length_map]⟩, q _ H S g Step.refl (.int _) trivial⟩
end

/-! ### defs of plain data and of the script -/
/-- what a def promises whose arguments are slots (data, the script) -/
def ArgsAt (K : Frag) (S : Hp) : List V → List Sl → Prop
  | [], [] => True
  | v :: vs, z :: zs => (match z with
    | .d x => Dq K S v x
    | .s ns => ∃ p, v = .ref p ∧ SqL K S p (ns.map V.int)
    | _ => False) ∧ ArgsAt K S vs zs
  | _, _ => False
theorem ArgsAt.len {K : Frag} {S : Hp} : ∀ {vs : List V} {zs : List Sl}, ArgsAt K S vs zs → vs.length = zs.length
  | [], [], _ => rfl
  | _ :: _, _ :: _, h => by rw [List.length_cons, List.length_cons, h.2.len]
  | [], _ :: _, h => h.elim
  | _ :: _, [], h => h.elim
theorem ArgsAt.get {K : Frag} {S : Hp} : ∀ {vs : List V} {zs : List Sl} {i : Nat} {z : Sl}, ArgsAt K S vs zs → zs[i]? = some z → ∃ v, vs[i]? = some v ∧ (match z with
    | .d x => Dq K S v x
    | .s ns => ∃ p, v = .ref p ∧ SqL K S p (ns.map V.int)
    | _ => False)
  | [], [], i, z, _, e => by simp at e
  | v :: vs, y :: ys, 0, z, h, e => by
    have e' : y = z := by simpa using e
    subst e'
    exact ⟨v, rfl, h.1⟩
  | v :: vs, y :: ys, i + 1, z, h, e => by
    obtain ⟨u, h1, h2⟩ := ArgsAt.get (i := i) h.2 (by simpa using e)
    exact ⟨u, by simpa using h1, h2⟩
  | [], _ :: _, _, _, h, _ => h.elim
  | _ :: _, [], _, _, h, _ => h.elim
/-- the drawn numbers: what the law keeps in a dict -/
structure DrawSt where
  cells : List Int
  great : List Int
  spot : Int
def drawKvs (pc pg : Addr) (n : Int) : List (Key × V) := [(.inr "cells", .ref pc), (.inr "great", .ref pg), (.inr "spot", .int n)]
def drawAt (pm pg pc : Addr) (st : DrawSt) (H : Hp) : Prop := H pm = some (.dK (drawKvs pc pg st.spot)) ∧ H pg = some (.lst (st.great.map V.int)) ∧ H pc = some (.lst (st.cells.map V.int)) ∧ pg ≠ pc
def drawDr (pm pg pc : Addr) : Dr DrawSt where
  hv := .ref pm
  R := fun b => b = pm ∨ b = pg ∨ b = pc
  At := drawAt pm pg pc
  stay := fun st H H' h k => ⟨k _ _ (.inl rfl) h.1, k _ _ (.inr (.inl rfl)) h.2.1, k _ _ (.inr (.inr rfl)) h.2.2.1, h.2.2.2⟩
  live := fun st H b h r => by
    rcases r with rfl | rfl | rfl
    · rw [h.1]; exact fun z => nomatch z
    · rw [h.2.1]; exact fun z => nomatch z
    · rw [h.2.2.1]; exact fun z => nomatch z
/-- what a def promises that draws: its first argument is the handle -/
def spD (K : Frag) (f : List D → DrawSt → Option (D × DrawSt)) : Sp := fun vs H Q _ => ∃ (pm pg pc : Addr) (S : Hp) (us : List V) (ds : List D) (st : DrawSt) (d : D) (st' : DrawSt), vs = .ref pm :: us ∧ Same S H ∧ (∀ b, (drawDr pm pg pc).R b → S b = none) ∧ drawAt pm pg pc st H ∧
  DqAll K S us ds ∧ f ds st = some (d, st') ∧ ∀ v H' S', Fr (drawDr pm pg pc) H S H' S' → drawAt pm pg pc st' H' → Dq K S' v d → Q v H'
def runD (n : Nat) (F : M DrawSt Out) (ds : List D) (st : DrawSt) : Option (D × DrawSt) := match F ⟨some .h :: (ds.map (fun d => some (.d d)) ++ List.replicate (n - (ds.length + 1)) none), st⟩ with
  | some (.rt d, s') => some (d, s'.dr)
  | some (.nx, s') => some (.none, s'.dr)
  | _ => none
theorem goodD_start {K : Frag} {pm pg pc : Addr} {H S : Hp} {us : List V} {ds : List D} {N : List Str} {st : DrawSt} (w : Same S H) (nr : ∀ b, (drawDr pm pg pc).R b → S b = none) (at_ : drawAt pm pg pc st H) (h : DqAll K S us ds) :
    Good K (B := ⟨drawDr pm pg pc, H, S⟩) ⟨some .h :: (ds.map (fun d => some (.d d)) ++ List.replicate (N.length - (ds.length + 1)) none), st⟩ (L2.start N (.ref pm :: us)) H S := by
  have get : ∀ (i : Nat) (z : Sl), (some Sl.h :: ((ds.map fun d => some (Sl.d d)) ++ List.replicate (N.length - (ds.length + 1)) none))[i]? = some (some z) → (i = 0 ∧ z = .h) ∨ ∃ j d, i = j + 1 ∧ ds[j]? = some d ∧ z = .d d := fun i z e => by
    cases i with
    | zero => simp at e; exact .inl ⟨rfl, e.symm⟩
    | succ j =>
      rw [List.getElem?_cons_succ] at e
      by_cases hi : j < ds.length
      · rw [List.getElem?_append_left (by simpa using hi), List.getElem?_map] at e
        obtain ⟨d, h1, h2⟩ := Option.map_eq_some_iff.mp e
        cases h2
        exact .inr ⟨j, d, rfl, h1, rfl⟩
      · rw [List.getElem?_append_right (by simpa using hi), List.getElem?_replicate] at e
        split at e <;> cases e
  refine ⟨⟨fun b o e _ => e, Same.refl _, w, (fun b o e n => by
    rw [show S b = none from n] at e
    cases e), nr⟩, at_, ?_, fun i z e => ?_, fun i j xs ys n e1 e2 => ?_⟩
  · unfold L2.start
    simp only [List.length_cons, List.length_append, List.length_map, List.length_replicate, h.len]
    omega
  · rcases get i z e with ⟨rfl, rfl⟩ | ⟨j, d, rfl, h1, rfl⟩
    · exact ⟨.ref pm, by unfold L2.start; simp, rfl⟩
    · obtain ⟨v, h2, h3⟩ := h.getD h1
      refine ⟨v, ?_, h3⟩
      unfold L2.start
      have hi : j < us.length := (List.getElem?_eq_some_iff.mp h2).1
      rw [List.map_cons, List.cons_append, List.getElem?_cons_succ, List.getElem?_append_left (by simpa using hi), List.getElem?_map, h2]
      rfl
  · rcases get i _ e1 with ⟨_, q⟩ | ⟨_, d, _, _, q⟩ <;> cases q
/-- THE RULE for a body, whatever its start -/
theorem fnAny {P : Program} {w : World} {K : Frag} {mg : Str → Option Value} {base : Heap} {x qual : Str} {st : Stmt} {f : Addr} {fd : FuncData} {N ps : List Str} {k : Nat} {sp : Sp} (Fn : Fun K x qual st f fd) (Sc : FnScope N ps (defScope st)) (hl : ∀ vs H Q E, sp vs H Q E → vs.length = ps.length)
    (body : ∀ (A : Around) (vs : List V) (H : Hp) (Q : VK) (E : XK), sp vs H Q E → Gam.Ok ⟨P, w, K, mg, base, A, N, defScope st, fun _ => true⟩ k →
      ∃ t : TS, (∀ X, Gam.Has ⟨P, w, K, mg, base, A, N, defScope st, fun _ => true⟩ X → PSs X (defBody st) t) ∧ t { nx := fun _ H' => Q .non H', rt := Q } (L2.start N vs) H) :
    FnG P w K mg base (k + 1) f fd ps sp := by
  obtain ⟨oc, od, kV, doc, pm, an, cdv, ct, osl, rfl, lk, hcd⟩ := Fn.ex
  refine ⟨hl, fun A outer s H args us vs Q E hr gd e0 hb r hsp => ?_⟩
  have hvl := hl _ _ _ _ hsp
  have KX : K.In s.heap := e0.mod.kin.keeps fun b o e => (e0.bs b o e).1
  have lim : s.heap.NoLimit := e0.mod.nolimit.keeps fun b o e => (e0.bs b o e).1
  have hkind : ∀ y ∈ ps.zip us, (defScope st).names.lookup y.1 = some .local ∨
      ((defScope st).names.lookup y.1 = some .cell ∧ ((cellsFrom (s.heap.objs.size + 1) (defScope st).names []).lookup y.1).isSome = true) := by
    rintro ⟨n, v⟩ hy
    rcases Sc.par n (List.of_mem_zip hy).1 with q | q
    · exact .inl q
    · exact .inr ⟨q, PySem.W.cellsFrom_some _ _ _ (.inl q)⟩
  refine codeAny_call_function hr.depth (KX _ _ lk) rfl Sc.co Sc.gen rfl (PySem.W.codeRec_of KX hcd) (hb _ _ _ _ ?_)
  refine wpAny_newFunctionEnv_cells Sc.kind hkind ?_
  intro env he s1 xin
  subst he
  refine ⟨lim.keeps xin.toInCall.keep, codeAny_func ?_⟩
  have I : L2.Inv (cxOf CX0 P w K mg base N qual (defScope st) f cdv A outer s H E) [] (L2.start N vs) H s1 := inv_start Sc hr.hd e0 hvl r xin
  have hr' : Room k (A.deeper (envOfC qual (defScope st) s.heap.objs.size f cdv)) := hr.deeper _
  have hX : Gam.Has ⟨P, w, K, mg, base, A.deeper (envOfC qual (defScope st) s.heap.objs.size f cdv), N, defScope st, fun _ => true⟩ (cxOf CX0 P w K mg base N qual (defScope st) f cdv A outer s H E).nox :=
    ⟨rfl, rfl, rfl, rfl, rfl, rfl, rfl, rfl, rfl, fun _ _ => .inl rfl, PassesOwn.never⟩
  obtain ⟨t, pt, hq⟩ := body (A.deeper (envOfC qual (defScope st) s.heap.objs.size f cdv)) vs H Q E hsp ⟨Sc.nd, hr', gd⟩
  have ht := (pt _ hX).nox
  refine wpAny_mono (ht.run [] s1 (L2.start N vs) H _ I hq) ?_ fun e s' hs => hs
  intro fl s' hs
  match fl, hs with
  | .ret u, ⟨v, σ', H', J, rv, q⟩ => exact ⟨v, H', J.os, J.bare, J.base, J.hok, rv, q⟩
  | .next, ⟨σ', H', J, q⟩ => exact ⟨V.non, H', J.os, J.bare, J.base, J.hok, rfl, q⟩
  | .brk, ⟨_, _, _, q⟩ => exact False.elim q
  | .cont, ⟨_, _, _, q⟩ => exact False.elim q
end DL
end

section
set_option Elab.async false
set_option linter.all false
set_option maxRecDepth 100000
set_option maxHeartbeats 3999999
/-! WEng10: short words for the printed derivations; defs of the script, defs that draw, their calls -/
namespace DL
open L2 PySem PyProof.Rows PySem.Spec
variable {τ α β : Type}
section
variable {Γ : Gam} {B : Bd τ} {pos : Pos} {e a b c : Expr} {es : List Expr} {F Fa Fb : M τ Opd}
theorem nm (i : Nat) {x : Str} (hN : Γ.N[i]? = some x := by rfl) (hv : Vis Γ.sc x := by first | exact Or.inl rfl | exact Or.inr (Or.inl rfl) | exact Or.inr (Or.inr rfl)) (hd : (x == ("__debug__" : Str)) = false := by decide) (hcd : (x == ("__classdict__" : Str)) = false := by decide) : DO Γ B (.Name x pos) (nameM i) := DO.name hN hv hd hcd
/-- a number of the module -/
theorem gi {x : Str} {n : Int} (hm : ∃ t, Γ.mg x = some (.int n t)) (hg : Γ.sc.names.lookup x = some .globalImplicit := by rfl) (hdb : (x == ("__debug__" : Str)) = false := by decide) : DO Γ B (.Name x pos) (ret (.val (.int n))) := by
  obtain ⟨t, hm⟩ := hm
  exact DO.glob hg hm (v := .int n) ⟨t, rfl⟩ (fun _ => .int n) hdb
/-- a tuple of the module -/
theorem gd {x : Str} {d : D} (hm : ∃ a, Γ.mg x = some (.ref a) ∧ ∀ S, Dq Γ.K S (.ref a) d) (hg : Γ.sc.names.lookup x = some .globalImplicit := by rfl) (hdb : (x == ("__debug__" : Str)) = false := by decide) : DO Γ B (.Name x pos) (ret (.val d)) := by
  obtain ⟨a, hm, hd⟩ := hm
  exact DO.glob hg hm (v := .ref a) rfl hd hdb
def negM (F : M τ Opd) : M τ Opd := bnd F fun o => bnd (getO o) fun x => match x with
  | .int i => ret (.val (.int (-i)))
  | _ => stuck
theorem DO.neg (h : DO Γ B a Fa) : DO Γ B (.UnaryOp .USub a pos) (negM Fa) := by
  obtain ⟨t, p, m⟩ := h
  refine ⟨_, fun X h => pe_un un_neg (p X h), fun s σ H S g o s' e Q q => ?_⟩
  obtain ⟨o1, s1, e1, e2⟩ := bnd_some e
  obtain ⟨x, s2, e3, e4⟩ := bnd_some e2
  refine m s σ H S g o1 s1 e1 _ fun v H1 S1 g1 w1 r1 _ => ?_
  obtain ⟨rfl, vx⟩ := view_of g1 r1 e3
  cases x with
  | int i =>
    obtain ⟨rfl, rfl⟩ := ret_some e4
    obtain rfl := vx.int
    exact ⟨i, rfl, q _ H1 S1 g1 w1 (.int _) trivial⟩
  | _ => cases e4
/-- xs.index(x), found -/
def idxD : D → D → Option Int := fun x y => match x with
  | .list xs => if SeqAt.shaped (.list xs) && SeqAt.shaped y then (xs.findIdx? fun z => PyData.eqv z y).map fun (j : Nat) => (j : Int) else none
  | _ => none
def isL (o : Opd) : M τ Unit := bnd (getO o) fun x => match x with
  | .list _ => ret ()
  | _ => stuck
def indexM (F G : M τ Opd) : M τ Opd := bnd (lateM F) fun o => bnd (isL o) fun _ => bnd G fun o2 => bnd (getO o) fun x => bnd (getO o2) fun y => bnd (lift (idxD x y)) fun j => ret (.val (.int j))
theorem findIdx_ok {xs : List D} {y : D} {j : Nat} (h : (xs.findIdx? fun z => PyData.eqv z y) = some j) : ∃ z, xs[j]? = some z ∧ PyData.eqv z y = true ∧ ∀ (m : Nat) (z' : D), m < j → xs[m]? = some z' → PyData.eqv z' y = false := by
  obtain ⟨hl, h1, h2⟩ := List.findIdx?_eq_some_iff_getElem.mp h
  refine ⟨xs[j], List.getElem?_eq_getElem hl, h1, fun m z' hm hz => ?_⟩
  have := h2 m hm
  obtain ⟨hml, hz'⟩ := List.getElem?_eq_some_iff.mp hz
  rw [hz'] at this
  simpa using this
theorem DO.index {k : Nat} (ok : Γ.Ok k) {apos cpos : Pos} (ha : DO Γ B a Fa) (hb : DO Γ B b Fb) (hl : (apos.endLine == cpos.line) = true := by rfl) (hst : ∀ X : Cx, starEach [b] X.env = (false, eval b X.env) :: starEach [] X.env := by intro _; rfl)
    (hbs : ∀ X : Cx, attributeBase a "index" X.env (eval a X.env) = eval a X.env := by intro _; rfl)
    (hfew : ∀ X : Cx, ((backTo cpos (starEach [b] X.env)).all (fun x => !x.1) && (backToKw cpos (keywordEach [] X.env)).all (fun x => x.1.isSome) && decide ([b].length + ([] : List Keyword).length + (if ([] : List Keyword).isEmpty then 0 else 1) < 30)) = true := by intro _; rfl) :
    DO Γ B (.Call (.Attribute a "index" apos) [b] [] cpos) (indexM Fa Fb) := by
  obtain ⟨t, p, m⟩ := ha
  obtain ⟨u, pu, mu⟩ := hb
  refine ⟨tBM Γ.K "list" (rIndexD Γ.K) t (tCons u tNil), fun X h => ?_, fun s σ H S g o s' e Q q => ?_⟩
  · have r := pe_bm (apos := apos) (cpos := cpos) PySem.F.plainAttrs_list PySem.F.slot_list_index PySem.F.type_list_index (mt_indexD (X := X) (by rw [h.A]; exact ok.hu)) (p X h) (pa_cons (pu X h) pa_nil (hst X)) (hbs X) (hfew X) hl (hst X) rfl
    rw [h.K] at r
    exact r
  · obtain ⟨o1, s1, e1, e2⟩ := bnd_some e
    obtain ⟨_, s0, e0, e2⟩ := bnd_some e2
    obtain ⟨o2, s2, e3, e4⟩ := bnd_some e2
    obtain ⟨x, s3, e5, e6⟩ := bnd_some e4
    obtain ⟨y, s4, e7, e8⟩ := bnd_some e6
    obtain ⟨j, s5, e9, e10⟩ := bnd_some e8
    obtain ⟨ez, rfl⟩ := lift_some e9
    obtain ⟨rfl, rfl⟩ := ret_some e10
    obtain ⟨x0, s6, e11, e12⟩ := bnd_some e0
    refine m.late g e1 fun v H1 S1 g1 w1 r1 => ?_
    obtain ⟨rfl, vx0⟩ := view_of g1 r1.rel e11
    cases x0 with
    | list xs0 =>
      obtain ⟨_, rfl⟩ := ret_some e12
      obtain ⟨p0, vs0, rfl, hp0, _⟩ := vx0.lst g1.fr.sub
      refine ⟨.inl ⟨rfl, _, SqL.of hp0⟩, mu _ σ H1 S1 g1 o2 s2 e3 _ fun u H2 S2 g2 w2 r2 _ => ?_⟩
      obtain ⟨rfl, vx⟩ := view_of g2 ((r1.mono w2.same).rel) e5
      obtain ⟨rfl, vy⟩ := view_of g2 r2 e7
      unfold idxD at ez
      split at ez
      · rename_i xs
        split at ez
        · rename_i hz
          obtain ⟨j', h1, rfl⟩ := Option.map_eq_some_iff.mp ez
          obtain ⟨z, k1, k2, k3⟩ := findIdx_ok h1
          obtain ⟨q1, q2⟩ := Bool.and_eq_true_iff.mp hz
          exact ⟨p0, u, y, xs, j', z, rfl, rfl, (vx.full g2.fr.sub).dp, (vy.full g2.fr.sub).dp, q1, q2, k1, k2, k3, q _ H2 S2 g2 (w1.trans w2) (.int _) trivial⟩
        · cases ez
      · cases ez
    | _ => cases e12
end
/-! ### defs -/
def runP2 (np n : Nat) (F : M Unit Out) (ds : List D) : Option D := if ds.length = np then runP n F ds else none
theorem fnP2 {P : Program} {w : World} {K : Frag} {mg : Str → Option Value} {base : Heap} {x qual : Str} {st : Stmt} {f : Addr} {fd : FuncData} {N ps : List Str} {k : Nat} {F : M Unit Out} (Fn : Fun K x qual st f fd) (Sc : FnScope N ps (defScope st))
    (body : ∀ (A : Around) (B : Bd Unit), Gam.Ok ⟨P, w, K, mg, base, A, N, defScope st, fun _ => true⟩ k → DSs ⟨P, w, K, mg, base, A, N, defScope st, fun _ => true⟩ B (defBody st) F) :
    FnG P w K mg base (k + 1) f fd ps (spP K (runP2 ps.length N.length F)) := by
  have hl : ∀ vs H Q E, spP K (runP2 ps.length N.length F) vs H Q E → vs.length = ps.length := by
    rintro vs H Q E ⟨S, ds, d, _, h, e, _⟩
    rw [h.len]
    unfold runP2 at e
    split at e
    · assumption
    · cases e
  refine fnAny Fn Sc hl fun A vs H Q E hsp ok => ?_
  obtain ⟨S, ds, d, wS, hds, hrun, hQ⟩ := hsp
  obtain ⟨t, pt, mt⟩ := body A ⟨dr0, H, S⟩ ok
  refine ⟨t, pt, ?_⟩
  have gs := good_start (K := K) (N := N) wS hds
  unfold runP2 at hrun
  split at hrun
  · unfold runP at hrun
    split at hrun
    · rename_i d' s' e
      cases hrun
      refine mt _ _ H S gs _ _ e _ fun v H' S' fr _ hd => ?_
      exact hQ v H' S' ⟨fun b o e => fr.keep b o e (fun z => z), fr.s, fr.sub, fr.new⟩ hd
    · rename_i s' e
      cases hrun
      refine mt _ _ H S gs _ _ e _ fun σ' H' S' g' w' => ?_
      exact hQ .non H' S' ⟨fun b o e => g'.fr.keep b o e (fun z => z), g'.fr.s, g'.fr.sub, g'.fr.new⟩ .non
    · cases hrun
  · cases hrun
/-- what a def promises that gives a new list -/
def spN (K : Frag) (f : List D → Option (List D)) : Sp := fun vs H Q _ => ∃ S ds xs, Same S H ∧ DqAll K S vs ds ∧ f ds = some xs ∧ ∀ p us H' S', Grow H S H' S' → H' p = some (.lst us) → DqAll K S' us xs → S' p = none → H p = none → Q (.ref p) H'
def runN (np n : Nat) (F : M Unit Out) (ds : List D) : Option (List D) := if ds.length = np then (match F ⟨ds.map (fun d => some (.d d)) ++ List.replicate (n - ds.length) none, ()⟩ with
  | some (.rn xs, _) => some xs
  | _ => none) else none
theorem fnN {P : Program} {w : World} {K : Frag} {mg : Str → Option Value} {base : Heap} {x qual : Str} {st : Stmt} {f : Addr} {fd : FuncData} {N ps : List Str} {k : Nat} {F : M Unit Out} (Fn : Fun K x qual st f fd) (Sc : FnScope N ps (defScope st))
    (body : ∀ (A : Around) (B : Bd Unit), Gam.Ok ⟨P, w, K, mg, base, A, N, defScope st, fun _ => true⟩ k → DSs ⟨P, w, K, mg, base, A, N, defScope st, fun _ => true⟩ B (defBody st) F) :
    FnG P w K mg base (k + 1) f fd ps (spN K (runN ps.length N.length F)) := by
  have hl : ∀ vs H Q E, spN K (runN ps.length N.length F) vs H Q E → vs.length = ps.length := by
    rintro vs H Q E ⟨S, ds, d, _, h, e, _⟩
    rw [h.len]
    unfold runN at e
    split at e
    · assumption
    · cases e
  refine fnAny Fn Sc hl fun A vs H Q E hsp ok => ?_
  obtain ⟨S, ds, xs, wS, hds, hrun, hQ⟩ := hsp
  obtain ⟨t, pt, mt⟩ := body A ⟨dr0, H, S⟩ ok
  refine ⟨t, pt, ?_⟩
  have gs := good_start (K := K) (N := N) wS hds
  unfold runN at hrun
  split at hrun
  · split at hrun
    · rename_i xs' s' e
      cases hrun
      refine mt _ _ H S gs _ _ e _ fun p us H' S' fr _ hp hd ns n0 _ => ?_
      exact hQ p us H' S' ⟨fun b o e => fr.keep b o e (fun z => z), fr.s, fr.sub, fr.new⟩ hp hd ns n0
    · cases hrun
  · cases hrun
def runD2 (np n : Nat) (F : M DrawSt Out) (ds : List D) (st : DrawSt) : Option (D × DrawSt) := if ds.length + 1 = np then runD n F ds st else none
theorem fnD {P : Program} {w : World} {K : Frag} {mg : Str → Option Value} {base : Heap} {x qual : Str} {st : Stmt} {f : Addr} {fd : FuncData} {N ps : List Str} {k : Nat} {F : M DrawSt Out} (Fn : Fun K x qual st f fd) (Sc : FnScope N ps (defScope st))
    (body : ∀ (A : Around) (B : Bd DrawSt), (∃ pm pg pc, B.dr = drawDr pm pg pc) → Gam.Ok ⟨P, w, K, mg, base, A, N, defScope st, fun _ => true⟩ k → DSs ⟨P, w, K, mg, base, A, N, defScope st, fun _ => true⟩ B (defBody st) F) :
    FnG P w K mg base (k + 1) f fd ps (spD K (runD2 ps.length N.length F)) := by
  have hl : ∀ vs H Q E, spD K (runD2 ps.length N.length F) vs H Q E → vs.length = ps.length := by
    rintro vs H Q E ⟨pm, pg, pc, S, us, ds, st, d, st', rfl, _, _, _, h, e, _⟩
    rw [List.length_cons, h.len]
    unfold runD2 at e
    split at e
    · assumption
    · cases e
  refine fnAny Fn Sc hl fun A vs H Q E hsp ok => ?_
  obtain ⟨pm, pg, pc, S, us, ds, st, d, st', rfl, wS, nr, at_, hds, hrun, hQ⟩ := hsp
  obtain ⟨t, pt, mt⟩ := body A ⟨drawDr pm pg pc, H, S⟩ ⟨pm, pg, pc, rfl⟩ ok
  refine ⟨t, pt, ?_⟩
  have gs := goodD_start (K := K) (N := N) wS nr at_ hds
  unfold runD2 at hrun
  split at hrun
  · unfold runD at hrun
    split at hrun
    · rename_i d' s' e
      cases hrun
      exact mt _ _ H S gs _ _ e _ fun v H' S' fr a' hd => hQ v H' S' fr a' hd
    · rename_i s' e
      cases hrun
      exact mt _ _ H S gs _ _ e _ fun σ' H' S' g' w' => hQ .non H' S' g'.fr g'.at_ .non
    · cases hrun
  · cases hrun
/-- a def of the script alone -/
def spS (K : Frag) (f : List Int → Option D) : Sp := fun vs H Q _ => ∃ S a ns d, vs = [.ref a] ∧ Same S H ∧ SqL K S a (ns.map V.int) ∧ f ns = some d ∧ ∀ v H' S', Grow H S H' S' → Dq K S' v d → Q v H'
def runS (n : Nat) (F : M Unit Out) (ns : List Int) : Option D := match F ⟨some (.s ns) :: List.replicate (n - 1) none, ()⟩ with
  | some (.rt d, _) => some d
  | _ => none
theorem fnS {P : Program} {w : World} {K : Frag} {mg : Str → Option Value} {base : Heap} {x qual y : Str} {st : Stmt} {f : Addr} {fd : FuncData} {N : List Str} {k : Nat} {F : M Unit Out} (Fn : Fun K x qual st f fd) (Sc : FnScope N [y] (defScope st))
    (body : ∀ (A : Around) (B : Bd Unit), Gam.Ok ⟨P, w, K, mg, base, A, N, defScope st, fun _ => true⟩ k → DSs ⟨P, w, K, mg, base, A, N, defScope st, fun _ => true⟩ B (defBody st) F) :
    FnG P w K mg base (k + 1) f fd [y] (spS K (runS N.length F)) := by
  have hl : ∀ vs H Q E, spS K (runS N.length F) vs H Q E → vs.length = [y].length := by
    rintro vs H Q E ⟨S, a, ns, d, rfl, _⟩
    rfl
  refine fnAny Fn Sc hl fun A vs H Q E hsp ok => ?_
  obtain ⟨S, a, ns, d, rfl, wS, hq, hrun, hQ⟩ := hsp
  obtain ⟨t, pt, mt⟩ := body A ⟨dr0, H, S⟩ ok
  refine ⟨t, pt, ?_⟩
  have gs : Good K (B := ⟨dr0, H, S⟩) ⟨some (.s ns) :: List.replicate (N.length - 1) none, ()⟩ (L2.start N [.ref a]) H S := by
    have get : ∀ (i : Nat) (z : Sl), (some (Sl.s ns) :: List.replicate (N.length - 1) none)[i]? = some (some z) → i = 0 ∧ z = .s ns := fun i z e => by
      cases i with
      | zero => simp at e; exact ⟨rfl, e.symm⟩
      | succ j =>
        rw [List.getElem?_cons_succ, List.getElem?_replicate] at e
        split at e <;> cases e
    refine ⟨⟨fun b o e _ => e, Same.refl _, wS, (fun b o e n => by
      rw [show S b = none from n] at e
      cases e), fun b r => r.elim⟩, trivial, ?_, fun i z e => ?_, fun i j xs ys n e1 e2 => ?_⟩
    · unfold L2.start
      simp
    · obtain ⟨rfl, rfl⟩ := get i z e
      exact ⟨.ref a, by unfold L2.start; simp, a, rfl, hq⟩
    · obtain ⟨_, q⟩ := get i _ e1
      cases q
  unfold runS at hrun
  split at hrun
  · rename_i d' s' e
    cases hrun
    exact mt _ _ H S gs _ _ e _ fun v H' S' fr _ hd => hQ v H' S' ⟨fun b o e => fr.keep b o e (fun z => z), fr.s, fr.sub, fr.new⟩ hd
  · cases hrun

/-! ### a call that draws -/
structure DefD (P : Program) (w : World) (K : Frag) (mg : Str → Option Value) (base : Heap) (k : Nat) (x : Str) (ps : List Str) (f : List D → DrawSt → Option (D × DrawSt)) : Prop where
  ex : ∃ (a : Addr) (fd : FuncData), FnG P w K mg base k a fd ps (spD K f) ∧ mg x = some (.ref a) ∧ PySem.W.keepIn K (.ref a) = true ∧ Binds K fd ps []
def hAt (i : Nat) : M τ Unit := fun s => match s.env[i]? with
  | some (some .h) => some ((), s)
  | _ => none
def callD (i : Nat) (f : List D → DrawSt → Option (D × DrawSt)) (G : M DrawSt (List D)) : M DrawSt Opd := bnd (hAt i) fun _ => bnd G fun ds => fun s => match f ds s.dr with
  | some (d, st') => some (.val d, { s with dr := st' })
  | none => none
theorem Good.drawn {K : Frag} {B : Bd DrawSt} {pm pg pc : Addr} (hB : B.dr = drawDr pm pg pc) {s : Stt DrawSt} {σ : List (Option V)} {H S H' S' : Hp} {st' : DrawSt} (g : Good K B s σ H S) (fr : Fr (drawDr pm pg pc) H S H' S') (at_ : drawAt pm pg pc st' H') :
    Good K B { s with dr := st' } σ H' S' ∧ Step K B σ s H S { s with dr := st' } H' S' := by
  have nb : ∀ b o, S' b = some o → S b = none → ¬ (drawDr pm pg pc).R b := fun b o e n r => by rw [fr.nor b r] at e; cases e
  have gk : ∀ b o, H b = some o → ¬ (drawDr pm pg pc).R b → H' b = some o := fr.keep
  have ownk : ∀ (p : Addr) (vs : List V), H p = some (.lst vs) → S p = none → ¬ B.dr.R p → H' p = some (.lst vs) ∧ S' p = none := fun p vs h1 h2 h3 => by
    rw [hB] at h3
    refine ⟨gk p _ h1 h3, ?_⟩
    cases q : S' p with
    | none => rfl
    | some u => have := fr.new p u q h2; rw [h1] at this; cases this
  refine ⟨⟨⟨fun b o e r => ?_, g.fr.s.trans fr.s, fr.sub, fun b o e n => ?_, fun b r => ?_⟩, ?_, g.len, fun i z e => ?_, g.disj⟩, ⟨fr.s, fun p h => ?_, fun p xs f => ?_⟩⟩
  · have r' : ¬ (drawDr pm pg pc).R b := by rw [← hB]; exact r
    exact gk b o (g.fr.keep b o e r) r'
  · cases q : S b with
    | some u => exact g.fr.new b u q n
    | none =>
      have hn := fr.new b o e q
      cases q0 : B.H0 b with
      | none => rfl
      | some u => rw [g.fr.keep b u q0 (by rw [hB]; exact nb b o e q)] at hn; cases hn
  · rw [hB] at r
    exact fr.nor b r
  · rw [hB]
    exact at_
  · obtain ⟨v, h1, h2⟩ := g.slot i z e
    refine ⟨v, h1, ?_⟩
    cases z with
    | d x => exact Dq.mono fr.s h2
    | own xs =>
      obtain ⟨p, vs, e1, e2, e3, e4, e5, e6⟩ := h2
      obtain ⟨k1, k2⟩ := ownk p vs e2 e4 e6
      exact ⟨p, vs, e1, k1, DqAll.mono fr.s e3, k2, e5, e6⟩
    | h => exact h2
    | s ns =>
      obtain ⟨p, e1, e2⟩ := h2
      exact ⟨p, e1, Same.seq fr.s e2⟩
  · cases q : H p with
    | none => rfl
    | some o =>
      by_cases r : (drawDr pm pg pc).R p
      · exact absurd h ((drawDr pm pg pc).live st' H' p at_ r)
      · rw [gk p o q r] at h; cases h
  · obtain ⟨⟨vs, h1, h2⟩, ns, n0, nr, no⟩ := f
    obtain ⟨k1, k2⟩ := ownk p vs h1 ns nr
    exact ⟨⟨vs, k1, DqAll.mono fr.s h2⟩, k2, n0, nr, no⟩
section
variable {Γ : Gam} {B : Bd DrawSt} {pos : Pos} {e : Expr} {es : List Expr} {G : M DrawSt (List D)}
theorem DO.callD {x m : Str} {i : Nat} {p pm' : Pos} {k : Nat} {ps : List Str} {f : List D → DrawSt → Option (D × DrawSt)} (F : DefD Γ.P Γ.w Γ.K Γ.mg Γ.base k x ps f) (hB : ∃ pm pg pc, B.dr = drawDr pm pg pc) {j : Nat} (ok : Γ.Ok j) (hj : k ≤ j) (ha : DV Γ B es G)
    (hN : Γ.N[i]? = some m := by rfl) (hv : Vis Γ.sc m := by first | exact Or.inl rfl | exact Or.inr (Or.inl rfl) | exact Or.inr (Or.inr rfl)) (hg : Γ.sc.names.lookup x = some .globalImplicit := by rfl) (hdb : (x == ("__debug__" : Str)) = false := by decide)
    (hd : (m == ("__debug__" : Str)) = false := by decide) (hcd : (m == ("__classdict__" : Str)) = false := by decide)
    (he : ∀ X : Cx, starEach (.Name m pm' :: es) X.env = (false, eval (.Name m pm') X.env) :: starEach es X.env := by intro _; rfl) (hpl : ∀ X : Cx, (backTo pos (starEach es X.env)).any (·.1) = false := by intro _; rfl) :
    DO Γ B (.Call (.Name x p) (.Name m pm' :: es) [] pos) (DL.callD i f G) := by
  obtain ⟨a, fd, F, hm, hk, hb⟩ := F.ex
  obtain ⟨t, pa, mt⟩ := ha
  refine ⟨tCall (spD Γ.K f) [] E0 (tCons (tVar i) t), fun X h => ?_, fun s σ H S g o s' e Q q => ?_⟩
  · have F' := F.mono hj
    rw [← h.P, ← h.w, ← h.K, ← h.mg, ← h.base] at F'
    have r := pe_callG (x := x) (p := p) (pos := pos) F' (by rw [h.A]; exact ok.room) (by rw [h.A]; exact ok.gd) (gl_of h hg) (by rw [h.mg]; exact hm) (by rw [h.K]; exact hk) (by rw [h.K]; exact hb)
      (pa_cons (pe_var (pos := pm') (i := i) (by rw [h.N]; exact hN) (by rw [h.sc]; exact hv) hd hcd) (pa X h) (he X)) hdb (he X) (hpl X)
    rw [h.K] at r
    exact r
  · obtain ⟨_, s0, e0, e1⟩ := bnd_some e
    obtain ⟨ds, s1, e2, e3⟩ := bnd_some e1
    obtain ⟨pm, pg, pc, hB⟩ := hB
    unfold hAt at e0
    split at e0
    · rename_i q0
      cases e0
      split at e3
      · rename_i d st' ef
        cases e3
        obtain ⟨v, h1, h2⟩ := g.slot i _ q0
        have hv' : v = .ref pm := by
          have h2' : v = B.dr.hv := h2
          rw [hB] at h2'
          exact h2'
        subst hv'
        refine ⟨_, h1, mt _ σ H S g ds s1 e2 _ fun vs H1 S1 g1 w1 r1 => ?_⟩
        have at1 := g1.at_
        have nr1 := g1.fr.nor
        rw [hB] at at1 nr1
        refine ⟨pm, pg, pc, S1, vs, ds, s1.dr, d, st', by rw [List.append_nil], g1.fr.sub, nr1, at1, r1, ef, fun v H2 S2 fr at2 r2 => ?_⟩
        obtain ⟨g2, w2⟩ := g1.drawn hB fr at2
        exact q v H2 S2 g2 (w1.trans w2) r2 trivial
      · cases e3
    · cases e0
end
end DL
end

section
set_option Elab.async false
set_option linter.all false
set_option maxRecDepth 100000
set_option maxHeartbeats 3999999
/-! WEng11: what stands of a def (program, world and base told apart), the law's own call -/
namespace DL
open L2 PySem PyProof.Rows PySem.Spec
variable {τ α β : Type}
theorem Gam.Ok.blk {Γ : Gam} {k : Nat} (h : Γ.Ok k) {sc : Scope} : (Γ.blk sc).Ok k := ⟨h.nd, h.room, h.gd⟩
/-- what the top has written of a def -/
def Has (K : Frag) (mg : Str → Option Value) (x : Str) (st : Stmt) (ps : List Str) : Prop :=
  ∃ (a : Addr) (fd : FuncData), Fun K x x st a fd ∧ mg x = some (.ref a) ∧ PySem.W.keepIn K (.ref a) = true ∧ Binds K fd ps []
structure DefQ (P : Program) (w : World) (K : Frag) (mg : Str → Option Value) (base : Heap) (k : Nat) (x : Str) (ps : List Str) (f : List D → Option D) : Prop where
  ex : ∃ (a : Addr) (fd : FuncData), FnG P w K mg base k a fd ps (spP K f) ∧ mg x = some (.ref a) ∧ PySem.W.keepIn K (.ref a) = true ∧ Binds K fd ps []
structure DefN (P : Program) (w : World) (K : Frag) (mg : Str → Option Value) (base : Heap) (k : Nat) (x : Str) (ps : List Str) (f : List D → Option (List D)) : Prop where
  ex : ∃ (a : Addr) (fd : FuncData), FnG P w K mg base k a fd ps (spN K f) ∧ mg x = some (.ref a) ∧ PySem.W.keepIn K (.ref a) = true ∧ Binds K fd ps []
structure DefS (P : Program) (w : World) (K : Frag) (mg : Str → Option Value) (base : Heap) (k : Nat) (x : Str) (ps : List Str) (f : List Int → Option D) : Prop where
  ex : ∃ (a : Addr) (fd : FuncData), FnG P w K mg base k a fd ps (spS K f) ∧ mg x = some (.ref a) ∧ PySem.W.keepIn K (.ref a) = true ∧ Binds K fd ps []
section
variable {P : Program} {w : World} {K : Frag} {mg : Str → Option Value} {base : Heap}
theorem Has.pure {x : Str} {st : Stmt} {N ps : List Str} {k np n : Nat} {F : M Unit Out} (h : Has K mg x st ps) (Sc : FnScope N ps (defScope st)) (e1 : ps.length = np) (e2 : N.length = n)
    (body : ∀ (A : Around) (B : Bd Unit), Gam.Ok ⟨P, w, K, mg, base, A, N, defScope st, fun _ => true⟩ k → DSs ⟨P, w, K, mg, base, A, N, defScope st, fun _ => true⟩ B (defBody st) F) : DefQ P w K mg base (k + 1) x ps (runP2 np n F) := by
  obtain ⟨a, fd, F, h1, h2, h3⟩ := h
  subst e1 e2
  exact ⟨a, fd, fnP2 F Sc body, h1, h2, h3⟩
theorem Has.fresh {x : Str} {st : Stmt} {N ps : List Str} {k np n : Nat} {F : M Unit Out} (h : Has K mg x st ps) (Sc : FnScope N ps (defScope st)) (e1 : ps.length = np) (e2 : N.length = n)
    (body : ∀ (A : Around) (B : Bd Unit), Gam.Ok ⟨P, w, K, mg, base, A, N, defScope st, fun _ => true⟩ k → DSs ⟨P, w, K, mg, base, A, N, defScope st, fun _ => true⟩ B (defBody st) F) : DefN P w K mg base (k + 1) x ps (runN np n F) := by
  obtain ⟨a, fd, F, h1, h2, h3⟩ := h
  subst e1 e2
  exact ⟨a, fd, fnN F Sc body, h1, h2, h3⟩
theorem Has.draw {x : Str} {st : Stmt} {N ps : List Str} {k np n : Nat} {F : M DrawSt Out} (h : Has K mg x st ps) (Sc : FnScope N ps (defScope st)) (e1 : ps.length = np) (e2 : N.length = n)
    (body : ∀ (A : Around) (B : Bd DrawSt), (∃ pm pg pc, B.dr = drawDr pm pg pc) → Gam.Ok ⟨P, w, K, mg, base, A, N, defScope st, fun _ => true⟩ k → DSs ⟨P, w, K, mg, base, A, N, defScope st, fun _ => true⟩ B (defBody st) F) :
    DefD P w K mg base (k + 1) x ps (runD2 np n F) := by
  obtain ⟨a, fd, F, h1, h2, h3⟩ := h
  subst e1 e2
  exact ⟨a, fd, fnD F Sc body, h1, h2, h3⟩
theorem Has.scr {x y : Str} {st : Stmt} {N : List Str} {k n : Nat} {F : M Unit Out} (h : Has K mg x st [y]) (Sc : FnScope N [y] (defScope st)) (e2 : N.length = n)
    (body : ∀ (A : Around) (B : Bd Unit), Gam.Ok ⟨P, w, K, mg, base, A, N, defScope st, fun _ => true⟩ k → DSs ⟨P, w, K, mg, base, A, N, defScope st, fun _ => true⟩ B (defBody st) F) : DefS P w K mg base (k + 1) x [y] (runS n F) := by
  obtain ⟨a, fd, F, h1, h2, h3⟩ := h
  subst e2
  exact ⟨a, fd, fnS F Sc body, h1, h2, h3⟩
end
section
variable {Γ : Gam} {B : Bd τ} {pos : Pos} {e : Expr} {es : List Expr} {G : M τ (List D)}
theorem DO.callQ {x : Str} {p : Pos} {k : Nat} {ps : List Str} {f : List D → Option D} (F : DefQ Γ.P Γ.w Γ.K Γ.mg Γ.base k x ps f) {j : Nat} (ok : Γ.Ok j) (hj : k ≤ j) (ha : DV Γ B (e :: es) G) (hg : Γ.sc.names.lookup x = some .globalImplicit := by rfl)
    (hdb : (x == ("__debug__" : Str)) = false := by decide) (he : ∀ X : Cx, starEach (e :: es) X.env = (false, eval e X.env) :: starEach es X.env := by intro _; rfl) (hpl : ∀ X : Cx, (backTo pos (starEach es X.env)).any (·.1) = false := by intro _; rfl) :
    DO Γ B (.Call (.Name x p) (e :: es) [] pos) (callP f G) :=
  DO.call (k := k) (ps := ps) ⟨F.ex⟩ ok hj hg ha hdb he hpl
def callN (f : List D → Option (List D)) (G : M τ (List D)) : M τ Opd := bnd G fun ds => bnd (lift (f ds)) fun xs => ret (.new xs)
theorem DO.callN {x : Str} {p : Pos} {k : Nat} {ps : List Str} {f : List D → Option (List D)} (F : DefN Γ.P Γ.w Γ.K Γ.mg Γ.base k x ps f) {j : Nat} (ok : Γ.Ok j) (hj : k ≤ j) (ha : DV Γ B (e :: es) G) (hg : Γ.sc.names.lookup x = some .globalImplicit := by rfl)
    (hdb : (x == ("__debug__" : Str)) = false := by decide) (he : ∀ X : Cx, starEach (e :: es) X.env = (false, eval e X.env) :: starEach es X.env := by intro _; rfl) (hpl : ∀ X : Cx, (backTo pos (starEach es X.env)).any (·.1) = false := by intro _; rfl) :
    DO Γ B (.Call (.Name x p) (e :: es) [] pos) (DL.callN f G) := by
  obtain ⟨a, fd, F, hm, hk, hb⟩ := F.ex
  obtain ⟨t, pa, m⟩ := ha
  refine ⟨tCall (spN Γ.K f) [] E0 t, fun X h => ?_, fun s σ H S g o s' e Q q => ?_⟩
  · have F' := F.mono hj
    rw [← h.P, ← h.w, ← h.K, ← h.mg, ← h.base] at F'
    have r := pe_callG (x := x) (p := p) (pos := pos) F' (by rw [h.A]; exact ok.room) (by rw [h.A]; exact ok.gd) (gl_of h hg) (by rw [h.mg]; exact hm) (by rw [h.K]; exact hk) (by rw [h.K]; exact hb) (pa X h) hdb (he X) (hpl X)
    rw [h.K] at r
    exact r
  · obtain ⟨ds, s1, e1, e2⟩ := bnd_some e
    obtain ⟨xs, s2, e3, e4⟩ := bnd_some e2
    obtain ⟨ez, rfl⟩ := lift_some e3
    obtain ⟨rfl, rfl⟩ := ret_some e4
    refine m s σ H S g ds _ e1 _ fun vs H1 S1 g1 w1 r1 => ?_
    refine ⟨S1, ds, xs, g1.fr.sub, by rw [List.append_nil]; exact r1, ez, fun p us H2 S2 w2 hp hd ns n0 => ?_⟩
    have nr : ¬ B.dr.R p := fun r => g1.live r n0
    refine q (.ref p) H2 S2 (g1.grow w2) (w1.trans w2.step) ⟨p, rfl, ⟨us, hp, hd⟩, ns, ?_, nr, fun j ys ej => ?_⟩ ⟨p, rfl, w1.dom p n0⟩
    · cases q0 : B.H0 p with
      | none => rfl
      | some o =>
        have := g1.fr.keep p o q0 nr
        rw [n0] at this
        cases this
    · obtain ⟨p', vs', h1, h2, _⟩ := g1.getOwn ej
      intro z
      rw [h1] at z
      cases z
      rw [n0] at h2
      cases h2
/-- name = [.. for .. for ..] -/
theorem DS.setLc2 {i : Nat} {x : Str} {py : Pos} {elt tg iter tg1 iter1 : Expr} {ifs ifs1 : List Expr} {scope : Scope} {own : List (Str × Nat)} {us us1 ws1 : List Nat} {cpos : Pos} {Fi Fi1 : M τ (List D)} {G G1 : D → M τ Unit} {T T1 : M τ Bool} {E : M τ Opd} (nd : Γ.N.Nodup) (hk : ∀ X, Γ.Has X → X.env.scope.kind = .function)
    (hx : Γ.N[i]? = some x) (hxl : Γ.sc.names.lookup x = some .local) (hln : (py.line == cpos.line) = true) (hna : (scope.names.any fun (n, k) => n == x && (k == .local || k == .cell)) = false) (hi : DI Γ B tg iter Fi) (ok : BlkOk Γ.N Γ.sc scope own)
    (hg : DG (Γ.blk scope) B tg us G) (hu : ∀ i ∈ us, i ∈ own.map (·.2)) (ht : DTs (Γ.blk scope) B ifs T)
    (hi1 : DI (Γ.blk scope) B tg1 iter1 Fi1) (hg1 : DG (Γ.blk scope) B tg1 us1 G1) (hu1 : ∀ i ∈ us1, i ∈ ws1) (hw : ∀ i ∈ ws1, i ∈ own.map (·.2)) (ht1 : DTs (Γ.blk scope) B ifs1 T1) (he : DO (Γ.blk scope) B elt E)
    (hs : ∀ (X : Cx) y, foldedSetIterable iter X.env y = pure y := by intro _ _; rfl) (hs1 : ∀ env x, foldedSetIterable iter1 env x = pure x := by intro _ _; rfl) :
    DS Γ B (.Assign [.Name x py] (.ListComp elt [⟨tg, iter, ifs, 0⟩, ⟨tg1, iter1, ifs1, 0⟩] scope cpos) pos) (asgM i (lc2M (own.map (·.2)) ws1 Fi G T Fi1 G1 T1 E)) := by
  obtain ⟨wi, pi, mi⟩ := hi
  obtain ⟨g, pg, mg⟩ := hg
  obtain ⟨tt, pt, mt⟩ := ht
  obtain ⟨wi1, pi1, mi1⟩ := hi1
  obtain ⟨g1, pg1, mg1⟩ := hg1
  obtain ⟨tt1, pt1, mt1⟩ := ht1
  obtain ⟨te, pe, me⟩ := he
  exact ⟨_, fun X h => ps_setLc2 h.calm (by rw [h.N]; exact nd) (by rw [h.N]; exact hx) (by rw [h.sc]; exact hxl) (sw_true (hk X h) (by rw [h.sc]; exact hxl) hln hna) (pi X h) (by rw [h.N, h.sc]; exact ok) hw (fun _ _ _ _ _ => pg _ (blk_has h)) (fun _ _ _ _ _ => pt _ (blk_has h))
    (fun _ _ _ _ _ => pi1 _ (blk_has h)) (fun _ _ _ _ _ => pg1 _ (blk_has h)) (fun _ _ _ _ _ => pt1 _ (blk_has h)) (fun _ _ _ _ _ => pe _ (blk_has h)) (hs X) hs1, mean_asg (mean_lc2 mi mg hu mt mi1 mg1 hu1 hw mt1 me)⟩
end
/-- names as the items of a target -/
def gNames : List Nat → TGs
  | [] => gNil
  | i :: is => gCons (gName i) (gNames is)
def DNm (Γ : Gam) (es : List Expr) (is : List Nat) : Prop := ∀ X, Γ.Has X → PGs X es (gNames is)
theorem DNm.nil {Γ : Gam} : DNm Γ [] [] := fun X h => pgs_nil
theorem DNm.cons {Γ : Gam} {x : Str} {p : Pos} {i : Nat} {es : List Expr} {is : List Nat} (nd : Γ.N.Nodup) (hi : Γ.N[i]? = some x) (hx : Loc Γ.sc x) (hf : Γ.fn x = true ∨ Γ.sc.names.lookup x = some .local) (hs : DNm Γ es is)
    (ha : ∀ X : Cx, (assignEach (.Name x p :: es) X.env).map (·.2) = assign (.Name x p) X.env :: (assignEach es X.env).map (·.2) := by intro _; rfl) : DNm Γ (.Name x p :: es) (i :: is) := fun X h =>
  pgs_cons (pg_name (by rw [h.N]; exact nd) (by rw [h.N]; exact hi) (by rw [h.sc]; exact hx) (by
    rcases hf with z | z
    · exact h.fn x z
    · exact .inr (by rw [h.sc]; exact z))) (hs X h) (ha X)
theorem names_run : ∀ {is : List Nat} {vs : List V} {σ : List (Option V)} {H : Hp} {Q : List (Option V) → Hp → Prop}, vs.length = is.length → Q (sets σ is vs) H → gNames is vs σ H Q
  | [], [], σ, H, Q, _, q => ⟨rfl, q⟩
  | i :: is, v :: vs, σ, H, Q, hl, q => ⟨v, vs, rfl, names_run (by simpa using hl) q⟩
  | [], _ :: _, _, _, _, hl, _ => by cases hl
  | _ :: _, [], _, _, _, hl, _ => by cases hl
/-- a, b = (x, y) where the tuple is made -/
theorem DS.unpN {Γ : Gam} {B : Bd τ} {pos : Pos} {es tgs : List Expr} {is : List Nat} {G : M τ (List Opd)} {pt : Pos} {kt k2 pt2} (h : DN Γ B es G) (hg : DNm Γ tgs is) (hz : is.length ≤ 100) (hn : ∀ X : Cx, (assignEach tgs X.env).length = is.length := by intro _; rfl) (hst : ∀ X : Cx, (assignEach tgs X.env).findIdx? (·.1) = none := by intro _; rfl)
    (hw : ∀ X, Γ.Has X → swappedStores [.Tuple tgs kt pt] (.Tuple es k2 pt2) X.env = pure none) (hs : ∀ X : Cx, swapsWithSole [.Tuple tgs kt pt] (.Tuple es k2 pt2) pos.line X.env = pure false := by intro _; rfl)
    (h1 : ∀ X : Cx, (assignEach [.Tuple tgs kt pt] X.env).map (·.2) = [assign (.Tuple tgs kt pt) X.env] := by intro _; rfl) :
    DS Γ B (.Assign [.Tuple tgs kt pt] (.Tuple es k2 pt2) pos) (parM is G) := by
  obtain ⟨t, p, m⟩ := h
  refine ⟨tAsg (tTup t) (gTup Γ.K is.length (gNames is)), fun X h => ?_, fun s σ H S gd o s' e D q => ?_⟩
  · have r := pg_tup (k := kt) (pos := pt) h.calm (hg X h) (hn X) (hst X)
    rw [h.K] at r
    exact ps_asg (pe_tup (p X h)) r (hs X) (hw X h) (h1 X)
  · obtain ⟨os, s1, e1, e2⟩ := bnd_some e
    obtain ⟨os', s2, e3, e4⟩ := bnd_some e2
    obtain ⟨_, s3, e5, e6⟩ := bnd_some e4
    obtain ⟨rfl, rfl⟩ := ret_some e6
    refine m s σ H S gd os s1 e1 _ fun vs H1 S1 g1 w1 r1 _ => ?_
    obtain ⟨S2, w2, g2, r2, n2, _, _⟩ := fix_of g1 r1 e3
    obtain ⟨S3, w3, g3⟩ := sets_of g2 r2 n2 e5
    have hl : vs.length = is.length := by rw [r2.len, sets_len e5]
    refine ⟨by rw [hl, sizeLine_eq]; omega, fun a ha => ⟨a, vs, rfl, SqT.of upd_same, hl, names_run hl ?_⟩⟩
    exact q _ _ S3 (g3.grow (Grow.fresh g3.fr.sub ha)) ((w1.same.trans w2).trans w3)
end DL
end

section
set_option Elab.async false
set_option linter.all false
set_option maxRecDepth 100000
set_option maxHeartbeats 3999999
/-! WEng12: the drawn numbers: what a draw gives, what is begun, the law's own body -/
namespace DL
open L2 PySem PyProof.Rows PySem.Spec
variable {τ α β : Type}
/-- a draw below a limit from the cells -/
def drawC (mix : List D → Option D) (L : Int) (st st1 : DrawSt) : Option (D × DrawSt) := (atI st.cells (st.spot % 64)).bind fun c =>
  (mix [.int (c + 31 * (st.spot / 64)), .int st.spot]).bind fun a => (mix [a, .int (st.spot + 7)]).bind fun b => match b with
    | .int b => some (.int (b % L), st1)
    | _ => none
def drawF (mix : List D → Option D) : List D → DrawSt → Option (D × DrawSt) := fun ds st => match ds with
  | [.int L] => if decide (0 < L) && decide (L.natAbs.log2 < 9000) then
      (if st.great.isEmpty then drawC mix L st ⟨st.cells, st.great, st.spot + 1⟩ else match ixN st.great.length (st.spot % (st.great.length : Nat)) with
        | some j => match st.great[j]? with
          | some c => if 0 < c then some (.int (c % L), ⟨st.cells, st.great.set j (c / L), st.spot + 1⟩) else drawC mix L st ⟨st.cells, st.great, st.spot + 1⟩
          | none => none
        | none => none)
    else none
  | _ => none
theorem frame {K : Frag} {pm pg pc : Addr} {st : DrawSt} {H S H' : Hp} (wS : Same S H) (nr : ∀ b, (drawDr pm pg pc).R b → S b = none) (k : ∀ b o, H b = some o → ¬ (drawDr pm pg pc).R b → H' b = some o) : Fr (drawDr pm pg pc) H S H' S :=
  ⟨k, Same.refl _, fun b o e => k b o (wS b o e) (fun r => by rw [nr b r] at e; cases e), (fun b o e n => by
    rw [show S b = none from n] at e
    cases e), nr⟩
theorem frame_grow {pm pg pc : Addr} {H S H1 H2 S2 : Hp} (f : Fr (drawDr pm pg pc) H S H1 S) (w : Grow H1 S H2 S2) (live : ∀ b, (drawDr pm pg pc).R b → H1 b ≠ none) (d : ∀ b, H1 b = none → H b = none) : Fr (drawDr pm pg pc) H S H2 S2 :=
  ⟨fun b o e r => w.h b o (f.keep b o e r), w.s, w.sub, fun b o e n => d b (w.new b o e n), fun b r => by
    cases q : S2 b with
    | none => rfl
    | some o => exact absurd (w.new b o q (f.nor b r)) (live b r)⟩
theorem at_grow {pm pg pc : Addr} {st : DrawSt} {H1 H2 : Hp} (a : drawAt pm pg pc st H1) (w : Same H1 H2) : drawAt pm pg pc st H2 := ⟨w _ _ a.1, w _ _ a.2.1, w _ _ a.2.2.1, a.2.2.2⟩
theorem kv_spot {pc pg : Addr} {n : Int} : valV (drawKvs pc pg n) (.inr "spot") = some (.int n) := by unfold drawKvs; rfl
theorem kv_great {pc pg : Addr} {n : Int} : valV (drawKvs pc pg n) (.inr "great") = some (.ref pg) := by unfold drawKvs; rfl
theorem kv_cells {pc pg : Addr} {n : Int} : valV (drawKvs pc pg n) (.inr "cells") = some (.ref pc) := by unfold drawKvs; rfl
theorem kv_put {pc pg : Addr} {n m : Int} : putK (drawKvs pc pg n) (.inr "spot") (.int m) = drawKvs pc pg m := by unfold drawKvs; rfl
theorem ne_lst_dK {H : Hp} {a b : Addr} {kvs : List (Key × V)} {xs : List V} (h1 : H a = some (.dK kvs)) (h2 : H b = some (.lst xs)) : a ≠ b := fun e => by rw [e, h2] at h1; cases h1
theorem shaped_ints (ns : List Int) : SeqAt.shaped (.list (ns.map PyData.int)) = true := by
  have h1 : ∀ ns : List Int, PyData.canLayAll0 (ns.map PyData.int) = true := fun ns => by
    induction ns with
    | nil => rfl
    | cons n ns ih => simp [PyData.canLayAll0, PyData.canLay0, ih]
  have h2 : ∀ ns : List Int, PyData.depthAll (ns.map PyData.int) ≤ 1 := fun ns => by
    induction ns with
    | nil => simp [PyData.depthAll]
    | cons n ns ih => simp [PyData.depthAll, PyData.depth] at *; omega
  have h3 := h2 ns
  unfold SeqAt.shaped
  simp [PyData.canLay0, PyData.depth, h1]
  omega
theorem eqv_nil (ns : List Int) : PyData.eqv (.list (ns.map PyData.int)) (.list []) = ns.isEmpty := by
  cases ns <;> simp [PyData.eqv, PyData.eqvAll]
/-- what _law_draw's body does -/
def rAdd1 : R2 := rI0 fun i j => .int (i + j)
def rMod1 : R2 := rI (fun _ j => 0 < j) fun i j => .int (i % j)
def rDiv1 : R2 := rI CDivW fun i j => .int (i / j)
def rMul1 : R2 := rI CMul fun i j => .int (i * j)
def rGt1 : R2 := rI0 fun i j => .bl (decide (j < i))
def rInt1 : List V → Hp → VK → Prop := fun xs H Q => (∃ i, xs = [.int i] ∧ Q (.int i) H) ∨ ∃ k, xs = [.bl k] ∧ Q (.int (if k then 1 else 0)) H
def rLen1 (K : Frag) : List V → Hp → VK → Prop := fun xs H Q => ∃ x n, xs = [x] ∧ LenV K x H n ∧ Q (.int n) H
def tInt (t : TE) : TE := tCB rInt1 (tCons t tNil)
def tMix (K : Frag) (mix : List D → Option D) (a b : TE) : TE := tCall (spP K mix) [] E0 (tCons a (tCons b tNil))
def tRest (K : Frag) (mix : List D → Option D) : TS := tSeq (tAsg (tDGet (tVar 0) (tC (.str "cells"))) (gName 3)) (tRet (tOp rMod1 (tInt (tMix K mix
  (tMix K mix (tOp rAdd1 (tOp (rIxL K) (tVar 3) (tOp rMod1 (tInt (tVar 2)) (tC (.int 64)))) (tOp rMul1 (tC (.int 31)) (tOp rDiv1 (tVar 2) (tC (.int 64))))) (tVar 2)) (tOp rAdd1 (tVar 2) (tC (.int 7))))) (tVar 1)))
def tGreat (K : Frag) : TS := tSeq (tAsg (tDGet (tVar 0) (tC (.str "great"))) (gName 3)) (tSeq (tAsg (tOp rMod1 (tInt (tVar 2)) (tCB (rLen1 K) (tCons (tVar 3) tNil))) (gName 4)) (tSeq (tAsg (tOp (rIxL K) (tVar 3) (tVar 4)) (gName 5))
  (tIfS (tTest (tOp rGt1 (tVar 5) (tC (.int 0)))) (tSeq (tAsg (tOp rDiv1 (tVar 5) (tVar 1)) (gSub (tVar 3) (tVar 4) rSetL)) (tRet (tOp rMod1 (tInt (tVar 5)) (tVar 1)))) tNext)))
def tDraw (K : Frag) (mix : List D → Option D) : TS := tSeq (tAsg (tDGet (tVar 0) (tC (.str "spot"))) (gName 2)) (tSeq (sDPut (tVar 0) (tC (.str "spot")) (tOp rAdd1 (tVar 2) (tC (.int 1))))
  (tSeq (tIfS (tTest (tOp (rNeD K) (tDGet (tVar 0) (tC (.str "great"))) (tLst tNil))) (tGreat K) tNext) (tRest K mix)))
section
variable {K : Frag} {mix : List D → Option D} {pm pg pc : Addr} {st : DrawSt} {H S H1 : Hp} {L : Int} {Q : VK}
theorem dget_spot (e : H pm = some (.dK (drawKvs pc pg n))) : DGet H pm (.str "spot") (some (.int n)) := by
  have := DGet.k (k := .inr "spot") e
  rw [kv_spot] at this
  exact this
theorem dget_great (e : H pm = some (.dK (drawKvs pc pg n))) : DGet H pm (.str "great") (some (.ref pg)) := by
  have := DGet.k (k := .inr "great") e
  rw [kv_great] at this
  exact this
theorem dget_cells (e : H pm = some (.dK (drawKvs pc pg n))) : DGet H pm (.str "cells") (some (.ref pc)) := by
  have := DGet.k (k := .inr "cells") e
  rw [kv_cells] at this
  exact this
theorem atI_map {α β : Type} (f : α → β) (xs : List α) (i : Int) : atI (xs.map f) i = (atI xs i).map f := by
  unfold atI
  rw [List.length_map]
  cases ixN xs.length i <;> simp
/-- the draw from the cells -/
theorem rest_run {d : D} {st' : DrawSt} {σ : List (Option V)} {D : Ends} (s0 : σ[0]? = some (some (.ref pm))) (s1 : σ[1]? = some (some (.int L))) (s2 : σ[2]? = some (some (.int st.spot))) (s3 : 3 < σ.length)
    (hL : 0 < L) (a1 : drawAt pm pg pc ⟨st.cells, st.great, st.spot + 1⟩ H1) (wS : Same S H1) (he : drawC mix L st ⟨st.cells, st.great, st.spot + 1⟩ = some (d, st'))
    (hD : D.rt = Q) (hQ : ∀ v H' S', Grow H1 S H' S' → drawAt pm pg pc st' H' → Dq K S' v d → Q v H') : tRest K mix D σ H1 := by
  unfold drawC at he
  obtain ⟨c, e1, he⟩ := Option.bind_eq_some_iff.mp he
  obtain ⟨a, e2, he⟩ := Option.bind_eq_some_iff.mp he
  obtain ⟨b, e3, he⟩ := Option.bind_eq_some_iff.mp he
  split at he
  · rename_i b
    cases he
    have g : ∀ (i : Nat) (x : V), i ≠ 3 → σ[i]? = some (some x) → (σ.set 3 (some (V.ref pc)))[i]? = some (some x) := fun i x n e => by rw [List.getElem?_set_ne (fun q => n q.symm)]; exact e
    have g3 : (σ.set 3 (some (V.ref pc)))[3]? = some (some (V.ref pc)) := List.getElem?_set_self s3
    refine ⟨_, s0, pm, _, rfl, dget_cells a1.1, ?_⟩
    have hc : atI (st.cells.map V.int) (st.spot % 64) = some (.int c) := by rw [atI_map, e1]; rfl
    refine ⟨_, g3, _, g 2 _ (by decide) s2, .inl ⟨_, rfl, _, _, rfl, rfl, (by show (0 : Int) < 64; decide), pc, _, _, _, rfl, rfl, SqL.of a1.2.2.1, hc, _, g 2 _ (by decide) s2, _, _, rfl, rfl, ⟨by decide, by decide⟩, _, _, rfl, rfl, .inl ⟨by decide, by decide⟩, _, _, rfl, rfl, _, g 2 _ (by decide) s2, ?_⟩⟩
    refine ⟨S, [.int (c + 31 * (st.spot / 64)), .int st.spot], a, wS, .cons (.int _) (.cons (.int _) .nil), e2, fun v H2 S2 w2 r2 => ?_⟩
    refine ⟨_, g 2 _ (by decide) s2, _, _, rfl, rfl, ?_⟩
    refine ⟨S2, [a, .int (st.spot + 7)], .int b, w2.sub, .cons r2 (.cons (.int _) .nil), e3, fun v H3 S3 w3 r3 => ?_⟩
    cases r3
    refine .inl ⟨_, rfl, _, g 1 _ (by decide) s1, _, _, rfl, rfl, hL, ?_⟩
    rw [hD]
    exact hQ _ H3 S3 (w2.trans w3) (at_grow (st := ⟨st.cells, st.great, st.spot + 1⟩) a1 (w2.trans w3).h) (.int _)
  · cases he
theorem draw_run {d : D} {st' : DrawSt} {v2 v3 v4 v5 : Option V} {D : Ends} (wS : Same S H) (nr : ∀ b, (drawDr pm pg pc).R b → S b = none) (at_ : drawAt pm pg pc st H) (he : drawF mix [.int L] st = some (d, st')) (hD : D.rt = Q)
    (hQ : ∀ v H' S', Fr (drawDr pm pg pc) H S H' S' → drawAt pm pg pc st' H' → Dq K S' v d → Q v H') : tDraw K mix D [some (.ref pm), some (.int L), v2, v3, v4, v5] H := by
  obtain ⟨cells, great, spot⟩ := st
  unfold drawF at he
  simp only at he
  split at he
  · rename_i hz
    obtain ⟨q1, q2⟩ := Bool.and_eq_true_iff.mp hz
    have hL : 0 < L := of_decide_eq_true q1
    have hL2 : L.natAbs.log2 < 9000 := of_decide_eq_true q2
    obtain ⟨a1, a2, a3, a4⟩ := at_
    refine ⟨_, rfl, pm, _, rfl, dget_spot a1, ?_⟩
    refine ⟨_, rfl, _, _, rfl, rfl, _, rfl, pm, _, rfl, DPut.k (k := .inr "spot") a1 (by show 3 < sizeLine; rw [sizeLine_eq]; decide), ?_⟩
    rw [kv_put]
    refine ⟨_, rfl, pm, _, rfl, dget_great (n := spot + 1) upd_same, by decide, fun p hp => ?_⟩
    have npm : p ≠ pm := fun e => by rw [e, upd_same] at hp; cases hp
    have npg : pg ≠ pm := (ne_lst_dK a1 a2).symm
    have npc : pc ≠ pm := (ne_lst_dK a1 a3).symm
    have hpH : H p = none := by rw [upd_ne npm] at hp; exact hp
    have np : ∀ b o, H b = some o → b ≠ p := fun b o e q => by rw [q, hpH] at e; cases e
    have b1 : upd (upd H pm (.dK (drawKvs pc pg (spot + 1)))) p (.lst []) pm = some (.dK (drawKvs pc pg (spot + 1))) := by rw [upd_ne npm.symm, upd_same]
    have b2 : upd (upd H pm (.dK (drawKvs pc pg (spot + 1)))) p (.lst []) pg = some (.lst (great.map V.int)) := by rw [upd_ne (np _ _ a2), upd_ne npg]; exact a2
    have b3 : upd (upd H pm (.dK (drawKvs pc pg (spot + 1)))) p (.lst []) pc = some (.lst (cells.map V.int)) := by rw [upd_ne (np _ _ a3), upd_ne npc]; exact a3
    have kp : ∀ b o, H b = some o → ¬ (drawDr pm pg pc).R b → upd (upd H pm (.dK (drawKvs pc pg (spot + 1)))) p (.lst []) b = some o := fun b o e r => by
      rw [upd_ne (np _ _ e), upd_ne fun q => r (.inl q)]; exact e
    have dm : ∀ b, upd (upd H pm (.dK (drawKvs pc pg (spot + 1)))) p (.lst []) b = none → H b = none := fun b e => by
      by_cases q : b = p
      · rw [q, upd_same] at e; cases e
      · rw [upd_ne q] at e
        by_cases q' : b = pm
        · rw [q', upd_same] at e; cases e
        · rw [upd_ne q'] at e; exact e
    have bp : upd (upd H pm (.dK (drawKvs pc pg (spot + 1)))) p (.lst []) p = some (.lst []) := upd_same
    generalize upd (upd H pm (.dK (drawKvs pc pg (spot + 1)))) p (.lst []) = H1 at b1 b2 b3 kp dm bp
    have f1 : Fr (drawDr pm pg pc) H S H1 S := frame (K := K) (st := ⟨cells, great, spot⟩) wS nr kp
    have lv : ∀ b, (drawDr pm pg pc).R b → H1 b ≠ none := fun b r => (drawDr pm pg pc).live ⟨cells, great, spot + 1⟩ H1 b ⟨b1, b2, b3, a4⟩ r
    have rest : ∀ (σ : List (Option V)) (D : Ends), σ[0]? = some (some (.ref pm)) → σ[1]? = some (some (.int L)) → σ[2]? = some (some (.int spot)) → 3 < σ.length → D.rt = Q → drawC mix L ⟨cells, great, spot⟩ ⟨cells, great, spot + 1⟩ = some (d, st') → tRest K mix D σ H1 :=
      fun σ D s0 s1 s2 s3 hD e => rest_run (st := ⟨cells, great, spot⟩) s0 s1 s2 s3 hL ⟨b1, b2, b3, a4⟩ f1.sub e hD fun v H' S' w a r => hQ v H' S' (frame_grow f1 w lv dm) a r
    refine ⟨.list (great.map PyData.int), .list [], Dp.lst (SqL.of b2) (DqAll.dp (H := H1) (DqAll.ints great)), Dp.lst (SqL.of bp) .nil, shaped_ints great, shaped_ints [], _, rfl, ?_⟩
    rw [eqv_nil]
    cases great with
    | nil => exact rest _ _ rfl rfl rfl (by simp) hD he
    | cons z zs =>
      refine iteT ?_
      rw [if_neg (by simp)] at he
      split at he
      · rename_i j e1
        split at he
        · rename_i c e2
          have hat : atI ((z :: zs).map V.int) (spot % (((z :: zs).map V.int).length : Nat)) = some (V.int c) := by
            unfold atI
            rw [List.length_map, e1]
            show ((z :: zs).map V.int)[j]? = _
            rw [List.getElem?_map, e2]
            rfl
          have hpos : (0 : Int) < (((z :: zs).map V.int).length : Nat) := by simp
          refine ⟨_, rfl, pm, _, rfl, dget_great b1, _, rfl, .inl ⟨_, rfl, _, rfl, _, _, rfl, .inl ⟨_, SqL.of b2, rfl⟩, _, _, rfl, rfl, hpos, ?_⟩⟩
          refine ⟨_, rfl, _, rfl, pg, _, _, _, rfl, rfl, SqL.of b2, hat, ?_⟩
          refine ⟨_, rfl, _, _, rfl, rfl, _, rfl, ?_⟩
          split at he
          · rename_i hc
            cases he
            rw [if_pos (decide_eq_true hc)]
            refine ⟨_, rfl, _, rfl, _, _, rfl, rfl, ⟨hL, hL2⟩, _, rfl, _, rfl, pg, _, _, j, rfl, rfl, b2, by rw [List.length_map]; exact e1, ?_⟩
            refine ⟨_, rfl, .inl ⟨_, rfl, _, rfl, _, _, rfl, rfl, hL, ?_⟩⟩
            show D.rt _ _
            rw [hD]
            refine hQ _ _ S (frame (K := K) (st := ⟨cells, z :: zs, spot⟩) wS nr fun b o e r => ?_) ⟨?_, ?_, ?_, a4⟩ (.int _)
            · rw [upd_ne fun q => r (.inr (.inl q))]
              exact kp b o e r
            · rw [upd_ne npg.symm]
              exact b1
            · rw [upd_same, List.map_set]
            · rw [upd_ne a4.symm]
              exact b3
          · rename_i hc
            rw [if_neg (by simpa using hc)]
            exact rest _ _ rfl rfl rfl (by simp) hD he
        · cases he
      · cases he
  · cases he
end
end DL
end

section
set_option Elab.async false
set_option linter.all false
set_option maxRecDepth 100000
set_option maxHeartbeats 3999999
/-! WEng13: what a law begins with, the law's own body -/
namespace DL
open L2 PySem PyProof.Rows PySem.Spec
variable {τ α β : Type}
def rGe1 : R2 := rI0 fun i j => .bl (decide (j ≤ i))
def rPow1 : R2 := rI CPow fun i j => .int (i ^ j.toNat)
def greatOf (ns : List Int) : List Int := ns.map fun c => if 1000000000000000000 ≤ c then c else 0
def tBegun (K : Frag) (fold : List Int → Option D) : TS :=
  tSeq (tAsg (tDisp [(tC (.str "cells"), tCall (spS K fold) [] E0 (tCons (tVar 0) tNil)), (tC (.str "great"), tLst tNil), (tC (.str "spot"), tC (.int 0))]) (gName 1))
  (tSeq (sDPut (tVar 1) (tC (.str "great")) (tLc (iList K (tVar 0)) (gName 2) tYes (tIf (tTest (tOp rGe1 (tVar 2) (tOp rPow1 (tC (.int 10)) (tC (.int 18))))) (tVar 2) (tC (.int 0))) [2])) (tRet (tVar 1)))
/-- what begins: the numbers laid in a dict -/
def spB (K : Frag) (fold : List Int → Option D) : Sp := fun vs H Q _ => ∃ (a : Addr) (ns cells : List Int), vs = [.ref a] ∧ Only H ∧ SqL K H a (ns.map V.int) ∧ ns.length ≤ 63 ∧ fold ns = some (.list (cells.map PyData.int)) ∧
  ∀ pm pg pc H', Same H H' → drawAt pm pg pc ⟨cells, greatOf ns, 0⟩ H' → (∀ b, (drawDr pm pg pc).R b → H b = none) → Q (.ref pm) H'
theorem intsV_of {K : Frag} {S : Hp} : ∀ {vs : List V} {ns : List Int}, DqAll K S vs (ns.map PyData.int) → vs = ns.map V.int
  | _, [], h => by cases h; rfl
  | _, n :: ns, h => by
    cases h with
    | cons h1 h2 =>
      cases h1
      rw [intsV_of h2]
      rfl
theorem great_step {ns : List Int} {i : Nat} {z : Int} (h : ns[i]? = some z) : greatOf (ns.take (i + 1)) = greatOf (ns.take i) ++ [if 1000000000000000000 ≤ z then z else 0] := by
  unfold greatOf
  rw [List.take_add_one, h]
  simp
theorem begun_run {K : Frag} {fold : List Int → Option D} {a : Addr} {ns cells : List Int} {H : Hp} {Q : VK} {v1 v2 : Option V} {D : Ends} (hO : Only H) (hq : SqL K H a (ns.map V.int)) (hl : ns.length ≤ 63) (hf : fold ns = some (.list (cells.map PyData.int)))
    (hD : D.rt = Q) (hQ : ∀ pm pg pc H', Same H H' → drawAt pm pg pc ⟨cells, greatOf ns, 0⟩ H' → (∀ b, (drawDr pm pg pc).R b → H b = none) → Q (.ref pm) H') : tBegun K fold D [some (.ref a), v1, v2] H := by
  intro p hp
  have w0 : Same H (upd H p (.dK [])) := Same.upd hp
  refine ⟨_, rfl, H, a, ns, _, rfl, w0, hq, hf, fun v H2 S2 w2 r2 => ?_⟩
  cases r2 with
  | @lst pc xs ds e1 e2 =>
  obtain rfl := intsV_of e2
  have hpc : H pc = none := by
    rcases hO pc with q | ⟨o, ys, q⟩
    · exact q
    · have := w2.s _ _ q
      rw [e1] at this
      cases this
  have c2 : H2 pc = some (.lst (cells.map V.int)) := w2.sub _ _ e1
  have p2 : H2 p = some (.dK []) := w2.h _ _ upd_same
  refine ⟨Nat.zero_le _, fun pg0 hg0 => ?_⟩
  have n1 : p ≠ pg0 := ne_of_none p2 hg0
  have n2 : pc ≠ pg0 := ne_of_none c2 hg0
  have n3 : pc ≠ p := fun e => by rw [e, p2] at c2; cases c2
  refine ⟨by rw [upd_ne n1]; exact p2, drawKvs pc pg0 0, rfl, (by show 3 ≤ 15; decide), ?_⟩
  have w4 : Same H (upd (upd H2 pg0 (.lst [])) p (.dK (mergeK [] (drawKvs pc pg0 0)))) := fun b o e => by
    have nb : b ≠ p := ne_of_none e hp
    have h2 : H2 b = some o := w2.h _ _ (w0 _ _ e)
    rw [upd_ne nb, upd_ne (ne_of_none h2 hg0)]
    exact h2
  have c4 : upd (upd H2 pg0 (.lst [])) p (.dK (mergeK [] (drawKvs pc pg0 0))) pc = some (.lst (cells.map V.int)) := by
    rw [upd_ne n3, upd_ne n2]
    exact c2
  have p4 : upd (upd H2 pg0 (.lst [])) p (.dK (mergeK [] (drawKvs pc pg0 0))) p = some (.dK (drawKvs pc pg0 0)) := by
    rw [upd_same]
    rfl
  generalize upd (upd H2 pg0 (.lst [])) p (.dK (mergeK [] (drawKvs pc pg0 0))) = H4 at w4 c4 p4
  refine ⟨_, rfl, a, rfl, ⟨_, Same.seq w4 hq⟩, fun G hG => ?_⟩
  have wG : ∀ o, Same H4 (upd H4 G o) := fun o => Same.upd hG
  refine lc_list (K := K) (a := a) (xs := ns.map V.int) (fun i H' => H' = upd H4 G (.lst ((greatOf (ns.take i)).map V.int))) (by rw [List.take_zero]; rfl) (fun i H' _ e => ?_) (fun i x H' hx e => ?_) fun H' e => ?_
  · rw [e]
    exact Same.seq (w4.trans (wG _)) hq
  · subst e
    rw [List.getElem?_map] at hx
    obtain ⟨z, hz, rfl⟩ := Option.map_eq_some_iff.mp hx
    refine ⟨rfl, ?_⟩
    dsimp only [tYes]
    rw [if_pos rfl]
    refine ⟨_, rfl, _, _, rfl, rfl, ⟨by decide, by decide, by decide⟩, _, _, rfl, rfl, _, rfl, ?_⟩
    have hi : i < ns.length := (List.getElem?_eq_some_iff.mp hz).1
    have hlen : ((greatOf (ns.take i)).map V.int).length < sizeLine := by
      unfold greatOf
      rw [List.length_map, List.length_map, List.length_take, sizeLine_eq]
      omega
    have fin : ∀ u : Int, u = (if 1000000000000000000 ≤ z then z else 0) → ∃ acc, upd H4 G (.lst ((greatOf (ns.take i)).map V.int)) G = some (.lst acc) ∧ acc.length < sizeLine ∧ upd (upd H4 G (.lst ((greatOf (ns.take i)).map V.int))) G (.lst (acc ++ [V.int u])) = upd H4 G (.lst ((greatOf (ns.take (i + 1))).map V.int)) := fun u hu =>
      ⟨_, upd_same, hlen, by rw [upd_upd, great_step hz, List.map_append, hu]; rfl⟩
    rw [show ((10 : Int) ^ Int.toNat 18) = 1000000000000000000 from by decide]
    dsimp only
    by_cases hc : (1000000000000000000 : Int) ≤ z
    · rw [if_pos (decide_eq_true hc)]
      exact ⟨_, rfl, fin z (by rw [if_pos hc])⟩
    · rw [if_neg (by simpa using hc)]
      exact fin 0 (by rw [if_neg hc])
  · rw [List.length_map, List.take_length] at e
    subst e
    have np : p ≠ G := ne_of_none p4 hG
    have nc : pc ≠ G := ne_of_none c4 hG
    refine ⟨_, rfl, p, _, rfl, DPut.k (k := .inr "great") (by rw [upd_ne np]; exact p4) (by show 3 < sizeLine; rw [sizeLine_eq]; decide), _, rfl, ?_⟩
    show D.rt _ _
    rw [hD]
    refine hQ p G pc _ (fun b o e => ?_) ⟨by rw [upd_same]; rfl, by rw [upd_ne np.symm, upd_same], by rw [upd_ne n3, upd_ne nc]; exact c4, nc.symm⟩ fun b r => ?_
    · rw [upd_ne (ne_of_none e hp)]
      exact wG _ _ _ (w4 _ _ e)
    · rcases r with rfl | rfl | rfl
      · exact hp
      · exact w4.free hG
      · exact hpc
/-- what the law promises its caller -/
def spLaw (K : Frag) : Sp := fun vs H Q _ => ∃ (a : Addr) (ns : List Int), vs = [.ref a] ∧ Only H ∧ SqL K H a (ns.map V.int) ∧ ns.length ≤ 63 ∧ ∀ H', Q (.bl true) H'
/-- the law's body holds: after the first statement the rest returns True -/
def RunsTrue (n : Nat) (fold : List Int → Option D) (F : M DrawSt Out) : Prop := ∀ ns : List Int, ns.length ≤ 63 → ∃ (cells : List Int) (s' : Stt DrawSt), fold ns = some (.list (cells.map PyData.int)) ∧
  F ⟨some (.s ns) :: some .h :: List.replicate n none, ⟨cells, greatOf ns, 0⟩⟩ = some (.rt (.bool true), s')
def LawQ (P : Program) (w : World) (K : Frag) (mg : Str → Option Value) (base : Heap) (k : Nat) (x : Str) (ps : List Str) (sp : Sp) : Prop :=
  ∃ (a : Addr) (fd : FuncData), FnG P w K mg base k a fd ps sp ∧ mg x = some (.ref a) ∧ PySem.W.keepIn K (.ref a) = true ∧ Binds K fd ps []
theorem law_run {K : Frag} {F : M DrawSt Out} {t : TS} {n : Nat} {a : Addr} {ns cells : List Int} {H : Hp} {Q : VK} {s' : Stt DrawSt} {pm pg pc : Addr} {H1 : Hp} (hO : Only H) (hq : SqL K H a (ns.map V.int)) (w : Same H H1)
    (at_ : drawAt pm pg pc ⟨cells, greatOf ns, 0⟩ H1) (nr : ∀ b, (drawDr pm pg pc).R b → H b = none) (m : MeanS K ⟨drawDr pm pg pc, H1, H⟩ t F) (e : F ⟨some (.s ns) :: some .h :: List.replicate n none, ⟨cells, greatOf ns, 0⟩⟩ = some (.rt (.bool true), s'))
    (hQ : ∀ H', Q (.bl true) H') (D : Ends) (hD : D.rt = Q) : t D (some (.ref a) :: some (.ref pm) :: List.replicate n none) H1 := by
  refine m ⟨some (.s ns) :: some .h :: List.replicate n none, ⟨cells, greatOf ns, 0⟩⟩ _ H1 H ⟨⟨fun b o e _ => e, Same.refl _, w, fun b o e n => ?_, nr⟩, at_, by simp, fun i z e => ?_, fun i j xs ys _ e1 => ?_⟩ _ _ e D ?_
  · rw [show H b = none from n] at e
    cases e
  · match i, e with
    | 0, e => cases e; exact ⟨.ref a, rfl, a, rfl, hq⟩
    | 1, e => cases e; exact ⟨.ref pm, rfl, rfl⟩
    | i + 2, e =>
      simp only [List.getElem?_cons_succ, List.getElem?_replicate] at e
      split at e <;> cases e
  · match i, e1 with
    | 0, e => cases e
    | 1, e => cases e
    | i + 2, e =>
      simp only [List.getElem?_cons_succ, List.getElem?_replicate] at e
      split at e <;> cases e
  · intro v H' S' _ _ r
    cases r
    rw [hD]
    exact hQ H'
/-- a term of rules chosen late -/
def tEx (p : TS → Prop) : TS := fun D σ H => ∃ t, p t ∧ t D σ H
theorem pss_ex {X : Cx} {sts : List Stmt} {p : TS → Prop} (h : ∀ t, p t → PSs X sts t) : PSs X sts (tEx p) := ⟨fun pins s σ H D I ⟨t, pt, q⟩ => (h t pt).run pins s σ H D I q⟩
end DL
end

section
set_option Elab.async false
set_option linter.all false
set_option maxRecDepth 100000
set_option maxHeartbeats 3999999
/-! WEng14: the head: what the top has left, and the law's own call -/
namespace DL
open L2 PySem PyProof.Rows PySem.Spec
/-- a constant of the module, by its datum -/
def datB (K : Frag) : D → Value → Bool
  | .none, u => (match u with
    | .none => true
    | _ => false)
  | .bool b, u => (match u with
    | .bool c => b == c
    | _ => false)
  | .int i, u => (match u with
    | .int j _ => decide (i = j)
    | _ => false)
  | .str x, u => (match u with
    | .str y _ => decide (x = y)
    | _ => false)
  | .tuple ds, u => (match u with
    | .ref a => (match K.lookup a with
      | some ⟨.type c, _, .seq its _, _⟩ => decide (c = "tuple") && (decide (its.size ≤ sizeLine) && datAll K ds its.toList)
      | _ => false)
    | _ => false)
  | _, _ => false
where datAll (K : Frag) : List D → List Value → Bool
  | [], [] => true
  | d :: ds, u :: us => datB K d u && datAll K ds us
  | _, _ => false
mutual
theorem datB_ok {K : Frag} : ∀ (d : D) (u : Value), datB K d u = true → ∃ v, RelV v u ∧ ∀ S, Dq K S v d
  | .none, u, h => by
    unfold datB at h
    cases u with
    | none => exact ⟨.non, rfl, fun S => .non⟩
    | _ => cases h
  | .bool b, u, h => by
    unfold datB at h
    cases u with
    | bool c =>
      have e : b = c := eq_of_beq h
      subst e
      exact ⟨.bl b, rfl, fun S => .bl b⟩
    | _ => cases h
  | .int i, u, h => by
    unfold datB at h
    cases u with
    | int j t =>
      have e : i = j := of_decide_eq_true h
      subst e
      exact ⟨.int i, ⟨t, rfl⟩, fun S => .int i⟩
    | _ => cases h
  | .str x, u, h => by
    unfold datB at h
    cases u with
    | str y t =>
      have e : x = y := of_decide_eq_true h
      subst e
      exact ⟨.str x, ⟨t, rfl⟩, fun S => .str x⟩
    | _ => cases h
  | .tuple ds, u, h => by
    unfold datB at h
    cases u with
    | ref a =>
      dsimp only at h
      cases q : K.lookup a with
      | none =>
        rw [q] at h
        cases h
      | some o =>
        obtain ⟨oc, od, dt, osl⟩ := o
        rw [q] at h
        cases oc with
        | type c =>
          cases dt with
          | seq its n =>
            obtain ⟨h1, h2⟩ := Bool.and_eq_true_iff.mp h
            obtain ⟨h3, h4⟩ := Bool.and_eq_true_iff.mp h2
            obtain ⟨vs, r, hd⟩ := datAll_ok ds its.toList h4
            exact ⟨.ref a, rfl, fun S => .tup (.inr ⟨_, its, n, q, congrArg Value.type (of_decide_eq_true h1), rfl, of_decide_eq_true h3, r⟩) (hd S)⟩
          | _ => cases h
        | _ => cases dt <;> cases h
    | _ => cases h
  | .list _, u, h => by
    unfold datB at h
    cases h
  | .dict _, u, h => by
    unfold datB at h
    cases h
theorem datAll_ok {K : Frag} : ∀ (ds : List D) (us : List Value), datB.datAll K ds us = true → ∃ vs, Vals vs us ∧ ∀ S, DqAll K S vs ds
  | [], [], _ => ⟨[], .nil, fun S => .nil⟩
  | d :: ds, u :: us, h => by
    unfold datB.datAll at h
    obtain ⟨h1, h2⟩ := Bool.and_eq_true_iff.mp h
    obtain ⟨v, r, hd⟩ := datB_ok d u h1
    obtain ⟨vs, rs, hds⟩ := datAll_ok ds us h2
    exact ⟨v :: vs, .cons r rs, fun S => .cons (hd S) (hds S)⟩
  | [], _ :: _, h => by cases h
  | _ :: _, [], h => by cases h
end
/-- the module's name x stands for that tuple -/
def conB (K : Frag) (p : Str × D) : Bool := match PySem.W.nsIn K mainGlobals p.1 with
  | some (some (.ref a)) => datB K p.2 (.ref a)
  | _ => false
def obsX (fa : List He.Fa) (cs : List (Str × D)) (fn : List He.DefD) (K : Frag) : He.AlD := (((fa.all fun f => f.ok K) && fn.all fun d => d.ok K) && cs.all (conB K), fn.map fun d => He.fnW K d.at_)
def SaysX (fa : List He.Fa) (cs : List (Str × D)) (fn : List He.DefD) (K : Frag) : Prop := obsX fa cs fn K = He.valD fn
def obsXG (n : Nat) (fa : List He.Fa) (cs : List (Str × D)) (fn : List He.DefD) (g : Addr → Option Obj) : He.AlD := obsX fa cs fn (He.frG g (He.asD g n))
def hookX (n : Nat) (fa : List He.Fa) (cs : List (Str × D)) (fn : List He.DefD) : PySem.W.Hook where
  α := He.AlD
  obs := fun s => obsXG n fa cs fn s.heap.get?
  val := fun _ => He.valD fn
  says := fun _ h => ∃ K : Frag, K.In h ∧ SaysX fa cs fn K
  of := fun _ _ e => ⟨_, He.frG_in, e⟩
  keeps := fun _ _ _ ⟨K, hK, c⟩ k => ⟨K, PySem.W.Frag.In.keeps hK k, c⟩
theorem obsXG_eq {n : Nat} {fa : List He.Fa} {cs : List (Str × D)} {fn : List He.DefD} {g : Addr → Option Obj} {s : Shared} (h : ∀ a, g a = s.heap.get? a) : obsXG n fa cs fn g = (hookX n fa cs fn).obs s := by
  obtain rfl : g = s.heap.get? := funext h
  rfl
section
variable {fa : List He.Fa} {cs : List (Str × D)} {fn : List He.DefD} {K : Frag} {h : Heap} {mg : Str → Option Value}
theorem SaysX.both (c : SaysX fa cs fn K) : He.SaysD fa fn K ∧ cs.all (conB K) = true := by
  have c1 : ((((fa.all fun f => f.ok K) && fn.all fun d => d.ok K) && cs.all (conB K))) = true := congrArg (fun z : He.AlD => z.1) c
  have c2 : (fn.map fun d => He.fnW K d.at_) = fn.map He.DefD.val := congrArg (fun z : He.AlD => z.2) c
  obtain ⟨h1, h2⟩ := Bool.and_eq_true_iff.mp c1
  refine ⟨?_, h2⟩
  show ((fa.all fun f => f.ok K) && fn.all fun d => d.ok K, fn.map fun d => He.fnW K d.at_) = (true, fn.map He.DefD.val)
  rw [h1, c2]
/-- a def, found by its place in the list -/
theorem SaysX.has (c : SaysX fa cs fn K) (X : K.In h) (G : h.Ns mainGlobals mg) (i j : Nat) {x : Str} {st : Stmt} {ps : List Str} (hf : fn[i]? = some ⟨(x, none), x, x, defArgs st, defBody st, defScope st, [], []⟩) (hg : fa[j]? = some (.glo x))
    (hb : ∀ (kV doc pm : Value) (an : Option Addr) (cdv ct : Value) (us : List Value), us.length = ps.length → bindArgs (PySem.W.fnOf x x (defArgs st) (defBody st) (defScope st) .none kV doc pm an cdv ct) ⟨us, []⟩ = pure (ps.zip us)) : Has K mg x st ps := by
  obtain ⟨fd, F⟩ := c.both.1.def_ i hf
  have g := He.glo_ok X G (c.both.1.fact j hg)
  have kp : PySem.W.keepIn K (.ref (He.ga K x)) = true := F.kp
  obtain ⟨oc, od, dV, kV, doc, pm, an, cdv, ct, osl, rfl, lk, hcd, hD, hK⟩ := F.ex
  rcases hD with ⟨_, rfl⟩ | ⟨e, _⟩
  · have FF : Fun K x x st (He.ga K x) (PySem.W.fnOf x x (defArgs st) (defBody st) (defScope st) .none kV doc pm an cdv ct) := ⟨⟨oc, od, kV, doc, pm, an, cdv, ct, osl, rfl, lk, hcd⟩, kp⟩
    exact ⟨_, _, FF, g, kp, FF.binds hb⟩
  · exact absurd rfl e
theorem SaysX.free (c : SaysX fa cs fn K) (X : K.In h) (G : h.Ns mainGlobals mg) (j : Nat) {x : Str} (hg : fa[j]? = some (.free x)) : mg x = none := He.free_ok X G (c.both.1.fact j hg)
theorem SaysX.int (c : SaysX fa cs fn K) (X : K.In h) (G : h.Ns mainGlobals mg) (j : Nat) {x : Str} {i : Int} (hg : fa[j]? = some (.int x i)) : ∃ t, mg x = some (.int i t) := He.int_ok X G (c.both.1.fact j hg)
theorem SaysX.con (c : SaysX fa cs fn K) (X : K.In h) (G : h.Ns mainGlobals mg) (j : Nat) {x : Str} {d : D} (hg : cs[j]? = some (x, d)) : ∃ a, mg x = some (.ref a) ∧ ∀ S, Dq K S (.ref a) d := by
  have h1 := List.all_eq_true.mp c.both.2 (x, d) (List.mem_of_getElem? hg)
  unfold conB at h1
  dsimp only at h1
  split at h1
  · rename_i a e
    obtain ⟨v, r, hd⟩ := datB_ok _ _ h1
    have e2 := PySem.W.mg_of X G e
    cases v with
    | ref b =>
      obtain rfl : a = b := by
        have r' : Value.ref a = Value.ref b := r
        cases r'
        rfl
      exact ⟨a, e2, hd⟩
    | _ =>
      have := hd (fun _ => none)
      first
        | (obtain ⟨t, r'⟩ := r; cases r')
        | cases r
  · cases h1
end
/-! ### the law called by its caller -/
theorem law_callG {P : Program} {w : World} {K : PySem.W.Frag} {mg mb : Str → Option Value} {k : Nat} {fa a : Addr} {x0 x : Str} {sp : Sp} {s₁ : Shared} {vs : List Value} {ns : List Int}
    (KX : K.In s₁.heap) (hns : s₁.heap.Ns mainGlobals mg) (hb : s₁.heap.Ns builtinsNs mb) (hbb : ∀ x : Str, x ≠ "__name__" → mb x = bootBuiltins x)
    (hlim : s₁.heap.NoLimit) (hg : s₁.gens = #[]) (ha : s₁.heap.get? a = some { cls := .type "list", data := .seq vs.toArray }) (hi : IntsAre vs ns)
    (hl : ns.length ≤ sizeLine) (hr : Room k callerA) (hgd : callerA.guards = some []) (hfa : mg x0 = some (.ref fa))
    (F : ∀ base : Heap, K.In base → base.Ns mainGlobals mg → LawQ P w K mg base k x0 [x] sp)
    (hsp : ∀ H : Hp, Only H → SqL K H a (ns.map V.int) → sp [.ref a] H (fun v _ => v = .bl true) fun _ _ _ => False) :
    codeAny (model P w) callerA (.call (.ref fa) ⟨[.ref a], []⟩) (fun r s' => r = .ok (.ret (.bool true)) ∧ OldK s₁.heap s'.heap ∧ s'.os = s₁.os ∧ AllBare s'.gens) s₁ := by
  have rv := vals_ints hi
  have lenV := hi.length
  have core : ∀ H : Hp, Only H → SqL K H a (ns.map V.int) → HOk P w H s₁.heap → (∀ b, H b ≠ none → b = a) → (H a ≠ none → K.lookup a = none) →
      codeAny (model P w) callerA (.call (.ref fa) ⟨[.ref a], []⟩) (fun r s' => r = .ok (.ret (.bool true)) ∧ OldK s₁.heap s'.heap ∧ s'.os = s₁.os ∧ AllBare s'.gens) s₁ := by
    intro H hO hS hok hA hK
    have noA : ∀ {b : Addr} {o : Obj} {es : Array DictEntry} {ep : Nat}, s₁.heap.get? b = some o → o.data = .dict es ep → H b = none := by
      intro b o es ep e d
      cases q : H b with
      | none => rfl
      | some u =>
        have e' : b = a := hA b (by simp [q])
        subst e'
        rw [ha] at e
        cases e
        have d' : Data.seq vs.toArray _ = Data.dict es ep := d
        cases d'
    have nsK : ∀ {b : Addr} {m : Str → Option Value}, s₁.heap.Ns b m → (hidT s₁.heap H).Ns b m := by
      rintro b m ⟨o, es, ep, e, d, r⟩
      exact ⟨o, es, ep, hidT_get e (noA e d), d, r⟩
    have hKb : K.In (hidT s₁.heap H) := by
      intro b o e
      refine hidT_get (KX b o e) ?_
      cases q : H b with
      | none => rfl
      | some u =>
        have e' : b = a := hA b (by simp [q])
        subst e'
        rw [hK (by simp [q])] at e
        cases e
    have hM : Mod K mg (hidT s₁.heap H) := by
      obtain ⟨mc, h1, h2⟩ := hlim
      exact ⟨hKb, nsK hns, ⟨mb, nsK hb, hbb⟩, ⟨mc, nsK h1, h2⟩⟩
    have e0 : Env0 P w K mg (hidT s₁.heap H) callerA [] s₁ H :=
      ⟨rfl, hM, fun b o e => of_hidT e, Nat.le_of_eq (hidT_size _ _), trivial, fun b hb => absurd (show b ∈ ([] : List Addr) from hb) (by simp), hok, .of_eq hg⟩
    obtain ⟨fa', fd, Fn, hm, _, hb⟩ := F _ hKb (nsK hns)
    obtain rfl : fa = fa' := by
      have q := hfa.symm.trans hm
      cases q
      rfl
    have run := Fn.run callerA [] s₁ H ⟨[.ref a], []⟩ [.ref a] [.ref a] _ _ hr hgd e0 (hb s₁ [.ref a] KX rfl) (.cons rfl .nil) (hsp H hO hS)
    refine codeAny_mono run ?_
    intro r s' h
    match r, h with
    | .error e, h => exact h.elim
    | .ok .next, h => exact False.elim h
    | .ok .brk, h => exact False.elim h
    | .ok .cont, h => exact False.elim h
    | .ok (.ret u), h =>
      obtain ⟨v, H', os, bare, un, hok', r', q⟩ := h
      have q' : v = .bl true := q
      subst q'
      obtain rfl : u = Value.bool true := r'
      refine ⟨rfl, OldK.of_keep ?_, os, bare⟩
      intro b o e
      cases q : H b with
      | none => exact un.keep b o e q (by intro z; exact absurd (show b ∈ ([] : List Addr) from z) (by simp)) (by simp)
      | some u =>
        rcases hO b with z | ⟨ob, xs, z⟩
        · rw [q] at z
          cases z
        · have z2 := un.frzs b ob _ z
          obtain ⟨e1, _⟩ := hok b _ z
          obtain ⟨e2, _⟩ := hok' b _ z2
          rw [e] at e1
          cases e1
          exact e2
  cases hk : K.lookup a with
  | some o =>
    have e := KX a o hk
    rw [ha] at e
    cases e
    have sq : SqL K (fun _ => none) a (ns.map V.int) := .inr ⟨_, vs.toArray, _, hk, rfl, rfl, rfl, by rw [List.size_toArray, lenV]; exact hl, by simpa using rv⟩
    refine core (fun _ => none) (fun _ => .inl rfl) sq (fun b u z => ?_) (fun b z => absurd rfl z) fun z => absurd rfl z
    have z' : (none : Option HO) = some u := z
    cases z'
  | none =>
    have here : (fun b => if b = a then some (HO.frz { cls := .type "list", data := .seq vs.toArray } (.lst (ns.map V.int))) else none) a = some (HO.frz { cls := .type "list", data := .seq vs.toArray } (.lst (ns.map V.int))) := if_pos rfl
    refine core (fun b => if b = a then some (.frz { cls := .type "list", data := .seq vs.toArray } (.lst (ns.map V.int))) else none) (fun b => ?_) (.inl (.inr ⟨{ cls := .type "list", data := .seq vs.toArray }, here⟩)) (fun b u z => ?_) (fun b z => ?_) fun _ => hk
    · by_cases hb : b = a
      · exact .inr ⟨_, _, if_pos hb⟩
      · exact .inl (if_neg hb)
    · by_cases hb : b = a
      · have z' := (if_pos hb).symm.trans z
        cases z'
        subst hb
        exact ⟨ha, by simpa using hl, vs, _, rv, ha⟩
      · have z' := (if_neg hb).symm.trans z
        cases z'
    · by_cases hb : b = a
      · exact hb
      · exact absurd (if_neg hb) z
/-- the head's last goal, from the law's promise over every base -/
theorem walkX {l : PySem.W.OpenLaw} {k : Nat} {q : Program} {loose : List Str} {XP : (Str → Option Value) → Heap → Prop} {fa : List He.Fa} {cs : List (Str × D)} {fn : List He.DefD} {d : DefRec} {m : Nat}
    (hn : l.most = some 63) (hdf : d.params.defaults = []) (hr : Room k callerA) (hname : d.name = ("law" : Str))
    (F : ∀ (P : Program) (w : World) (K : Frag) (mg : Str → Option Value) (h : Heap), K.In h → h.Ns mainGlobals mg → SaysX fa cs fn K → ∀ base : Heap, LawQ P w K mg base k "law" ["script"] (spLaw K)) :
    PySem.W.WalkO q loose XP (hookX m fa cs fn).says l.row.toRowW d [] (fun f vs => PySem.call f vs) := by
  refine Att.attach_call hn hdf ?_
  intro w s₀ s₁ mg mb fa o pm cd doc a vs ns G Y ho hd hcd hmg hobj hints hlen hg
  obtain ⟨K, KX, c⟩ := Y
  rw [hname] at hmg
  refine law_callG (x0 := "law") (x := "script") (sp := spLaw K) KX G.T.g G.T.b G.T.builtins G.T.nolimit hg hobj hints ?_ hr rfl hmg (fun base _ _ => F l.prog w K mg _ KX G.T.g c base) fun H hO hS => ⟨a, ns, rfl, hO, hS, hlen, fun _ => rfl⟩
  rw [sizeLine_eq]
  omega
end DL
end

section
set_option Elab.async false
set_option linter.all false
set_option maxRecDepth 100000
set_option maxHeartbeats 3999999
open DL L2 PySem PyProof.Rows PySem.Spec
namespace LW
abbrev s_is_whole : Stmt := PySem.Challenge.pw_washedarms_k72_whole_tiny_tasks_by_numbe.main.body.getD 6 (.Pass ⟨0, 0, 0, 0⟩)
abbrev s_is_within : Stmt := PySem.Challenge.pw_washedarms_k72_whole_tiny_tasks_by_numbe.main.body.getD 7 (.Pass ⟨0, 0, 0, 0⟩)
abbrev s_is_tuple_of : Stmt := PySem.Challenge.pw_washedarms_k72_whole_tiny_tasks_by_numbe.main.body.getD 8 (.Pass ⟨0, 0, 0, 0⟩)
abbrev s_is_shape : Stmt := PySem.Challenge.pw_washedarms_k72_whole_tiny_tasks_by_numbe.main.body.getD 12 (.Pass ⟨0, 0, 0, 0⟩)
abbrev s_need_shape : Stmt := PySem.Challenge.pw_washedarms_k72_whole_tiny_tasks_by_numbe.main.body.getD 13 (.Pass ⟨0, 0, 0, 0⟩)
abbrev s_lab_choices : Stmt := PySem.Challenge.pw_washedarms_k72_whole_tiny_tasks_by_numbe.main.body.getD 14 (.Pass ⟨0, 0, 0, 0⟩)
abbrev s_spans_of : Stmt := PySem.Challenge.pw_washedarms_k72_whole_tiny_tasks_by_numbe.main.body.getD 15 (.Pass ⟨0, 0, 0, 0⟩)
abbrev s_step_choices : Stmt := PySem.Challenge.pw_washedarms_k72_whole_tiny_tasks_by_numbe.main.body.getD 16 (.Pass ⟨0, 0, 0, 0⟩)
abbrev s_choices_of : Stmt := PySem.Challenge.pw_washedarms_k72_whole_tiny_tasks_by_numbe.main.body.getD 17 (.Pass ⟨0, 0, 0, 0⟩)
abbrev s_free_count : Stmt := PySem.Challenge.pw_washedarms_k72_whole_tiny_tasks_by_numbe.main.body.getD 18 (.Pass ⟨0, 0, 0, 0⟩)
abbrev s_tiny_count : Stmt := PySem.Challenge.pw_washedarms_k72_whole_tiny_tasks_by_numbe.main.body.getD 19 (.Pass ⟨0, 0, 0, 0⟩)
abbrev s_lab_of : Stmt := PySem.Challenge.pw_washedarms_k72_whole_tiny_tasks_by_numbe.main.body.getD 20 (.Pass ⟨0, 0, 0, 0⟩)
abbrev s_sample_of : Stmt := PySem.Challenge.pw_washedarms_k72_whole_tiny_tasks_by_numbe.main.body.getD 21 (.Pass ⟨0, 0, 0, 0⟩)
abbrev s_task_of : Stmt := PySem.Challenge.pw_washedarms_k72_whole_tiny_tasks_by_numbe.main.body.getD 22 (.Pass ⟨0, 0, 0, 0⟩)
abbrev s_free_task : Stmt := PySem.Challenge.pw_washedarms_k72_whole_tiny_tasks_by_numbe.main.body.getD 23 (.Pass ⟨0, 0, 0, 0⟩)
abbrev s_tiny_task : Stmt := PySem.Challenge.pw_washedarms_k72_whole_tiny_tasks_by_numbe.main.body.getD 24 (.Pass ⟨0, 0, 0, 0⟩)
abbrev s_picks_of : Stmt := PySem.Challenge.pw_washedarms_k72_whole_tiny_tasks_by_numbe.main.body.getD 25 (.Pass ⟨0, 0, 0, 0⟩)
abbrev s_has_sizes : Stmt := PySem.Challenge.pw_washedarms_k72_whole_tiny_tasks_by_numbe.main.body.getD 26 (.Pass ⟨0, 0, 0, 0⟩)
abbrev s_free_number : Stmt := PySem.Challenge.pw_washedarms_k72_whole_tiny_tasks_by_numbe.main.body.getD 27 (.Pass ⟨0, 0, 0, 0⟩)
abbrev s_is_tuple_to : Stmt := PySem.Challenge.pw_washedarms_k72_whole_tiny_tasks_by_numbe.main.body.getD 37 (.Pass ⟨0, 0, 0, 0⟩)
abbrev s_first_descent : Stmt := PySem.Challenge.pw_washedarms_k72_whole_tiny_tasks_by_numbe.main.body.getD 38 (.Pass ⟨0, 0, 0, 0⟩)
abbrev s_meets_fault : Stmt := PySem.Challenge.pw_washedarms_k72_whole_tiny_tasks_by_numbe.main.body.getD 39 (.Pass ⟨0, 0, 0, 0⟩)
abbrev s_wash_fault : Stmt := PySem.Challenge.pw_washedarms_k72_whole_tiny_tasks_by_numbe.main.body.getD 40 (.Pass ⟨0, 0, 0, 0⟩)
abbrev s_lab_fault : Stmt := PySem.Challenge.pw_washedarms_k72_whole_tiny_tasks_by_numbe.main.body.getD 41 (.Pass ⟨0, 0, 0, 0⟩)
abbrev s_step_fault : Stmt := PySem.Challenge.pw_washedarms_k72_whole_tiny_tasks_by_numbe.main.body.getD 46 (.Pass ⟨0, 0, 0, 0⟩)
abbrev s_sample_fault : Stmt := PySem.Challenge.pw_washedarms_k72_whole_tiny_tasks_by_numbe.main.body.getD 47 (.Pass ⟨0, 0, 0, 0⟩)
abbrev s_task_fault : Stmt := PySem.Challenge.pw_washedarms_k72_whole_tiny_tasks_by_numbe.main.body.getD 48 (.Pass ⟨0, 0, 0, 0⟩)
abbrev s_need_task : Stmt := PySem.Challenge.pw_washedarms_k72_whole_tiny_tasks_by_numbe.main.body.getD 49 (.Pass ⟨0, 0, 0, 0⟩)
abbrev s_tiny_number : Stmt := PySem.Challenge.pw_washedarms_k72_whole_tiny_tasks_by_numbe.main.body.getD 51 (.Pass ⟨0, 0, 0, 0⟩)
abbrev s__law_mixed : Stmt := PySem.Challenge.pw_washedarms_k72_whole_tiny_tasks_by_numbe.main.body.getD 53 (.Pass ⟨0, 0, 0, 0⟩)
abbrev s__law_folded : Stmt := PySem.Challenge.pw_washedarms_k72_whole_tiny_tasks_by_numbe.main.body.getD 54 (.Pass ⟨0, 0, 0, 0⟩)
abbrev s__law_draw : Stmt := PySem.Challenge.pw_washedarms_k72_whole_tiny_tasks_by_numbe.main.body.getD 55 (.Pass ⟨0, 0, 0, 0⟩)
abbrev s__law_begun : Stmt := PySem.Challenge.pw_washedarms_k72_whole_tiny_tasks_by_numbe.main.body.getD 56 (.Pass ⟨0, 0, 0, 0⟩)
abbrev s__law_like : Stmt := PySem.Challenge.pw_washedarms_k72_whole_tiny_tasks_by_numbe.main.body.getD 57 (.Pass ⟨0, 0, 0, 0⟩)
abbrev s__law_of : Stmt := PySem.Challenge.pw_washedarms_k72_whole_tiny_tasks_by_numbe.main.body.getD 58 (.Pass ⟨0, 0, 0, 0⟩)
abbrev s__law_tiny_spans : Stmt := PySem.Challenge.pw_washedarms_k72_whole_tiny_tasks_by_numbe.main.body.getD 59 (.Pass ⟨0, 0, 0, 0⟩)
abbrev s__law_tiny_rows : Stmt := PySem.Challenge.pw_washedarms_k72_whole_tiny_tasks_by_numbe.main.body.getD 60 (.Pass ⟨0, 0, 0, 0⟩)
abbrev s__law_tiny_count : Stmt := PySem.Challenge.pw_washedarms_k72_whole_tiny_tasks_by_numbe.main.body.getD 61 (.Pass ⟨0, 0, 0, 0⟩)
abbrev s__law_tiny_task : Stmt := PySem.Challenge.pw_washedarms_k72_whole_tiny_tasks_by_numbe.main.body.getD 62 (.Pass ⟨0, 0, 0, 0⟩)
abbrev s__law_shape : Stmt := PySem.Challenge.pw_washedarms_k72_whole_tiny_tasks_by_numbe.main.body.getD 63 (.Pass ⟨0, 0, 0, 0⟩)
abbrev s__law_item : Stmt := PySem.Challenge.pw_washedarms_k72_whole_tiny_tasks_by_numbe.main.body.getD 64 (.Pass ⟨0, 0, 0, 0⟩)
abbrev s__law_step_with : Stmt := PySem.Challenge.pw_washedarms_k72_whole_tiny_tasks_by_numbe.main.body.getD 65 (.Pass ⟨0, 0, 0, 0⟩)
abbrev s__law_window_with : Stmt := PySem.Challenge.pw_washedarms_k72_whole_tiny_tasks_by_numbe.main.body.getD 66 (.Pass ⟨0, 0, 0, 0⟩)
abbrev s__law_wash_with : Stmt := PySem.Challenge.pw_washedarms_k72_whole_tiny_tasks_by_numbe.main.body.getD 67 (.Pass ⟨0, 0, 0, 0⟩)
abbrev s__law_arms : Stmt := PySem.Challenge.pw_washedarms_k72_whole_tiny_tasks_by_numbe.main.body.getD 68 (.Pass ⟨0, 0, 0, 0⟩)
abbrev s__law_bent_more : Stmt := PySem.Challenge.pw_washedarms_k72_whole_tiny_tasks_by_numbe.main.body.getD 69 (.Pass ⟨0, 0, 0, 0⟩)
abbrev s__law_bent : Stmt := PySem.Challenge.pw_washedarms_k72_whole_tiny_tasks_by_numbe.main.body.getD 70 (.Pass ⟨0, 0, 0, 0⟩)
abbrev s_law : Stmt := PySem.Challenge.pw_washedarms_k72_whole_tiny_tasks_by_numbe.main.body.getD 71 (.Pass ⟨0, 0, 0, 0⟩)
structure Top (K : Frag) (mg : Str → Option Value) : Prop where
  n_all : mg "all" = none
  n_bool : mg "bool" = none
  n_enumerate : mg "enumerate" = none
  n_int : mg "int" = none
  n_isinstance : mg "isinstance" = none
  n_len : mg "len" = none
  n_list : mg "list" = none
  n_min : mg "min" = none
  n_range : mg "range" = none
  n_repr : mg "repr" = none
  n_tuple : mg "tuple" = none
  n_zip : mg "zip" = none
  g_BOUNDS : ∃ a, mg "BOUNDS" = some (.ref a) ∧ ∀ S, Dq K S (.ref a) (PyData.tuple [(PyData.tuple [(PyData.int 1), (PyData.int 2)]), (PyData.tuple [(PyData.int 1), (PyData.int 2)]), (PyData.tuple [(PyData.int 1), (PyData.int 2)]), (PyData.tuple [(PyData.int 1), (PyData.int 2)]), (PyData.tuple [(PyData.int 0), (PyData.int 1)])])
  g_MOST_ARMS : ∃ t, mg "MOST_ARMS" = some (.int (3) t)
  g_MOST_RESULTS : ∃ t, mg "MOST_RESULTS" = some (.int (3) t)
  g_MOST_SAMPLES : ∃ t, mg "MOST_SAMPLES" = some (.int (4) t)
  g_MOST_STATES : ∃ t, mg "MOST_STATES" = some (.int (8) t)
  g_MOST_STEPS : ∃ t, mg "MOST_STEPS" = some (.int (4) t)
  g_MOST_STUFFS : ∃ t, mg "MOST_STUFFS" = some (.int (8) t)
  g_MOST_TICKS : ∃ t, mg "MOST_TICKS" = some (.int (6) t)
  g_MOST_TOOLS : ∃ t, mg "MOST_TOOLS" = some (.int (3) t)
  g_MOST_WASHES : ∃ t, mg "MOST_WASHES" = some (.int (3) t)
  g_MOST_WINDOW : ∃ t, mg "MOST_WINDOW" = some (.int (6) t)
  g_MOST_ZONES : ∃ t, mg "MOST_ZONES" = some (.int (4) t)
  g_SPANS : ∃ a, mg "SPANS" = some (.ref a) ∧ ∀ S, Dq K S (.ref a) (PyData.tuple [(PyData.tuple [(PyData.int 1), (PyData.int 1)]), (PyData.tuple [(PyData.int 1), (PyData.int 2)]), (PyData.tuple [(PyData.int 2), (PyData.int 2)])])
  h_is_whole : Has K mg "is_whole" s_is_whole ["value"]
  h_is_within : Has K mg "is_within" s_is_within ["value", "low", "high"]
  h_is_tuple_of : Has K mg "is_tuple_of" s_is_tuple_of ["value", "many"]
  h_is_shape : Has K mg "is_shape" s_is_shape ["value"]
  h_need_shape : Has K mg "need_shape" s_need_shape ["shape"]
  h_lab_choices : Has K mg "lab_choices" s_lab_choices ["shape"]
  h_spans_of : Has K mg "spans_of" s_spans_of ["shape"]
  h_step_choices : Has K mg "step_choices" s_step_choices ["shape", "is_first"]
  h_choices_of : Has K mg "choices_of" s_choices_of ["shape"]
  h_free_count : Has K mg "free_count" s_free_count ["shape"]
  h_tiny_count : Has K mg "tiny_count" s_tiny_count ["shape"]
  h_lab_of : Has K mg "lab_of" s_lab_of ["shape", "picks"]
  h_sample_of : Has K mg "sample_of" s_sample_of ["picks", "many"]
  h_task_of : Has K mg "task_of" s_task_of ["shape", "picks"]
  h_free_task : Has K mg "free_task" s_free_task ["shape", "number"]
  h_tiny_task : Has K mg "tiny_task" s_tiny_task ["shape", "number"]
  h_picks_of : Has K mg "picks_of" s_picks_of ["shape", "task"]
  h_has_sizes : Has K mg "has_sizes" s_has_sizes ["shape", "task"]
  h_free_number : Has K mg "free_number" s_free_number ["shape", "task"]
  h_is_tuple_to : Has K mg "is_tuple_to" s_is_tuple_to ["value", "low", "high"]
  h_first_descent : Has K mg "first_descent" s_first_descent ["value", "limit"]
  h_meets_fault : Has K mg "meets_fault" s_meets_fault ["meets"]
  h_wash_fault : Has K mg "wash_fault" s_wash_fault ["wash", "states"]
  h_lab_fault : Has K mg "lab_fault" s_lab_fault ["value"]
  h_step_fault : Has K mg "step_fault" s_step_fault ["lab", "step"]
  h_sample_fault : Has K mg "sample_fault" s_sample_fault ["lab", "sample"]
  h_task_fault : Has K mg "task_fault" s_task_fault ["value"]
  h_need_task : Has K mg "need_task" s_need_task ["task"]
  h_tiny_number : Has K mg "tiny_number" s_tiny_number ["shape", "task"]
  h__law_mixed : Has K mg "_law_mixed" s__law_mixed ["cell", "n"]
  h__law_folded : Has K mg "_law_folded" s__law_folded ["script"]
  h__law_draw : Has K mg "_law_draw" s__law_draw ["m", "limit"]
  h__law_begun : Has K mg "_law_begun" s__law_begun ["script"]
  h__law_like : Has K mg "_law_like" s__law_like ["got", "due"]
  h__law_of : Has K mg "_law_of" s__law_of ["m", "some"]
  h__law_tiny_spans : Has K mg "_law_tiny_spans" s__law_tiny_spans ["shape"]
  h__law_tiny_rows : Has K mg "_law_tiny_rows" s__law_tiny_rows ["shape"]
  h__law_tiny_count : Has K mg "_law_tiny_count" s__law_tiny_count ["shape"]
  h__law_tiny_task : Has K mg "_law_tiny_task" s__law_tiny_task ["shape", "number"]
  h__law_shape : Has K mg "_law_shape" s__law_shape ["m"]
  h__law_item : Has K mg "_law_item" s__law_item ["row", "place", "thing"]
  h__law_step_with : Has K mg "_law_step_with" s__law_step_with ["task", "sample", "step", "thing"]
  h__law_window_with : Has K mg "_law_window_with" s__law_window_with ["task", "sample", "step", "window"]
  h__law_wash_with : Has K mg "_law_wash_with" s__law_wash_with ["task", "wash", "thing"]
  h__law_arms : Has K mg "_law_arms" s__law_arms ["task", "arms"]
  h__law_bent_more : Has K mg "_law_bent_more" s__law_bent_more ["m", "shape", "task", "kind"]
  h__law_bent : Has K mg "_law_bent" s__law_bent ["m", "shape", "task"]
  h_law : Has K mg "law" s_law ["script"]
section
variable {P : Program} {w : World} {K : Frag} {mg : Str → Option Value} {base : Heap}
def F_is_whole : M Unit Out := (retM (andV (isiM "int" (nameM 0)) (notV (isiM "bool" (nameM 0)))))
def m_is_whole : List D → Option D := runP2 1 1 F_is_whole
theorem d_is_whole (T : Top K mg) : DefQ P w K mg base 1 "is_whole" ["value"] m_is_whole :=
  Has.pure (N := ["value"]) T.h_is_whole ⟨rfl, rfl, rfl, by decide +kernel, rfl, by decide +kernel, by decide +kernel⟩ rfl rfl fun A B ok =>
    (DSs.one (DS.ret (DO.and (DO.isi (by decide) (nm 0) rfl T.n_isinstance rfl T.n_int rfl) (DO.one (DO.not (DO.isi (by decide) (nm 0) rfl T.n_isinstance rfl T.n_bool rfl))))))
def F_is_within : M Unit Out := (retM (andV (callP m_is_whole (consD (nameM 0) nilM)) (chainM leD leD (nameM 1) (nameM 0) (nameM 2))))
def m_is_within : List D → Option D := runP2 3 3 F_is_within
theorem d_is_within (T : Top K mg) : DefQ P w K mg base 2 "is_within" ["value", "low", "high"] m_is_within :=
  Has.pure (N := ["value", "low", "high"]) T.h_is_within ⟨rfl, rfl, rfl, by decide +kernel, rfl, by decide +kernel, by decide +kernel⟩ rfl rfl fun A B ok =>
    (DSs.one (DS.ret (DO.and (DO.callQ (d_is_whole T) ok (by decide) (DV.cons (nm 0) DV.nil)) (DO.one (DO.chain od_le od_le (nm 1) (nm 0) (nm 2))))))
def F_is_tuple_of : M Unit Out := (retM (andV (isiM "tuple" (nameM 0)) (op2 eqD (callM lenD (consO (nameM 0) nilM)) (nameM 1))))
def m_is_tuple_of : List D → Option D := runP2 2 2 F_is_tuple_of
theorem d_is_tuple_of (T : Top K mg) : DefQ P w K mg base 1 "is_tuple_of" ["value", "many"] m_is_tuple_of :=
  Has.pure (N := ["value", "many"]) T.h_is_tuple_of ⟨rfl, rfl, rfl, by decide +kernel, rfl, by decide +kernel, by decide +kernel⟩ rfl rfl fun A B ok =>
    (DSs.one (DS.ret (DO.and (DO.isi (by decide) (nm 0) rfl T.n_isinstance rfl T.n_tuple rfl) (DO.one (DO.cmp (od_eq ok) (DO.callB cd_len rfl T.n_len rfl (DA.cons (nm 0) DA.nil)) (nm 1) rfl)))))
def F_is_shape : M Unit Out := (seqM (ifM (orT (notT (bnd (callP m_is_tuple_of (consD (nameM 0) (consD (ret (.val (PyData.int 8))) nilM))) boolO)) (notT (bnd (callM allD (consO (lcM [1, 2, 3] (enumM (ret (.val (PyData.tuple [(PyData.tuple [(PyData.int 1), (PyData.int 2)]), (PyData.tuple [(PyData.int 1), (PyData.int 2)]), (PyData.tuple [(PyData.int 1), (PyData.int 2)]), (PyData.tuple [(PyData.int 1), (PyData.int 2)]), (PyData.tuple [(PyData.int 0), (PyData.int 1)])])))) (tupG 2 (gsCons (setM 1) (gsCons (tupG 2 (gsCons (setM 2) (gsCons (setM 3) gsNil))) gsNil))) (ret true) (callP m_is_within (consD (op2 ixD (nameM 0) (nameM 1)) (consD (nameM 2) (consD (nameM 3) nilM))))) nilM)) boolO))) (retM (ret (.val (PyData.bool false)))) (ret .nx)) (seqM (asgM 4 (op2 ixD (nameM 0) (ret (.val (PyData.int 5))))) (seqM (ifM (orT (notT (bnd (isiM "tuple" (nameM 4)) boolO)) (orT (bnd (op2 notInD (callM lenD (consO (nameM 4) nilM)) (tupM (consD (ret (.val (PyData.int 1))) (consD (ret (.val (PyData.int 2))) nilM)))) boolO) (notT (bnd (callM allD (consO (lcM [5] (iterM (nameM 4)) (setM 5) (ret true) (callP m_is_within (consD (nameM 5) (consD (ret (.val (PyData.int 1))) (consD (ret (.val (PyData.int 2))) nilM))))) nilM)) boolO)))) (retM (ret (.val (PyData.bool false)))) (ret .nx)) (retM (andV (callP m_is_within (consD (op2 ixD (nameM 0) (ret (.val (PyData.int 6)))) (consD (ret (.val (PyData.int 1))) (consD (ret (.val (PyData.int 2))) nilM)))) (callP m_is_within (consD (op2 ixD (nameM 0) (ret (.val (PyData.int 7)))) (consD (negM (ret (.val (PyData.int 1)))) (consD (ret (.val (PyData.int 2))) nilM)))))))))
def m_is_shape : List D → Option D := runP2 1 6 F_is_shape
theorem d_is_shape (T : Top K mg) : DefQ P w K mg base 3 "is_shape" ["value"] m_is_shape :=
  Has.pure (N := ["value", "n", "low", "high", "steps", "many"]) T.h_is_shape ⟨rfl, rfl, rfl, by decide +kernel, rfl, by decide +kernel, by decide +kernel⟩ rfl rfl fun A B ok =>
    (DSs.cons (DS.if_ (DW.pt (DW.or (DT.not (DT.val (DO.callQ (d_is_tuple_of T) ok (by decide) (DV.cons (nm 0) (DV.cons DO.int DV.nil))))) (DW.or1 (DT.not (DT.val (DO.callB cd_all rfl T.n_all rfl (DA.cons (DO.lc (own := [("n", 1), ("low", 2), ("high", 3)]) ok.nd (DI.enum (gd T.g_BOUNDS) rfl T.n_enumerate) (blkOk_by (by dsimp only [Gam.blk]; decide +kernel)) (DG.tup (DGs.cons (DG.name (i := 1) ok.blk.nd rfl (by first | exact Or.inl rfl | exact Or.inr rfl) (by first | exact Or.inl rfl | exact Or.inr rfl)) (DGs.cons (DG.tup (DGs.cons (DG.name (i := 2) ok.blk.nd rfl (by first | exact Or.inl rfl | exact Or.inr rfl) (by first | exact Or.inl rfl | exact Or.inr rfl)) (DGs.cons (DG.name (i := 3) ok.blk.nd rfl (by first | exact Or.inl rfl | exact Or.inr rfl) (by first | exact Or.inl rfl | exact Or.inr rfl)) DGs.nil))) DGs.nil))) (by decide) DTs.nil (DO.callQ (d_is_within T) ok.blk (by decide) (DV.cons (DO.ix od_ix (nm 0) (nm 1)) (DV.cons (nm 2) (DV.cons (nm 3) DV.nil))))) DA.nil))))))) (DSs.one (DS.ret DO.bl)) DSs.nil) (DSs.cons (DS.set (i := 4) ok.nd rfl (by first | exact Or.inl rfl | exact Or.inr rfl) (Or.inl rfl) (DO.ix od_ix (nm 0) DO.int)) (DSs.cons (DS.if_ (DW.pt (DW.or (DT.not (DT.val (DO.isi (by decide) (nm 4) rfl T.n_isinstance rfl T.n_tuple rfl))) (DW.or (DT.cmp (od_notIn ok) (DO.callB cd_len rfl T.n_len rfl (DA.cons (nm 4) DA.nil)) (DO.tup (DV.cons DO.int (DV.cons DO.int DV.nil))) rfl) (DW.or1 (DT.not (DT.val (DO.callB cd_all rfl T.n_all rfl (DA.cons (DO.lc (own := [("many", 5)]) ok.nd (DI.seq (nm 4)) (blkOk_by (by dsimp only [Gam.blk]; decide +kernel)) (DG.name (i := 5) ok.blk.nd rfl (by first | exact Or.inl rfl | exact Or.inr rfl) (by first | exact Or.inl rfl | exact Or.inr rfl)) (by decide) DTs.nil (DO.callQ (d_is_within T) ok.blk (by decide) (DV.cons (nm 5) (DV.cons DO.int (DV.cons DO.int DV.nil))))) DA.nil)))))))) (DSs.one (DS.ret DO.bl)) DSs.nil) (DSs.one (DS.ret (DO.and (DO.callQ (d_is_within T) ok (by decide) (DV.cons (DO.ix od_ix (nm 0) DO.int) (DV.cons DO.int (DV.cons DO.int DV.nil)))) (DO.one (DO.callQ (d_is_within T) ok (by decide) (DV.cons (DO.ix od_ix (nm 0) DO.int) (DV.cons (DO.neg DO.int) (DV.cons DO.int DV.nil)))))))))))
def F_need_shape : M Unit Out := (seqM (ifM (notT (bnd (callP m_is_shape (consD (nameM 0) nilM)) boolO)) stuck (ret .nx)) (retM (nameM 0)))
def m_need_shape : List D → Option D := runP2 1 1 F_need_shape
theorem d_need_shape (T : Top K mg) : DefQ P w K mg base 4 "need_shape" ["shape"] m_need_shape :=
  Has.pure (N := ["shape"]) T.h_need_shape ⟨rfl, rfl, rfl, by decide +kernel, rfl, by decide +kernel, by decide +kernel⟩ rfl rfl fun A B ok =>
    (DSs.cons (DS.if_ (DT.not (DT.val (DO.callQ (d_is_shape T) ok (by decide) (DV.cons (nm 0) DV.nil)))) (DSs.one DS.never) DSs.nil) (DSs.one (DS.ret (nm 0))))
def F_spans_of : M Unit Out := (retM (lcM [1] (iterM (ret (.val (PyData.tuple [(PyData.tuple [(PyData.int 1), (PyData.int 1)]), (PyData.tuple [(PyData.int 1), (PyData.int 2)]), (PyData.tuple [(PyData.int 2), (PyData.int 2)])])))) (setM 1) (bnd (op2 leD (op2 ixD (nameM 1) (ret (.val (PyData.int 1)))) (op2 ixD (nameM 0) (ret (.val (PyData.int 6))))) boolO) (nameM 1)))
def m_spans_of : List D → Option D := runP2 1 2 F_spans_of
theorem d_spans_of (T : Top K mg) : DefQ P w K mg base 1 "spans_of" ["shape"] m_spans_of :=
  Has.pure (N := ["shape", "span"]) T.h_spans_of ⟨rfl, rfl, rfl, by decide +kernel, rfl, by decide +kernel, by decide +kernel⟩ rfl rfl fun A B ok =>
    (DSs.one (DS.ret (DO.lc (own := [("span", 1)]) ok.nd (DI.seq (gd T.g_SPANS)) (blkOk_by (by dsimp only [Gam.blk]; decide +kernel)) (DG.name (i := 1) ok.blk.nd rfl (by first | exact Or.inl rfl | exact Or.inr rfl) (by first | exact Or.inl rfl | exact Or.inr rfl)) (by decide) (DTs.one (DT.cmp od_le (DO.ix od_ix (nm 1) DO.int) (DO.ix od_ix (nm 0) DO.int) rfl)) (nm 1))))
def F_lab_choices : M Unit Out := (seqM (parM [1, 2] (consN (op2 ixD (nameM 0) (ret (.val (PyData.int 0)))) (consN (op2 ixD (nameM 0) (ret (.val (PyData.int 1)))) nilM))) (seqM (asgM 3 (lcM [4] (rangeM (consO (nameM 1) nilM)) (setM 4) (ret true) (listRgM (consO (nameM 2) nilM)))) (seqM (loopM (rangeM (consO (ret (.val (PyData.int 1))) (consO (nameM 2) nilM))) (setM 5) (bnd (ownAt 3) fun _ => extM 3 (lcM [4] (rangeM (consO (nameM 1) nilM)) (setM 4) (ret true) (op2 addD (lstM (consD (ret (.val PyData.none)) nilM)) (listRgM (consO (nameM 2) nilM)))))) (seqM (bnd (ownAt 3) fun _ => extM 3 (lcM [5] (rangeM (consO (ret (.val (PyData.int 1))) (consO (nameM 2) nilM))) (setM 5) (ret true) (lstM (consD (tupM (consD (ret (.val (PyData.int 0))) nilM)) (consD (tupM (consD (ret (.val (PyData.int 0))) (consD (ret (.val (PyData.int 1))) nilM))) nilM))))) (retF (op2 addD (nameM 3) (lstM (consD (callP m_spans_of (consD (nameM 0) nilM)) nilM))))))))
def m_lab_choices : List D → Option (List D) := runN 1 6 F_lab_choices
theorem d_lab_choices (T : Top K mg) : DefN P w K mg base 2 "lab_choices" ["shape"] m_lab_choices :=
  Has.fresh (N := ["shape", "stuffs", "states", "found", "stuff", "state"]) T.h_lab_choices ⟨rfl, rfl, rfl, by decide +kernel, rfl, by decide +kernel, by decide +kernel⟩ rfl rfl fun A B ok =>
    (DSs.cons (DS.unpN (DN.cons (DO.ix od_ix (nm 0) DO.int) (DN.cons (DO.ix od_ix (nm 0) DO.int) DN.nil)) (DNm.cons (i := 1) ok.nd rfl (by first | exact Or.inl rfl | exact Or.inr rfl) (Or.inl rfl) (DNm.cons (i := 2) ok.nd rfl (by first | exact Or.inl rfl | exact Or.inr rfl) (Or.inl rfl) DNm.nil)) (by decide) (hw := (fun X h => by unfold swappedStores Env.blockKind Env.kindOf; rw [h.sc]; rfl))) (DSs.cons (DS.setLc (i := 3) (own := [("stuff", 4)]) ok.nd (fun X h => by rw [h.sc]; rfl) rfl rfl rfl (by decide +kernel) (DI.range1 (DA.cons (nm 1) DA.nil) rfl T.n_range) (blkOk_by (by dsimp only [Gam.blk]; decide +kernel)) (DG.name (i := 4) ok.blk.nd rfl (by first | exact Or.inl rfl | exact Or.inr rfl) (by first | exact Or.inl rfl | exact Or.inr rfl)) (by decide) DTs.nil (DO.listRg1 (nm 2) rfl T.n_list rfl T.n_range)) (DSs.cons (DS.for_ (DI.range2 (DA.cons DO.int (DA.cons (nm 2) DA.nil)) rfl T.n_range) (DG.name (i := 5) ok.nd rfl (by first | exact Or.inl rfl | exact Or.inr rfl) (by first | exact Or.inl rfl | exact Or.inr rfl)) (DSs.one (DS.ext (i := 3) rfl (by first | exact Or.inl rfl | exact Or.inr (Or.inl rfl) | exact Or.inr (Or.inr rfl)) (DO.lc (own := [("stuff", 4)]) ok.nd (DI.range1 (DA.cons (nm 1) DA.nil) rfl T.n_range) (blkOk_by (by dsimp only [Gam.blk]; decide +kernel)) (DG.name (i := 4) ok.blk.nd rfl (by first | exact Or.inl rfl | exact Or.inr rfl) (by first | exact Or.inl rfl | exact Or.inr rfl)) (by decide) DTs.nil (DO.bin od_add (DO.lst (DV.cons DO.non DV.nil)) (DO.listRg1 (nm 2) rfl T.n_list rfl T.n_range)))))) (DSs.cons (DS.ext (i := 3) rfl (by first | exact Or.inl rfl | exact Or.inr (Or.inl rfl) | exact Or.inr (Or.inr rfl)) (DO.lc (own := [("state", 5)]) ok.nd (DI.range2 (DA.cons DO.int (DA.cons (nm 2) DA.nil)) rfl T.n_range) (blkOk_by (by dsimp only [Gam.blk]; decide +kernel)) (DG.name (i := 5) ok.blk.nd rfl (by first | exact Or.inl rfl | exact Or.inr rfl) (by first | exact Or.inl rfl | exact Or.inr rfl)) (by decide) DTs.nil (DO.lst (DV.cons (DO.tup (DV.cons DO.int DV.nil)) (DV.cons (DO.tup (DV.cons DO.int (DV.cons DO.int DV.nil))) DV.nil))))) (DSs.one (DS.retF (DO.bin od_add (nm 3) (DO.lst (DV.cons (DO.callQ (d_spans_of T) ok (by decide) (DV.cons (nm 0) DV.nil)) DV.nil)))))))))
def F_step_choices : M Unit Out := (seqM (asgM 2 (iteM (bnd (op2 eqD (op2 ixD (nameM 0) (ret (.val (PyData.int 2)))) (ret (.val (PyData.int 1)))) boolO) (lstM (consD (tupM (consD (ret (.val (PyData.int 0))) nilM)) nilM)) (lstM (consD (tupM (consD (ret (.val (PyData.int 0))) nilM)) (consD (tupM (consD (ret (.val (PyData.int 0))) (consD (ret (.val (PyData.int 1))) nilM))) (consD (tupM (consD (ret (.val (PyData.int 1))) nilM)) nilM)))))) (seqM (asgM 3 (iteM (bnd (op2 eqD (op2 ixD (nameM 0) (ret (.val (PyData.int 4)))) (ret (.val (PyData.int 0)))) boolO) (lstM (consD (tupM nilM) nilM)) (lstM (consD (tupM nilM) (consD (tupM (consD (ret (.val (PyData.int 0))) nilM)) nilM))))) (seqM (asgM 4 (lstM (consD (listRgM (consO (op2 ixD (nameM 0) (ret (.val (PyData.int 0)))) nilM)) (consD (nameM 2) (consD (nameM 3) (consD (callP m_spans_of (consD (nameM 0) nilM)) nilM)))))) (retM (iteM (bnd (nameM 1) boolO) (nameM 4) (op2 addD (nameM 4) (lstM (consD (op2 addD (lstM (consD (ret (.val PyData.none)) nilM)) (listRgM (consO (op2 addD (op2 ixD (nameM 0) (ret (.val (PyData.int 7)))) (ret (.val (PyData.int 1)))) nilM))) nilM))))))))
def m_step_choices : List D → Option D := runP2 2 5 F_step_choices
theorem d_step_choices (T : Top K mg) : DefQ P w K mg base 2 "step_choices" ["shape", "is_first"] m_step_choices :=
  Has.pure (N := ["shape", "is_first", "tools", "zones", "found"]) T.h_step_choices ⟨rfl, rfl, rfl, by decide +kernel, rfl, by decide +kernel, by decide +kernel⟩ rfl rfl fun A B ok =>
    (DSs.cons (DS.set (i := 2) ok.nd rfl (by first | exact Or.inl rfl | exact Or.inr rfl) (Or.inl rfl) (DO.ite (DT.cmp (od_eq ok) (DO.ix od_ix (nm 0) DO.int) DO.int rfl) (DO.lst (DV.cons (DO.tup (DV.cons DO.int DV.nil)) DV.nil)) (DO.lst (DV.cons (DO.tup (DV.cons DO.int DV.nil)) (DV.cons (DO.tup (DV.cons DO.int (DV.cons DO.int DV.nil))) (DV.cons (DO.tup (DV.cons DO.int DV.nil)) DV.nil)))))) (DSs.cons (DS.set (i := 3) ok.nd rfl (by first | exact Or.inl rfl | exact Or.inr rfl) (Or.inl rfl) (DO.ite (DT.cmp (od_eq ok) (DO.ix od_ix (nm 0) DO.int) DO.int rfl) (DO.lst (DV.cons (DO.tup DV.nil) DV.nil)) (DO.lst (DV.cons (DO.tup DV.nil) (DV.cons (DO.tup (DV.cons DO.int DV.nil)) DV.nil))))) (DSs.cons (DS.set (i := 4) ok.nd rfl (by first | exact Or.inl rfl | exact Or.inr rfl) (Or.inl rfl) (DO.lst (DV.cons (DO.listRg1 (DO.ix od_ix (nm 0) DO.int) rfl T.n_list rfl T.n_range) (DV.cons (nm 2) (DV.cons (nm 3) (DV.cons (DO.callQ (d_spans_of T) ok (by decide) (DV.cons (nm 0) DV.nil)) DV.nil)))))) (DSs.one (DS.ret (DO.ite (DT.val (nm 1)) (nm 4) (DO.bin od_add (nm 4) (DO.lst (DV.cons (DO.bin od_add (DO.lst (DV.cons DO.non DV.nil)) (DO.listRg1 (DO.bin od_add (DO.ix od_ix (nm 0) DO.int) DO.int) rfl T.n_list rfl T.n_range)) DV.nil)))))))))
def F_choices_of : M Unit Out := (seqM (asgM 1 (callN m_lab_choices (consD (nameM 0) nilM))) (seqM (loopM (iterM (op2 ixD (nameM 0) (ret (.val (PyData.int 5))))) (setM 2) (loopM (rangeM (consO (nameM 2) nilM)) (setM 3) (bnd (ownAt 1) fun _ => extM 1 (callP m_step_choices (consD (nameM 0) (consD (op2 eqD (nameM 3) (ret (.val (PyData.int 0)))) nilM)))))) (retM (nameM 1))))
def m_choices_of : List D → Option D := runP2 1 4 F_choices_of
theorem d_choices_of (T : Top K mg) : DefQ P w K mg base 3 "choices_of" ["shape"] m_choices_of :=
  Has.pure (N := ["shape", "found", "many", "step"]) T.h_choices_of ⟨rfl, rfl, rfl, by decide +kernel, rfl, by decide +kernel, by decide +kernel⟩ rfl rfl fun A B ok =>
    (DSs.cons (DS.set (i := 1) ok.nd rfl (by first | exact Or.inl rfl | exact Or.inr rfl) (Or.inl rfl) (DO.callN (d_lab_choices T) ok (by decide) (DV.cons (nm 0) DV.nil))) (DSs.cons (DS.for_ (DI.seq (DO.ix od_ix (nm 0) DO.int)) (DG.name (i := 2) ok.nd rfl (by first | exact Or.inl rfl | exact Or.inr rfl) (by first | exact Or.inl rfl | exact Or.inr rfl)) (DSs.one (DS.for_ (DI.range1 (DA.cons (nm 2) DA.nil) rfl T.n_range) (DG.name (i := 3) ok.nd rfl (by first | exact Or.inl rfl | exact Or.inr rfl) (by first | exact Or.inl rfl | exact Or.inr rfl)) (DSs.one (DS.ext (i := 1) rfl (by first | exact Or.inl rfl | exact Or.inr (Or.inl rfl) | exact Or.inr (Or.inr rfl)) (DO.callQ (d_step_choices T) ok (by decide) (DV.cons (nm 0) (DV.cons (DO.cmp (od_eq ok) (nm 3) DO.int rfl) DV.nil)))))))) (DSs.one (DS.ret (nm 1)))))
def F_free_count : M Unit Out := (seqM (asgM 1 (ret (.val (PyData.int 1)))) (seqM (loopM (iterM (callP m_choices_of (consD (nameM 0) nilM))) (setM 2) (augM 1 (opI mulOk1 fun i j => .int (i * j)) (callM lenD (consO (nameM 2) nilM)))) (retM (nameM 1))))
def m_free_count : List D → Option D := runP2 1 3 F_free_count
theorem d_free_count (T : Top K mg) : DefQ P w K mg base 4 "free_count" ["shape"] m_free_count :=
  Has.pure (N := ["shape", "count", "row"]) T.h_free_count ⟨rfl, rfl, rfl, by decide +kernel, rfl, by decide +kernel, by decide +kernel⟩ rfl rfl fun A B ok =>
    (DSs.cons (DS.set (i := 1) ok.nd rfl (by first | exact Or.inl rfl | exact Or.inr rfl) (Or.inl rfl) DO.int) (DSs.cons (DS.for_ (DI.seq (DO.callQ (d_choices_of T) ok (by decide) (DV.cons (nm 0) DV.nil))) (DG.name (i := 2) ok.nd rfl (by first | exact Or.inl rfl | exact Or.inr rfl) (by first | exact Or.inl rfl | exact Or.inr rfl)) (DSs.one (DS.aug (i := 1) oi_mul ok.nd rfl (by first | exact Or.inl rfl | exact Or.inr rfl) (Or.inl rfl) (DO.callB cd_len rfl T.n_len rfl (DA.cons (nm 2) DA.nil))))) (DSs.one (DS.ret (nm 1)))))
def F_tiny_count : M Unit Out := (retM (callP m_free_count (consD (callP m_need_shape (consD (nameM 0) nilM)) nilM)))
def m_tiny_count : List D → Option D := runP2 1 1 F_tiny_count
theorem d_tiny_count (T : Top K mg) : DefQ P w K mg base 5 "tiny_count" ["shape"] m_tiny_count :=
  Has.pure (N := ["shape"]) T.h_tiny_count ⟨rfl, rfl, rfl, by decide +kernel, rfl, by decide +kernel, by decide +kernel⟩ rfl rfl fun A B ok =>
    (DSs.one (DS.ret (DO.callQ (d_free_count T) ok (by decide) (DV.cons (DO.callQ (d_need_shape T) ok (by decide) (DV.cons (nm 0) DV.nil)) DV.nil))))
def F_lab_of : M Unit Out := (seqM (parM [2, 3] (consN (op2 ixD (nameM 0) (ret (.val (PyData.int 0)))) (consN (op2 ixD (nameM 0) (ret (.val (PyData.int 1)))) nilM))) (seqM (asgM 4 (callM tupleD (consO (lcM [5] (rangeM (consO (nameM 3) nilM)) (setM 5) (ret true) (callM tupleD (consO (sliceM slD (nameM 1) (bnd (op2 mulD (nameM 5) (nameM 2)) intO) (bnd (op2 addD (op2 mulD (nameM 5) (nameM 2)) (nameM 2)) intO)) nilM))) nilM))) (seqM (asgM 6 (op2 mulD (nameM 2) (nameM 3))) (seqM (asgM 7 (op2 addD (tupM (consD (tupM (consD (ret (.val (PyData.int 0))) nilM)) nilM)) (callM tupleD (consO (sliceM slD (nameM 1) (bnd (nameM 6) intO) (bnd (op2 subD (op2 addD (nameM 6) (nameM 3)) (ret (.val (PyData.int 1)))) intO)) nilM)))) (seqM (augM 6 (opI (fun _ _ => true) fun i j => .int (i + j)) (op2 subD (nameM 3) (ret (.val (PyData.int 1))))) (seqM (asgM 8 (op2 addD (tupM (consD (nameM 7) nilM)) (op2 ixD (nameM 1) (nameM 6)))) (retM (tupM (consD (tupM (consD (nameM 4) (consD (tupM (consD (nameM 8) nilM)) (consD (op2 ixD (nameM 0) (ret (.val (PyData.int 2)))) (consD (op2 ixD (nameM 0) (ret (.val (PyData.int 3)))) (consD (op2 ixD (nameM 0) (ret (.val (PyData.int 4)))) nilM)))))) (consD (op2 addD (nameM 6) (ret (.val (PyData.int 1)))) nilM))))))))))
def m_lab_of : List D → Option D := runP2 2 9 F_lab_of
theorem d_lab_of (T : Top K mg) : DefQ P w K mg base 1 "lab_of" ["shape", "picks"] m_lab_of :=
  Has.pure (N := ["shape", "picks", "stuffs", "states", "meets", "state", "place", "leaves", "wash"]) T.h_lab_of ⟨rfl, rfl, rfl, by decide +kernel, rfl, by decide +kernel, by decide +kernel⟩ rfl rfl fun A B ok =>
    (DSs.cons (DS.unpN (DN.cons (DO.ix od_ix (nm 0) DO.int) (DN.cons (DO.ix od_ix (nm 0) DO.int) DN.nil)) (DNm.cons (i := 2) ok.nd rfl (by first | exact Or.inl rfl | exact Or.inr rfl) (Or.inl rfl) (DNm.cons (i := 3) ok.nd rfl (by first | exact Or.inl rfl | exact Or.inr rfl) (Or.inl rfl) DNm.nil)) (by decide) (hw := (fun X h => by unfold swappedStores Env.blockKind Env.kindOf; rw [h.sc]; rfl))) (DSs.cons (DS.set (i := 4) ok.nd rfl (by first | exact Or.inl rfl | exact Or.inr rfl) (Or.inl rfl) (DO.callTy cd_tuple rfl T.n_tuple rfl (DA.cons (DO.lc (own := [("state", 5)]) ok.nd (DI.range1 (DA.cons (nm 3) DA.nil) rfl T.n_range) (blkOk_by (by dsimp only [Gam.blk]; decide +kernel)) (DG.name (i := 5) ok.blk.nd rfl (by first | exact Or.inl rfl | exact Or.inr rfl) (by first | exact Or.inl rfl | exact Or.inr rfl)) (by decide) DTs.nil (DO.callTy cd_tuple rfl T.n_tuple rfl (DA.cons (DO.slice od_sl (nm 1) (DP.some (DO.bin od_mul (nm 5) (nm 2))) (DP.some (DO.bin od_add (DO.bin od_mul (nm 5) (nm 2)) (nm 2)))) DA.nil))) DA.nil))) (DSs.cons (DS.set (i := 6) ok.nd rfl (by first | exact Or.inl rfl | exact Or.inr rfl) (Or.inl rfl) (DO.bin od_mul (nm 2) (nm 3))) (DSs.cons (DS.set (i := 7) ok.nd rfl (by first | exact Or.inl rfl | exact Or.inr rfl) (Or.inl rfl) (DO.bin od_add (DO.tup (DV.cons (DO.tup (DV.cons DO.int DV.nil)) DV.nil)) (DO.callTy cd_tuple rfl T.n_tuple rfl (DA.cons (DO.slice od_sl (nm 1) (DP.some (nm 6)) (DP.some (DO.bin od_sub (DO.bin od_add (nm 6) (nm 3)) DO.int))) DA.nil)))) (DSs.cons (DS.aug (i := 6) oi_add ok.nd rfl (by first | exact Or.inl rfl | exact Or.inr rfl) (Or.inl rfl) (DO.bin od_sub (nm 3) DO.int)) (DSs.cons (DS.set (i := 8) ok.nd rfl (by first | exact Or.inl rfl | exact Or.inr rfl) (Or.inl rfl) (DO.bin od_add (DO.tup (DV.cons (nm 7) DV.nil)) (DO.ix od_ix (nm 1) (nm 6)))) (DSs.one (DS.ret (DO.tup (DV.cons (DO.tup (DV.cons (nm 4) (DV.cons (DO.tup (DV.cons (nm 8) DV.nil)) (DV.cons (DO.ix od_ix (nm 0) DO.int) (DV.cons (DO.ix od_ix (nm 0) DO.int) (DV.cons (DO.ix od_ix (nm 0) DO.int) DV.nil)))))) (DV.cons (DO.bin od_add (nm 6) DO.int) DV.nil)))))))))))
def F_sample_of : M Unit Out := (seqM (parM [2, 3, 4] (consN (lstM nilM) (consN (lstM nilM) (consN (ret (.val (PyData.int 0))) nilM)))) (seqM (loopM (rangeM (consO (nameM 1) nilM)) (setM 5) (seqM (bnd (ownAt 2) fun _ => appM 2 (op2 addD (callM tupleD (consO (sliceM slD (nameM 0) (bnd (nameM 4) intO) (bnd (op2 addD (nameM 4) (ret (.val (PyData.int 3)))) intO)) nilM)) (op2 ixD (nameM 0) (op2 addD (nameM 4) (ret (.val (PyData.int 3))))))) (seqM (bnd (ownAt 3) fun _ => appM 3 (iteM (bnd (op2 eqD (nameM 5) (ret (.val (PyData.int 0)))) boolO) (ret (.val PyData.none)) (op2 ixD (nameM 0) (op2 addD (nameM 4) (ret (.val (PyData.int 4))))))) (augM 4 (opI (fun _ _ => true) fun i j => .int (i + j)) (iteM (bnd (op2 eqD (nameM 5) (ret (.val (PyData.int 0)))) boolO) (ret (.val (PyData.int 4))) (ret (.val (PyData.int 5)))))))) (retM (tupM (consD (tupM (consD (callM tupleD (consO (nameM 2) nilM)) (consD (callM tupleD (consO (nameM 3) nilM)) nilM))) (consD (nameM 4) nilM))))))
def m_sample_of : List D → Option D := runP2 2 6 F_sample_of
theorem d_sample_of (T : Top K mg) : DefQ P w K mg base 1 "sample_of" ["picks", "many"] m_sample_of :=
  Has.pure (N := ["picks", "many", "steps", "windows", "place", "step"]) T.h_sample_of ⟨rfl, rfl, rfl, by decide +kernel, rfl, by decide +kernel, by decide +kernel⟩ rfl rfl fun A B ok =>
    (DSs.cons (DS.par3 (i := 2) (j := 3) (l := 4) ok.nd rfl rfl rfl (by decide) (by decide) (by decide) rfl rfl rfl (DN.cons (DO.lst DV.nil) (DN.cons (DO.lst DV.nil) (DN.cons DO.int DN.nil))) (fun X h => by unfold swappedStores Env.blockKind Env.kindOf; rw [h.sc]; rfl)) (DSs.cons (DS.for_ (DI.range1 (DA.cons (nm 1) DA.nil) rfl T.n_range) (DG.name (i := 5) ok.nd rfl (by first | exact Or.inl rfl | exact Or.inr rfl) (by first | exact Or.inl rfl | exact Or.inr rfl)) (DSs.cons (DS.app (i := 2) rfl (by first | exact Or.inl rfl | exact Or.inr (Or.inl rfl) | exact Or.inr (Or.inr rfl)) (DO.bin od_add (DO.callTy cd_tuple rfl T.n_tuple rfl (DA.cons (DO.slice od_sl (nm 0) (DP.some (nm 4)) (DP.some (DO.bin od_add (nm 4) DO.int))) DA.nil)) (DO.ix od_ix (nm 0) (DO.bin od_add (nm 4) DO.int)))) (DSs.cons (DS.app (i := 3) rfl (by first | exact Or.inl rfl | exact Or.inr (Or.inl rfl) | exact Or.inr (Or.inr rfl)) (DO.ite (DT.cmp (od_eq ok) (nm 5) DO.int rfl) DO.non (DO.ix od_ix (nm 0) (DO.bin od_add (nm 4) DO.int)))) (DSs.one (DS.aug (i := 4) oi_add ok.nd rfl (by first | exact Or.inl rfl | exact Or.inr rfl) (Or.inl rfl) (DO.ite (DT.cmp (od_eq ok) (nm 5) DO.int rfl) DO.int DO.int)))))) (DSs.one (DS.ret (DO.tup (DV.cons (DO.tup (DV.cons (DO.callTy cd_tuple rfl T.n_tuple rfl (DA.cons (nm 2) DA.nil)) (DV.cons (DO.callTy cd_tuple rfl T.n_tuple rfl (DA.cons (nm 3) DA.nil)) DV.nil))) (DV.cons (nm 4) DV.nil)))))))
def F_task_of : M Unit Out := (seqM (unpM (callP m_lab_of (consD (nameM 0) (consD (nameM 1) nilM))) (tupG 2 (gsCons (setM 2) (gsCons (setM 3) gsNil)))) (seqM (asgM 4 (lstM nilM)) (seqM (loopM (iterM (op2 ixD (nameM 0) (ret (.val (PyData.int 5))))) (setM 5) (seqM (unpM (callP m_sample_of (consD (sliceM slD (nameM 1) (bnd (nameM 3) intO) (ret none)) (consD (nameM 5) nilM))) (tupG 2 (gsCons (setM 6) (gsCons (setM 7) gsNil)))) (seqM (bnd (ownAt 4) fun _ => appM 4 (nameM 6)) (augM 3 (opI (fun _ _ => true) fun i j => .int (i + j)) (nameM 7))))) (retM (tupM (consD (nameM 2) (consD (callM tupleD (consO (nameM 4) nilM)) nilM)))))))
def m_task_of : List D → Option D := runP2 2 8 F_task_of
theorem d_task_of (T : Top K mg) : DefQ P w K mg base 2 "task_of" ["shape", "picks"] m_task_of :=
  Has.pure (N := ["shape", "picks", "lab", "place", "samples", "many", "sample", "size"]) T.h_task_of ⟨rfl, rfl, rfl, by decide +kernel, rfl, by decide +kernel, by decide +kernel⟩ rfl rfl fun A B ok =>
    (DSs.cons (DS.unp (DO.callQ (d_lab_of T) ok (by decide) (DV.cons (nm 0) (DV.cons (nm 1) DV.nil))) (DG.tup (DGs.cons (DG.name (i := 2) ok.nd rfl (by first | exact Or.inl rfl | exact Or.inr rfl) (by first | exact Or.inl rfl | exact Or.inr rfl)) (DGs.cons (DG.name (i := 3) ok.nd rfl (by first | exact Or.inl rfl | exact Or.inr rfl) (by first | exact Or.inl rfl | exact Or.inr rfl)) DGs.nil)))) (DSs.cons (DS.set (i := 4) ok.nd rfl (by first | exact Or.inl rfl | exact Or.inr rfl) (Or.inl rfl) (DO.lst DV.nil)) (DSs.cons (DS.for_ (DI.seq (DO.ix od_ix (nm 0) DO.int)) (DG.name (i := 5) ok.nd rfl (by first | exact Or.inl rfl | exact Or.inr rfl) (by first | exact Or.inl rfl | exact Or.inr rfl)) (DSs.cons (DS.unp (DO.callQ (d_sample_of T) ok (by decide) (DV.cons (DO.slice od_sl (nm 1) (DP.some (nm 3)) DP.none) (DV.cons (nm 5) DV.nil))) (DG.tup (DGs.cons (DG.name (i := 6) ok.nd rfl (by first | exact Or.inl rfl | exact Or.inr rfl) (by first | exact Or.inl rfl | exact Or.inr rfl)) (DGs.cons (DG.name (i := 7) ok.nd rfl (by first | exact Or.inl rfl | exact Or.inr rfl) (by first | exact Or.inl rfl | exact Or.inr rfl)) DGs.nil)))) (DSs.cons (DS.app (i := 4) rfl (by first | exact Or.inl rfl | exact Or.inr (Or.inl rfl) | exact Or.inr (Or.inr rfl)) (nm 6)) (DSs.one (DS.aug (i := 3) oi_add ok.nd rfl (by first | exact Or.inl rfl | exact Or.inr rfl) (Or.inl rfl) (nm 7)))))) (DSs.one (DS.ret (DO.tup (DV.cons (nm 2) (DV.cons (DO.callTy cd_tuple rfl T.n_tuple rfl (DA.cons (nm 4) DA.nil)) DV.nil))))))))
def F_free_task : M Unit Out := (seqM (asgM 2 (lstM nilM)) (seqM (loopM (iterM (revM (callP m_choices_of (consD (nameM 0) nilM)))) (setM 3) (seqM (bnd (ownAt 2) fun _ => appM 2 (op2 ixD (nameM 3) (op2 modD (nameM 1) (callM lenD (consO (nameM 3) nilM))))) (augM 1 fdivD (callM lenD (consO (nameM 3) nilM))))) (retM (callP m_task_of (consD (nameM 0) (consD (revM (nameM 2)) nilM))))))
def m_free_task : List D → Option D := runP2 2 4 F_free_task
theorem d_free_task (T : Top K mg) : DefQ P w K mg base 4 "free_task" ["shape", "number"] m_free_task :=
  Has.pure (N := ["shape", "number", "picks", "row"]) T.h_free_task ⟨rfl, rfl, rfl, by decide +kernel, rfl, by decide +kernel, by decide +kernel⟩ rfl rfl fun A B ok =>
    (DSs.cons (DS.set (i := 2) ok.nd rfl (by first | exact Or.inl rfl | exact Or.inr rfl) (Or.inl rfl) (DO.lst DV.nil)) (DSs.cons (DS.for_ (DI.seq (DO.rev (DO.callQ (d_choices_of T) ok (by decide) (DV.cons (nm 0) DV.nil)))) (DG.name (i := 3) ok.nd rfl (by first | exact Or.inl rfl | exact Or.inr rfl) (by first | exact Or.inl rfl | exact Or.inr rfl)) (DSs.cons (DS.app (i := 2) rfl (by first | exact Or.inl rfl | exact Or.inr (Or.inl rfl) | exact Or.inr (Or.inr rfl)) (DO.ix od_ix (nm 3) (DO.bin od_mod (nm 1) (DO.callB cd_len rfl T.n_len rfl (DA.cons (nm 3) DA.nil))))) (DSs.one (DS.aug (i := 1) oi_fdiv ok.nd rfl (by first | exact Or.inl rfl | exact Or.inr rfl) (Or.inl rfl) (DO.callB cd_len rfl T.n_len rfl (DA.cons (nm 3) DA.nil)))))) (DSs.one (DS.ret (DO.callQ (d_task_of T) ok (by decide) (DV.cons (nm 0) (DV.cons (DO.rev (nm 2)) DV.nil)))))))
def F_tiny_task : M Unit Out := (seqM (dropM (callP m_need_shape (consD (nameM 0) nilM))) (seqM (ifM (notT (bnd (callP m_is_within (consD (nameM 1) (consD (ret (.val (PyData.int 0))) (consD (op2 subD (callP m_free_count (consD (nameM 0) nilM)) (ret (.val (PyData.int 1)))) nilM)))) boolO)) stuck (ret .nx)) (retM (callP m_free_task (consD (nameM 0) (consD (nameM 1) nilM))))))
def m_tiny_task : List D → Option D := runP2 2 2 F_tiny_task
theorem d_tiny_task (T : Top K mg) : DefQ P w K mg base 5 "tiny_task" ["shape", "number"] m_tiny_task :=
  Has.pure (N := ["shape", "number"]) T.h_tiny_task ⟨rfl, rfl, rfl, by decide +kernel, rfl, by decide +kernel, by decide +kernel⟩ rfl rfl fun A B ok =>
    (DSs.cons (DS.expr (DO.callQ (d_need_shape T) ok (by decide) (DV.cons (nm 0) DV.nil))) (DSs.cons (DS.if_ (DT.not (DT.val (DO.callQ (d_is_within T) ok (by decide) (DV.cons (nm 1) (DV.cons DO.int (DV.cons (DO.bin od_sub (DO.callQ (d_free_count T) ok (by decide) (DV.cons (nm 0) DV.nil)) DO.int) DV.nil)))))) (DSs.one DS.never) DSs.nil) (DSs.one (DS.ret (DO.callQ (d_free_task T) ok (by decide) (DV.cons (nm 0) (DV.cons (nm 1) DV.nil)))))))
def F_picks_of : M Unit Out := (seqM (unpM (sliceM slD (op2 ixD (nameM 1) (ret (.val (PyData.int 0)))) (ret none) (bnd (ret (.val (PyData.int 2))) intO)) (tupG 2 (gsCons (setM 2) (gsCons (setM 3) gsNil)))) (seqM (asgM 4 (lc2M [5, 6] [6] (iterM (nameM 2)) (setM 5) (ret true) (iterM (nameM 5)) (setM 6) (ret true) (nameM 6))) (seqM (asgM 4 (op2 addD (op2 addD (nameM 4) (callM listD (consO (sliceM slD (op2 ixD (op2 ixD (nameM 3) (ret (.val (PyData.int 0)))) (ret (.val (PyData.int 0)))) (bnd (ret (.val (PyData.int 1))) intO) (ret none)) nilM))) (lstM (consD (sliceM slD (op2 ixD (nameM 3) (ret (.val (PyData.int 0)))) (bnd (ret (.val (PyData.int 1))) intO) (ret none)) nilM)))) (seqM (loopM (iterM (op2 ixD (nameM 1) (ret (.val (PyData.int 1))))) (tupG 2 (gsCons (setM 7) (gsCons (setM 8) gsNil))) (loopM (enumM (nameM 7)) (tupG 2 (gsCons (setM 9) (gsCons (setM 10) gsNil))) (asgM 4 (op2 addD (op2 addD (op2 addD (nameM 4) (callM listD (consO (sliceM slD (nameM 10) (ret none) (bnd (ret (.val (PyData.int 3))) intO)) nilM))) (lstM (consD (sliceM slD (nameM 10) (bnd (ret (.val (PyData.int 3))) intO) (ret none)) nilM))) (iteM (bnd (op2 eqD (nameM 9) (ret (.val (PyData.int 0)))) boolO) (lstM nilM) (lstM (consD (op2 ixD (nameM 8) (nameM 9)) nilM))))))) (retM (nameM 4))))))
def m_picks_of : List D → Option D := runP2 2 11 F_picks_of
theorem d_picks_of (T : Top K mg) : DefQ P w K mg base 1 "picks_of" ["shape", "task"] m_picks_of :=
  Has.pure (N := ["shape", "task", "meets", "washes", "found", "row", "thing", "steps", "windows", "place", "step"]) T.h_picks_of ⟨rfl, rfl, rfl, by decide +kernel, rfl, by decide +kernel, by decide +kernel⟩ rfl rfl fun A B ok =>
    (DSs.cons (DS.unp (DO.slice od_sl (DO.ix od_ix (nm 1) DO.int) DP.none (DP.some DO.int)) (DG.tup (DGs.cons (DG.name (i := 2) ok.nd rfl (by first | exact Or.inl rfl | exact Or.inr rfl) (by first | exact Or.inl rfl | exact Or.inr rfl)) (DGs.cons (DG.name (i := 3) ok.nd rfl (by first | exact Or.inl rfl | exact Or.inr rfl) (by first | exact Or.inl rfl | exact Or.inr rfl)) DGs.nil)))) (DSs.cons (DS.setLc2 (i := 4) (own := [("row", 5), ("thing", 6)]) (ws1 := [6]) ok.nd (fun X h => by rw [h.sc]; rfl) rfl rfl rfl (by decide +kernel) (DI.seq (nm 2)) (blkOk_by (by dsimp only [Gam.blk]; decide +kernel)) (DG.name (i := 5) ok.blk.nd rfl (by first | exact Or.inl rfl | exact Or.inr rfl) (by first | exact Or.inl rfl | exact Or.inr rfl)) (by decide) DTs.nil (DI.seq (nm 5)) (DG.name (i := 6) ok.blk.nd rfl (by first | exact Or.inl rfl | exact Or.inr rfl) (by first | exact Or.inl rfl | exact Or.inr rfl)) (by decide) (by decide) DTs.nil (nm 6)) (DSs.cons (DS.set (i := 4) ok.nd rfl (by first | exact Or.inl rfl | exact Or.inr rfl) (Or.inl rfl) (DO.bin od_add (DO.bin od_add (nm 4) (DO.callTy cd_list rfl T.n_list rfl (DA.cons (DO.slice od_sl (DO.ix od_ix (DO.ix od_ix (nm 3) DO.int) DO.int) (DP.some DO.int) DP.none) DA.nil))) (DO.lst (DV.cons (DO.slice od_sl (DO.ix od_ix (nm 3) DO.int) (DP.some DO.int) DP.none) DV.nil)))) (DSs.cons (DS.for_ (DI.seq (DO.ix od_ix (nm 1) DO.int)) (DG.tup (DGs.cons (DG.name (i := 7) ok.nd rfl (by first | exact Or.inl rfl | exact Or.inr rfl) (by first | exact Or.inl rfl | exact Or.inr rfl)) (DGs.cons (DG.name (i := 8) ok.nd rfl (by first | exact Or.inl rfl | exact Or.inr rfl) (by first | exact Or.inl rfl | exact Or.inr rfl)) DGs.nil))) (DSs.one (DS.for_ (DI.enum (nm 7) rfl T.n_enumerate) (DG.tup (DGs.cons (DG.name (i := 9) ok.nd rfl (by first | exact Or.inl rfl | exact Or.inr rfl) (by first | exact Or.inl rfl | exact Or.inr rfl)) (DGs.cons (DG.name (i := 10) ok.nd rfl (by first | exact Or.inl rfl | exact Or.inr rfl) (by first | exact Or.inl rfl | exact Or.inr rfl)) DGs.nil))) (DSs.one (DS.set (i := 4) ok.nd rfl (by first | exact Or.inl rfl | exact Or.inr rfl) (Or.inl rfl) (DO.bin od_add (DO.bin od_add (DO.bin od_add (nm 4) (DO.callTy cd_list rfl T.n_list rfl (DA.cons (DO.slice od_sl (nm 10) DP.none (DP.some DO.int)) DA.nil))) (DO.lst (DV.cons (DO.slice od_sl (nm 10) (DP.some DO.int) DP.none) DV.nil))) (DO.ite (DT.cmp (od_eq ok) (nm 9) DO.int rfl) (DO.lst DV.nil) (DO.lst (DV.cons (DO.ix od_ix (nm 8) (nm 9)) DV.nil))))))))) (DSs.one (DS.ret (nm 4)))))))
def F_has_sizes : M Unit Out := (seqM (unpM (op2 ixD (nameM 1) (ret (.val (PyData.int 0)))) (tupG 5 (gsCons (setM 2) (gsCons (setM 3) (gsCons (setM 4) (gsCons (setM 5) (gsCons (setM 6) gsNil))))))) (seqM (asgM 7 (tupM (consD (callM lenD (consO (op2 ixD (nameM 2) (ret (.val (PyData.int 0)))) nilM)) (consD (callM lenD (consO (nameM 2) nilM)) (consD (nameM 4) (consD (nameM 5) (consD (nameM 6) (consD (callM tupleD (consO (lcM [8, 9] (iterM (op2 ixD (nameM 1) (ret (.val (PyData.int 1))))) (tupG 2 (gsCons (setM 8) (gsCons (setM 9) gsNil))) (ret true) (callM lenD (consO (nameM 8) nilM))) nilM)) nilM)))))))) (retM (andV (op2 eqD (nameM 7) (sliceM slD (nameM 0) (ret none) (bnd (ret (.val (PyData.int 6))) intO))) (andV (op2 eqD (callM lenD (consO (nameM 3) nilM)) (ret (.val (PyData.int 1)))) (op2 eqD (op2 ixD (op2 ixD (op2 ixD (nameM 3) (ret (.val (PyData.int 0)))) (ret (.val (PyData.int 0)))) (ret (.val (PyData.int 0)))) (tupM (consD (ret (.val (PyData.int 0))) nilM))))))))
def m_has_sizes : List D → Option D := runP2 2 10 F_has_sizes
theorem d_has_sizes (T : Top K mg) : DefQ P w K mg base 1 "has_sizes" ["shape", "task"] m_has_sizes :=
  Has.pure (N := ["shape", "task", "meets", "washes", "tools", "arms", "zones", "sizes", "steps", "windows"]) T.h_has_sizes ⟨rfl, rfl, rfl, by decide +kernel, rfl, by decide +kernel, by decide +kernel⟩ rfl rfl fun A B ok =>
    (DSs.cons (DS.unp (DO.ix od_ix (nm 1) DO.int) (DG.tup (DGs.cons (DG.name (i := 2) ok.nd rfl (by first | exact Or.inl rfl | exact Or.inr rfl) (by first | exact Or.inl rfl | exact Or.inr rfl)) (DGs.cons (DG.name (i := 3) ok.nd rfl (by first | exact Or.inl rfl | exact Or.inr rfl) (by first | exact Or.inl rfl | exact Or.inr rfl)) (DGs.cons (DG.name (i := 4) ok.nd rfl (by first | exact Or.inl rfl | exact Or.inr rfl) (by first | exact Or.inl rfl | exact Or.inr rfl)) (DGs.cons (DG.name (i := 5) ok.nd rfl (by first | exact Or.inl rfl | exact Or.inr rfl) (by first | exact Or.inl rfl | exact Or.inr rfl)) (DGs.cons (DG.name (i := 6) ok.nd rfl (by first | exact Or.inl rfl | exact Or.inr rfl) (by first | exact Or.inl rfl | exact Or.inr rfl)) DGs.nil))))))) (DSs.cons (DS.set (i := 7) ok.nd rfl (by first | exact Or.inl rfl | exact Or.inr rfl) (Or.inl rfl) (DO.tup (DV.cons (DO.callB cd_len rfl T.n_len rfl (DA.cons (DO.ix od_ix (nm 2) DO.int) DA.nil)) (DV.cons (DO.callB cd_len rfl T.n_len rfl (DA.cons (nm 2) DA.nil)) (DV.cons (nm 4) (DV.cons (nm 5) (DV.cons (nm 6) (DV.cons (DO.callTy cd_tuple rfl T.n_tuple rfl (DA.cons (DO.lc (own := [("steps", 8), ("windows", 9)]) ok.nd (DI.seq (DO.ix od_ix (nm 1) DO.int)) (blkOk_by (by dsimp only [Gam.blk]; decide +kernel)) (DG.tup (DGs.cons (DG.name (i := 8) ok.blk.nd rfl (by first | exact Or.inl rfl | exact Or.inr rfl) (by first | exact Or.inl rfl | exact Or.inr rfl)) (DGs.cons (DG.name (i := 9) ok.blk.nd rfl (by first | exact Or.inl rfl | exact Or.inr rfl) (by first | exact Or.inl rfl | exact Or.inr rfl)) DGs.nil))) (by decide) DTs.nil (DO.callB cd_len rfl T.n_len rfl (DA.cons (nm 8) DA.nil))) DA.nil)) DV.nil)))))))) (DSs.one (DS.ret (DO.and (DO.cmp (od_eq ok) (nm 7) (DO.slice od_sl (nm 0) DP.none (DP.some DO.int)) rfl) (DO.and (DO.cmp (od_eq ok) (DO.callB cd_len rfl T.n_len rfl (DA.cons (nm 3) DA.nil)) DO.int rfl) (DO.one (DO.cmp (od_eq ok) (DO.ix od_ix (DO.ix od_ix (DO.ix od_ix (nm 3) DO.int) DO.int) DO.int) (DO.tup (DV.cons DO.int DV.nil)) rfl))))))))
def F_free_number : M Unit Out := (seqM (ifM (notT (bnd (callP m_has_sizes (consD (nameM 0) (consD (nameM 1) nilM))) boolO)) (retM (ret (.val PyData.none))) (ret .nx)) (seqM (asgM 2 (ret (.val (PyData.int 0)))) (seqM (loopM (zipM (consD (callP m_choices_of (consD (nameM 0) nilM)) (consD (callP m_picks_of (consD (nameM 0) (consD (nameM 1) nilM))) nilM))) (tupG 2 (gsCons (setM 3) (gsCons (setM 4) gsNil))) (seqM (ifM (bnd (op2 notInD (nameM 4) (nameM 3)) boolO) (retM (ret (.val PyData.none))) (ret .nx)) (asgM 2 (op2 addD (op2 mulD (nameM 2) (callM lenD (consO (nameM 3) nilM))) (indexM (nameM 3) (nameM 4)))))) (retM (nameM 2)))))
def m_free_number : List D → Option D := runP2 2 5 F_free_number
theorem d_free_number (T : Top K mg) : DefQ P w K mg base 4 "free_number" ["shape", "task"] m_free_number :=
  Has.pure (N := ["shape", "task", "number", "row", "pick"]) T.h_free_number ⟨rfl, rfl, rfl, by decide +kernel, rfl, by decide +kernel, by decide +kernel⟩ rfl rfl fun A B ok =>
    (DSs.cons (DS.if_ (DT.not (DT.val (DO.callQ (d_has_sizes T) ok (by decide) (DV.cons (nm 0) (DV.cons (nm 1) DV.nil))))) (DSs.one (DS.ret DO.non)) DSs.nil) (DSs.cons (DS.set (i := 2) ok.nd rfl (by first | exact Or.inl rfl | exact Or.inr rfl) (Or.inl rfl) DO.int) (DSs.cons (DS.for_ (DI.zip (DV.cons (DO.callQ (d_choices_of T) ok (by decide) (DV.cons (nm 0) DV.nil)) (DV.cons (DO.callQ (d_picks_of T) ok (by decide) (DV.cons (nm 0) (DV.cons (nm 1) DV.nil))) DV.nil)) rfl T.n_zip) (DG.tup (DGs.cons (DG.name (i := 3) ok.nd rfl (by first | exact Or.inl rfl | exact Or.inr rfl) (by first | exact Or.inl rfl | exact Or.inr rfl)) (DGs.cons (DG.name (i := 4) ok.nd rfl (by first | exact Or.inl rfl | exact Or.inr rfl) (by first | exact Or.inl rfl | exact Or.inr rfl)) DGs.nil))) (DSs.cons (DS.if_ (DT.cmp (od_notIn ok) (nm 4) (nm 3) rfl) (DSs.one (DS.ret DO.non)) DSs.nil) (DSs.one (DS.set (i := 2) ok.nd rfl (by first | exact Or.inl rfl | exact Or.inr rfl) (Or.inl rfl) (DO.bin od_add (DO.bin od_mul (nm 2) (DO.callB cd_len rfl T.n_len rfl (DA.cons (nm 3) DA.nil))) (DO.index ok (nm 3) (nm 4))))))) (DSs.one (DS.ret (nm 2))))))
def F_is_tuple_to : M Unit Out := (retM (andV (isiM "tuple" (nameM 0)) (chainM leD leD (nameM 1) (callM lenD (consO (nameM 0) nilM)) (nameM 2))))
def m_is_tuple_to : List D → Option D := runP2 3 3 F_is_tuple_to
theorem d_is_tuple_to (T : Top K mg) : DefQ P w K mg base 1 "is_tuple_to" ["value", "low", "high"] m_is_tuple_to :=
  Has.pure (N := ["value", "low", "high"]) T.h_is_tuple_to ⟨rfl, rfl, rfl, by decide +kernel, rfl, by decide +kernel, by decide +kernel⟩ rfl rfl fun A B ok =>
    (DSs.one (DS.ret (DO.and (DO.isi (by decide) (nm 0) rfl T.n_isinstance rfl T.n_tuple rfl) (DO.one (DO.chain od_le od_le (nm 1) (DO.callB cd_len rfl T.n_len rfl (DA.cons (nm 0) DA.nil)) (nm 2))))))
def F_first_descent : M Unit Out := (seqM (asgM 2 (negM (ret (.val (PyData.int 1))))) (seqM (loopM (enumM (nameM 0)) (tupG 2 (gsCons (setM 3) (gsCons (setM 4) gsNil))) (seqM (ifM (notT (bnd (callP m_is_within (consD (nameM 4) (consD (op2 addD (nameM 2) (ret (.val (PyData.int 1)))) (consD (op2 subD (nameM 1) (ret (.val (PyData.int 1)))) nilM)))) boolO)) (retM (nameM 3)) (ret .nx)) (asgM 2 (nameM 4)))) (retM (ret (.val PyData.none)))))
def m_first_descent : List D → Option D := runP2 2 5 F_first_descent
theorem d_first_descent (T : Top K mg) : DefQ P w K mg base 3 "first_descent" ["value", "limit"] m_first_descent :=
  Has.pure (N := ["value", "limit", "last", "index", "thing"]) T.h_first_descent ⟨rfl, rfl, rfl, by decide +kernel, rfl, by decide +kernel, by decide +kernel⟩ rfl rfl fun A B ok =>
    (DSs.cons (DS.set (i := 2) ok.nd rfl (by first | exact Or.inl rfl | exact Or.inr rfl) (Or.inl rfl) (DO.neg DO.int)) (DSs.cons (DS.for_ (DI.enum (nm 0) rfl T.n_enumerate) (DG.tup (DGs.cons (DG.name (i := 3) ok.nd rfl (by first | exact Or.inl rfl | exact Or.inr rfl) (by first | exact Or.inl rfl | exact Or.inr rfl)) (DGs.cons (DG.name (i := 4) ok.nd rfl (by first | exact Or.inl rfl | exact Or.inr rfl) (by first | exact Or.inl rfl | exact Or.inr rfl)) DGs.nil))) (DSs.cons (DS.if_ (DT.not (DT.val (DO.callQ (d_is_within T) ok (by decide) (DV.cons (nm 4) (DV.cons (DO.bin od_add (nm 2) DO.int) (DV.cons (DO.bin od_sub (nm 1) DO.int) DV.nil)))))) (DSs.one (DS.ret (nm 3))) DSs.nil) (DSs.one (DS.set (i := 2) ok.nd rfl (by first | exact Or.inl rfl | exact Or.inr rfl) (Or.inl rfl) (nm 4))))) (DSs.one (DS.ret DO.non))))
def F_meets_fault : M Unit Out := (seqM (ifM (notT (bnd (callP m_is_tuple_to (consD (nameM 0) (consD (ret (.val (PyData.int 1))) (consD (ret (.val (PyData.int 8))) nilM)))) boolO)) (retM (tupM (consD (ret (.val (PyData.int 0))) nilM))) (ret .nx)) (seqM (asgM 1 (ret (.val (PyData.int 0)))) (seqM (loopM (enumM (nameM 0)) (tupG 2 (gsCons (setM 2) (gsCons (setM 3) gsNil))) (seqM (ifM (andT (bnd (op2 eqD (nameM 2) (ret (.val (PyData.int 0)))) boolO) (notT (bnd (callP m_is_tuple_to (consD (nameM 3) (consD (ret (.val (PyData.int 1))) (consD (ret (.val (PyData.int 8))) nilM)))) boolO))) (retM (tupM (consD (ret (.val (PyData.int 0))) (consD (ret (.val (PyData.int 0))) nilM)))) (ret .nx)) (seqM (asgM 1 (iteM (bnd (op2 eqD (nameM 2) (ret (.val (PyData.int 0)))) boolO) (callM lenD (consO (nameM 3) nilM)) (nameM 1))) (seqM (ifM (notT (bnd (callP m_is_tuple_of (consD (nameM 3) (consD (nameM 1) nilM))) boolO)) (retM (tupM (consD (ret (.val (PyData.int 0))) (consD (nameM 2) nilM)))) (ret .nx)) (loopM (enumM (nameM 3)) (tupG 2 (gsCons (setM 4) (gsCons (setM 5) gsNil))) (ifM (orT (andT (bnd (op2 isD (nameM 5) (ret (.val PyData.none))) boolO) (bnd (op2 eqD (nameM 2) (ret (.val (PyData.int 0)))) boolO)) (andT (bnd (op2 isNotD (nameM 5) (ret (.val PyData.none))) boolO) (notT (bnd (callP m_is_within (consD (nameM 5) (consD (ret (.val (PyData.int 0))) (consD (op2 subD (callM lenD (consO (nameM 0) nilM)) (ret (.val (PyData.int 1)))) nilM)))) boolO)))) (retM (tupM (consD (ret (.val (PyData.int 0))) (consD (nameM 2) (consD (nameM 4) nilM))))) (ret .nx))))))) (retM (ret (.val PyData.none))))))
def m_meets_fault : List D → Option D := runP2 1 6 F_meets_fault
theorem d_meets_fault (T : Top K mg) : DefQ P w K mg base 3 "meets_fault" ["meets"] m_meets_fault :=
  Has.pure (N := ["meets", "stuffs", "state", "row", "stuff", "entry"]) T.h_meets_fault ⟨rfl, rfl, rfl, by decide +kernel, rfl, by decide +kernel, by decide +kernel⟩ rfl rfl fun A B ok =>
    (DSs.cons (DS.if_ (DT.not (DT.val (DO.callQ (d_is_tuple_to T) ok (by decide) (DV.cons (nm 0) (DV.cons DO.int (DV.cons (gi T.g_MOST_STATES) DV.nil)))))) (DSs.one (DS.ret (DO.tup (DV.cons DO.int DV.nil)))) DSs.nil) (DSs.cons (DS.set (i := 1) ok.nd rfl (by first | exact Or.inl rfl | exact Or.inr rfl) (Or.inl rfl) DO.int) (DSs.cons (DS.for_ (DI.enum (nm 0) rfl T.n_enumerate) (DG.tup (DGs.cons (DG.name (i := 2) ok.nd rfl (by first | exact Or.inl rfl | exact Or.inr rfl) (by first | exact Or.inl rfl | exact Or.inr rfl)) (DGs.cons (DG.name (i := 3) ok.nd rfl (by first | exact Or.inl rfl | exact Or.inr rfl) (by first | exact Or.inl rfl | exact Or.inr rfl)) DGs.nil))) (DSs.cons (DS.if_ (DW.pt (DW.and (DT.cmp (od_eq ok) (nm 2) DO.int rfl) (DW.and1 (DT.not (DT.val (DO.callQ (d_is_tuple_to T) ok (by decide) (DV.cons (nm 3) (DV.cons DO.int (DV.cons (gi T.g_MOST_STUFFS) DV.nil))))))))) (DSs.one (DS.ret (DO.tup (DV.cons DO.int (DV.cons DO.int DV.nil))))) DSs.nil) (DSs.cons (DS.set (i := 1) ok.nd rfl (by first | exact Or.inl rfl | exact Or.inr rfl) (Or.inl rfl) (DO.ite (DT.cmp (od_eq ok) (nm 2) DO.int rfl) (DO.callB cd_len rfl T.n_len rfl (DA.cons (nm 3) DA.nil)) (nm 1))) (DSs.cons (DS.if_ (DT.not (DT.val (DO.callQ (d_is_tuple_of T) ok (by decide) (DV.cons (nm 3) (DV.cons (nm 1) DV.nil))))) (DSs.one (DS.ret (DO.tup (DV.cons DO.int (DV.cons (nm 2) DV.nil))))) DSs.nil) (DSs.one (DS.for_ (DI.enum (nm 3) rfl T.n_enumerate) (DG.tup (DGs.cons (DG.name (i := 4) ok.nd rfl (by first | exact Or.inl rfl | exact Or.inr rfl) (by first | exact Or.inl rfl | exact Or.inr rfl)) (DGs.cons (DG.name (i := 5) ok.nd rfl (by first | exact Or.inl rfl | exact Or.inr rfl) (by first | exact Or.inl rfl | exact Or.inr rfl)) DGs.nil))) (DSs.one (DS.if_ (DW.pt (DW.or (DW.pt (DW.and (DT.cmp od_is (nm 5) DO.non rfl) (DW.and1 (DT.cmp (od_eq ok) (nm 2) DO.int rfl)))) (DW.or1 (DW.pt (DW.and (DT.cmp od_isNot (nm 5) DO.non rfl) (DW.and1 (DT.not (DT.val (DO.callQ (d_is_within T) ok (by decide) (DV.cons (nm 5) (DV.cons DO.int (DV.cons (DO.bin od_sub (DO.callB cd_len rfl T.n_len rfl (DA.cons (nm 0) DA.nil)) DO.int) DV.nil)))))))))))) (DSs.one (DS.ret (DO.tup (DV.cons DO.int (DV.cons (nm 2) (DV.cons (nm 4) DV.nil)))))) DSs.nil)))))))) (DSs.one (DS.ret DO.non)))))
def F_wash_fault : M Unit Out := (seqM (ifM (notT (bnd (callP m_is_tuple_of (consD (nameM 0) (consD (ret (.val (PyData.int 3))) nilM))) boolO)) (retM (tupM nilM)) (ret .nx)) (seqM (unpM (nameM 0) (tupG 3 (gsCons (setM 2) (gsCons (setM 3) (gsCons (setM 4) gsNil))))) (seqM (ifM (notT (bnd (callP m_is_tuple_of (consD (nameM 2) (consD (nameM 1) nilM))) boolO)) (retM (tupM (consD (ret (.val (PyData.int 0))) nilM))) (ret .nx)) (seqM (loopM (enumM (nameM 2)) (tupG 2 (gsCons (setM 5) (gsCons (setM 6) gsNil))) (seqM (ifM (notT (bnd (callP m_is_tuple_to (consD (nameM 6) (consD (ret (.val (PyData.int 1))) (consD (ret (.val (PyData.int 3))) nilM)))) boolO)) (retM (tupM (consD (ret (.val (PyData.int 0))) (consD (nameM 5) nilM)))) (ret .nx)) (seqM (asgM 7 (callP m_first_descent (consD (nameM 6) (consD (nameM 1) nilM)))) (ifM (bnd (op2 isNotD (nameM 7) (ret (.val PyData.none))) boolO) (retM (tupM (consD (ret (.val (PyData.int 0))) (consD (nameM 5) (consD (nameM 7) nilM))))) (ret .nx))))) (seqM (ifM (notT (bnd (callP m_is_within (consD (nameM 3) (consD (ret (.val (PyData.int 1))) (consD (ret (.val (PyData.int 6))) nilM)))) boolO)) (retM (tupM (consD (ret (.val (PyData.int 1))) nilM))) (ret .nx)) (seqM (ifM (notT (bnd (callP m_is_within (consD (nameM 4) (consD (nameM 3) (consD (ret (.val (PyData.int 6))) nilM)))) boolO)) (retM (tupM (consD (ret (.val (PyData.int 2))) nilM))) (ret .nx)) (retM (ret (.val PyData.none)))))))))
def m_wash_fault : List D → Option D := runP2 2 8 F_wash_fault
theorem d_wash_fault (T : Top K mg) : DefQ P w K mg base 4 "wash_fault" ["wash", "states"] m_wash_fault :=
  Has.pure (N := ["wash", "states", "after", "low", "high", "state", "results", "wrong"]) T.h_wash_fault ⟨rfl, rfl, rfl, by decide +kernel, rfl, by decide +kernel, by decide +kernel⟩ rfl rfl fun A B ok =>
    (DSs.cons (DS.if_ (DT.not (DT.val (DO.callQ (d_is_tuple_of T) ok (by decide) (DV.cons (nm 0) (DV.cons DO.int DV.nil))))) (DSs.one (DS.ret (DO.tup DV.nil))) DSs.nil) (DSs.cons (DS.unp (nm 0) (DG.tup (DGs.cons (DG.name (i := 2) ok.nd rfl (by first | exact Or.inl rfl | exact Or.inr rfl) (by first | exact Or.inl rfl | exact Or.inr rfl)) (DGs.cons (DG.name (i := 3) ok.nd rfl (by first | exact Or.inl rfl | exact Or.inr rfl) (by first | exact Or.inl rfl | exact Or.inr rfl)) (DGs.cons (DG.name (i := 4) ok.nd rfl (by first | exact Or.inl rfl | exact Or.inr rfl) (by first | exact Or.inl rfl | exact Or.inr rfl)) DGs.nil))))) (DSs.cons (DS.if_ (DT.not (DT.val (DO.callQ (d_is_tuple_of T) ok (by decide) (DV.cons (nm 2) (DV.cons (nm 1) DV.nil))))) (DSs.one (DS.ret (DO.tup (DV.cons DO.int DV.nil)))) DSs.nil) (DSs.cons (DS.for_ (DI.enum (nm 2) rfl T.n_enumerate) (DG.tup (DGs.cons (DG.name (i := 5) ok.nd rfl (by first | exact Or.inl rfl | exact Or.inr rfl) (by first | exact Or.inl rfl | exact Or.inr rfl)) (DGs.cons (DG.name (i := 6) ok.nd rfl (by first | exact Or.inl rfl | exact Or.inr rfl) (by first | exact Or.inl rfl | exact Or.inr rfl)) DGs.nil))) (DSs.cons (DS.if_ (DT.not (DT.val (DO.callQ (d_is_tuple_to T) ok (by decide) (DV.cons (nm 6) (DV.cons DO.int (DV.cons (gi T.g_MOST_RESULTS) DV.nil)))))) (DSs.one (DS.ret (DO.tup (DV.cons DO.int (DV.cons (nm 5) DV.nil))))) DSs.nil) (DSs.cons (DS.set (i := 7) ok.nd rfl (by first | exact Or.inl rfl | exact Or.inr rfl) (Or.inl rfl) (DO.callQ (d_first_descent T) ok (by decide) (DV.cons (nm 6) (DV.cons (nm 1) DV.nil)))) (DSs.one (DS.if_ (DT.cmp od_isNot (nm 7) DO.non rfl) (DSs.one (DS.ret (DO.tup (DV.cons DO.int (DV.cons (nm 5) (DV.cons (nm 7) DV.nil)))))) DSs.nil))))) (DSs.cons (DS.if_ (DT.not (DT.val (DO.callQ (d_is_within T) ok (by decide) (DV.cons (nm 3) (DV.cons DO.int (DV.cons (gi T.g_MOST_TICKS) DV.nil)))))) (DSs.one (DS.ret (DO.tup (DV.cons DO.int DV.nil)))) DSs.nil) (DSs.cons (DS.if_ (DT.not (DT.val (DO.callQ (d_is_within T) ok (by decide) (DV.cons (nm 4) (DV.cons (nm 3) (DV.cons (gi T.g_MOST_TICKS) DV.nil)))))) (DSs.one (DS.ret (DO.tup (DV.cons DO.int DV.nil)))) DSs.nil) (DSs.one (DS.ret DO.non))))))))
def F_lab_fault : M Unit Out := (seqM (ifM (notT (bnd (callP m_is_tuple_of (consD (nameM 0) (consD (ret (.val (PyData.int 5))) nilM))) boolO)) (retM (tupM (consD (ret (.val (PyData.str "lab"))) (consD (tupM nilM) nilM)))) (ret .nx)) (seqM (unpM (nameM 0) (tupG 5 (gsCons (setM 1) (gsCons (setM 2) (gsCons (setM 3) (gsCons (setM 4) (gsCons (setM 5) gsNil))))))) (seqM (asgM 6 (callP m_meets_fault (consD (nameM 1) nilM))) (seqM (ifM (bnd (op2 isNotD (nameM 6) (ret (.val PyData.none))) boolO) (retM (tupM (consD (ret (.val (PyData.str "meets"))) (consD (nameM 6) nilM)))) (ret .nx)) (seqM (ifM (notT (bnd (callP m_is_tuple_to (consD (nameM 2) (consD (ret (.val (PyData.int 0))) (consD (ret (.val (PyData.int 3))) nilM)))) boolO)) (retM (tupM (consD (ret (.val (PyData.str "washes"))) (consD (tupM (consD (ret (.val (PyData.int 1))) nilM)) nilM)))) (ret .nx)) (seqM (loopM (enumM (nameM 2)) (tupG 2 (gsCons (setM 7) (gsCons (setM 8) gsNil))) (seqM (asgM 6 (callP m_wash_fault (consD (nameM 8) (consD (callM lenD (consO (nameM 1) nilM)) nilM)))) (ifM (bnd (op2 isNotD (nameM 6) (ret (.val PyData.none))) boolO) (retM (tupM (consD (ret (.val (PyData.str "washes"))) (consD (op2 addD (tupM (consD (ret (.val (PyData.int 1))) (consD (nameM 7) nilM))) (nameM 6)) nilM)))) (ret .nx)))) (seqM (ifM (notT (bnd (callP m_is_within (consD (nameM 3) (consD (ret (.val (PyData.int 1))) (consD (ret (.val (PyData.int 3))) nilM)))) boolO)) (retM (tupM (consD (ret (.val (PyData.str "tools"))) (consD (tupM (consD (ret (.val (PyData.int 2))) nilM)) nilM)))) (ret .nx)) (seqM (ifM (notT (bnd (callP m_is_within (consD (nameM 4) (consD (ret (.val (PyData.int 1))) (consD (ret (.val (PyData.int 3))) nilM)))) boolO)) (retM (tupM (consD (ret (.val (PyData.str "arms"))) (consD (tupM (consD (ret (.val (PyData.int 3))) nilM)) nilM)))) (ret .nx)) (seqM (ifM (notT (bnd (callP m_is_within (consD (nameM 5) (consD (ret (.val (PyData.int 0))) (consD (ret (.val (PyData.int 4))) nilM)))) boolO)) (retM (tupM (consD (ret (.val (PyData.str "zones"))) (consD (tupM (consD (ret (.val (PyData.int 4))) nilM)) nilM)))) (ret .nx)) (retM (ret (.val PyData.none))))))))))))
def m_lab_fault : List D → Option D := runP2 1 9 F_lab_fault
theorem d_lab_fault (T : Top K mg) : DefQ P w K mg base 5 "lab_fault" ["value"] m_lab_fault :=
  Has.pure (N := ["value", "meets", "washes", "tools", "arms", "zones", "place", "number", "wash"]) T.h_lab_fault ⟨rfl, rfl, rfl, by decide +kernel, rfl, by decide +kernel, by decide +kernel⟩ rfl rfl fun A B ok =>
    (DSs.cons (DS.if_ (DT.not (DT.val (DO.callQ (d_is_tuple_of T) ok (by decide) (DV.cons (nm 0) (DV.cons DO.int DV.nil))))) (DSs.one (DS.ret (DO.tup (DV.cons DO.str (DV.cons (DO.tup DV.nil) DV.nil))))) DSs.nil) (DSs.cons (DS.unp (nm 0) (DG.tup (DGs.cons (DG.name (i := 1) ok.nd rfl (by first | exact Or.inl rfl | exact Or.inr rfl) (by first | exact Or.inl rfl | exact Or.inr rfl)) (DGs.cons (DG.name (i := 2) ok.nd rfl (by first | exact Or.inl rfl | exact Or.inr rfl) (by first | exact Or.inl rfl | exact Or.inr rfl)) (DGs.cons (DG.name (i := 3) ok.nd rfl (by first | exact Or.inl rfl | exact Or.inr rfl) (by first | exact Or.inl rfl | exact Or.inr rfl)) (DGs.cons (DG.name (i := 4) ok.nd rfl (by first | exact Or.inl rfl | exact Or.inr rfl) (by first | exact Or.inl rfl | exact Or.inr rfl)) (DGs.cons (DG.name (i := 5) ok.nd rfl (by first | exact Or.inl rfl | exact Or.inr rfl) (by first | exact Or.inl rfl | exact Or.inr rfl)) DGs.nil))))))) (DSs.cons (DS.set (i := 6) ok.nd rfl (by first | exact Or.inl rfl | exact Or.inr rfl) (Or.inl rfl) (DO.callQ (d_meets_fault T) ok (by decide) (DV.cons (nm 1) DV.nil))) (DSs.cons (DS.if_ (DT.cmp od_isNot (nm 6) DO.non rfl) (DSs.one (DS.ret (DO.tup (DV.cons DO.str (DV.cons (nm 6) DV.nil))))) DSs.nil) (DSs.cons (DS.if_ (DT.not (DT.val (DO.callQ (d_is_tuple_to T) ok (by decide) (DV.cons (nm 2) (DV.cons DO.int (DV.cons (gi T.g_MOST_WASHES) DV.nil)))))) (DSs.one (DS.ret (DO.tup (DV.cons DO.str (DV.cons (DO.tup (DV.cons DO.int DV.nil)) DV.nil))))) DSs.nil) (DSs.cons (DS.for_ (DI.enum (nm 2) rfl T.n_enumerate) (DG.tup (DGs.cons (DG.name (i := 7) ok.nd rfl (by first | exact Or.inl rfl | exact Or.inr rfl) (by first | exact Or.inl rfl | exact Or.inr rfl)) (DGs.cons (DG.name (i := 8) ok.nd rfl (by first | exact Or.inl rfl | exact Or.inr rfl) (by first | exact Or.inl rfl | exact Or.inr rfl)) DGs.nil))) (DSs.cons (DS.set (i := 6) ok.nd rfl (by first | exact Or.inl rfl | exact Or.inr rfl) (Or.inl rfl) (DO.callQ (d_wash_fault T) ok (by decide) (DV.cons (nm 8) (DV.cons (DO.callB cd_len rfl T.n_len rfl (DA.cons (nm 1) DA.nil)) DV.nil)))) (DSs.one (DS.if_ (DT.cmp od_isNot (nm 6) DO.non rfl) (DSs.one (DS.ret (DO.tup (DV.cons DO.str (DV.cons (DO.bin od_add (DO.tup (DV.cons DO.int (DV.cons (nm 7) DV.nil))) (nm 6)) DV.nil))))) DSs.nil)))) (DSs.cons (DS.if_ (DT.not (DT.val (DO.callQ (d_is_within T) ok (by decide) (DV.cons (nm 3) (DV.cons DO.int (DV.cons (gi T.g_MOST_TOOLS) DV.nil)))))) (DSs.one (DS.ret (DO.tup (DV.cons DO.str (DV.cons (DO.tup (DV.cons DO.int DV.nil)) DV.nil))))) DSs.nil) (DSs.cons (DS.if_ (DT.not (DT.val (DO.callQ (d_is_within T) ok (by decide) (DV.cons (nm 4) (DV.cons DO.int (DV.cons (gi T.g_MOST_ARMS) DV.nil)))))) (DSs.one (DS.ret (DO.tup (DV.cons DO.str (DV.cons (DO.tup (DV.cons DO.int DV.nil)) DV.nil))))) DSs.nil) (DSs.cons (DS.if_ (DT.not (DT.val (DO.callQ (d_is_within T) ok (by decide) (DV.cons (nm 5) (DV.cons DO.int (DV.cons (gi T.g_MOST_ZONES) DV.nil)))))) (DSs.one (DS.ret (DO.tup (DV.cons DO.str (DV.cons (DO.tup (DV.cons DO.int DV.nil)) DV.nil))))) DSs.nil) (DSs.one (DS.ret DO.non)))))))))))
def F_step_fault : M Unit Out := (seqM (ifM (notT (bnd (callP m_is_tuple_of (consD (nameM 1) (consD (ret (.val (PyData.int 5))) nilM))) boolO)) (retM (tupM nilM)) (ret .nx)) (seqM (unpM (nameM 1) (tupG 5 (gsCons (setM 2) (gsCons (setM 3) (gsCons (setM 4) (gsCons (setM 5) (gsCons (setM 6) gsNil))))))) (seqM (ifM (notT (bnd (callP m_is_within (consD (nameM 2) (consD (ret (.val (PyData.int 0))) (consD (op2 subD (callM lenD (consO (op2 ixD (op2 ixD (nameM 0) (ret (.val (PyData.int 0)))) (ret (.val (PyData.int 0)))) nilM)) (ret (.val (PyData.int 1)))) nilM)))) boolO)) (retM (tupM (consD (ret (.val (PyData.int 0))) nilM))) (ret .nx)) (seqM (ifM (orT (notT (bnd (isiM "tuple" (nameM 3)) boolO)) (bnd (op2 eqD (nameM 3) (tupM nilM)) boolO)) (retM (tupM (consD (ret (.val (PyData.int 1))) nilM))) (ret .nx)) (seqM (asgM 7 (callP m_first_descent (consD (nameM 3) (consD (op2 ixD (nameM 0) (ret (.val (PyData.int 2)))) nilM)))) (seqM (ifM (bnd (op2 isNotD (nameM 7) (ret (.val PyData.none))) boolO) (retM (tupM (consD (ret (.val (PyData.int 1))) (consD (nameM 7) nilM)))) (ret .nx)) (seqM (ifM (notT (bnd (isiM "tuple" (nameM 4)) boolO)) (retM (tupM (consD (ret (.val (PyData.int 2))) nilM))) (ret .nx)) (seqM (asgM 7 (callP m_first_descent (consD (nameM 4) (consD (op2 ixD (nameM 0) (ret (.val (PyData.int 4)))) nilM)))) (seqM (ifM (bnd (op2 isNotD (nameM 7) (ret (.val PyData.none))) boolO) (retM (tupM (consD (ret (.val (PyData.int 2))) (consD (nameM 7) nilM)))) (ret .nx)) (seqM (ifM (notT (bnd (callP m_is_within (consD (nameM 5) (consD (ret (.val (PyData.int 1))) (consD (ret (.val (PyData.int 6))) nilM)))) boolO)) (retM (tupM (consD (ret (.val (PyData.int 3))) nilM))) (ret .nx)) (seqM (ifM (notT (bnd (callP m_is_within (consD (nameM 6) (consD (nameM 5) (consD (ret (.val (PyData.int 6))) nilM)))) boolO)) (retM (tupM (consD (ret (.val (PyData.int 4))) nilM))) (ret .nx)) (retM (ret (.val PyData.none))))))))))))))
def m_step_fault : List D → Option D := runP2 2 8 F_step_fault
theorem d_step_fault (T : Top K mg) : DefQ P w K mg base 4 "step_fault" ["lab", "step"] m_step_fault :=
  Has.pure (N := ["lab", "step", "stuff", "tools", "zones", "low", "high", "wrong"]) T.h_step_fault ⟨rfl, rfl, rfl, by decide +kernel, rfl, by decide +kernel, by decide +kernel⟩ rfl rfl fun A B ok =>
    (DSs.cons (DS.if_ (DT.not (DT.val (DO.callQ (d_is_tuple_of T) ok (by decide) (DV.cons (nm 1) (DV.cons DO.int DV.nil))))) (DSs.one (DS.ret (DO.tup DV.nil))) DSs.nil) (DSs.cons (DS.unp (nm 1) (DG.tup (DGs.cons (DG.name (i := 2) ok.nd rfl (by first | exact Or.inl rfl | exact Or.inr rfl) (by first | exact Or.inl rfl | exact Or.inr rfl)) (DGs.cons (DG.name (i := 3) ok.nd rfl (by first | exact Or.inl rfl | exact Or.inr rfl) (by first | exact Or.inl rfl | exact Or.inr rfl)) (DGs.cons (DG.name (i := 4) ok.nd rfl (by first | exact Or.inl rfl | exact Or.inr rfl) (by first | exact Or.inl rfl | exact Or.inr rfl)) (DGs.cons (DG.name (i := 5) ok.nd rfl (by first | exact Or.inl rfl | exact Or.inr rfl) (by first | exact Or.inl rfl | exact Or.inr rfl)) (DGs.cons (DG.name (i := 6) ok.nd rfl (by first | exact Or.inl rfl | exact Or.inr rfl) (by first | exact Or.inl rfl | exact Or.inr rfl)) DGs.nil))))))) (DSs.cons (DS.if_ (DT.not (DT.val (DO.callQ (d_is_within T) ok (by decide) (DV.cons (nm 2) (DV.cons DO.int (DV.cons (DO.bin od_sub (DO.callB cd_len rfl T.n_len rfl (DA.cons (DO.ix od_ix (DO.ix od_ix (nm 0) DO.int) DO.int) DA.nil)) DO.int) DV.nil)))))) (DSs.one (DS.ret (DO.tup (DV.cons DO.int DV.nil)))) DSs.nil) (DSs.cons (DS.if_ (DW.pt (DW.or (DT.not (DT.val (DO.isi (by decide) (nm 3) rfl T.n_isinstance rfl T.n_tuple rfl))) (DW.or1 (DT.cmp (od_eq ok) (nm 3) (DO.tup DV.nil) rfl)))) (DSs.one (DS.ret (DO.tup (DV.cons DO.int DV.nil)))) DSs.nil) (DSs.cons (DS.set (i := 7) ok.nd rfl (by first | exact Or.inl rfl | exact Or.inr rfl) (Or.inl rfl) (DO.callQ (d_first_descent T) ok (by decide) (DV.cons (nm 3) (DV.cons (DO.ix od_ix (nm 0) DO.int) DV.nil)))) (DSs.cons (DS.if_ (DT.cmp od_isNot (nm 7) DO.non rfl) (DSs.one (DS.ret (DO.tup (DV.cons DO.int (DV.cons (nm 7) DV.nil))))) DSs.nil) (DSs.cons (DS.if_ (DT.not (DT.val (DO.isi (by decide) (nm 4) rfl T.n_isinstance rfl T.n_tuple rfl))) (DSs.one (DS.ret (DO.tup (DV.cons DO.int DV.nil)))) DSs.nil) (DSs.cons (DS.set (i := 7) ok.nd rfl (by first | exact Or.inl rfl | exact Or.inr rfl) (Or.inl rfl) (DO.callQ (d_first_descent T) ok (by decide) (DV.cons (nm 4) (DV.cons (DO.ix od_ix (nm 0) DO.int) DV.nil)))) (DSs.cons (DS.if_ (DT.cmp od_isNot (nm 7) DO.non rfl) (DSs.one (DS.ret (DO.tup (DV.cons DO.int (DV.cons (nm 7) DV.nil))))) DSs.nil) (DSs.cons (DS.if_ (DT.not (DT.val (DO.callQ (d_is_within T) ok (by decide) (DV.cons (nm 5) (DV.cons DO.int (DV.cons (gi T.g_MOST_TICKS) DV.nil)))))) (DSs.one (DS.ret (DO.tup (DV.cons DO.int DV.nil)))) DSs.nil) (DSs.cons (DS.if_ (DT.not (DT.val (DO.callQ (d_is_within T) ok (by decide) (DV.cons (nm 6) (DV.cons (nm 5) (DV.cons (gi T.g_MOST_TICKS) DV.nil)))))) (DSs.one (DS.ret (DO.tup (DV.cons DO.int DV.nil)))) DSs.nil) (DSs.one (DS.ret DO.non)))))))))))))
def F_sample_fault : M Unit Out := (seqM (ifM (notT (bnd (callP m_is_tuple_of (consD (nameM 1) (consD (ret (.val (PyData.int 2))) nilM))) boolO)) (retM (tupM nilM)) (ret .nx)) (seqM (unpM (nameM 1) (tupG 2 (gsCons (setM 2) (gsCons (setM 3) gsNil)))) (seqM (ifM (notT (bnd (callP m_is_tuple_to (consD (nameM 2) (consD (ret (.val (PyData.int 0))) (consD (ret (.val (PyData.int 4))) nilM)))) boolO)) (retM (tupM (consD (ret (.val (PyData.int 0))) nilM))) (ret .nx)) (seqM (loopM (enumM (nameM 2)) (tupG 2 (gsCons (setM 4) (gsCons (setM 5) gsNil))) (seqM (asgM 6 (callP m_step_fault (consD (nameM 0) (consD (nameM 5) nilM)))) (ifM (bnd (op2 isNotD (nameM 6) (ret (.val PyData.none))) boolO) (retM (op2 addD (tupM (consD (ret (.val (PyData.int 0))) (consD (nameM 4) nilM))) (nameM 6))) (ret .nx)))) (seqM (ifM (notT (bnd (callP m_is_tuple_of (consD (nameM 3) (consD (callM lenD (consO (nameM 2) nilM)) nilM))) boolO)) (retM (tupM (consD (ret (.val (PyData.int 1))) nilM))) (ret .nx)) (seqM (loopM (enumM (nameM 3)) (tupG 2 (gsCons (setM 4) (gsCons (setM 7) gsNil))) (ifM (andT (bnd (op2 isNotD (nameM 7) (ret (.val PyData.none))) boolO) (orT (bnd (op2 eqD (nameM 4) (ret (.val (PyData.int 0)))) boolO) (notT (bnd (callP m_is_within (consD (nameM 7) (consD (ret (.val (PyData.int 0))) (consD (ret (.val (PyData.int 6))) nilM)))) boolO)))) (retM (tupM (consD (ret (.val (PyData.int 1))) (consD (nameM 4) nilM)))) (ret .nx))) (retM (ret (.val PyData.none)))))))))
def m_sample_fault : List D → Option D := runP2 2 8 F_sample_fault
theorem d_sample_fault (T : Top K mg) : DefQ P w K mg base 5 "sample_fault" ["lab", "sample"] m_sample_fault :=
  Has.pure (N := ["lab", "sample", "steps", "windows", "number", "step", "place", "window"]) T.h_sample_fault ⟨rfl, rfl, rfl, by decide +kernel, rfl, by decide +kernel, by decide +kernel⟩ rfl rfl fun A B ok =>
    (DSs.cons (DS.if_ (DT.not (DT.val (DO.callQ (d_is_tuple_of T) ok (by decide) (DV.cons (nm 1) (DV.cons DO.int DV.nil))))) (DSs.one (DS.ret (DO.tup DV.nil))) DSs.nil) (DSs.cons (DS.unp (nm 1) (DG.tup (DGs.cons (DG.name (i := 2) ok.nd rfl (by first | exact Or.inl rfl | exact Or.inr rfl) (by first | exact Or.inl rfl | exact Or.inr rfl)) (DGs.cons (DG.name (i := 3) ok.nd rfl (by first | exact Or.inl rfl | exact Or.inr rfl) (by first | exact Or.inl rfl | exact Or.inr rfl)) DGs.nil)))) (DSs.cons (DS.if_ (DT.not (DT.val (DO.callQ (d_is_tuple_to T) ok (by decide) (DV.cons (nm 2) (DV.cons DO.int (DV.cons (gi T.g_MOST_STEPS) DV.nil)))))) (DSs.one (DS.ret (DO.tup (DV.cons DO.int DV.nil)))) DSs.nil) (DSs.cons (DS.for_ (DI.enum (nm 2) rfl T.n_enumerate) (DG.tup (DGs.cons (DG.name (i := 4) ok.nd rfl (by first | exact Or.inl rfl | exact Or.inr rfl) (by first | exact Or.inl rfl | exact Or.inr rfl)) (DGs.cons (DG.name (i := 5) ok.nd rfl (by first | exact Or.inl rfl | exact Or.inr rfl) (by first | exact Or.inl rfl | exact Or.inr rfl)) DGs.nil))) (DSs.cons (DS.set (i := 6) ok.nd rfl (by first | exact Or.inl rfl | exact Or.inr rfl) (Or.inl rfl) (DO.callQ (d_step_fault T) ok (by decide) (DV.cons (nm 0) (DV.cons (nm 5) DV.nil)))) (DSs.one (DS.if_ (DT.cmp od_isNot (nm 6) DO.non rfl) (DSs.one (DS.ret (DO.bin od_add (DO.tup (DV.cons DO.int (DV.cons (nm 4) DV.nil))) (nm 6)))) DSs.nil)))) (DSs.cons (DS.if_ (DT.not (DT.val (DO.callQ (d_is_tuple_of T) ok (by decide) (DV.cons (nm 3) (DV.cons (DO.callB cd_len rfl T.n_len rfl (DA.cons (nm 2) DA.nil)) DV.nil))))) (DSs.one (DS.ret (DO.tup (DV.cons DO.int DV.nil)))) DSs.nil) (DSs.cons (DS.for_ (DI.enum (nm 3) rfl T.n_enumerate) (DG.tup (DGs.cons (DG.name (i := 4) ok.nd rfl (by first | exact Or.inl rfl | exact Or.inr rfl) (by first | exact Or.inl rfl | exact Or.inr rfl)) (DGs.cons (DG.name (i := 7) ok.nd rfl (by first | exact Or.inl rfl | exact Or.inr rfl) (by first | exact Or.inl rfl | exact Or.inr rfl)) DGs.nil))) (DSs.one (DS.if_ (DW.pt (DW.and (DT.cmp od_isNot (nm 7) DO.non rfl) (DW.and1 (DW.pt (DW.or (DT.cmp (od_eq ok) (nm 4) DO.int rfl) (DW.or1 (DT.not (DT.val (DO.callQ (d_is_within T) ok (by decide) (DV.cons (nm 7) (DV.cons DO.int (DV.cons (gi T.g_MOST_WINDOW) DV.nil)))))))))))) (DSs.one (DS.ret (DO.tup (DV.cons DO.int (DV.cons (nm 4) DV.nil))))) DSs.nil))) (DSs.one (DS.ret DO.non))))))))
def F_task_fault : M Unit Out := (seqM (ifM (notT (bnd (callP m_is_tuple_of (consD (nameM 0) (consD (ret (.val (PyData.int 2))) nilM))) boolO)) (retM (tupM (consD (ret (.val (PyData.str "task"))) (consD (tupM nilM) nilM)))) (ret .nx)) (seqM (unpM (nameM 0) (tupG 2 (gsCons (setM 1) (gsCons (setM 2) gsNil)))) (seqM (asgM 3 (callP m_lab_fault (consD (nameM 1) nilM))) (seqM (ifM (bnd (op2 isNotD (nameM 3) (ret (.val PyData.none))) boolO) (retM (tupM (consD (op2 ixD (nameM 3) (ret (.val (PyData.int 0)))) (consD (op2 addD (tupM (consD (ret (.val (PyData.int 0))) nilM)) (op2 ixD (nameM 3) (ret (.val (PyData.int 1))))) nilM)))) (ret .nx)) (seqM (ifM (notT (bnd (callP m_is_tuple_to (consD (nameM 2) (consD (ret (.val (PyData.int 0))) (consD (ret (.val (PyData.int 4))) nilM)))) boolO)) (retM (tupM (consD (ret (.val (PyData.str "samples"))) (consD (tupM (consD (ret (.val (PyData.int 1))) nilM)) nilM)))) (ret .nx)) (seqM (loopM (enumM (nameM 2)) (tupG 2 (gsCons (setM 4) (gsCons (setM 5) gsNil))) (seqM (asgM 6 (callP m_sample_fault (consD (nameM 1) (consD (nameM 5) nilM)))) (ifM (bnd (op2 isNotD (nameM 6) (ret (.val PyData.none))) boolO) (retM (tupM (consD (ret (.val (PyData.str "samples"))) (consD (op2 addD (tupM (consD (ret (.val (PyData.int 1))) (consD (nameM 4) nilM))) (nameM 6)) nilM)))) (ret .nx)))) (retM (ret (.val PyData.none)))))))))
def m_task_fault : List D → Option D := runP2 1 7 F_task_fault
theorem d_task_fault (T : Top K mg) : DefQ P w K mg base 6 "task_fault" ["value"] m_task_fault :=
  Has.pure (N := ["value", "lab", "samples", "fault", "number", "sample", "place"]) T.h_task_fault ⟨rfl, rfl, rfl, by decide +kernel, rfl, by decide +kernel, by decide +kernel⟩ rfl rfl fun A B ok =>
    (DSs.cons (DS.if_ (DT.not (DT.val (DO.callQ (d_is_tuple_of T) ok (by decide) (DV.cons (nm 0) (DV.cons DO.int DV.nil))))) (DSs.one (DS.ret (DO.tup (DV.cons DO.str (DV.cons (DO.tup DV.nil) DV.nil))))) DSs.nil) (DSs.cons (DS.unp (nm 0) (DG.tup (DGs.cons (DG.name (i := 1) ok.nd rfl (by first | exact Or.inl rfl | exact Or.inr rfl) (by first | exact Or.inl rfl | exact Or.inr rfl)) (DGs.cons (DG.name (i := 2) ok.nd rfl (by first | exact Or.inl rfl | exact Or.inr rfl) (by first | exact Or.inl rfl | exact Or.inr rfl)) DGs.nil)))) (DSs.cons (DS.set (i := 3) ok.nd rfl (by first | exact Or.inl rfl | exact Or.inr rfl) (Or.inl rfl) (DO.callQ (d_lab_fault T) ok (by decide) (DV.cons (nm 1) DV.nil))) (DSs.cons (DS.if_ (DT.cmp od_isNot (nm 3) DO.non rfl) (DSs.one (DS.ret (DO.tup (DV.cons (DO.ix od_ix (nm 3) DO.int) (DV.cons (DO.bin od_add (DO.tup (DV.cons DO.int DV.nil)) (DO.ix od_ix (nm 3) DO.int)) DV.nil))))) DSs.nil) (DSs.cons (DS.if_ (DT.not (DT.val (DO.callQ (d_is_tuple_to T) ok (by decide) (DV.cons (nm 2) (DV.cons DO.int (DV.cons (gi T.g_MOST_SAMPLES) DV.nil)))))) (DSs.one (DS.ret (DO.tup (DV.cons DO.str (DV.cons (DO.tup (DV.cons DO.int DV.nil)) DV.nil))))) DSs.nil) (DSs.cons (DS.for_ (DI.enum (nm 2) rfl T.n_enumerate) (DG.tup (DGs.cons (DG.name (i := 4) ok.nd rfl (by first | exact Or.inl rfl | exact Or.inr rfl) (by first | exact Or.inl rfl | exact Or.inr rfl)) (DGs.cons (DG.name (i := 5) ok.nd rfl (by first | exact Or.inl rfl | exact Or.inr rfl) (by first | exact Or.inl rfl | exact Or.inr rfl)) DGs.nil))) (DSs.cons (DS.set (i := 6) ok.nd rfl (by first | exact Or.inl rfl | exact Or.inr rfl) (Or.inl rfl) (DO.callQ (d_sample_fault T) ok (by decide) (DV.cons (nm 1) (DV.cons (nm 5) DV.nil)))) (DSs.one (DS.if_ (DT.cmp od_isNot (nm 6) DO.non rfl) (DSs.one (DS.ret (DO.tup (DV.cons DO.str (DV.cons (DO.bin od_add (DO.tup (DV.cons DO.int (DV.cons (nm 4) DV.nil))) (nm 6)) DV.nil))))) DSs.nil)))) (DSs.one (DS.ret DO.non))))))))
def F_need_task : M Unit Out := (seqM (asgM 1 (callP m_task_fault (consD (nameM 0) nilM))) (seqM (ifM (bnd (op2 isNotD (nameM 1) (ret (.val PyData.none))) boolO) stuck (ret .nx)) (retM (nameM 0))))
def m_need_task : List D → Option D := runP2 1 2 F_need_task
theorem d_need_task (T : Top K mg) : DefQ P w K mg base 7 "need_task" ["task"] m_need_task :=
  Has.pure (N := ["task", "fault"]) T.h_need_task ⟨rfl, rfl, rfl, by decide +kernel, rfl, by decide +kernel, by decide +kernel⟩ rfl rfl fun A B ok =>
    (DSs.cons (DS.set (i := 1) ok.nd rfl (by first | exact Or.inl rfl | exact Or.inr rfl) (Or.inl rfl) (DO.callQ (d_task_fault T) ok (by decide) (DV.cons (nm 0) DV.nil))) (DSs.cons (DS.if_ (DT.cmp od_isNot (nm 1) DO.non rfl) (DSs.one DS.never) DSs.nil) (DSs.one (DS.ret (nm 0)))))
def F_tiny_number : M Unit Out := (seqM (dropM (callP m_need_shape (consD (nameM 0) nilM))) (retM (callP m_free_number (consD (nameM 0) (consD (callP m_need_task (consD (nameM 1) nilM)) nilM)))))
def m_tiny_number : List D → Option D := runP2 2 2 F_tiny_number
theorem d_tiny_number (T : Top K mg) : DefQ P w K mg base 8 "tiny_number" ["shape", "task"] m_tiny_number :=
  Has.pure (N := ["shape", "task"]) T.h_tiny_number ⟨rfl, rfl, rfl, by decide +kernel, rfl, by decide +kernel, by decide +kernel⟩ rfl rfl fun A B ok =>
    (DSs.cons (DS.expr (DO.callQ (d_need_shape T) ok (by decide) (DV.cons (nm 0) DV.nil))) (DSs.one (DS.ret (DO.callQ (d_free_number T) ok (by decide) (DV.cons (nm 0) (DV.cons (DO.callQ (d_need_task T) ok (by decide) (DV.cons (nm 1) DV.nil)) DV.nil))))))
def F__law_mixed : M Unit Out := (seqM (asgM 2 (op2 addD (op2 addD (op2 modD (callM intD (consO (op2 mulD (op2 mulD (nameM 0) (op2 addD (ret (.val (PyData.int 1))) (op2 mulD (ret (.val (PyData.int 2))) (nameM 1)))) (ret (.val (PyData.int 48271)))) nilM)) (ret (.val (PyData.int 2147483647)))) (op2 mulD (op2 mulD (ret (.val (PyData.int 7919))) (nameM 1)) (nameM 1))) (op2 mulD (ret (.val (PyData.int 104729))) (nameM 1)))) (retM (op2 fdivD (op2 modD (callM intD (consO (op2 mulD (nameM 2) (ret (.val (PyData.int 69621)))) nilM)) (ret (.val (PyData.int 2147483629)))) (ret (.val (PyData.int 7))))))
def m__law_mixed : List D → Option D := runP2 2 3 F__law_mixed
theorem d__law_mixed (T : Top K mg) : DefQ P w K mg base 1 "_law_mixed" ["cell", "n"] m__law_mixed :=
  Has.pure (N := ["cell", "n", "blend"]) T.h__law_mixed ⟨rfl, rfl, rfl, by decide +kernel, rfl, by decide +kernel, by decide +kernel⟩ rfl rfl fun A B ok =>
    (DSs.cons (DS.set (i := 2) ok.nd rfl (by first | exact Or.inl rfl | exact Or.inr rfl) (Or.inl rfl) (DO.bin od_add (DO.bin od_add (DO.bin od_mod (DO.callTy cd_int rfl T.n_int rfl (DA.cons (DO.bin od_mul (DO.bin od_mul (nm 0) (DO.bin od_add DO.int (DO.bin od_mul DO.int (nm 1)))) DO.int) DA.nil)) DO.int) (DO.bin od_mul (DO.bin od_mul DO.int (nm 1)) (nm 1))) (DO.bin od_mul DO.int (nm 1)))) (DSs.one (DS.ret (DO.bin od_fdiv (DO.bin od_mod (DO.callTy cd_int rfl T.n_int rfl (DA.cons (DO.bin od_mul (nm 2) DO.int) DA.nil)) DO.int) DO.int))))
def F__law_folded : M Unit Out := (seqM (asgM 1 (lcM [2] (rangeM (consO (ret (.val (PyData.int 64))) nilM)) (setM 2) (ret true) (op2 addD (ret (.val (PyData.int 17))) (nameM 2)))) (seqM (loopM (bnd (scrL 0) fun xs => ret (enumL 0 xs)) (tupG 2 (gsCons (setM 2) (gsCons (setM 3) gsNil))) (bnd (valM (op2 modD (callM intD (consO (op2 addD (op2 mulD (op2 ixD (nameM 1) (op2 modD (callM intD (consO (nameM 2) nilM)) (ret (.val (PyData.int 64))))) (ret (.val (PyData.int 48271)))) (nameM 3)) nilM)) (ret (.val (PyData.int 2147483647))))) fun d => bnd (ownAt 1) fun _ => setIxM 1 (DL.ret (Opd.val d)) (op2 modD (callM intD (consO (nameM 2) nilM)) (ret (.val (PyData.int 64)))))) (seqM (loopM (rangeM (consO (ret (.val (PyData.int 1))) (consO (ret (.val (PyData.int 64))) nilM))) (setM 2) (bnd (valM (op2 modD (callM intD (consO (op2 addD (op2 ixD (nameM 1) (nameM 2)) (op2 mulD (op2 ixD (nameM 1) (op2 subD (nameM 2) (ret (.val (PyData.int 1))))) (ret (.val (PyData.int 16807))))) nilM)) (ret (.val (PyData.int 2147483647))))) fun d => bnd (ownAt 1) fun _ => setIxM 1 (DL.ret (Opd.val d)) (nameM 2))) (retM (nameM 1)))))
def m__law_folded : List Int → Option D := runS 4 F__law_folded
theorem d__law_folded (T : Top K mg) : DefS P w K mg base 1 "_law_folded" ["script"] m__law_folded :=
  Has.scr (N := ["script", "found", "n", "cell"]) T.h__law_folded ⟨rfl, rfl, rfl, by decide +kernel, rfl, by decide +kernel, by decide +kernel⟩ rfl fun A B ok =>
    (DSs.cons (DS.setLc (i := 1) (own := [("n", 2)]) ok.nd (fun X h => by rw [h.sc]; rfl) rfl rfl rfl (by decide +kernel) (DI.range1 (DA.cons DO.int DA.nil) rfl T.n_range) (blkOk_by (by dsimp only [Gam.blk]; decide +kernel)) (DG.name (i := 2) ok.blk.nd rfl (by first | exact Or.inl rfl | exact Or.inr rfl) (by first | exact Or.inl rfl | exact Or.inr rfl)) (by decide) DTs.nil (DO.bin od_add DO.int (nm 2))) (DSs.cons (DS.for_ (DI.enumScr (i := 0) rfl (by first | exact Or.inl rfl | exact Or.inr (Or.inl rfl) | exact Or.inr (Or.inr rfl)) rfl T.n_enumerate) (DG.tup (DGs.cons (DG.name (i := 2) ok.nd rfl (by first | exact Or.inl rfl | exact Or.inr rfl) (by first | exact Or.inl rfl | exact Or.inr rfl)) (DGs.cons (DG.name (i := 3) ok.nd rfl (by first | exact Or.inl rfl | exact Or.inr rfl) (by first | exact Or.inl rfl | exact Or.inr rfl)) DGs.nil))) (DSs.one (DS.setIx (i := 1) rfl (by first | exact Or.inl rfl | exact Or.inr (Or.inl rfl) | exact Or.inr (Or.inr rfl)) (DO.bin od_mod (DO.callTy cd_int rfl T.n_int rfl (DA.cons (DO.bin od_add (DO.bin od_mul (DO.ix od_ix (nm 1) (DO.bin od_mod (DO.callTy cd_int rfl T.n_int rfl (DA.cons (nm 2) DA.nil)) DO.int)) DO.int) (nm 3)) DA.nil)) DO.int) (DO.bin od_mod (DO.callTy cd_int rfl T.n_int rfl (DA.cons (nm 2) DA.nil)) DO.int)))) (DSs.cons (DS.for_ (DI.range2 (DA.cons DO.int (DA.cons DO.int DA.nil)) rfl T.n_range) (DG.name (i := 2) ok.nd rfl (by first | exact Or.inl rfl | exact Or.inr rfl) (by first | exact Or.inl rfl | exact Or.inr rfl)) (DSs.one (DS.setIx (i := 1) rfl (by first | exact Or.inl rfl | exact Or.inr (Or.inl rfl) | exact Or.inr (Or.inr rfl)) (DO.bin od_mod (DO.callTy cd_int rfl T.n_int rfl (DA.cons (DO.bin od_add (DO.ix od_ix (nm 1) (nm 2)) (DO.bin od_mul (DO.ix od_ix (nm 1) (DO.bin od_sub (nm 2) DO.int)) DO.int)) DA.nil)) DO.int) (nm 2)))) (DSs.one (DS.ret (nm 1))))))
def m__law_draw : List D → DrawSt → Option (D × DrawSt) := drawF m__law_mixed
theorem d__law_draw (T : Top K mg) : DefD P w K mg base 2 "_law_draw" ["m", "limit"] m__law_draw := by
  obtain ⟨am, fm, Fm, hmm, hkm, hbm⟩ := (d__law_mixed (P := P) (w := w) (base := base) T).ex
  obtain ⟨a, fd, Fn, h1, h2, h3⟩ := T.h__law_draw
  have Sc : FnScope ["m", "limit", "n", "lot", "here", "cell"] ["m", "limit"] (defScope s__law_draw) := ⟨rfl, rfl, rfl, by decide +kernel, rfl, by decide +kernel, by decide +kernel⟩
  refine ⟨a, fd, fnAny Fn Sc ?_ fun A vs H Q E hsp ok => ?_, h1, h2, h3⟩
  · rintro vs H Q E ⟨pm, pg, pc, S, us, ds, st, d, st', rfl, _, _, _, h, e, _⟩
    unfold m__law_draw drawF at e
    split at e
    · rw [List.length_cons, h.len]; rfl
    · cases e
  obtain ⟨pm, pg, pc, S, us, ds, st, d, st', rfl, wS, nr, at_, hds, hrun, hQ⟩ := hsp
  refine ⟨tDraw K m__law_mixed, fun X h => ?_, ?_⟩
  · have hu : X.A.units + 65 < cLine := by rw [h.A]; exact ok.hu
    have F' : FnG X.prog X.w X.K X.mg X.base 1 am fm ["cell", "n"] (spP X.K m__law_mixed) := by rw [h.P, h.w, h.K, h.mg, h.base]; exact Fm
    have gl : ∀ x : Str, (defScope s__law_draw).names.lookup x = some .globalImplicit → Gl X x := fun x hg => gl_of h hg
    have v : ∀ (i : Nat) (x : Str) (pos : Pos), (["m", "limit", "n", "lot", "here", "cell"] : List Str)[i]? = some x → (defScope s__law_draw).names.lookup x = some .local → (x == ("__debug__" : Str)) = false → (x == ("__classdict__" : Str)) = false → PE X (.Name x pos) (tVar i) := fun i x pos e1 e2 e3 e4 =>
      pe_var (by rw [h.N]; exact e1) (by rw [h.sc]; exact Or.inl e2) e3 e4
    have nd : X.N.Nodup := by rw [h.N]; exact ok.nd
    have ni : ∀ (i : Nat) (x : Str), (["m", "limit", "n", "lot", "here", "cell"] : List Str)[i]? = some x → X.N[i]? = some x := fun i x e => by rw [h.N]; exact e
    have lo : ∀ x : Str, (defScope s__law_draw).names.lookup x = some .local → Loc X.env.scope x := fun x e => by rw [h.sc]; exact Or.inl e
    have fnl : ∀ x : Str, (defScope s__law_draw).names.lookup x = some .local → X.fn x = true ∨ X.env.scope.names.lookup x = some .local := fun x e => by rw [h.sc]; exact Or.inr e
    have mi : X.mg "int" = none := by rw [h.mg]; exact T.n_int
    have ml : X.mg "len" = none := by rw [h.mg]; exact T.n_len
    have cal : ∀ {e : Expr} {es : List Expr} {p pos : Pos} {t : TA}, PA X (e :: es) t → starEach (e :: es) X.env = (false, eval e X.env) :: starEach es X.env → (backTo pos (starEach es X.env)).any (·.1) = false → PE X (.Call (.Name "_law_mixed" p) (e :: es) [] pos) (tCall (spP X.K m__law_mixed) [] E0 t) :=
      fun ha he hp => pe_callG F' (by rw [h.A]; exact ok.room.mono (by decide)) (by rw [h.A]; exact ok.gd) (gl "_law_mixed" rfl) (by rw [h.mg]; exact hmm) (by rw [h.K]; exact hkm) (by rw [h.K]; exact hbm) ha (by decide) he hp
    have key : PSs X (defBody s__law_draw) (tDraw X.K m__law_mixed) := pss_cons (X := X) (ps_set nd (ni 2 "n" rfl) (lo "n" rfl) (pe_dget (by omega) (v 0 "m" _ rfl rfl (by decide) (by decide)) pe_str (fun _ _ => rfl)) rfl (fnl "n" rfl))
      (pss_cons (ps_dput (by omega) (v 0 "m" _ rfl rfl (by decide) (by decide)) pe_str (pe_op op_add (v 2 "n" _ rfl rfl (by decide) (by decide)) pe_int) rfl)
      (pss_cons (ps_if (pt_cmpR (op_neD (by omega)) (pe_dget (by omega) (v 0 "m" _ rfl rfl (by decide) (by decide)) pe_str (fun _ _ => rfl)) (pe_lst pa_nil) rfl)
        (pss_cons (ps_set nd (ni 3 "lot" rfl) (lo "lot" rfl) (pe_dget (by omega) (v 0 "m" _ rfl rfl (by decide) (by decide)) pe_str (fun _ _ => rfl)) rfl (fnl "lot" rfl))
        (pss_cons (ps_set nd (ni 4 "here" rfl) (lo "here" rfl) (pe_op op_mod (pe_callTy call_int1 (gl "int" rfl) mi rfl (pa_cons (v 2 "n" _ rfl rfl (by decide) (by decide)) pa_nil)) (pe_callB call_len (gl "len" rfl) ml PySem.boot_len (pa_cons (v 3 "lot" _ rfl rfl (by decide) (by decide)) pa_nil))) rfl (fnl "here" rfl))
        (pss_cons (ps_set nd (ni 5 "cell" rfl) (lo "cell" rfl) (pe_ix ix_list (v 3 "lot" _ rfl rfl (by decide) (by decide)) (v 4 "here" _ rfl rfl (by decide) (by decide)) (fun _ _ => rfl)) rfl (fnl "cell" rfl))
        (pss_one (ps_if (pt_cmpR op_gt (v 5 "cell" _ rfl rfl (by decide) (by decide)) pe_int rfl)
          (pss_cons (ps_asg (pe_op op_fdivW (v 5 "cell" _ rfl rfl (by decide) (by decide)) (v 1 "limit" _ rfl rfl (by decide) (by decide))) (pg_sub (v 3 "lot" _ rfl rfl (by decide) (by decide)) (v 4 "here" _ rfl rfl (by decide) (by decide)) set_list (fun _ => rfl)))
          (pss_one (ps_ret (pe_op op_mod (pe_callTy call_int1 (gl "int" rfl) mi rfl (pa_cons (v 5 "cell" _ rfl rfl (by decide) (by decide)) pa_nil)) (v 1 "limit" _ rfl rfl (by decide) (by decide))))))
          pss_nil))))) pss_nil)
      (pss_cons (ps_set nd (ni 3 "lot" rfl) (lo "lot" rfl) (pe_dget (by omega) (v 0 "m" _ rfl rfl (by decide) (by decide)) pe_str (fun _ _ => rfl)) rfl (fnl "lot" rfl))
      (pss_one (ps_ret (pe_op op_mod (pe_callTy call_int1 (gl "int" rfl) mi rfl (pa_cons
        (cal (pa_cons (cal (pa_cons (pe_op op_add (pe_ix ix_list (v 3 "lot" _ rfl rfl (by decide) (by decide)) (pe_op op_mod (pe_callTy call_int1 (gl "int" rfl) mi rfl (pa_cons (v 2 "n" _ rfl rfl (by decide) (by decide)) pa_nil)) pe_int) (fun _ _ => rfl))
          (pe_op op_mul pe_int (pe_op op_fdivW (v 2 "n" _ rfl rfl (by decide) (by decide)) pe_int))) (pa_cons (v 2 "n" _ rfl rfl (by decide) (by decide)) pa_nil)) rfl rfl)
          (pa_cons (pe_op op_add (v 2 "n" _ rfl rfl (by decide) (by decide)) pe_int) pa_nil)) rfl rfl) pa_nil)) (v 1 "limit" _ rfl rfl (by decide) (by decide))))))))
    rw [h.K] at key
    exact key
  · have hrun' := hrun
    unfold m__law_draw drawF at hrun'
    split at hrun'
    · cases hds with
      | cons r0 rs =>
        cases rs
        cases r0
        exact draw_run wS nr at_ hrun rfl hQ
    · cases hrun'
theorem d__law_begun (T : Top K mg) : LawQ P w K mg base 2 "_law_begun" ["script"] (spB K m__law_folded) := by
  obtain ⟨am, fm, Fm, hmm, hkm, hbm⟩ := (d__law_folded (P := P) (w := w) (base := base) T).ex
  obtain ⟨a, fd, Fn, h1, h2, h3⟩ := T.h__law_begun
  have Sc : FnScope ["script", "m", "cell"] ["script"] (defScope s__law_begun) := ⟨rfl, rfl, rfl, by decide +kernel, rfl, by decide +kernel, by decide +kernel⟩
  refine ⟨a, fd, fnAny Fn Sc ?_ fun A vs H Q E hsp ok => ?_, h1, h2, h3⟩
  · rintro vs H Q E ⟨a, ns, cells, rfl, _⟩
    rfl
  obtain ⟨a, ns, cells, rfl, hO, hq, hl, hf, hQ⟩ := hsp
  refine ⟨tBegun K m__law_folded, fun X h => ?_, begun_run hO hq hl hf rfl hQ⟩
  have hu : X.A.units + 65 < cLine := by rw [h.A]; exact ok.hu
  have F' : FnG X.prog X.w X.K X.mg X.base 1 am fm ["script"] (spS X.K m__law_folded) := by rw [h.P, h.w, h.K, h.mg, h.base]; exact Fm
  have gl : ∀ x : Str, (defScope s__law_begun).names.lookup x = some .globalImplicit → Gl X x := fun x hg => gl_of h hg
  have v : ∀ (i : Nat) (x : Str) (pos : Pos), (["script", "m", "cell"] : List Str)[i]? = some x → (defScope s__law_begun).names.lookup x = some .local → (x == ("__debug__" : Str)) = false → (x == ("__classdict__" : Str)) = false → PE X (.Name x pos) (tVar i) := fun i x pos e1 e2 e3 e4 =>
    pe_var (by rw [h.N]; exact e1) (by rw [h.sc]; exact Or.inl e2) e3 e4
  have nd : X.N.Nodup := by rw [h.N]; exact ok.nd
  have ni : ∀ (i : Nat) (x : Str), (["script", "m", "cell"] : List Str)[i]? = some x → X.N[i]? = some x := fun i x e => by rw [h.N]; exact e
  have lo : Loc X.env.scope "m" := by rw [h.sc]; exact Or.inl rfl
  have fnl : X.fn ("m" : Str) = true ∨ X.env.scope.names.lookup ("m" : Str) = some NameKind.local := by rw [h.sc]; exact Or.inr rfl
  have cal : ∀ {e : Expr} {es : List Expr} {p pos : Pos} {t : TA}, PA X (e :: es) t → starEach (e :: es) X.env = (false, eval e X.env) :: starEach es X.env → (backTo pos (starEach es X.env)).any (·.1) = false → PE X (.Call (.Name "_law_folded" p) (e :: es) [] pos) (tCall (spS X.K m__law_folded) [] E0 t) :=
    fun ha he hp => pe_callG F' (by rw [h.A]; exact ok.room.mono (by decide)) (by rw [h.A]; exact ok.gd) (gl "_law_folded" rfl) (by rw [h.mg]; exact hmm) (by rw [h.K]; exact hkm) (by rw [h.K]; exact hbm) ha (by decide) he hp
  have key : PSs X (defBody s__law_begun) (tBegun X.K m__law_folded) :=
    pss_cons (ps_set nd (ni 1 "m" rfl) lo (pe_disp (pps_cons pe_str (cal (pa_cons (v 0 "script" _ rfl rfl (by decide) (by decide)) pa_nil) rfl rfl) (pps_cons pe_str (pe_lst pa_nil) (pps_cons pe_str pe_int pps_nil))) rfl rfl (fun z => by cases z) (by decide)) rfl fnl)
    (pss_cons (ps_dput (by omega) (v 1 "m" _ rfl rfl (by decide) (by decide)) pe_str
      (pe_lc (own := [("cell", 2)]) (g := gName 2) (tt := tYes) h.calm nd (pi_list (v 0 "script" _ rfl rfl (by decide) (by decide))) (by rw [h.N, h.sc]; exact blkOk_by (N := ["script", "m", "cell"]) (sc := defScope s__law_begun) (by decide +kernel)) (fun _ _ _ _ _ => pg_name nd (ni 2 "cell" rfl) (Or.inl rfl) (.inr rfl)) (fun _ _ _ _ _ => pts_nil)
        (fun _ _ _ _ _ => pe_ifExp (pt_cmpR op_ge (pe_var (i := 2) (ni 2 "cell" rfl) (Or.inl rfl)) (pe_op op_pow pe_int pe_int) rfl) (pe_var (i := 2) (ni 2 "cell" rfl) (Or.inl rfl)) pe_int)) rfl)
    (pss_one (ps_ret (v 1 "m" _ rfl rfl (by decide) (by decide)))))
  rw [h.K] at key
  exact key
def F__law_like : M Unit Out := (retM (op2 eqD (callM reprD (consO (nameM 0) nilM)) (callM reprD (consO (nameM 1) nilM))))
def m__law_like : List D → Option D := runP2 2 2 F__law_like
theorem d__law_like (T : Top K mg) : DefQ P w K mg base 1 "_law_like" ["got", "due"] m__law_like :=
  Has.pure (N := ["got", "due"]) T.h__law_like ⟨rfl, rfl, rfl, by decide +kernel, rfl, by decide +kernel, by decide +kernel⟩ rfl rfl fun A B ok =>
    (DSs.one (DS.ret (DO.cmp (od_eq ok) (DO.callB (cd_repr ok) rfl T.n_repr rfl (DA.cons (nm 0) DA.nil)) (DO.callB (cd_repr ok) rfl T.n_repr rfl (DA.cons (nm 1) DA.nil)) rfl)))
def F__law_of : M DrawSt Out := (retM (op2 ixD (nameM 1) (callD 0 m__law_draw (consD (callM lenD (consO (nameM 1) nilM)) nilM))))
def m__law_of : List D → DrawSt → Option (D × DrawSt) := runD2 2 2 F__law_of
theorem d__law_of (T : Top K mg) : DefD P w K mg base 3 "_law_of" ["m", "some"] m__law_of :=
  Has.draw (N := ["m", "some"]) T.h__law_of ⟨rfl, rfl, rfl, by decide +kernel, rfl, by decide +kernel, by decide +kernel⟩ rfl rfl fun A B hB ok =>
    (DSs.one (DS.ret (DO.ix od_ix (nm 1) (DO.callD (i := 0) (d__law_draw T) hB ok (by decide) (DV.cons (DO.callB cd_len rfl T.n_len rfl (DA.cons (nm 1) DA.nil)) DV.nil)))))
def F__law_tiny_spans : M Unit Out := (retM (iteM (bnd (op2 eqD (op2 ixD (nameM 0) (ret (.val (PyData.int 6)))) (ret (.val (PyData.int 1)))) boolO) (lstM (consD (tupM (consD (ret (.val (PyData.int 1))) (consD (ret (.val (PyData.int 1))) nilM))) nilM)) (lstM (consD (tupM (consD (ret (.val (PyData.int 1))) (consD (ret (.val (PyData.int 1))) nilM))) (consD (tupM (consD (ret (.val (PyData.int 1))) (consD (ret (.val (PyData.int 2))) nilM))) (consD (tupM (consD (ret (.val (PyData.int 2))) (consD (ret (.val (PyData.int 2))) nilM))) nilM))))))
def m__law_tiny_spans : List D → Option D := runP2 1 1 F__law_tiny_spans
theorem d__law_tiny_spans (T : Top K mg) : DefQ P w K mg base 1 "_law_tiny_spans" ["shape"] m__law_tiny_spans :=
  Has.pure (N := ["shape"]) T.h__law_tiny_spans ⟨rfl, rfl, rfl, by decide +kernel, rfl, by decide +kernel, by decide +kernel⟩ rfl rfl fun A B ok =>
    (DSs.one (DS.ret (DO.ite (DT.cmp (od_eq ok) (DO.ix od_ix (nm 0) DO.int) DO.int rfl) (DO.lst (DV.cons (DO.tup (DV.cons DO.int (DV.cons DO.int DV.nil))) DV.nil)) (DO.lst (DV.cons (DO.tup (DV.cons DO.int (DV.cons DO.int DV.nil))) (DV.cons (DO.tup (DV.cons DO.int (DV.cons DO.int DV.nil))) (DV.cons (DO.tup (DV.cons DO.int (DV.cons DO.int DV.nil))) DV.nil)))))))
def F__law_tiny_rows : M Unit Out := (seqM (parM [1, 2, 3] (consN (op2 ixD (nameM 0) (ret (.val (PyData.int 0)))) (consN (op2 ixD (nameM 0) (ret (.val (PyData.int 1)))) (consN (op2 ixD (nameM 0) (ret (.val (PyData.int 7)))) nilM)))) (seqM (asgM 4 (lcM [5] (rangeM (consO (nameM 1) nilM)) (setM 5) (ret true) (listRgM (consO (nameM 2) nilM)))) (seqM (loopM (rangeM (consO (ret (.val (PyData.int 1))) (consO (nameM 2) nilM))) (setM 6) (asgM 4 (op2 addD (nameM 4) (lcM [5] (rangeM (consO (nameM 1) nilM)) (setM 5) (ret true) (op2 addD (lstM (consD (ret (.val PyData.none)) nilM)) (listRgM (consO (nameM 2) nilM))))))) (seqM (asgM 4 (op2 addD (op2 addD (nameM 4) (lcM [6] (rangeM (consO (ret (.val (PyData.int 1))) (consO (nameM 2) nilM))) (setM 6) (ret true) (lstM (consD (tupM (consD (ret (.val (PyData.int 0))) nilM)) (consD (tupM (consD (ret (.val (PyData.int 0))) (consD (ret (.val (PyData.int 1))) nilM))) nilM))))) (lstM (consD (callP m__law_tiny_spans (consD (nameM 0) nilM)) nilM)))) (seqM (loopM (iterM (op2 ixD (nameM 0) (ret (.val (PyData.int 5))))) (setM 7) (loopM (rangeM (consO (nameM 7) nilM)) (setM 8) (seqM (asgM 4 (op2 addD (nameM 4) (lstM (consD (listRgM (consO (nameM 1) nilM)) (consD (iteM (bnd (op2 eqD (op2 ixD (nameM 0) (ret (.val (PyData.int 2)))) (ret (.val (PyData.int 2)))) boolO) (lstM (consD (tupM (consD (ret (.val (PyData.int 0))) nilM)) (consD (tupM (consD (ret (.val (PyData.int 0))) (consD (ret (.val (PyData.int 1))) nilM))) (consD (tupM (consD (ret (.val (PyData.int 1))) nilM)) nilM)))) (lstM (consD (tupM (consD (ret (.val (PyData.int 0))) nilM)) nilM))) nilM))))) (seqM (asgM 4 (op2 addD (nameM 4) (lstM (consD (iteM (bnd (op2 eqD (op2 ixD (nameM 0) (ret (.val (PyData.int 4)))) (ret (.val (PyData.int 1)))) boolO) (lstM (consD (tupM nilM) (consD (tupM (consD (ret (.val (PyData.int 0))) nilM)) nilM))) (lstM (consD (tupM nilM) nilM))) (consD (callP m__law_tiny_spans (consD (nameM 0) nilM)) nilM))))) (asgM 4 (op2 addD (nameM 4) (iteM (bnd (op2 gtD (nameM 8) (ret (.val (PyData.int 0)))) boolO) (lstM (consD (op2 addD (lstM (consD (ret (.val PyData.none)) nilM)) (listRgM (consO (op2 addD (nameM 3) (ret (.val (PyData.int 1)))) nilM))) nilM)) (lstM nilM)))))))) (retM (nameM 4)))))))
def m__law_tiny_rows : List D → Option D := runP2 1 9 F__law_tiny_rows
theorem d__law_tiny_rows (T : Top K mg) : DefQ P w K mg base 2 "_law_tiny_rows" ["shape"] m__law_tiny_rows :=
  Has.pure (N := ["shape", "stuffs", "states", "window", "found", "stuff", "state", "many", "step"]) T.h__law_tiny_rows ⟨rfl, rfl, rfl, by decide +kernel, rfl, by decide +kernel, by decide +kernel⟩ rfl rfl fun A B ok =>
    (DSs.cons (DS.unpN (DN.cons (DO.ix od_ix (nm 0) DO.int) (DN.cons (DO.ix od_ix (nm 0) DO.int) (DN.cons (DO.ix od_ix (nm 0) DO.int) DN.nil))) (DNm.cons (i := 1) ok.nd rfl (by first | exact Or.inl rfl | exact Or.inr rfl) (Or.inl rfl) (DNm.cons (i := 2) ok.nd rfl (by first | exact Or.inl rfl | exact Or.inr rfl) (Or.inl rfl) (DNm.cons (i := 3) ok.nd rfl (by first | exact Or.inl rfl | exact Or.inr rfl) (Or.inl rfl) DNm.nil))) (by decide) (hw := (fun X h => by unfold swappedStores Env.blockKind Env.kindOf; rw [h.sc]; rfl))) (DSs.cons (DS.setLc (i := 4) (own := [("stuff", 5)]) ok.nd (fun X h => by rw [h.sc]; rfl) rfl rfl rfl (by decide +kernel) (DI.range1 (DA.cons (nm 1) DA.nil) rfl T.n_range) (blkOk_by (by dsimp only [Gam.blk]; decide +kernel)) (DG.name (i := 5) ok.blk.nd rfl (by first | exact Or.inl rfl | exact Or.inr rfl) (by first | exact Or.inl rfl | exact Or.inr rfl)) (by decide) DTs.nil (DO.listRg1 (nm 2) rfl T.n_list rfl T.n_range)) (DSs.cons (DS.for_ (DI.range2 (DA.cons DO.int (DA.cons (nm 2) DA.nil)) rfl T.n_range) (DG.name (i := 6) ok.nd rfl (by first | exact Or.inl rfl | exact Or.inr rfl) (by first | exact Or.inl rfl | exact Or.inr rfl)) (DSs.one (DS.set (i := 4) ok.nd rfl (by first | exact Or.inl rfl | exact Or.inr rfl) (Or.inl rfl) (DO.bin od_add (nm 4) (DO.lc (own := [("stuff", 5)]) ok.nd (DI.range1 (DA.cons (nm 1) DA.nil) rfl T.n_range) (blkOk_by (by dsimp only [Gam.blk]; decide +kernel)) (DG.name (i := 5) ok.blk.nd rfl (by first | exact Or.inl rfl | exact Or.inr rfl) (by first | exact Or.inl rfl | exact Or.inr rfl)) (by decide) DTs.nil (DO.bin od_add (DO.lst (DV.cons DO.non DV.nil)) (DO.listRg1 (nm 2) rfl T.n_list rfl T.n_range))))))) (DSs.cons (DS.set (i := 4) ok.nd rfl (by first | exact Or.inl rfl | exact Or.inr rfl) (Or.inl rfl) (DO.bin od_add (DO.bin od_add (nm 4) (DO.lc (own := [("state", 6)]) ok.nd (DI.range2 (DA.cons DO.int (DA.cons (nm 2) DA.nil)) rfl T.n_range) (blkOk_by (by dsimp only [Gam.blk]; decide +kernel)) (DG.name (i := 6) ok.blk.nd rfl (by first | exact Or.inl rfl | exact Or.inr rfl) (by first | exact Or.inl rfl | exact Or.inr rfl)) (by decide) DTs.nil (DO.lst (DV.cons (DO.tup (DV.cons DO.int DV.nil)) (DV.cons (DO.tup (DV.cons DO.int (DV.cons DO.int DV.nil))) DV.nil))))) (DO.lst (DV.cons (DO.callQ (d__law_tiny_spans T) ok (by decide) (DV.cons (nm 0) DV.nil)) DV.nil)))) (DSs.cons (DS.for_ (DI.seq (DO.ix od_ix (nm 0) DO.int)) (DG.name (i := 7) ok.nd rfl (by first | exact Or.inl rfl | exact Or.inr rfl) (by first | exact Or.inl rfl | exact Or.inr rfl)) (DSs.one (DS.for_ (DI.range1 (DA.cons (nm 7) DA.nil) rfl T.n_range) (DG.name (i := 8) ok.nd rfl (by first | exact Or.inl rfl | exact Or.inr rfl) (by first | exact Or.inl rfl | exact Or.inr rfl)) (DSs.cons (DS.set (i := 4) ok.nd rfl (by first | exact Or.inl rfl | exact Or.inr rfl) (Or.inl rfl) (DO.bin od_add (nm 4) (DO.lst (DV.cons (DO.listRg1 (nm 1) rfl T.n_list rfl T.n_range) (DV.cons (DO.ite (DT.cmp (od_eq ok) (DO.ix od_ix (nm 0) DO.int) DO.int rfl) (DO.lst (DV.cons (DO.tup (DV.cons DO.int DV.nil)) (DV.cons (DO.tup (DV.cons DO.int (DV.cons DO.int DV.nil))) (DV.cons (DO.tup (DV.cons DO.int DV.nil)) DV.nil)))) (DO.lst (DV.cons (DO.tup (DV.cons DO.int DV.nil)) DV.nil))) DV.nil))))) (DSs.cons (DS.set (i := 4) ok.nd rfl (by first | exact Or.inl rfl | exact Or.inr rfl) (Or.inl rfl) (DO.bin od_add (nm 4) (DO.lst (DV.cons (DO.ite (DT.cmp (od_eq ok) (DO.ix od_ix (nm 0) DO.int) DO.int rfl) (DO.lst (DV.cons (DO.tup DV.nil) (DV.cons (DO.tup (DV.cons DO.int DV.nil)) DV.nil))) (DO.lst (DV.cons (DO.tup DV.nil) DV.nil))) (DV.cons (DO.callQ (d__law_tiny_spans T) ok (by decide) (DV.cons (nm 0) DV.nil)) DV.nil))))) (DSs.one (DS.set (i := 4) ok.nd rfl (by first | exact Or.inl rfl | exact Or.inr rfl) (Or.inl rfl) (DO.bin od_add (nm 4) (DO.ite (DT.cmp od_gt (nm 8) DO.int rfl) (DO.lst (DV.cons (DO.bin od_add (DO.lst (DV.cons DO.non DV.nil)) (DO.listRg1 (DO.bin od_add (nm 3) DO.int) rfl T.n_list rfl T.n_range)) DV.nil)) (DO.lst DV.nil)))))))))) (DSs.one (DS.ret (nm 4))))))))
def F__law_tiny_count : M Unit Out := (seqM (asgM 1 (ret (.val (PyData.int 1)))) (seqM (loopM (iterM (callP m__law_tiny_rows (consD (nameM 0) nilM))) (setM 2) (asgM 1 (op2 mulD (nameM 1) (callM lenD (consO (nameM 2) nilM))))) (retM (nameM 1))))
def m__law_tiny_count : List D → Option D := runP2 1 3 F__law_tiny_count
theorem d__law_tiny_count (T : Top K mg) : DefQ P w K mg base 3 "_law_tiny_count" ["shape"] m__law_tiny_count :=
  Has.pure (N := ["shape", "found", "row"]) T.h__law_tiny_count ⟨rfl, rfl, rfl, by decide +kernel, rfl, by decide +kernel, by decide +kernel⟩ rfl rfl fun A B ok =>
    (DSs.cons (DS.set (i := 1) ok.nd rfl (by first | exact Or.inl rfl | exact Or.inr rfl) (Or.inl rfl) DO.int) (DSs.cons (DS.for_ (DI.seq (DO.callQ (d__law_tiny_rows T) ok (by decide) (DV.cons (nm 0) DV.nil))) (DG.name (i := 2) ok.nd rfl (by first | exact Or.inl rfl | exact Or.inr rfl) (by first | exact Or.inl rfl | exact Or.inr rfl)) (DSs.one (DS.set (i := 1) ok.nd rfl (by first | exact Or.inl rfl | exact Or.inr rfl) (Or.inl rfl) (DO.bin od_mul (nm 1) (DO.callB cd_len rfl T.n_len rfl (DA.cons (nm 2) DA.nil)))))) (DSs.one (DS.ret (nm 1)))))
def F__law_tiny_task : M Unit Out := (seqM (parM [2, 3] (consN (callP m__law_tiny_rows (consD (nameM 0) nilM)) (consN (lstM nilM) nilM))) (seqM (loopM (iterM (revM (nameM 2))) (setM 4) (seqM (asgM 3 (op2 addD (lstM (consD (op2 ixD (nameM 4) (op2 modD (callM intD (consO (nameM 1) nilM)) (callM lenD (consO (nameM 4) nilM)))) nilM)) (nameM 3))) (asgM 1 (op2 fdivD (nameM 1) (callM lenD (consO (nameM 4) nilM)))))) (seqM (parM [5, 6] (consN (op2 ixD (nameM 0) (ret (.val (PyData.int 0)))) (consN (op2 ixD (nameM 0) (ret (.val (PyData.int 1)))) nilM))) (seqM (asgM 7 (lcM [8] (rangeM (consO (nameM 6) nilM)) (setM 8) (ret true) (callM tupleD (consO (sliceM slD (nameM 3) (bnd (op2 mulD (nameM 8) (nameM 5)) intO) (bnd (op2 addD (op2 mulD (nameM 8) (nameM 5)) (nameM 5)) intO)) nilM)))) (seqM (asgM 3 (sliceM slD (nameM 3) (bnd (op2 mulD (nameM 5) (nameM 6)) intO) (ret none))) (seqM (asgM 9 (op2 addD (tupM (consD (op2 addD (tupM (consD (tupM (consD (ret (.val (PyData.int 0))) nilM)) nilM)) (callM tupleD (consO (sliceM slD (nameM 3) (ret none) (bnd (op2 subD (nameM 6) (ret (.val (PyData.int 1)))) intO)) nilM))) nilM)) (op2 ixD (nameM 3) (op2 subD (nameM 6) (ret (.val (PyData.int 1))))))) (seqM (parM [3, 10] (consN (sliceM slD (nameM 3) (bnd (nameM 6) intO) (ret none)) (consN (lstM nilM) nilM))) (seqM (loopM (iterM (op2 ixD (nameM 0) (ret (.val (PyData.int 5))))) (setM 11) (seqM (parM [12, 13] (consN (lstM nilM) (consN (lstM nilM) nilM))) (seqM (loopM (rangeM (consO (nameM 11) nilM)) (setM 14) (seqM (bnd (ownAt 12) fun _ => appM 12 (op2 addD (tupM (consD (op2 ixD (nameM 3) (ret (.val (PyData.int 0)))) (consD (op2 ixD (nameM 3) (ret (.val (PyData.int 1)))) (consD (op2 ixD (nameM 3) (ret (.val (PyData.int 2)))) nilM)))) (op2 ixD (nameM 3) (ret (.val (PyData.int 3)))))) (seqM (bnd (ownAt 13) fun _ => appM 13 (iteM (bnd (op2 gtD (nameM 14) (ret (.val (PyData.int 0)))) boolO) (op2 ixD (nameM 3) (ret (.val (PyData.int 4)))) (ret (.val PyData.none)))) (asgM 3 (iteM (bnd (op2 gtD (nameM 14) (ret (.val (PyData.int 0)))) boolO) (sliceM slD (nameM 3) (bnd (ret (.val (PyData.int 5))) intO) (ret none)) (sliceM slD (nameM 3) (bnd (ret (.val (PyData.int 4))) intO) (ret none))))))) (bnd (ownAt 10) fun _ => appM 10 (tupM (consD (callM tupleD (consO (nameM 12) nilM)) (consD (callM tupleD (consO (nameM 13) nilM)) nilM))))))) (retM (tupM (consD (tupM (consD (callM tupleD (consO (nameM 7) nilM)) (consD (tupM (consD (nameM 9) nilM)) (consD (op2 ixD (nameM 0) (ret (.val (PyData.int 2)))) (consD (op2 ixD (nameM 0) (ret (.val (PyData.int 3)))) (consD (op2 ixD (nameM 0) (ret (.val (PyData.int 4)))) nilM)))))) (consD (callM tupleD (consO (nameM 10) nilM)) nilM))))))))))))
def m__law_tiny_task : List D → Option D := runP2 2 15 F__law_tiny_task
theorem d__law_tiny_task (T : Top K mg) : DefQ P w K mg base 3 "_law_tiny_task" ["shape", "number"] m__law_tiny_task :=
  Has.pure (N := ["shape", "number", "rows", "picks", "row", "stuffs", "states", "meets", "state", "wash", "samples", "many", "steps", "windows", "step"]) T.h__law_tiny_task ⟨rfl, rfl, rfl, by decide +kernel, rfl, by decide +kernel, by decide +kernel⟩ rfl rfl fun A B ok =>
    (DSs.cons (DS.unpN (DN.cons (DO.callQ (d__law_tiny_rows T) ok (by decide) (DV.cons (nm 0) DV.nil)) (DN.cons (DO.lst DV.nil) DN.nil)) (DNm.cons (i := 2) ok.nd rfl (by first | exact Or.inl rfl | exact Or.inr rfl) (Or.inl rfl) (DNm.cons (i := 3) ok.nd rfl (by first | exact Or.inl rfl | exact Or.inr rfl) (Or.inl rfl) DNm.nil)) (by decide) (hw := (fun X h => by unfold swappedStores Env.blockKind Env.kindOf; rw [h.sc]; rfl))) (DSs.cons (DS.for_ (DI.seq (DO.rev (nm 2))) (DG.name (i := 4) ok.nd rfl (by first | exact Or.inl rfl | exact Or.inr rfl) (by first | exact Or.inl rfl | exact Or.inr rfl)) (DSs.cons (DS.set (i := 3) ok.nd rfl (by first | exact Or.inl rfl | exact Or.inr rfl) (Or.inl rfl) (DO.bin od_add (DO.lst (DV.cons (DO.ix od_ix (nm 4) (DO.bin od_mod (DO.callTy cd_int rfl T.n_int rfl (DA.cons (nm 1) DA.nil)) (DO.callB cd_len rfl T.n_len rfl (DA.cons (nm 4) DA.nil)))) DV.nil)) (nm 3))) (DSs.one (DS.set (i := 1) ok.nd rfl (by first | exact Or.inl rfl | exact Or.inr rfl) (Or.inl rfl) (DO.bin od_fdiv (nm 1) (DO.callB cd_len rfl T.n_len rfl (DA.cons (nm 4) DA.nil))))))) (DSs.cons (DS.unpN (DN.cons (DO.ix od_ix (nm 0) DO.int) (DN.cons (DO.ix od_ix (nm 0) DO.int) DN.nil)) (DNm.cons (i := 5) ok.nd rfl (by first | exact Or.inl rfl | exact Or.inr rfl) (Or.inl rfl) (DNm.cons (i := 6) ok.nd rfl (by first | exact Or.inl rfl | exact Or.inr rfl) (Or.inl rfl) DNm.nil)) (by decide) (hw := (fun X h => by unfold swappedStores Env.blockKind Env.kindOf; rw [h.sc]; rfl))) (DSs.cons (DS.setLc (i := 7) (own := [("state", 8)]) ok.nd (fun X h => by rw [h.sc]; rfl) rfl rfl rfl (by decide +kernel) (DI.range1 (DA.cons (nm 6) DA.nil) rfl T.n_range) (blkOk_by (by dsimp only [Gam.blk]; decide +kernel)) (DG.name (i := 8) ok.blk.nd rfl (by first | exact Or.inl rfl | exact Or.inr rfl) (by first | exact Or.inl rfl | exact Or.inr rfl)) (by decide) DTs.nil (DO.callTy cd_tuple rfl T.n_tuple rfl (DA.cons (DO.slice od_sl (nm 3) (DP.some (DO.bin od_mul (nm 8) (nm 5))) (DP.some (DO.bin od_add (DO.bin od_mul (nm 8) (nm 5)) (nm 5)))) DA.nil))) (DSs.cons (DS.set (i := 3) ok.nd rfl (by first | exact Or.inl rfl | exact Or.inr rfl) (Or.inl rfl) (DO.slice od_sl (nm 3) (DP.some (DO.bin od_mul (nm 5) (nm 6))) DP.none)) (DSs.cons (DS.set (i := 9) ok.nd rfl (by first | exact Or.inl rfl | exact Or.inr rfl) (Or.inl rfl) (DO.bin od_add (DO.tup (DV.cons (DO.bin od_add (DO.tup (DV.cons (DO.tup (DV.cons DO.int DV.nil)) DV.nil)) (DO.callTy cd_tuple rfl T.n_tuple rfl (DA.cons (DO.slice od_sl (nm 3) DP.none (DP.some (DO.bin od_sub (nm 6) DO.int))) DA.nil))) DV.nil)) (DO.ix od_ix (nm 3) (DO.bin od_sub (nm 6) DO.int)))) (DSs.cons (DS.unpN (DN.cons (DO.slice od_sl (nm 3) (DP.some (nm 6)) DP.none) (DN.cons (DO.lst DV.nil) DN.nil)) (DNm.cons (i := 3) ok.nd rfl (by first | exact Or.inl rfl | exact Or.inr rfl) (Or.inl rfl) (DNm.cons (i := 10) ok.nd rfl (by first | exact Or.inl rfl | exact Or.inr rfl) (Or.inl rfl) DNm.nil)) (by decide) (hw := (fun X h => by unfold swappedStores Env.blockKind Env.kindOf; rw [h.sc]; rfl))) (DSs.cons (DS.for_ (DI.seq (DO.ix od_ix (nm 0) DO.int)) (DG.name (i := 11) ok.nd rfl (by first | exact Or.inl rfl | exact Or.inr rfl) (by first | exact Or.inl rfl | exact Or.inr rfl)) (DSs.cons (DS.par2 (i := 12) (j := 13) ok.nd rfl rfl (by decide) rfl rfl (DN.cons (DO.lst DV.nil) (DN.cons (DO.lst DV.nil) DN.nil)) (fun X h => by unfold swappedStores Env.blockKind Env.kindOf; rw [h.sc]; rfl)) (DSs.cons (DS.for_ (DI.range1 (DA.cons (nm 11) DA.nil) rfl T.n_range) (DG.name (i := 14) ok.nd rfl (by first | exact Or.inl rfl | exact Or.inr rfl) (by first | exact Or.inl rfl | exact Or.inr rfl)) (DSs.cons (DS.app (i := 12) rfl (by first | exact Or.inl rfl | exact Or.inr (Or.inl rfl) | exact Or.inr (Or.inr rfl)) (DO.bin od_add (DO.tup (DV.cons (DO.ix od_ix (nm 3) DO.int) (DV.cons (DO.ix od_ix (nm 3) DO.int) (DV.cons (DO.ix od_ix (nm 3) DO.int) DV.nil)))) (DO.ix od_ix (nm 3) DO.int))) (DSs.cons (DS.app (i := 13) rfl (by first | exact Or.inl rfl | exact Or.inr (Or.inl rfl) | exact Or.inr (Or.inr rfl)) (DO.ite (DT.cmp od_gt (nm 14) DO.int rfl) (DO.ix od_ix (nm 3) DO.int) DO.non)) (DSs.one (DS.set (i := 3) ok.nd rfl (by first | exact Or.inl rfl | exact Or.inr rfl) (Or.inl rfl) (DO.ite (DT.cmp od_gt (nm 14) DO.int rfl) (DO.slice od_sl (nm 3) (DP.some DO.int) DP.none) (DO.slice od_sl (nm 3) (DP.some DO.int) DP.none))))))) (DSs.one (DS.app (i := 10) rfl (by first | exact Or.inl rfl | exact Or.inr (Or.inl rfl) | exact Or.inr (Or.inr rfl)) (DO.tup (DV.cons (DO.callTy cd_tuple rfl T.n_tuple rfl (DA.cons (nm 12) DA.nil)) (DV.cons (DO.callTy cd_tuple rfl T.n_tuple rfl (DA.cons (nm 13) DA.nil)) DV.nil)))))))) (DSs.one (DS.ret (DO.tup (DV.cons (DO.tup (DV.cons (DO.callTy cd_tuple rfl T.n_tuple rfl (DA.cons (nm 7) DA.nil)) (DV.cons (DO.tup (DV.cons (nm 9) DV.nil)) (DV.cons (DO.ix od_ix (nm 0) DO.int) (DV.cons (DO.ix od_ix (nm 0) DO.int) (DV.cons (DO.ix od_ix (nm 0) DO.int) DV.nil)))))) (DV.cons (DO.callTy cd_tuple rfl T.n_tuple rfl (DA.cons (nm 10) DA.nil)) DV.nil)))))))))))))
def F__law_shape : M DrawSt Out := (seqM (asgM 1 (callD 0 m__law_of (consD (lstM (consD (tupM (consD (ret (.val (PyData.int 1))) nilM)) (consD (tupM (consD (ret (.val (PyData.int 2))) nilM)) (consD (tupM (consD (ret (.val (PyData.int 1))) (consD (ret (.val (PyData.int 1))) nilM))) (consD (tupM (consD (ret (.val (PyData.int 1))) (consD (ret (.val (PyData.int 2))) nilM))) (consD (tupM (consD (ret (.val (PyData.int 2))) (consD (ret (.val (PyData.int 1))) nilM))) (consD (tupM (consD (ret (.val (PyData.int 2))) (consD (ret (.val (PyData.int 2))) nilM))) nilM))))))) nilM))) (seqM (asgM 2 (lcM [3] (rangeM (consO (ret (.val (PyData.int 5))) nilM)) (setM 3) (ret true) (op2 addD (ret (.val (PyData.int 1))) (callD 0 m__law_draw (consD (ret (.val (PyData.int 2))) nilM))))) (retM (tupM (consD (op2 ixD (nameM 2) (ret (.val (PyData.int 0)))) (consD (op2 ixD (nameM 2) (ret (.val (PyData.int 1)))) (consD (op2 ixD (nameM 2) (ret (.val (PyData.int 2)))) (consD (op2 ixD (nameM 2) (ret (.val (PyData.int 3)))) (consD (callD 0 m__law_draw (consD (ret (.val (PyData.int 2))) nilM)) (consD (nameM 1) (consD (op2 ixD (nameM 2) (ret (.val (PyData.int 4)))) (consD (op2 subD (callD 0 m__law_draw (consD (ret (.val (PyData.int 4))) nilM)) (ret (.val (PyData.int 1)))) nilM))))))))))))
def m__law_shape : List D → DrawSt → Option (D × DrawSt) := runD2 1 4 F__law_shape
theorem d__law_shape (T : Top K mg) : DefD P w K mg base 4 "_law_shape" ["m"] m__law_shape :=
  Has.draw (N := ["m", "sizes", "ones", "n"]) T.h__law_shape ⟨rfl, rfl, rfl, by decide +kernel, rfl, by decide +kernel, by decide +kernel⟩ rfl rfl fun A B hB ok =>
    (DSs.cons (DS.set (i := 1) ok.nd rfl (by first | exact Or.inl rfl | exact Or.inr rfl) (Or.inl rfl) (DO.callD (i := 0) (d__law_of T) hB ok (by decide) (DV.cons (DO.lst (DV.cons (DO.tup (DV.cons DO.int DV.nil)) (DV.cons (DO.tup (DV.cons DO.int DV.nil)) (DV.cons (DO.tup (DV.cons DO.int (DV.cons DO.int DV.nil))) (DV.cons (DO.tup (DV.cons DO.int (DV.cons DO.int DV.nil))) (DV.cons (DO.tup (DV.cons DO.int (DV.cons DO.int DV.nil))) (DV.cons (DO.tup (DV.cons DO.int (DV.cons DO.int DV.nil))) DV.nil))))))) DV.nil))) (DSs.cons (DS.setLc (i := 2) (own := [("n", 3)]) ok.nd (fun X h => by rw [h.sc]; rfl) rfl rfl rfl (by decide +kernel) (DI.range1 (DA.cons DO.int DA.nil) rfl T.n_range) (blkOk_by (by dsimp only [Gam.blk]; decide +kernel)) (DG.name (i := 3) ok.blk.nd rfl (by first | exact Or.inl rfl | exact Or.inr rfl) (by first | exact Or.inl rfl | exact Or.inr rfl)) (by decide) DTs.nil (DO.bin od_add DO.int (DO.callD (i := 0) (d__law_draw T) hB ok.blk (by decide) (DV.cons DO.int DV.nil)))) (DSs.one (DS.ret (DO.tup (DV.cons (DO.ix od_ix (nm 2) DO.int) (DV.cons (DO.ix od_ix (nm 2) DO.int) (DV.cons (DO.ix od_ix (nm 2) DO.int) (DV.cons (DO.ix od_ix (nm 2) DO.int) (DV.cons (DO.callD (i := 0) (d__law_draw T) hB ok (by decide) (DV.cons DO.int DV.nil)) (DV.cons (nm 1) (DV.cons (DO.ix od_ix (nm 2) DO.int) (DV.cons (DO.bin od_sub (DO.callD (i := 0) (d__law_draw T) hB ok (by decide) (DV.cons DO.int DV.nil)) DO.int) DV.nil)))))))))))))
def F__law_item : M Unit Out := (retM (op2 addD (op2 addD (sliceM slD (nameM 0) (ret none) (bnd (nameM 1) intO)) (tupM (consD (nameM 2) nilM))) (sliceM slD (nameM 0) (bnd (op2 addD (nameM 1) (ret (.val (PyData.int 1)))) intO) (ret none))))
def m__law_item : List D → Option D := runP2 3 3 F__law_item
theorem d__law_item (T : Top K mg) : DefQ P w K mg base 1 "_law_item" ["row", "place", "thing"] m__law_item :=
  Has.pure (N := ["row", "place", "thing"]) T.h__law_item ⟨rfl, rfl, rfl, by decide +kernel, rfl, by decide +kernel, by decide +kernel⟩ rfl rfl fun A B ok =>
    (DSs.one (DS.ret (DO.bin od_add (DO.bin od_add (DO.slice od_sl (nm 0) DP.none (DP.some (nm 1))) (DO.tup (DV.cons (nm 2) DV.nil))) (DO.slice od_sl (nm 0) (DP.some (DO.bin od_add (nm 1) DO.int)) DP.none))))
def F__law_step_with : M Unit Out := (seqM (unpM (op2 ixD (op2 ixD (nameM 0) (ret (.val (PyData.int 1)))) (nameM 1)) (tupG 2 (gsCons (setM 4) (gsCons (setM 5) gsNil)))) (retM (tupM (consD (op2 ixD (nameM 0) (ret (.val (PyData.int 0)))) (consD (callP m__law_item (consD (op2 ixD (nameM 0) (ret (.val (PyData.int 1)))) (consD (nameM 1) (consD (tupM (consD (callP m__law_item (consD (nameM 4) (consD (nameM 2) (consD (nameM 3) nilM)))) (consD (nameM 5) nilM))) nilM)))) nilM)))))
def m__law_step_with : List D → Option D := runP2 4 6 F__law_step_with
theorem d__law_step_with (T : Top K mg) : DefQ P w K mg base 2 "_law_step_with" ["task", "sample", "step", "thing"] m__law_step_with :=
  Has.pure (N := ["task", "sample", "step", "thing", "steps", "windows"]) T.h__law_step_with ⟨rfl, rfl, rfl, by decide +kernel, rfl, by decide +kernel, by decide +kernel⟩ rfl rfl fun A B ok =>
    (DSs.cons (DS.unp (DO.ix od_ix (DO.ix od_ix (nm 0) DO.int) (nm 1)) (DG.tup (DGs.cons (DG.name (i := 4) ok.nd rfl (by first | exact Or.inl rfl | exact Or.inr rfl) (by first | exact Or.inl rfl | exact Or.inr rfl)) (DGs.cons (DG.name (i := 5) ok.nd rfl (by first | exact Or.inl rfl | exact Or.inr rfl) (by first | exact Or.inl rfl | exact Or.inr rfl)) DGs.nil)))) (DSs.one (DS.ret (DO.tup (DV.cons (DO.ix od_ix (nm 0) DO.int) (DV.cons (DO.callQ (d__law_item T) ok (by decide) (DV.cons (DO.ix od_ix (nm 0) DO.int) (DV.cons (nm 1) (DV.cons (DO.tup (DV.cons (DO.callQ (d__law_item T) ok (by decide) (DV.cons (nm 4) (DV.cons (nm 2) (DV.cons (nm 3) DV.nil)))) (DV.cons (nm 5) DV.nil))) DV.nil)))) DV.nil))))))
def F__law_window_with : M Unit Out := (seqM (unpM (op2 ixD (op2 ixD (nameM 0) (ret (.val (PyData.int 1)))) (nameM 1)) (tupG 2 (gsCons (setM 4) (gsCons (setM 5) gsNil)))) (retM (tupM (consD (op2 ixD (nameM 0) (ret (.val (PyData.int 0)))) (consD (callP m__law_item (consD (op2 ixD (nameM 0) (ret (.val (PyData.int 1)))) (consD (nameM 1) (consD (tupM (consD (nameM 4) (consD (callP m__law_item (consD (nameM 5) (consD (nameM 2) (consD (nameM 3) nilM)))) nilM))) nilM)))) nilM)))))
def m__law_window_with : List D → Option D := runP2 4 6 F__law_window_with
theorem d__law_window_with (T : Top K mg) : DefQ P w K mg base 2 "_law_window_with" ["task", "sample", "step", "window"] m__law_window_with :=
  Has.pure (N := ["task", "sample", "step", "window", "steps", "windows"]) T.h__law_window_with ⟨rfl, rfl, rfl, by decide +kernel, rfl, by decide +kernel, by decide +kernel⟩ rfl rfl fun A B ok =>
    (DSs.cons (DS.unp (DO.ix od_ix (DO.ix od_ix (nm 0) DO.int) (nm 1)) (DG.tup (DGs.cons (DG.name (i := 4) ok.nd rfl (by first | exact Or.inl rfl | exact Or.inr rfl) (by first | exact Or.inl rfl | exact Or.inr rfl)) (DGs.cons (DG.name (i := 5) ok.nd rfl (by first | exact Or.inl rfl | exact Or.inr rfl) (by first | exact Or.inl rfl | exact Or.inr rfl)) DGs.nil)))) (DSs.one (DS.ret (DO.tup (DV.cons (DO.ix od_ix (nm 0) DO.int) (DV.cons (DO.callQ (d__law_item T) ok (by decide) (DV.cons (DO.ix od_ix (nm 0) DO.int) (DV.cons (nm 1) (DV.cons (DO.tup (DV.cons (nm 4) (DV.cons (DO.callQ (d__law_item T) ok (by decide) (DV.cons (nm 5) (DV.cons (nm 2) (DV.cons (nm 3) DV.nil)))) DV.nil))) DV.nil)))) DV.nil))))))
def F__law_wash_with : M Unit Out := (seqM (asgM 3 (op2 ixD (nameM 0) (ret (.val (PyData.int 0))))) (retM (tupM (consD (callP m__law_item (consD (nameM 3) (consD (ret (.val (PyData.int 1))) (consD (callP m__law_item (consD (op2 ixD (nameM 3) (ret (.val (PyData.int 1)))) (consD (nameM 1) (consD (nameM 2) nilM)))) nilM)))) (consD (op2 ixD (nameM 0) (ret (.val (PyData.int 1)))) nilM)))))
def m__law_wash_with : List D → Option D := runP2 3 4 F__law_wash_with
theorem d__law_wash_with (T : Top K mg) : DefQ P w K mg base 2 "_law_wash_with" ["task", "wash", "thing"] m__law_wash_with :=
  Has.pure (N := ["task", "wash", "thing", "lab"]) T.h__law_wash_with ⟨rfl, rfl, rfl, by decide +kernel, rfl, by decide +kernel, by decide +kernel⟩ rfl rfl fun A B ok =>
    (DSs.cons (DS.set (i := 3) ok.nd rfl (by first | exact Or.inl rfl | exact Or.inr rfl) (Or.inl rfl) (DO.ix od_ix (nm 0) DO.int)) (DSs.one (DS.ret (DO.tup (DV.cons (DO.callQ (d__law_item T) ok (by decide) (DV.cons (nm 3) (DV.cons DO.int (DV.cons (DO.callQ (d__law_item T) ok (by decide) (DV.cons (DO.ix od_ix (nm 3) DO.int) (DV.cons (nm 1) (DV.cons (nm 2) DV.nil)))) DV.nil)))) (DV.cons (DO.ix od_ix (nm 0) DO.int) DV.nil))))))
def F__law_arms : M Unit Out := (retM (tupM (consD (callP m__law_item (consD (op2 ixD (nameM 0) (ret (.val (PyData.int 0)))) (consD (ret (.val (PyData.int 3))) (consD (nameM 1) nilM)))) (consD (op2 ixD (nameM 0) (ret (.val (PyData.int 1)))) nilM))))
def m__law_arms : List D → Option D := runP2 2 2 F__law_arms
theorem d__law_arms (T : Top K mg) : DefQ P w K mg base 2 "_law_arms" ["task", "arms"] m__law_arms :=
  Has.pure (N := ["task", "arms"]) T.h__law_arms ⟨rfl, rfl, rfl, by decide +kernel, rfl, by decide +kernel, by decide +kernel⟩ rfl rfl fun A B ok =>
    (DSs.one (DS.ret (DO.tup (DV.cons (DO.callQ (d__law_item T) ok (by decide) (DV.cons (DO.ix od_ix (nm 0) DO.int) (DV.cons DO.int (DV.cons (nm 1) DV.nil)))) (DV.cons (DO.ix od_ix (nm 0) DO.int) DV.nil)))))
def F__law_bent_more : M DrawSt Out := (seqM (unpM (tupM (consD (op2 ixD (nameM 2) (ret (.val (PyData.int 0)))) (consD (op2 ixD (op2 ixD (nameM 2) (ret (.val (PyData.int 1)))) (ret (.val (PyData.int 0)))) nilM))) (tupG 2 (gsCons (setM 4) (gsCons (tupG 2 (gsCons (setM 5) (gsCons (setM 6) gsNil))) gsNil)))) (seqM (unpM (op2 ixD (op2 ixD (nameM 4) (ret (.val (PyData.int 1)))) (ret (.val (PyData.int 0)))) (tupG 3 (gsCons (setM 7) (gsCons (setM 8) (gsCons (setM 9) gsNil))))) (seqM (ifM (andT (bnd (op2 eqD (nameM 3) (ret (.val (PyData.int 6)))) boolO) (bnd (op2 eqD (op2 ixD (nameM 1) (ret (.val (PyData.int 1)))) (ret (.val (PyData.int 2)))) boolO)) (retM (callP m__law_wash_with (consD (nameM 2) (consD (ret (.val (PyData.int 0))) (consD (tupM (consD (op2 addD (tupM (consD (callD 0 m__law_of (consD (lstM (consD (tupM (consD (ret (.val (PyData.int 1))) nilM)) (consD (tupM (consD (ret (.val (PyData.int 0))) (consD (ret (.val (PyData.int 1))) nilM))) nilM))) nilM)) nilM)) (sliceM slD (nameM 7) (bnd (ret (.val (PyData.int 1))) intO) (ret none))) (consD (nameM 8) (consD (nameM 9) nilM)))) nilM))))) (ret .nx)) (seqM (ifM (andT (bnd (op2 eqD (nameM 3) (ret (.val (PyData.int 7)))) boolO) (bnd (op2 eqD (op2 ixD (nameM 1) (ret (.val (PyData.int 1)))) (ret (.val (PyData.int 2)))) boolO)) (retM (callP m__law_wash_with (consD (nameM 2) (consD (ret (.val (PyData.int 0))) (consD (tupM (consD (op2 addD (sliceM slD (nameM 7) (ret none) (bnd (ret (.val (PyData.int 1))) intO)) (tupM (consD (tupM (consD (ret (.val (PyData.int 1))) nilM)) nilM))) (consD (nameM 8) (consD (nameM 9) nilM)))) nilM))))) (ret .nx)) (seqM (ifM (andT (bnd (op2 eqD (nameM 3) (ret (.val (PyData.int 8)))) boolO) (bnd (op2 eqD (callM lenD (consO (nameM 5) nilM)) (ret (.val (PyData.int 2)))) boolO)) (retM (callP m__law_window_with (consD (nameM 2) (consD (ret (.val (PyData.int 0))) (consD (ret (.val (PyData.int 1))) (consD (op2 addD (op2 addD (op2 ixD (nameM 1) (ret (.val (PyData.int 7)))) (ret (.val (PyData.int 1)))) (callD 0 m__law_draw (consD (ret (.val (PyData.int 3))) nilM))) nilM)))))) (ret .nx)) (seqM (ifM (andT (bnd (op2 eqD (nameM 3) (ret (.val (PyData.int 9)))) boolO) (bnd (op2 eqD (op2 ixD (nameM 1) (ret (.val (PyData.int 6)))) (ret (.val (PyData.int 1)))) boolO)) (retM (callP m__law_step_with (consD (nameM 2) (consD (ret (.val (PyData.int 0))) (consD (ret (.val (PyData.int 0))) (consD (op2 addD (sliceM slD (op2 ixD (nameM 5) (ret (.val (PyData.int 0)))) (ret none) (bnd (ret (.val (PyData.int 3))) intO)) (callD 0 m__law_of (consD (lstM (consD (tupM (consD (ret (.val (PyData.int 1))) (consD (ret (.val (PyData.int 2))) nilM))) (consD (tupM (consD (ret (.val (PyData.int 2))) (consD (ret (.val (PyData.int 2))) nilM))) nilM))) nilM))) nilM)))))) (ret .nx)) (seqM (ifM (bnd (op2 eqD (nameM 3) (ret (.val (PyData.int 10)))) boolO) (retM (tupM (consD (nameM 4) (consD (callP m__law_item (consD (op2 ixD (nameM 2) (ret (.val (PyData.int 1)))) (consD (ret (.val (PyData.int 0))) (consD (tupM (consD (op2 addD (nameM 5) (sliceM slD (nameM 5) (ret none) (bnd (ret (.val (PyData.int 1))) intO))) (consD (op2 addD (nameM 6) (tupM (consD (ret (.val PyData.none)) nilM))) nilM))) nilM)))) nilM)))) (ret .nx)) (seqM (ifM (bnd (op2 eqD (nameM 3) (ret (.val (PyData.int 11)))) boolO) (seqM (asgM 10 (op2 addD (op2 ixD (nameM 4) (ret (.val (PyData.int 0)))) (tupM (consD (op2 mulD (tupM (consD (ret (.val PyData.none)) nilM)) (op2 ixD (nameM 1) (ret (.val (PyData.int 0))))) nilM)))) (seqM (asgM 4 (op2 addD (tupM (consD (nameM 10) (consD (tupM (consD (tupM (consD (op2 addD (nameM 7) (tupM (consD (tupM (consD (ret (.val (PyData.int 0))) nilM)) nilM))) (consD (nameM 8) (consD (nameM 9) nilM)))) nilM)) nilM))) (sliceM slD (nameM 4) (bnd (ret (.val (PyData.int 2))) intO) (ret none)))) (retM (tupM (consD (nameM 4) (consD (op2 ixD (nameM 2) (ret (.val (PyData.int 1)))) nilM)))))) (ret .nx)) (seqM (ifM (andT (bnd (op2 eqD (nameM 3) (ret (.val (PyData.int 12)))) boolO) (bnd (op2 eqD (op2 ixD (nameM 1) (ret (.val (PyData.int 2)))) (ret (.val (PyData.int 1)))) boolO)) (retM (tupM (consD (callP m__law_item (consD (nameM 4) (consD (ret (.val (PyData.int 2))) (consD (ret (.val (PyData.int 2))) nilM)))) (consD (op2 ixD (nameM 2) (ret (.val (PyData.int 1)))) nilM)))) (ret .nx)) (retM (ret (.val PyData.none))))))))))))
def m__law_bent_more : List D → DrawSt → Option (D × DrawSt) := runD2 4 11 F__law_bent_more
theorem d__law_bent_more (T : Top K mg) : DefD P w K mg base 4 "_law_bent_more" ["m", "shape", "task", "kind"] m__law_bent_more :=
  Has.draw (N := ["m", "shape", "task", "kind", "lab", "steps", "windows", "after", "low", "high", "rows"]) T.h__law_bent_more ⟨rfl, rfl, rfl, by decide +kernel, rfl, by decide +kernel, by decide +kernel⟩ rfl rfl fun A B hB ok =>
    (DSs.cons (DS.unp (DO.tup (DV.cons (DO.ix od_ix (nm 2) DO.int) (DV.cons (DO.ix od_ix (DO.ix od_ix (nm 2) DO.int) DO.int) DV.nil))) (DG.tup (DGs.cons (DG.name (i := 4) ok.nd rfl (by first | exact Or.inl rfl | exact Or.inr rfl) (by first | exact Or.inl rfl | exact Or.inr rfl)) (DGs.cons (DG.tup (DGs.cons (DG.name (i := 5) ok.nd rfl (by first | exact Or.inl rfl | exact Or.inr rfl) (by first | exact Or.inl rfl | exact Or.inr rfl)) (DGs.cons (DG.name (i := 6) ok.nd rfl (by first | exact Or.inl rfl | exact Or.inr rfl) (by first | exact Or.inl rfl | exact Or.inr rfl)) DGs.nil))) DGs.nil))) (hw := (fun X h => by unfold swappedStores Env.blockKind Env.kindOf; rw [h.sc]; rfl))) (DSs.cons (DS.unp (DO.ix od_ix (DO.ix od_ix (nm 4) DO.int) DO.int) (DG.tup (DGs.cons (DG.name (i := 7) ok.nd rfl (by first | exact Or.inl rfl | exact Or.inr rfl) (by first | exact Or.inl rfl | exact Or.inr rfl)) (DGs.cons (DG.name (i := 8) ok.nd rfl (by first | exact Or.inl rfl | exact Or.inr rfl) (by first | exact Or.inl rfl | exact Or.inr rfl)) (DGs.cons (DG.name (i := 9) ok.nd rfl (by first | exact Or.inl rfl | exact Or.inr rfl) (by first | exact Or.inl rfl | exact Or.inr rfl)) DGs.nil))))) (DSs.cons (DS.if_ (DW.pt (DW.and (DT.cmp (od_eq ok) (nm 3) DO.int rfl) (DW.and1 (DT.cmp (od_eq ok) (DO.ix od_ix (nm 1) DO.int) DO.int rfl)))) (DSs.one (DS.ret (DO.callQ (d__law_wash_with T) ok (by decide) (DV.cons (nm 2) (DV.cons DO.int (DV.cons (DO.tup (DV.cons (DO.bin od_add (DO.tup (DV.cons (DO.callD (i := 0) (d__law_of T) hB ok (by decide) (DV.cons (DO.lst (DV.cons (DO.tup (DV.cons DO.int DV.nil)) (DV.cons (DO.tup (DV.cons DO.int (DV.cons DO.int DV.nil))) DV.nil))) DV.nil)) DV.nil)) (DO.slice od_sl (nm 7) (DP.some DO.int) DP.none)) (DV.cons (nm 8) (DV.cons (nm 9) DV.nil)))) DV.nil)))))) DSs.nil) (DSs.cons (DS.if_ (DW.pt (DW.and (DT.cmp (od_eq ok) (nm 3) DO.int rfl) (DW.and1 (DT.cmp (od_eq ok) (DO.ix od_ix (nm 1) DO.int) DO.int rfl)))) (DSs.one (DS.ret (DO.callQ (d__law_wash_with T) ok (by decide) (DV.cons (nm 2) (DV.cons DO.int (DV.cons (DO.tup (DV.cons (DO.bin od_add (DO.slice od_sl (nm 7) DP.none (DP.some DO.int)) (DO.tup (DV.cons (DO.tup (DV.cons DO.int DV.nil)) DV.nil))) (DV.cons (nm 8) (DV.cons (nm 9) DV.nil)))) DV.nil)))))) DSs.nil) (DSs.cons (DS.if_ (DW.pt (DW.and (DT.cmp (od_eq ok) (nm 3) DO.int rfl) (DW.and1 (DT.cmp (od_eq ok) (DO.callB cd_len rfl T.n_len rfl (DA.cons (nm 5) DA.nil)) DO.int rfl)))) (DSs.one (DS.ret (DO.callQ (d__law_window_with T) ok (by decide) (DV.cons (nm 2) (DV.cons DO.int (DV.cons DO.int (DV.cons (DO.bin od_add (DO.bin od_add (DO.ix od_ix (nm 1) DO.int) DO.int) (DO.callD (i := 0) (d__law_draw T) hB ok (by decide) (DV.cons DO.int DV.nil))) DV.nil))))))) DSs.nil) (DSs.cons (DS.if_ (DW.pt (DW.and (DT.cmp (od_eq ok) (nm 3) DO.int rfl) (DW.and1 (DT.cmp (od_eq ok) (DO.ix od_ix (nm 1) DO.int) DO.int rfl)))) (DSs.one (DS.ret (DO.callQ (d__law_step_with T) ok (by decide) (DV.cons (nm 2) (DV.cons DO.int (DV.cons DO.int (DV.cons (DO.bin od_add (DO.slice od_sl (DO.ix od_ix (nm 5) DO.int) DP.none (DP.some DO.int)) (DO.callD (i := 0) (d__law_of T) hB ok (by decide) (DV.cons (DO.lst (DV.cons (DO.tup (DV.cons DO.int (DV.cons DO.int DV.nil))) (DV.cons (DO.tup (DV.cons DO.int (DV.cons DO.int DV.nil))) DV.nil))) DV.nil))) DV.nil))))))) DSs.nil) (DSs.cons (DS.if_ (DT.cmp (od_eq ok) (nm 3) DO.int rfl) (DSs.one (DS.ret (DO.tup (DV.cons (nm 4) (DV.cons (DO.callQ (d__law_item T) ok (by decide) (DV.cons (DO.ix od_ix (nm 2) DO.int) (DV.cons DO.int (DV.cons (DO.tup (DV.cons (DO.bin od_add (nm 5) (DO.slice od_sl (nm 5) DP.none (DP.some DO.int))) (DV.cons (DO.bin od_add (nm 6) (DO.tup (DV.cons DO.non DV.nil))) DV.nil))) DV.nil)))) DV.nil))))) DSs.nil) (DSs.cons (DS.if_ (DT.cmp (od_eq ok) (nm 3) DO.int rfl) (DSs.cons (DS.set (i := 10) ok.nd rfl (by first | exact Or.inl rfl | exact Or.inr rfl) (Or.inl rfl) (DO.bin od_add (DO.ix od_ix (nm 4) DO.int) (DO.tup (DV.cons (DO.bin od_mul (DO.tup (DV.cons DO.non DV.nil)) (DO.ix od_ix (nm 1) DO.int)) DV.nil)))) (DSs.cons (DS.set (i := 4) ok.nd rfl (by first | exact Or.inl rfl | exact Or.inr rfl) (Or.inl rfl) (DO.bin od_add (DO.tup (DV.cons (nm 10) (DV.cons (DO.tup (DV.cons (DO.tup (DV.cons (DO.bin od_add (nm 7) (DO.tup (DV.cons (DO.tup (DV.cons DO.int DV.nil)) DV.nil))) (DV.cons (nm 8) (DV.cons (nm 9) DV.nil)))) DV.nil)) DV.nil))) (DO.slice od_sl (nm 4) (DP.some DO.int) DP.none))) (DSs.one (DS.ret (DO.tup (DV.cons (nm 4) (DV.cons (DO.ix od_ix (nm 2) DO.int) DV.nil))))))) DSs.nil) (DSs.cons (DS.if_ (DW.pt (DW.and (DT.cmp (od_eq ok) (nm 3) DO.int rfl) (DW.and1 (DT.cmp (od_eq ok) (DO.ix od_ix (nm 1) DO.int) DO.int rfl)))) (DSs.one (DS.ret (DO.tup (DV.cons (DO.callQ (d__law_item T) ok (by decide) (DV.cons (nm 4) (DV.cons DO.int (DV.cons DO.int DV.nil)))) (DV.cons (DO.ix od_ix (nm 2) DO.int) DV.nil))))) DSs.nil) (DSs.one (DS.ret DO.non)))))))))))
def F__law_bent : M DrawSt Out := (seqM (parM [3, 4] (consN (op2 ixD (nameM 2) (ret (.val (PyData.int 0)))) (consN (op2 ixD (op2 ixD (op2 ixD (op2 ixD (nameM 2) (ret (.val (PyData.int 1)))) (ret (.val (PyData.int 0)))) (ret (.val (PyData.int 0)))) (ret (.val (PyData.int 0)))) nilM))) (seqM (asgM 5 (callD 0 m__law_draw (consD (ret (.val (PyData.int 13))) nilM))) (seqM (ifM (bnd (op2 gtD (nameM 5) (ret (.val (PyData.int 5)))) boolO) (seqM (asgM 6 (callD 0 m__law_bent_more (consD (nameM 1) (consD (nameM 2) (consD (nameM 5) nilM))))) (seqM (ifM (bnd (op2 isNotD (nameM 6) (ret (.val PyData.none))) boolO) (retM (nameM 6)) (ret .nx)) (asgM 5 (callD 0 m__law_draw (consD (ret (.val (PyData.int 6))) nilM))))) (ret .nx)) (seqM (ifM (bnd (op2 eqD (nameM 5) (ret (.val (PyData.int 0)))) boolO) (retM (callP m__law_arms (consD (nameM 2) (consD (op2 subD (ret (.val (PyData.int 3))) (op2 ixD (nameM 3) (ret (.val (PyData.int 3))))) nilM)))) (ret .nx)) (seqM (ifM (bnd (op2 eqD (nameM 5) (ret (.val (PyData.int 1)))) boolO) (retM (callP m__law_step_with (consD (nameM 2) (consD (ret (.val (PyData.int 0))) (consD (ret (.val (PyData.int 0))) (consD (op2 addD (sliceM slD (nameM 4) (ret none) (bnd (ret (.val (PyData.int 3))) intO)) (tupM (consD (ret (.val (PyData.int 1))) (consD (ret (.val (PyData.int 3))) nilM)))) nilM)))))) (ret .nx)) (seqM (ifM (bnd (op2 eqD (nameM 5) (ret (.val (PyData.int 2)))) boolO) (retM (tupM (consD (callP m__law_item (consD (nameM 3) (consD (ret (.val (PyData.int 1))) (consD (tupM nilM) nilM)))) (consD (op2 ixD (nameM 2) (ret (.val (PyData.int 1)))) nilM)))) (ret .nx)) (seqM (ifM (bnd (op2 eqD (nameM 5) (ret (.val (PyData.int 3)))) boolO) (retM (tupM (consD (nameM 3) (consD (op2 addD (op2 ixD (nameM 2) (ret (.val (PyData.int 1)))) (tupM (consD (tupM (consD (tupM nilM) (consD (tupM nilM) nilM))) nilM))) nilM)))) (ret .nx)) (seqM (ifM (bnd (op2 eqD (nameM 5) (ret (.val (PyData.int 4)))) boolO) (retM (tupM (consD (callP m__law_item (consD (nameM 3) (consD (ret (.val (PyData.int 4))) (consD (ret (.val (PyData.int 2))) nilM)))) (consD (op2 ixD (nameM 2) (ret (.val (PyData.int 1)))) nilM)))) (ret .nx)) (retM (tupM (consD (callP m__law_item (consD (nameM 3) (consD (ret (.val (PyData.int 1))) (consD (op2 addD (op2 ixD (nameM 3) (ret (.val (PyData.int 1)))) (op2 ixD (nameM 3) (ret (.val (PyData.int 1))))) nilM)))) (consD (op2 ixD (nameM 2) (ret (.val (PyData.int 1)))) nilM))))))))))))
def m__law_bent : List D → DrawSt → Option (D × DrawSt) := runD2 3 7 F__law_bent
theorem d__law_bent (T : Top K mg) : DefD P w K mg base 5 "_law_bent" ["m", "shape", "task"] m__law_bent :=
  Has.draw (N := ["m", "shape", "task", "lab", "step", "kind", "other"]) T.h__law_bent ⟨rfl, rfl, rfl, by decide +kernel, rfl, by decide +kernel, by decide +kernel⟩ rfl rfl fun A B hB ok =>
    (DSs.cons (DS.par2 (i := 3) (j := 4) ok.nd rfl rfl (by decide) rfl rfl (DN.cons (DO.ix od_ix (nm 2) DO.int) (DN.cons (DO.ix od_ix (DO.ix od_ix (DO.ix od_ix (DO.ix od_ix (nm 2) DO.int) DO.int) DO.int) DO.int) DN.nil)) (fun X h => by unfold swappedStores Env.blockKind Env.kindOf; rw [h.sc]; rfl)) (DSs.cons (DS.set (i := 5) ok.nd rfl (by first | exact Or.inl rfl | exact Or.inr rfl) (Or.inl rfl) (DO.callD (i := 0) (d__law_draw T) hB ok (by decide) (DV.cons DO.int DV.nil))) (DSs.cons (DS.if_ (DT.cmp od_gt (nm 5) DO.int rfl) (DSs.cons (DS.set (i := 6) ok.nd rfl (by first | exact Or.inl rfl | exact Or.inr rfl) (Or.inl rfl) (DO.callD (i := 0) (d__law_bent_more T) hB ok (by decide) (DV.cons (nm 1) (DV.cons (nm 2) (DV.cons (nm 5) DV.nil))))) (DSs.cons (DS.if_ (DT.cmp od_isNot (nm 6) DO.non rfl) (DSs.one (DS.ret (nm 6))) DSs.nil) (DSs.one (DS.set (i := 5) ok.nd rfl (by first | exact Or.inl rfl | exact Or.inr rfl) (Or.inl rfl) (DO.callD (i := 0) (d__law_draw T) hB ok (by decide) (DV.cons DO.int DV.nil)))))) DSs.nil) (DSs.cons (DS.if_ (DT.cmp (od_eq ok) (nm 5) DO.int rfl) (DSs.one (DS.ret (DO.callQ (d__law_arms T) ok (by decide) (DV.cons (nm 2) (DV.cons (DO.bin od_sub DO.int (DO.ix od_ix (nm 3) DO.int)) DV.nil))))) DSs.nil) (DSs.cons (DS.if_ (DT.cmp (od_eq ok) (nm 5) DO.int rfl) (DSs.one (DS.ret (DO.callQ (d__law_step_with T) ok (by decide) (DV.cons (nm 2) (DV.cons DO.int (DV.cons DO.int (DV.cons (DO.bin od_add (DO.slice od_sl (nm 4) DP.none (DP.some DO.int)) (DO.tup (DV.cons DO.int (DV.cons DO.int DV.nil)))) DV.nil))))))) DSs.nil) (DSs.cons (DS.if_ (DT.cmp (od_eq ok) (nm 5) DO.int rfl) (DSs.one (DS.ret (DO.tup (DV.cons (DO.callQ (d__law_item T) ok (by decide) (DV.cons (nm 3) (DV.cons DO.int (DV.cons (DO.tup DV.nil) DV.nil)))) (DV.cons (DO.ix od_ix (nm 2) DO.int) DV.nil))))) DSs.nil) (DSs.cons (DS.if_ (DT.cmp (od_eq ok) (nm 5) DO.int rfl) (DSs.one (DS.ret (DO.tup (DV.cons (nm 3) (DV.cons (DO.bin od_add (DO.ix od_ix (nm 2) DO.int) (DO.tup (DV.cons (DO.tup (DV.cons (DO.tup DV.nil) (DV.cons (DO.tup DV.nil) DV.nil))) DV.nil))) DV.nil))))) DSs.nil) (DSs.cons (DS.if_ (DT.cmp (od_eq ok) (nm 5) DO.int rfl) (DSs.one (DS.ret (DO.tup (DV.cons (DO.callQ (d__law_item T) ok (by decide) (DV.cons (nm 3) (DV.cons DO.int (DV.cons DO.int DV.nil)))) (DV.cons (DO.ix od_ix (nm 2) DO.int) DV.nil))))) DSs.nil) (DSs.one (DS.ret (DO.tup (DV.cons (DO.callQ (d__law_item T) ok (by decide) (DV.cons (nm 3) (DV.cons DO.int (DV.cons (DO.bin od_add (DO.ix od_ix (nm 3) DO.int) (DO.ix od_ix (nm 3) DO.int)) DV.nil)))) (DV.cons (DO.ix od_ix (nm 2) DO.int) DV.nil)))))))))))))
def F_law : M DrawSt Out := (seqM (loopM (rangeM (consO (op2 addD (ret (.val (PyData.int 3))) (callM minD (consO (lenScr 0) (consO (ret (.val (PyData.int 9))) nilM)))) nilM)) (setM 2) (seqM (asgM 3 (callD 1 m__law_shape nilM)) (seqM (asgM 4 (callP m__law_tiny_count (consD (nameM 3) nilM))) (seqM (ifM (notT (bnd (callP m__law_like (consD (callP m_tiny_count (consD (nameM 3) nilM)) (consD (nameM 4) nilM))) boolO)) (retM (ret (.val (PyData.bool false)))) (ret .nx)) (seqM (asgM 5 (callD 1 m__law_draw (consD (nameM 4) nilM))) (seqM (loopM (iterM (lstM (consD (ret (.val (PyData.int 0))) (consD (op2 subD (nameM 4) (ret (.val (PyData.int 1)))) (consD (nameM 5) (consD (op2 modD (callM intD (consO (op2 addD (nameM 5) (ret (.val (PyData.int 1)))) nilM)) (nameM 4)) nilM)))))) (setM 6) (seqM (asgM 7 (callP m_tiny_task (consD (nameM 3) (consD (nameM 6) nilM)))) (ifM (notT (bnd (callP m__law_like (consD (lstM (consD (nameM 7) (consD (callP m_tiny_number (consD (nameM 3) (consD (nameM 7) nilM))) nilM))) (consD (lstM (consD (callP m__law_tiny_task (consD (nameM 3) (consD (nameM 6) nilM))) (consD (nameM 6) nilM))) nilM))) boolO)) (retM (ret (.val (PyData.bool false)))) (ret .nx)))) (ifM (bnd (op2 isNotD (callP m_tiny_number (consD (nameM 3) (consD (callD 1 m__law_bent (consD (nameM 3) (consD (callP m__law_tiny_task (consD (nameM 3) (consD (nameM 5) nilM))) nilM))) nilM))) (ret (.val PyData.none))) boolO) (retM (ret (.val (PyData.bool false)))) (ret .nx)))))))) (seqM (asgM 7 (tupM (consD (tupM (consD (tupM (consD (tupM (consD (ret (.val (PyData.int 1))) nilM)) (consD (tupM (consD (ret (.val PyData.none)) nilM)) nilM))) (consD (tupM (consD (tupM (consD (tupM (consD (tupM (consD (ret (.val (PyData.int 0))) nilM)) (consD (tupM (consD (ret (.val (PyData.int 0))) (consD (ret (.val (PyData.int 1))) nilM))) nilM))) (consD (ret (.val (PyData.int 1))) (consD (ret (.val (PyData.int 1))) nilM)))) nilM)) (consD (ret (.val (PyData.int 1))) (consD (ret (.val (PyData.int 1))) (consD (ret (.val (PyData.int 0))) nilM)))))) (consD (tupM (consD (tupM (consD (tupM (consD (tupM (consD (ret (.val (PyData.int 0))) (consD (tupM (consD (ret (.val (PyData.int 0))) nilM)) (consD (tupM nilM) (consD (ret (.val (PyData.int 1))) (consD (ret (.val (PyData.int 1))) nilM)))))) nilM)) (consD (tupM (consD (ret (.val PyData.none)) nilM)) nilM))) nilM)) nilM)))) (retM (callP m__law_like (consD (lstM (consD (callP m_tiny_count (consD (tupM (consD (ret (.val (PyData.int 1))) (consD (ret (.val (PyData.int 2))) (consD (ret (.val (PyData.int 1))) (consD (ret (.val (PyData.int 1))) (consD (ret (.val (PyData.int 0))) (consD (tupM (consD (ret (.val (PyData.int 1))) nilM)) (consD (ret (.val (PyData.int 1))) (consD (negM (ret (.val (PyData.int 1)))) nilM))))))))) nilM)) (consD (callP m_tiny_number (consD (tupM (consD (ret (.val (PyData.int 1))) (consD (ret (.val (PyData.int 2))) (consD (ret (.val (PyData.int 1))) (consD (ret (.val (PyData.int 1))) (consD (ret (.val (PyData.int 0))) (consD (tupM (consD (ret (.val (PyData.int 1))) nilM)) (consD (ret (.val (PyData.int 1))) (consD (negM (ret (.val (PyData.int 1)))) nilM))))))))) (consD (nameM 7) nilM))) nilM))) (consD (lstM (consD (ret (.val (PyData.int 12))) (consD (ret (.val (PyData.int 7))) nilM))) nilM))))))
theorem dd_law (T : Top K mg) {A : Around} {B : Bd DrawSt} (hB : ∃ pm pg pc, B.dr = drawDr pm pg pc) (ok : Gam.Ok ⟨P, w, K, mg, base, A, ["script", "m", "turn", "shape", "count", "number", "one", "task"], defScope s_law, fun _ => true⟩ 8) :
    DSs ⟨P, w, K, mg, base, A, ["script", "m", "turn", "shape", "count", "number", "one", "task"], defScope s_law, fun _ => true⟩ B (defBody s_law).tail F_law :=
  (DSs.cons (DS.for_ (DI.range1 (DA.cons (DO.bin od_add DO.int (DO.callB cd_min rfl T.n_min rfl (DA.cons (DO.lenScr (i := 0) rfl (by first | exact Or.inl rfl | exact Or.inr (Or.inl rfl) | exact Or.inr (Or.inr rfl)) rfl T.n_len) (DA.cons DO.int DA.nil)))) DA.nil) rfl T.n_range) (DG.name (i := 2) ok.nd rfl (by first | exact Or.inl rfl | exact Or.inr rfl) (by first | exact Or.inl rfl | exact Or.inr rfl)) (DSs.cons (DS.set (i := 3) ok.nd rfl (by first | exact Or.inl rfl | exact Or.inr rfl) (Or.inl rfl) (DO.callD (i := 1) (d__law_shape T) hB ok (by decide) DV.nil)) (DSs.cons (DS.set (i := 4) ok.nd rfl (by first | exact Or.inl rfl | exact Or.inr rfl) (Or.inl rfl) (DO.callQ (d__law_tiny_count T) ok (by decide) (DV.cons (nm 3) DV.nil))) (DSs.cons (DS.if_ (DT.not (DT.val (DO.callQ (d__law_like T) ok (by decide) (DV.cons (DO.callQ (d_tiny_count T) ok (by decide) (DV.cons (nm 3) DV.nil)) (DV.cons (nm 4) DV.nil))))) (DSs.one (DS.ret DO.bl)) DSs.nil) (DSs.cons (DS.set (i := 5) ok.nd rfl (by first | exact Or.inl rfl | exact Or.inr rfl) (Or.inl rfl) (DO.callD (i := 1) (d__law_draw T) hB ok (by decide) (DV.cons (nm 4) DV.nil))) (DSs.cons (DS.for_ (DI.seq (DO.lst (DV.cons DO.int (DV.cons (DO.bin od_sub (nm 4) DO.int) (DV.cons (nm 5) (DV.cons (DO.bin od_mod (DO.callTy cd_int rfl T.n_int rfl (DA.cons (DO.bin od_add (nm 5) DO.int) DA.nil)) (nm 4)) DV.nil)))))) (DG.name (i := 6) ok.nd rfl (by first | exact Or.inl rfl | exact Or.inr rfl) (by first | exact Or.inl rfl | exact Or.inr rfl)) (DSs.cons (DS.set (i := 7) ok.nd rfl (by first | exact Or.inl rfl | exact Or.inr rfl) (Or.inl rfl) (DO.callQ (d_tiny_task T) ok (by decide) (DV.cons (nm 3) (DV.cons (nm 6) DV.nil)))) (DSs.one (DS.if_ (DT.not (DT.val (DO.callQ (d__law_like T) ok (by decide) (DV.cons (DO.lst (DV.cons (nm 7) (DV.cons (DO.callQ (d_tiny_number T) ok (by decide) (DV.cons (nm 3) (DV.cons (nm 7) DV.nil))) DV.nil))) (DV.cons (DO.lst (DV.cons (DO.callQ (d__law_tiny_task T) ok (by decide) (DV.cons (nm 3) (DV.cons (nm 6) DV.nil))) (DV.cons (nm 6) DV.nil))) DV.nil))))) (DSs.one (DS.ret DO.bl)) DSs.nil)))) (DSs.one (DS.if_ (DT.cmp od_isNot (DO.callQ (d_tiny_number T) ok (by decide) (DV.cons (nm 3) (DV.cons (DO.callD (i := 1) (d__law_bent T) hB ok (by decide) (DV.cons (nm 3) (DV.cons (DO.callQ (d__law_tiny_task T) ok (by decide) (DV.cons (nm 3) (DV.cons (nm 5) DV.nil))) DV.nil))) DV.nil))) DO.non rfl) (DSs.one (DS.ret DO.bl)) DSs.nil)))))))) (DSs.cons (DS.set (i := 7) ok.nd rfl (by first | exact Or.inl rfl | exact Or.inr rfl) (Or.inl rfl) (DO.tup (DV.cons (DO.tup (DV.cons (DO.tup (DV.cons (DO.tup (DV.cons DO.int DV.nil)) (DV.cons (DO.tup (DV.cons DO.non DV.nil)) DV.nil))) (DV.cons (DO.tup (DV.cons (DO.tup (DV.cons (DO.tup (DV.cons (DO.tup (DV.cons DO.int DV.nil)) (DV.cons (DO.tup (DV.cons DO.int (DV.cons DO.int DV.nil))) DV.nil))) (DV.cons DO.int (DV.cons DO.int DV.nil)))) DV.nil)) (DV.cons DO.int (DV.cons DO.int (DV.cons DO.int DV.nil)))))) (DV.cons (DO.tup (DV.cons (DO.tup (DV.cons (DO.tup (DV.cons (DO.tup (DV.cons DO.int (DV.cons (DO.tup (DV.cons DO.int DV.nil)) (DV.cons (DO.tup DV.nil) (DV.cons DO.int (DV.cons DO.int DV.nil)))))) DV.nil)) (DV.cons (DO.tup (DV.cons DO.non DV.nil)) DV.nil))) DV.nil)) DV.nil)))) (DSs.one (DS.ret (DO.callQ (d__law_like T) ok (by decide) (DV.cons (DO.lst (DV.cons (DO.callQ (d_tiny_count T) ok (by decide) (DV.cons (DO.tup (DV.cons DO.int (DV.cons DO.int (DV.cons DO.int (DV.cons DO.int (DV.cons DO.int (DV.cons (DO.tup (DV.cons DO.int DV.nil)) (DV.cons DO.int (DV.cons (DO.neg DO.int) DV.nil))))))))) DV.nil)) (DV.cons (DO.callQ (d_tiny_number T) ok (by decide) (DV.cons (DO.tup (DV.cons DO.int (DV.cons DO.int (DV.cons DO.int (DV.cons DO.int (DV.cons DO.int (DV.cons (DO.tup (DV.cons DO.int DV.nil)) (DV.cons DO.int (DV.cons (DO.neg DO.int) DV.nil))))))))) (DV.cons (nm 7) DV.nil))) DV.nil))) (DV.cons (DO.lst (DV.cons DO.int (DV.cons DO.int DV.nil))) DV.nil)))))))
theorem d_law (T : Top K mg) (hT : RunsTrue 6 m__law_folded F_law) : LawQ P w K mg base 9 "law" ["script"] (spLaw K) := by
  obtain ⟨am, fm, Fm, hmm, hkm, hbm⟩ := d__law_begun (P := P) (w := w) (base := base) T
  obtain ⟨a, fd, Fn, h1, h2, h3⟩ := T.h_law
  have Sc : FnScope ["script", "m", "turn", "shape", "count", "number", "one", "task"] ["script"] (defScope s_law) := ⟨rfl, rfl, rfl, by decide +kernel, rfl, by decide +kernel, by decide +kernel⟩
  refine ⟨a, fd, fnAny (k := 8) Fn Sc ?_ fun A vs H Q E hsp ok => ?_, h1, h2, h3⟩
  · rintro vs H Q E ⟨a, ns, rfl, _⟩
    rfl
  obtain ⟨a, ns, rfl, hO, hq, hlen, hQ⟩ := hsp
  obtain ⟨cells, s', e1, e2⟩ := hT ns hlen
  refine ⟨tSeq (tAsg (tCall (spB K m__law_folded) [] E0 (tCons (tVar 0) tNil)) (gName 1)) (tEx fun t => ∀ X, Gam.Has ⟨P, w, K, mg, base, A, ["script", "m", "turn", "shape", "count", "number", "one", "task"], defScope s_law, fun _ => true⟩ X → PSs X (defBody s_law).tail t), fun X h => ?_, ?_⟩
  · have F' : FnG X.prog X.w X.K X.mg X.base 2 am fm ["script"] (spB X.K m__law_folded) := by rw [h.P, h.w, h.K, h.mg, h.base]; exact Fm
    have v0 : ∀ pos : Pos, PE X (.Name "script" pos) (tVar 0) := fun pos => pe_var (by rw [h.N]; rfl) (by rw [h.sc]; exact Or.inl rfl)
    have cal : ∀ {p pos p2 : Pos}, PE X (.Call (.Name "_law_begun" p) [.Name "script" p2] [] pos) (tCall (spB X.K m__law_folded) [] E0 (tCons (tVar 0) tNil)) := fun {p pos p2} =>
      pe_callG F' (by rw [h.A]; exact ok.room.mono (by decide)) (by rw [h.A]; exact ok.gd) (gl_of h (x := "_law_begun") rfl) (by rw [h.mg]; exact hmm) (by rw [h.K]; exact hkm) (by rw [h.K]; exact hbm) (pa_cons (v0 p2) pa_nil rfl) (by decide) rfl rfl
    have key : PSs X (defBody s_law) (tSeq (tAsg (tCall (spB X.K m__law_folded) [] E0 (tCons (tVar 0) tNil)) (gName 1)) (tEx fun t => ∀ X, Gam.Has ⟨P, w, K, mg, base, A, ["script", "m", "turn", "shape", "count", "number", "one", "task"], defScope s_law, fun _ => true⟩ X → PSs X (defBody s_law).tail t)) :=
      pss_cons (ps_set (i := 1) (by rw [h.N]; exact ok.nd) (by rw [h.N]; rfl) (by rw [h.sc]; first | exact Or.inl rfl | exact Or.inr rfl) cal rfl (h.fn "m" rfl)) (pss_ex fun t pt => pt X h)
    rw [h.K] at key
    exact key
  · refine ⟨_, rfl, a, ns, cells, rfl, hO, hq, hlen, e1, fun pm pg pc H1 w1 at1 nr => ?_⟩
    obtain ⟨t, pt, mt⟩ := dd_law (P := P) (w := w) (base := base) T (A := A) (B := ⟨drawDr pm pg pc, H1, H⟩) ⟨pm, pg, pc, rfl⟩ ok
    exact ⟨t, pt, law_run hO hq w1 at1 nr mt e2 hQ _ rfl⟩
end
end LW
end

section
set_option Elab.async false
set_option linter.all false
set_option maxRecDepth 100000
set_option maxHeartbeats 3999999
set_option exponentiation.threshold 5001
open DL
namespace LW
/-! ### the drawn numbers -/
theorem mulOk_of {i j : Int} (hi : i.natAbs < 2 ^ 4000) (hj : j.natAbs < 2 ^ 4000) : mulOk i j = true := by
  have b : ∀ x : Int, x.natAbs < 2 ^ 4000 → x.natAbs.log2 < 4000 := fun x h => by
    by_cases h0 : x.natAbs = 0
    · rw [h0]; decide
    · exact (Nat.log2_lt h0).mpr h
  unfold mulOk
  have h1 := b i hi
  have h2 := b j hj
  exact decide_eq_true (by omega)
theorem lt_mul {a b : Int} {p q r : Nat} (ha : a.natAbs < 2 ^ p) (hb : b.natAbs < 2 ^ q) (h : p + q ≤ r) : (a * b).natAbs < 2 ^ r := by
  rw [Int.natAbs_mul]
  refine Nat.lt_of_lt_of_le (Nat.mul_lt_mul'' ha hb) ?_
  rw [← Nat.pow_add]
  exact Nat.pow_le_pow_right (by decide) h
theorem le_pow {a : Int} {p q : Nat} (ha : a.natAbs < 2 ^ p) (h : p ≤ q) : a.natAbs < 2 ^ q := Nat.lt_of_lt_of_le ha (Nat.pow_le_pow_right (by decide) h)
/-- the number that the cells mix to -/
def mixI (x n : Int) : Int := ((x * (1 + 2 * n) * 48271) % 2147483647 + 7919 * n * n + 104729 * n) * 69621 % 2147483629 / 7
theorem mixed_ok {x n : Int} (hx : x.natAbs < 2 ^ 200) (hn : n.natAbs < 2 ^ 62) : m__law_mixed [.int x, .int n] = some (.int (mixI x n)) := by
  have hn2 : (1 + 2 * n).natAbs < 2 ^ 64 := by omega
  have k1 : mulOk 2 n = true := mulOk_of (by decide) (le_pow hn (by decide))
  have k2 : mulOk x (1 + 2 * n) = true := mulOk_of (le_pow hx (by decide)) (le_pow hn2 (by decide))
  have k3 : mulOk (x * (1 + 2 * n)) 48271 = true := mulOk_of (lt_mul hx hn2 (by decide)) (by decide)
  have k4 : mulOk 7919 n = true := mulOk_of (by decide) (le_pow hn (by decide))
  have k5 : mulOk (7919 * n) n = true := mulOk_of (lt_mul (p := 13) (by decide) hn (by decide)) (le_pow hn (by decide))
  have k6 : mulOk 104729 n = true := mulOk_of (by decide) (le_pow hn (by decide))
  have b1 : ((x * (1 + 2 * n) * 48271) % 2147483647).natAbs < 2 ^ 31 := by omega
  have b2 : (7919 * n * n).natAbs < 2 ^ 137 := lt_mul (p := 75) (q := 62) (lt_mul (p := 13) (by decide) hn (by decide)) hn (by decide)
  have b3 : (104729 * n).natAbs < 2 ^ 79 := lt_mul (p := 17) (by decide) hn (by decide)
  have k7 : mulOk ((x * (1 + 2 * n) * 48271) % 2147483647 + 7919 * n * n + 104729 * n) 69621 = true := mulOk_of (le_pow (p := 140) (by omega) (by decide)) (by decide)
  have k8 : Nat.log2 7 < 9000 := by decide
  simp [m__law_mixed, runP2, runP, F__law_mixed, seqM, asgM, bnd, op2, lateM, nameM, getO, lift, ret, callM, intD, consO, nilM, getL, valM, toD, putM, setM, retM, mulD, orO, opI, addD, modD, modOk, fdivD, divOk, k1, k2, k3, k4, k5, k6, k7, k8, mixI]
theorem mixI_lt (x n : Int) : 0 ≤ mixI x n ∧ mixI x n < 2 ^ 31 := by
  unfold mixI
  generalize (x * (1 + 2 * n) * 48271 % 2147483647 + 7919 * n * n + 104729 * n) * 69621 = y
  omega
/-- the drawn numbers stand well, at most k are drawn -/
structure StOk (k : Nat) (st : DrawSt) : Prop where
  len : st.cells.length = 64
  small : ∀ c ∈ st.cells, 0 ≤ c ∧ c < 2 ^ 31
  lo : 0 ≤ st.spot
  hi : st.spot ≤ k
theorem ixN_mod {n : Nat} {i : Int} (h : 0 < n) : ∃ j, L2.ixN n (i % n) = some j ∧ j < n := by
  have h1 : 0 ≤ i % (n : Int) := Int.emod_nonneg _ (by omega)
  have h2 : i % (n : Int) < n := Int.emod_lt_of_pos _ (by omega)
  refine ⟨(i % (n : Int)).toNat, ?_, by omega⟩
  unfold L2.ixN
  rw [if_pos h1, if_pos h2]
theorem drawC_ok {k : Nat} {st st1 : DrawSt} (h : StOk k st) (hk : k ≤ 1000000) {L : Int} (hL : 0 < L) : ∃ r, drawC m__law_mixed L st st1 = some (.int r, st1) ∧ 0 ≤ r ∧ r < L := by
  obtain ⟨h1, h2, h3, h4⟩ := h
  obtain ⟨j, e1, e2⟩ := ixN_mod (n := 64) (i := st.spot) (by decide)
  obtain ⟨c, e3⟩ : ∃ c, st.cells[j]? = some c := ⟨_, List.getElem?_eq_getElem (by omega)⟩
  obtain ⟨b1, b2⟩ := h2 c (List.mem_of_getElem? e3)
  have at_ : L2.atI st.cells (st.spot % 64) = some c := by
    unfold L2.atI
    rw [h1]
    show (L2.ixN 64 (st.spot % ((64 : Nat) : Int))).bind _ = _
    rw [e1]
    exact e3
  have m1 := mixed_ok (x := c + 31 * (st.spot / 64)) (n := st.spot) (by omega) (by omega)
  have m2 := mixed_ok (x := mixI (c + 31 * (st.spot / 64)) st.spot) (n := st.spot + 7) (by have := mixI_lt (c + 31 * (st.spot / 64)) st.spot; omega) (by omega)
  refine ⟨mixI (mixI (c + 31 * (st.spot / 64)) st.spot) (st.spot + 7) % L, ?_, Int.emod_nonneg _ (by omega), Int.emod_lt_of_pos _ hL⟩
  unfold drawC
  rw [at_]
  simp [m1, m2]
theorem draw_ok {k : Nat} {st : DrawSt} (h : StOk k st) (hk : k ≤ 1000000) {L : Int} (hL : 0 < L) (hL2 : L < 2 ^ 4000) : ∃ r st', m__law_draw [.int L] st = some (.int r, st') ∧ 0 ≤ r ∧ r < L ∧ StOk (k + 1) st' := by
  have hl : L.natAbs.log2 < 9000 := by
    have : L.natAbs.log2 < 4000 := (Nat.log2_lt (by omega)).mpr (by omega)
    omega
  have ok1 : StOk (k + 1) ⟨st.cells, st.great, st.spot + 1⟩ := ⟨h.len, h.small, by have := h.lo; show 0 ≤ st.spot + 1; omega, by have := h.hi; show st.spot + 1 ≤ _; omega⟩
  obtain ⟨r, hr, r0, r1⟩ := drawC_ok (st1 := ⟨st.cells, st.great, st.spot + 1⟩) h hk hL
  unfold m__law_draw drawF
  simp only [decide_eq_true hL, decide_eq_true hl, Bool.and_self, if_true]
  cases hg : st.great.isEmpty with
  | true =>
    simp only [if_true]
    exact ⟨r, _, hr, r0, r1, ok1⟩
  | false =>
    simp only [Bool.false_eq_true, if_false]
    have hn : 0 < st.great.length := by
      cases q : st.great with
      | nil => rw [q] at hg; cases hg
      | cons _ _ => simp
    obtain ⟨j, e1, e2⟩ := ixN_mod (n := st.great.length) (i := st.spot) hn
    rw [e1]
    simp only [List.getElem?_eq_getElem e2]
    by_cases hc : 0 < st.great[j]
    · rw [if_pos hc]
      exact ⟨_, _, rfl, Int.emod_nonneg _ (by omega), Int.emod_lt_of_pos _ hL, ⟨h.len, h.small, by have := h.lo; show 0 ≤ st.spot + 1; omega, by have := h.hi; show st.spot + 1 ≤ _; omega⟩⟩
    · rw [if_neg hc]
      exact ⟨r, _, hr, r0, r1, ok1⟩
end LW
end

section
set_option Elab.async false
set_option linter.all false
set_option maxRecDepth 100000
set_option maxHeartbeats 3999999
set_option exponentiation.threshold 5001
open DL
namespace LW
/-! ### the cells that a script folds to -/
def bodyA : M Unit Out := (bnd (valM (op2 modD (callM intD (consO (op2 addD (op2 mulD (op2 ixD (nameM 1) (op2 modD (callM intD (consO (nameM 2) nilM)) (ret (.val (PySem.PyData.int 64))))) (ret (.val (PySem.PyData.int 48271)))) (nameM 3)) nilM)) (ret (.val (PySem.PyData.int 2147483647))))) fun d => bnd (ownAt 1) fun _ => setIxM 1 (DL.ret (Opd.val d)) (op2 modD (callM intD (consO (nameM 2) nilM)) (ret (.val (PySem.PyData.int 64)))))
def bodyB : M Unit Out := (bnd (valM (op2 modD (callM intD (consO (op2 addD (op2 ixD (nameM 1) (nameM 2)) (op2 mulD (op2 ixD (nameM 1) (op2 subD (nameM 2) (ret (.val (PySem.PyData.int 1))))) (ret (.val (PySem.PyData.int 16807))))) nilM)) (ret (.val (PySem.PyData.int 2147483647))))) fun d => bnd (ownAt 1) fun _ => setIxM 1 (DL.ret (Opd.val d)) (nameM 2))
def tgA : D → M Unit Unit := tupG 2 (gsCons (setM 2) (gsCons (setM 3) gsNil))
def Cells (cs : List Int) : Prop := cs.length = 64 ∧ ∀ c ∈ cs, 0 ≤ c ∧ c < 2 ^ 31
theorem Cells.set {cs : List Int} (h : Cells cs) (j : Nat) {v : Int} (h1 : 0 ≤ v) (h2 : v < 2 ^ 31) : Cells (cs.set j v) := by
  refine ⟨by rw [List.length_set]; exact h.1, fun c hc => ?_⟩
  rcases List.mem_or_eq_of_mem_set hc with q | q
  · exact h.2 c q
  · rw [q]; exact ⟨h1, h2⟩
theorem Cells.get {cs : List Int} (h : Cells cs) {j : Nat} (hj : j < 64) : ∃ c, cs[j]? = some c ∧ 0 ≤ c ∧ c < 2 ^ 31 := by
  have e : cs[j]? = some (cs[j]'(by rw [h.1]; exact hj)) := List.getElem?_eq_getElem _
  exact ⟨_, e, h.2 _ (List.mem_of_getElem? e)⟩
theorem atI_ints {cs : List Int} {i : Int} {j : Nat} {c : Int} (h : Cells cs) (e : L2.ixN 64 i = some j) (ec : cs[j]? = some c) : L2.atI (cs.map PySem.PyData.int) i = some (.int c) := by
  unfold L2.atI
  rw [List.length_map, h.1, e]
  show (cs.map PySem.PyData.int)[j]? = _
  rw [List.getElem?_map, ec]
  rfl
theorem stepA {ns cs : List Int} {k : Nat} {c : Int} (h : Cells cs) : ∃ cs', Cells cs' ∧ bodyA ⟨[some (.s ns), some (.own (cs.map .int)), some (.d (.int (k : Nat))), some (.d (.int c))], ()⟩ =
    some (.nx, ⟨[some (.s ns), some (.own (cs'.map .int)), some (.d (.int (k : Nat))), some (.d (.int c))], ()⟩) := by
  obtain ⟨j, e1, e2⟩ := ixN_mod (n := 64) (i := (k : Nat)) (by decide)
  have e1' : L2.ixN 64 ((k : Int) % 64) = some j := e1
  obtain ⟨x, e3, x0, x1⟩ := h.get e2
  have m1 : mulOk x 48271 = true := mulOk_of (by omega) (by decide)
  have a1 := atI_ints h e1' e3
  refine ⟨cs.set j ((x * 48271 + c) % 2147483647), h.set j (by omega) (by omega), ?_⟩
  simp [bodyA, setIxM, ownAt, bnd, op2, lateM, nameM, getO, lift, ret, callM, intD, consO, nilM, getL, valM, toD, mulD, orO, opI, addD, modD, modOk, ixD, a1, m1, h.1, e1', List.map_set]
theorem loopA {ns : List Int} : ∀ (ms : List Int) (k : Nat) (cs : List Int) (w2 w3 : Option Sl), Cells cs → ∃ cs' u2 u3, Cells cs' ∧ forM tgA bodyA (enumL k (ms.map .int)) ⟨[some (.s ns), some (.own (cs.map .int)), w2, w3], ()⟩ = some (.nx, ⟨[some (.s ns), some (.own (cs'.map .int)), u2, u3], ()⟩)
  | [], k, cs, w2, w3, h => ⟨cs, w2, w3, h, rfl⟩
  | m :: ms, k, cs, w2, w3, h => by
    obtain ⟨cs1, h1, e1⟩ := stepA (ns := ns) (k := k) (c := m) h
    obtain ⟨cs', u2, u3, h2, e2⟩ := loopA ms (k + 1) cs1 (some (.d (.int (k : Nat)))) (some (.d (.int m))) h1
    refine ⟨cs', u2, u3, h2, ?_⟩
    rw [List.map_cons]
    unfold DL.enumL DL.forM
    have e0 : tgA (.tuple [.int (k : Nat), .int m]) ⟨[some (.s ns), some (.own (cs.map .int)), w2, w3], ()⟩ = some ((), ⟨[some (.s ns), some (.own (cs.map .int)), some (.d (.int (k : Nat))), some (.d (.int m))], ()⟩) := rfl
    simp only [bnd, e0, e1]
    exact e2
theorem stepB {ns cs : List Int} {i : Int} {w3 : Option Sl} (h : Cells cs) (i1 : 1 ≤ i) (i2 : i < 64) : ∃ cs', Cells cs' ∧ bodyB ⟨[some (.s ns), some (.own (cs.map .int)), some (.d (.int i)), w3], ()⟩ =
    some (.nx, ⟨[some (.s ns), some (.own (cs'.map .int)), some (.d (.int i)), w3], ()⟩) := by
  have e1 : L2.ixN 64 i = some i.toNat := by
    unfold L2.ixN
    rw [if_pos (by omega), if_pos (by omega)]
  have e2 : L2.ixN 64 (i - 1) = some (i - 1).toNat := by
    unfold L2.ixN
    rw [if_pos (by omega), if_pos (by omega)]
  obtain ⟨x, e3, x0, x1⟩ := h.get (j := i.toNat) (by omega)
  obtain ⟨y, e4, y0, y1⟩ := h.get (j := (i - 1).toNat) (by omega)
  have m1 : mulOk y 16807 = true := mulOk_of (by omega) (by decide)
  have a1 := atI_ints h e1 e3
  have a2 := atI_ints h e2 e4
  refine ⟨cs.set i.toNat ((x + y * 16807) % 2147483647), h.set _ (by omega) (by omega), ?_⟩
  simp [bodyB, setIxM, ownAt, bnd, op2, lateM, nameM, getO, lift, ret, callM, intD, consO, nilM, getL, valM, toD, mulD, orO, opI, addD, subD, modD, modOk, ixD, a1, a2, m1, h.1, e1, List.map_set]
theorem loopB {ns : List Int} : ∀ (ms : List Int) (cs : List Int) (w2 w3 : Option Sl), (∀ m ∈ ms, 1 ≤ m ∧ m < 64) → Cells cs → ∃ cs' u2, Cells cs' ∧ forM (setM 2) bodyB (ms.map .int) ⟨[some (.s ns), some (.own (cs.map .int)), w2, w3], ()⟩ = some (.nx, ⟨[some (.s ns), some (.own (cs'.map .int)), u2, w3], ()⟩)
  | [], cs, w2, w3, hm, h => ⟨cs, w2, h, rfl⟩
  | m :: ms, cs, w2, w3, hm, h => by
    obtain ⟨m1, m2⟩ := hm m (by simp)
    obtain ⟨cs1, h1, e1⟩ := stepB (ns := ns) (i := m) (w3 := w3) h m1 m2
    obtain ⟨cs', u2, h2, e2⟩ := loopB ms cs1 (some (.d (.int m))) w3 (fun z hz => hm z (by simp [hz])) h1
    refine ⟨cs', u2, h2, ?_⟩
    rw [List.map_cons]
    unfold DL.forM
    have e0 : setM 2 (.int m) (⟨[some (.s ns), some (.own (cs.map .int)), w2, w3], ()⟩ : Stt Unit) = some ((), ⟨[some (.s ns), some (.own (cs.map .int)), some (.d (.int m)), w3], ()⟩) := rfl
    simp only [bnd, e0, e1]
    exact e2
def cells0 : List Int := (List.range 64).map fun n : Nat => 17 + (n : Int)
theorem fold0 (ns : List Int) : asgM 1 (lcM [2] (rangeM (consO (ret (.val (PySem.PyData.int 64))) nilM)) (setM 2) (ret true) (op2 addD (ret (.val (PySem.PyData.int 17))) (nameM 2))) (⟨[some (.s ns), none, none, none], ()⟩ : Stt Unit) = some (.nx, ⟨[some (.s ns), some (.own (cells0.map .int)), none, none], ()⟩) := by kernel_rfl
theorem rg63 (s : Stt Unit) : rangeM (consO (ret (.val (PySem.PyData.int 1))) (consO (ret (.val (PySem.PyData.int 64))) nilM)) s = some (((List.range 63).map fun n : Nat => 1 + (n : Int)).map .int, s) := by kernel_rfl
theorem foldF : F__law_folded = seqM (asgM 1 (lcM [2] (rangeM (consO (ret (.val (PySem.PyData.int 64))) nilM)) (setM 2) (ret true) (op2 addD (ret (.val (PySem.PyData.int 17))) (nameM 2)))) (seqM (loopM (bnd (scrL 0) fun xs => ret (enumL 0 xs)) tgA bodyA) (seqM (loopM (rangeM (consO (ret (.val (PySem.PyData.int 1))) (consO (ret (.val (PySem.PyData.int 64))) nilM))) (setM 2) bodyB) (retM (nameM 1)))) := by kernel_rfl
theorem cells0_ok : Cells cells0 := by
  refine ⟨by unfold cells0; rw [List.length_map, List.length_range], fun c hc => ?_⟩
  unfold cells0 at hc
  obtain ⟨n, hn, rfl⟩ := List.mem_map.mp hc
  have := List.mem_range.mp hn
  omega
theorem fold_rest (ns : List Int) {c0 : List Int} (h0 : Cells c0) : ∃ cs v2 u3, Cells cs ∧ (seqM (loopM (bnd (scrL 0) fun xs => ret (enumL 0 xs)) tgA bodyA) (seqM (loopM (rangeM (consO (ret (.val (PySem.PyData.int 1))) (consO (ret (.val (PySem.PyData.int 64))) nilM))) (setM 2) bodyB) (retM (nameM 1)))) (⟨[some (.s ns), some (.own (c0.map .int)), none, none], ()⟩ : Stt Unit) = some (.rt (.list (cs.map .int)), ⟨[some (.s ns), some (.d (.list (cs.map .int))), v2, u3], ()⟩) := by
  obtain ⟨c1, u2, u3, h1, e1⟩ := loopA (ns := ns) ns 0 c0 none none h0
  obtain ⟨c2, v2, h2, e2⟩ := loopB (ns := ns) ((List.range 63).map fun n : Nat => 1 + (n : Int)) c1 u2 u3 (fun m hm => by
    obtain ⟨n, hn, rfl⟩ := List.mem_map.mp hm
    have := List.mem_range.mp hn
    omega) h1
  have s1 : (loopM (bnd (scrL 0) fun xs => ret (enumL 0 xs)) tgA bodyA) (⟨[some (.s ns), some (.own (c0.map .int)), none, none], ()⟩ : Stt Unit) = some (.nx, ⟨[some (.s ns), some (.own (c1.map .int)), u2, u3], ()⟩) := by
    simp only [loopM, bnd, scrL, scrAt, ret, List.getElem?_cons_zero]
    exact e1
  have s2 : (loopM (rangeM (consO (ret (.val (PySem.PyData.int 1))) (consO (ret (.val (PySem.PyData.int 64))) nilM))) (setM 2) bodyB) (⟨[some (.s ns), some (.own (c1.map .int)), u2, u3], ()⟩ : Stt Unit) = some (.nx, ⟨[some (.s ns), some (.own (c2.map .int)), v2, u3], ()⟩) := by
    unfold loopM
    simp only [bnd, rg63]
    exact e2
  refine ⟨c2, v2, u3, h2, ?_⟩
  simp only [seqM, bnd, s1, s2]
  simp [retM, valM, bnd, nameM, toD, ret]
theorem folded_ok (ns : List Int) : ∃ cs, m__law_folded ns = some (.list (cs.map .int)) ∧ Cells cs := by
  obtain ⟨cs, v2, u3, h, e⟩ := fold_rest ns cells0_ok
  refine ⟨cs, ?_, h⟩
  have e0 : F__law_folded (⟨[some (.s ns), none, none, none], ()⟩ : Stt Unit) = some (.rt (.list (cs.map .int)), ⟨[some (.s ns), some (.d (.list (cs.map .int))), v2, u3], ()⟩) := by
    rw [foldF]
    unfold seqM bnd
    rw [fold0]
    exact e
  unfold m__law_folded runS
  simp only [List.replicate]
  rw [e0]
end LW
end

section
set_option Elab.async false
set_option linter.all false
set_option maxRecDepth 100000
set_option maxHeartbeats 999999
set_option exponentiation.threshold 5001
open DL
namespace LW
/-! ### shapes -/
theorem of_ok {k : Nat} {st : DrawSt} (h : StOk k st) (hk : k ≤ 1000000) {xs : List D} (h0 : xs ≠ []) (hl : xs.length ≤ 1000) : ∃ x st', m__law_of [.list xs] st = some (x, st') ∧ x ∈ xs ∧ StOk (k + 1) st' := by
  have hp : 0 < xs.length := List.length_pos_iff.mpr h0
  obtain ⟨r, st', e, r0, r1, h'⟩ := draw_ok h hk (L := (xs.length : Nat)) (by omega) (by omega)
  have hr : r.toNat < xs.length := by omega
  have e1 : L2.atI xs r = some xs[r.toNat] := by
    unfold L2.atI L2.ixN
    rw [if_pos r0, if_pos r1]
    exact List.getElem?_eq_getElem hr
  refine ⟨xs[r.toNat], st', ?_, List.getElem_mem _, h'⟩
  simp [m__law_of, runD2, runD, F__law_of, retM, bnd, op2, lateM, nameM, getO, lift, ret, callM, lenD, consO, consD, nilM, getL, valM, toD, setM, ixD, callD, hAt, e, e1]
structure Shp where
  s : Int
  t : Int
  c : Int
  d : Int
  e : Int
  z : List Int
  f : Int
  g : Int
def Shp.D (x : Shp) : D := .tuple [.int x.s, .int x.t, .int x.c, .int x.d, .int x.e, .tuple (x.z.map .int), .int x.f, .int x.g]
def szs : List (List Int) := [[1], [2], [1, 1], [1, 2], [2, 1], [2, 2]]
structure Shp.Ok (x : Shp) : Prop where
  s : x.s = 1 ∨ x.s = 2
  t : x.t = 1 ∨ x.t = 2
  c : x.c = 1 ∨ x.c = 2
  d : x.d = 1 ∨ x.d = 2
  e : x.e = 0 ∨ x.e = 1
  z : x.z ∈ szs
  f : x.f = 1 ∨ x.f = 2
  g : x.g = -1 ∨ x.g = 0 ∨ x.g = 1 ∨ x.g = 2
theorem shape_ok {k : Nat} {st : DrawSt} (h : StOk k st) (hk : k ≤ 100000) : ∃ (x : Shp) (st' : DrawSt), m__law_shape [] st = some (x.D, st') ∧ x.Ok ∧ StOk (k + 8) st' := by
  obtain ⟨sz, s1, e1, m1, h1⟩ := of_ok h (by omega) (xs := szs.map fun z => .tuple (z.map .int)) (by decide) (by decide)
  obtain ⟨z, hz, rfl⟩ := List.mem_map.mp m1
  obtain ⟨r1, s2, e2, a1, b1, h2⟩ := draw_ok h1 (by omega) (L := 2) (by decide) (by omega)
  obtain ⟨r2, s3, e3, a2, b2, h3⟩ := draw_ok h2 (by omega) (L := 2) (by decide) (by omega)
  obtain ⟨r3, s4, e4, a3, b3, h4⟩ := draw_ok h3 (by omega) (L := 2) (by decide) (by omega)
  obtain ⟨r4, s5, e5, a4, b4, h5⟩ := draw_ok h4 (by omega) (L := 2) (by decide) (by omega)
  obtain ⟨r5, s6, e6, a5, b5, h6⟩ := draw_ok h5 (by omega) (L := 2) (by decide) (by omega)
  obtain ⟨r6, s7, e7, a6, b6, h7⟩ := draw_ok h6 (by omega) (L := 2) (by decide) (by omega)
  obtain ⟨r7, s8, e8, a7, b7, h8⟩ := draw_ok h7 (by omega) (L := 4) (by decide) (by omega)
  refine ⟨⟨1 + r1, 1 + r2, 1 + r3, 1 + r4, r6, z, 1 + r5, r7 - 1⟩, s8, ?_, ⟨by show 1 + r1 = 1 ∨ 1 + r1 = 2; omega, by show 1 + r2 = 1 ∨ 1 + r2 = 2; omega, by show 1 + r3 = 1 ∨ 1 + r3 = 2; omega, by show 1 + r4 = 1 ∨ 1 + r4 = 2; omega, by show r6 = 0 ∨ r6 = 1; omega, hz, by show 1 + r5 = 1 ∨ 1 + r5 = 2; omega, by show r7 - 1 = -1 ∨ r7 - 1 = 0 ∨ r7 - 1 = 1 ∨ r7 - 1 = 2; omega⟩, h8⟩
  simp only [szs, List.map_cons, List.map_nil] at e1
  have rg : rgD 0 5 = [.int 0, .int 1, .int 2, .int 3, .int 4] := by rfl
  have rk : rgOk 0 5 = true := by decide +kernel
  simp [m__law_shape, runD2, runD, F__law_shape, Shp.D, seqM, asgM, lcM, rangeM, intsM, rng2, rg, rk, fitsL, L2.atI, L2.ixN, wipeE, restE, keepD, lcLoop, turnM, tupM, lstM, PySem.sizeLine_eq, retM, bnd, op2, lateM, nameM, getO, lift, ret, callM, lenD, consO, consD, nilM, getL, valM, toD, setM, putM, ixD, callD, hAt, addD, orO, DL.opI, subD, e1, e2, e3, e4, e5, e6, e7, e8]
end LW
end

section
set_option Elab.async false
set_option linter.all false
set_option maxRecDepth 100000
set_option maxHeartbeats 999999
set_option exponentiation.threshold 5001
open DL
namespace LW
/-! ### rows of choices -/
def deq : D → D → Bool
  | .none, .none => true
  | .bool a, .bool b => a == b
  | .int a, .int b => decide (a = b)
  | .list xs, .list ys => deqs xs ys
  | .tuple xs, .tuple ys => deqs xs ys
  | _, _ => false
where deqs : List D → List D → Bool
  | [], [] => true
  | x :: xs, y :: ys => deq x y && deqs xs ys
  | _, _ => false
mutual
theorem deq_ok : ∀ (a b : D), deq a b = true → a = b
  | .none, b, h => by
    unfold deq at h
    cases b with
    | none => rfl
    | _ => cases h
  | .bool a, b, h => by
    unfold deq at h
    cases b with
    | bool c => rw [eq_of_beq h]
    | _ => cases h
  | .int a, b, h => by
    unfold deq at h
    cases b with
    | int c => rw [of_decide_eq_true h]
    | _ => cases h
  | .list xs, b, h => by
    unfold deq at h
    cases b with
    | list ys => rw [deqs_ok xs ys h]
    | _ => cases h
  | .tuple xs, b, h => by
    unfold deq at h
    cases b with
    | tuple ys => rw [deqs_ok xs ys h]
    | _ => cases h
  | .str _, b, h => by
    unfold deq at h
    cases h
  | .dict _, b, h => by
    unfold deq at h
    cases h
theorem deqs_ok : ∀ (a b : List D), deq.deqs a b = true → a = b
  | [], [], _ => rfl
  | x :: xs, y :: ys, h => by
    unfold deq.deqs at h
    obtain ⟨h1, h2⟩ := Bool.and_eq_true_iff.mp h
    rw [deq_ok x y h1, deqs_ok xs ys h2]
  | [], _ :: _, h => by cases h
  | _ :: _, [], h => by cases h
end
def isD1 (o : Option D) (d : D) : Bool := match o with
  | some x => deq x d
  | none => false
theorem isD1_ok {o : Option D} {d : D} (h : isD1 o d = true) : o = some d := by
  unfold isD1 at h
  split at h
  · rw [deq_ok _ _ h]
  · cases h
def uptoD (n : Int) : List D := (List.range n.toNat).map fun i : Nat => .int (i : Int)
def tup1 (ns : List Int) : D := .tuple (ns.map .int)
def spans (f : Int) : List D := if f = 1 then [tup1 [1, 1]] else [tup1 [1, 1], tup1 [1, 2], tup1 [2, 2]]
def toolsR (c : Int) : List D := if c = 1 then [tup1 [0]] else [tup1 [0], tup1 [0, 1], tup1 [1]]
def zonesR (e : Int) : List D := if e = 0 then [tup1 []] else [tup1 [], tup1 [0]]
def labRows (s t f : Int) : List (List D) := List.replicate s.toNat (uptoD t) ++ (if t = 2 then List.replicate s.toNat (.none :: uptoD t) ++ [[tup1 [0], tup1 [0, 1]]] else []) ++ [spans f]
def stepRows (s c e f g : Int) (first : Bool) : List (List D) := [uptoD s, toolsR c, zonesR e, spans f] ++ (if first then [] else [.none :: uptoD (g + 1)])
def sampleRows (x : Shp) (n : Int) : List (List D) := ((List.range n.toNat).map fun i => stepRows x.s x.c x.e x.f x.g (i == 0)).flatten
def rows (x : Shp) : List (List D) := labRows x.s x.t x.f ++ (x.z.map fun n => sampleRows x n).flatten
def cnt (x : Shp) : Int := (rows x).foldl (fun a r => a * (r.length : Int)) 1
def idxOk (r : List D) : Bool := (List.range r.length).all fun j => (match r[j]? with
  | some p => (match r.findIdx? fun z => PySem.PyData.eqv z p with
    | some i => i == j
    | none => false)
  | none => false)
def rowOk (r : List D) : Bool := !r.isEmpty && (decide (r.length ≤ 10) && (idxOk r && (PySem.SeqAt.shaped (.list r) && r.all PySem.SeqAt.shaped)))
def chk (x : Shp) : Bool := isD1 (m_choices_of [x.D]) (.list ((rows x).map .list)) && (isD1 (m__law_tiny_rows [x.D]) (.list ((rows x).map .list)) && ((rows x).all rowOk && decide ((rows x).length ≤ 24)))
abbrev Quad := Int × Int × Int × Int
def quads : List Quad := [1, 2].flatMap fun c => [0, 1].flatMap fun e => [1, 2].flatMap fun f => [-1, 0, 1, 2].map fun g => (c, e, f, g)
def ofQ (s t : Int) (z : List Int) (d : Int) (q : Quad) : Shp := ⟨s, t, q.1, d, q.2.1, z, q.2.2.1, q.2.2.2⟩
theorem chk0 (d : Int) : (quads.all fun q => chk (ofQ 1 1 [1] d q)) = true := by kernel_rfl
theorem chk1 (d : Int) : (quads.all fun q => chk (ofQ 1 1 [2] d q)) = true := by kernel_rfl
theorem chk2 (d : Int) : (quads.all fun q => chk (ofQ 1 1 [1, 1] d q)) = true := by kernel_rfl
theorem chk3 (d : Int) : (quads.all fun q => chk (ofQ 1 1 [1, 2] d q)) = true := by kernel_rfl
theorem chk4 (d : Int) : (quads.all fun q => chk (ofQ 1 1 [2, 1] d q)) = true := by kernel_rfl
theorem chk5 (d : Int) : (quads.all fun q => chk (ofQ 1 1 [2, 2] d q)) = true := by kernel_rfl
theorem chk6 (d : Int) : (quads.all fun q => chk (ofQ 1 2 [1] d q)) = true := by kernel_rfl
theorem chk7 (d : Int) : (quads.all fun q => chk (ofQ 1 2 [2] d q)) = true := by kernel_rfl
theorem chk8 (d : Int) : (quads.all fun q => chk (ofQ 1 2 [1, 1] d q)) = true := by kernel_rfl
theorem chk9 (d : Int) : (quads.all fun q => chk (ofQ 1 2 [1, 2] d q)) = true := by kernel_rfl
theorem chk10 (d : Int) : (quads.all fun q => chk (ofQ 1 2 [2, 1] d q)) = true := by kernel_rfl
theorem chk11 (d : Int) : (quads.all fun q => chk (ofQ 1 2 [2, 2] d q)) = true := by kernel_rfl
theorem chk12 (d : Int) : (quads.all fun q => chk (ofQ 2 1 [1] d q)) = true := by kernel_rfl
theorem chk13 (d : Int) : (quads.all fun q => chk (ofQ 2 1 [2] d q)) = true := by kernel_rfl
theorem chk14 (d : Int) : (quads.all fun q => chk (ofQ 2 1 [1, 1] d q)) = true := by kernel_rfl
theorem chk15 (d : Int) : (quads.all fun q => chk (ofQ 2 1 [1, 2] d q)) = true := by kernel_rfl
theorem chk16 (d : Int) : (quads.all fun q => chk (ofQ 2 1 [2, 1] d q)) = true := by kernel_rfl
theorem chk17 (d : Int) : (quads.all fun q => chk (ofQ 2 1 [2, 2] d q)) = true := by kernel_rfl
theorem chk18 (d : Int) : (quads.all fun q => chk (ofQ 2 2 [1] d q)) = true := by kernel_rfl
theorem chk19 (d : Int) : (quads.all fun q => chk (ofQ 2 2 [2] d q)) = true := by kernel_rfl
theorem chk20 (d : Int) : (quads.all fun q => chk (ofQ 2 2 [1, 1] d q)) = true := by kernel_rfl
theorem chk21 (d : Int) : (quads.all fun q => chk (ofQ 2 2 [1, 2] d q)) = true := by kernel_rfl
theorem chk22 (d : Int) : (quads.all fun q => chk (ofQ 2 2 [2, 1] d q)) = true := by kernel_rfl
theorem chk23 (d : Int) : (quads.all fun q => chk (ofQ 2 2 [2, 2] d q)) = true := by kernel_rfl
theorem quad_mem {x : Shp} (h : x.Ok) : (x.c, x.e, x.f, x.g) ∈ quads := by
  obtain ⟨_, _, h1, _, h2, _, h3, h4⟩ := h
  rcases h1 with e1 | e1 <;> rcases h2 with e2 | e2 <;> rcases h3 with e3 | e3 <;> rcases h4 with e4 | e4 | e4 | e4 <;> rw [e1, e2, e3, e4] <;> decide
theorem chk_ok {x : Shp} (h : x.Ok) : chk x = true := by
  have q := quad_mem h
  have go : ∀ (s t : Int) (z : List Int), x.s = s → x.t = t → x.z = z → (quads.all fun q => chk (ofQ s t z x.d q)) = true → chk x = true := fun s t z e1 e2 e3 a => by
    have := List.all_eq_true.mp a _ q
    rw [← e1, ← e2, ← e3] at this
    exact this
  have hz := h.z
  simp only [szs, List.mem_cons, List.not_mem_nil, or_false] at hz
  rcases h.s with e1 | e1 <;> rcases h.t with e2 | e2 <;> rcases hz with e3 | e3 | e3 | e3 | e3 | e3
  · exact go _ _ _ e1 e2 e3 (chk0 x.d)
  · exact go _ _ _ e1 e2 e3 (chk1 x.d)
  · exact go _ _ _ e1 e2 e3 (chk2 x.d)
  · exact go _ _ _ e1 e2 e3 (chk3 x.d)
  · exact go _ _ _ e1 e2 e3 (chk4 x.d)
  · exact go _ _ _ e1 e2 e3 (chk5 x.d)
  · exact go _ _ _ e1 e2 e3 (chk6 x.d)
  · exact go _ _ _ e1 e2 e3 (chk7 x.d)
  · exact go _ _ _ e1 e2 e3 (chk8 x.d)
  · exact go _ _ _ e1 e2 e3 (chk9 x.d)
  · exact go _ _ _ e1 e2 e3 (chk10 x.d)
  · exact go _ _ _ e1 e2 e3 (chk11 x.d)
  · exact go _ _ _ e1 e2 e3 (chk12 x.d)
  · exact go _ _ _ e1 e2 e3 (chk13 x.d)
  · exact go _ _ _ e1 e2 e3 (chk14 x.d)
  · exact go _ _ _ e1 e2 e3 (chk15 x.d)
  · exact go _ _ _ e1 e2 e3 (chk16 x.d)
  · exact go _ _ _ e1 e2 e3 (chk17 x.d)
  · exact go _ _ _ e1 e2 e3 (chk18 x.d)
  · exact go _ _ _ e1 e2 e3 (chk19 x.d)
  · exact go _ _ _ e1 e2 e3 (chk20 x.d)
  · exact go _ _ _ e1 e2 e3 (chk21 x.d)
  · exact go _ _ _ e1 e2 e3 (chk22 x.d)
  · exact go _ _ _ e1 e2 e3 (chk23 x.d)
def chkS (s t : Int) (z : List Int) (d : Int) (q : Quad) : Bool := isD1 (m_is_shape [(ofQ s t z d q).D]) (.bool true)
theorem shp0a : (quads.all (chkS 1 1 [1] 1)) = true := by kernel_rfl
theorem shp0b : (quads.all (chkS 1 1 [1] 2)) = true := by kernel_rfl
theorem shp1a : (quads.all (chkS 1 1 [2] 1)) = true := by kernel_rfl
theorem shp1b : (quads.all (chkS 1 1 [2] 2)) = true := by kernel_rfl
theorem shp2a : (quads.all (chkS 1 1 [1, 1] 1)) = true := by kernel_rfl
theorem shp2b : (quads.all (chkS 1 1 [1, 1] 2)) = true := by kernel_rfl
theorem shp3a : (quads.all (chkS 1 1 [1, 2] 1)) = true := by kernel_rfl
theorem shp3b : (quads.all (chkS 1 1 [1, 2] 2)) = true := by kernel_rfl
theorem shp4a : (quads.all (chkS 1 1 [2, 1] 1)) = true := by kernel_rfl
theorem shp4b : (quads.all (chkS 1 1 [2, 1] 2)) = true := by kernel_rfl
theorem shp5a : (quads.all (chkS 1 1 [2, 2] 1)) = true := by kernel_rfl
theorem shp5b : (quads.all (chkS 1 1 [2, 2] 2)) = true := by kernel_rfl
theorem shp6a : (quads.all (chkS 1 2 [1] 1)) = true := by kernel_rfl
theorem shp6b : (quads.all (chkS 1 2 [1] 2)) = true := by kernel_rfl
theorem shp7a : (quads.all (chkS 1 2 [2] 1)) = true := by kernel_rfl
theorem shp7b : (quads.all (chkS 1 2 [2] 2)) = true := by kernel_rfl
theorem shp8a : (quads.all (chkS 1 2 [1, 1] 1)) = true := by kernel_rfl
theorem shp8b : (quads.all (chkS 1 2 [1, 1] 2)) = true := by kernel_rfl
theorem shp9a : (quads.all (chkS 1 2 [1, 2] 1)) = true := by kernel_rfl
theorem shp9b : (quads.all (chkS 1 2 [1, 2] 2)) = true := by kernel_rfl
theorem shp10a : (quads.all (chkS 1 2 [2, 1] 1)) = true := by kernel_rfl
theorem shp10b : (quads.all (chkS 1 2 [2, 1] 2)) = true := by kernel_rfl
theorem shp11a : (quads.all (chkS 1 2 [2, 2] 1)) = true := by kernel_rfl
theorem shp11b : (quads.all (chkS 1 2 [2, 2] 2)) = true := by kernel_rfl
theorem shp12a : (quads.all (chkS 2 1 [1] 1)) = true := by kernel_rfl
theorem shp12b : (quads.all (chkS 2 1 [1] 2)) = true := by kernel_rfl
theorem shp13a : (quads.all (chkS 2 1 [2] 1)) = true := by kernel_rfl
theorem shp13b : (quads.all (chkS 2 1 [2] 2)) = true := by kernel_rfl
theorem shp14a : (quads.all (chkS 2 1 [1, 1] 1)) = true := by kernel_rfl
theorem shp14b : (quads.all (chkS 2 1 [1, 1] 2)) = true := by kernel_rfl
theorem shp15a : (quads.all (chkS 2 1 [1, 2] 1)) = true := by kernel_rfl
theorem shp15b : (quads.all (chkS 2 1 [1, 2] 2)) = true := by kernel_rfl
theorem shp16a : (quads.all (chkS 2 1 [2, 1] 1)) = true := by kernel_rfl
theorem shp16b : (quads.all (chkS 2 1 [2, 1] 2)) = true := by kernel_rfl
theorem shp17a : (quads.all (chkS 2 1 [2, 2] 1)) = true := by kernel_rfl
theorem shp17b : (quads.all (chkS 2 1 [2, 2] 2)) = true := by kernel_rfl
theorem shp18a : (quads.all (chkS 2 2 [1] 1)) = true := by kernel_rfl
theorem shp18b : (quads.all (chkS 2 2 [1] 2)) = true := by kernel_rfl
theorem shp19a : (quads.all (chkS 2 2 [2] 1)) = true := by kernel_rfl
theorem shp19b : (quads.all (chkS 2 2 [2] 2)) = true := by kernel_rfl
theorem shp20a : (quads.all (chkS 2 2 [1, 1] 1)) = true := by kernel_rfl
theorem shp20b : (quads.all (chkS 2 2 [1, 1] 2)) = true := by kernel_rfl
theorem shp21a : (quads.all (chkS 2 2 [1, 2] 1)) = true := by kernel_rfl
theorem shp21b : (quads.all (chkS 2 2 [1, 2] 2)) = true := by kernel_rfl
theorem shp22a : (quads.all (chkS 2 2 [2, 1] 1)) = true := by kernel_rfl
theorem shp22b : (quads.all (chkS 2 2 [2, 1] 2)) = true := by kernel_rfl
theorem shp23a : (quads.all (chkS 2 2 [2, 2] 1)) = true := by kernel_rfl
theorem shp23b : (quads.all (chkS 2 2 [2, 2] 2)) = true := by kernel_rfl
theorem is_shape_ok {x : Shp} (h : x.Ok) : m_is_shape [x.D] = some (.bool true) := by
  have q := quad_mem h
  have go : ∀ (s t : Int) (z : List Int), x.s = s → x.t = t → x.z = z → (quads.all (chkS s t z 1)) = true → (quads.all (chkS s t z 2)) = true → m_is_shape [x.D] = some (.bool true) := fun s t z e1 e2 e3 a b => by
    have r : chkS s t z x.d (x.c, x.e, x.f, x.g) = true := by
      rcases h.d with e | e
      · rw [e]; exact List.all_eq_true.mp a _ q
      · rw [e]; exact List.all_eq_true.mp b _ q
    unfold chkS at r
    rw [← e1, ← e2, ← e3] at r
    exact isD1_ok r
  have hz := h.z
  simp only [szs, List.mem_cons, List.not_mem_nil, or_false] at hz
  rcases h.s with e1 | e1 <;> rcases h.t with e2 | e2 <;> rcases hz with e3 | e3 | e3 | e3 | e3 | e3
  · exact go _ _ _ e1 e2 e3 shp0a shp0b
  · exact go _ _ _ e1 e2 e3 shp1a shp1b
  · exact go _ _ _ e1 e2 e3 shp2a shp2b
  · exact go _ _ _ e1 e2 e3 shp3a shp3b
  · exact go _ _ _ e1 e2 e3 shp4a shp4b
  · exact go _ _ _ e1 e2 e3 shp5a shp5b
  · exact go _ _ _ e1 e2 e3 shp6a shp6b
  · exact go _ _ _ e1 e2 e3 shp7a shp7b
  · exact go _ _ _ e1 e2 e3 shp8a shp8b
  · exact go _ _ _ e1 e2 e3 shp9a shp9b
  · exact go _ _ _ e1 e2 e3 shp10a shp10b
  · exact go _ _ _ e1 e2 e3 shp11a shp11b
  · exact go _ _ _ e1 e2 e3 shp12a shp12b
  · exact go _ _ _ e1 e2 e3 shp13a shp13b
  · exact go _ _ _ e1 e2 e3 shp14a shp14b
  · exact go _ _ _ e1 e2 e3 shp15a shp15b
  · exact go _ _ _ e1 e2 e3 shp16a shp16b
  · exact go _ _ _ e1 e2 e3 shp17a shp17b
  · exact go _ _ _ e1 e2 e3 shp18a shp18b
  · exact go _ _ _ e1 e2 e3 shp19a shp19b
  · exact go _ _ _ e1 e2 e3 shp20a shp20b
  · exact go _ _ _ e1 e2 e3 shp21a shp21b
  · exact go _ _ _ e1 e2 e3 shp22a shp22b
  · exact go _ _ _ e1 e2 e3 shp23a shp23b
theorem chk_parts {x : Shp} (h : x.Ok) : isD1 (m_choices_of [x.D]) (.list ((rows x).map .list)) = true ∧ isD1 (m__law_tiny_rows [x.D]) (.list ((rows x).map .list)) = true ∧ (rows x).all rowOk = true ∧ decide ((rows x).length ≤ 24) = true := by
  have q := chk_ok h
  unfold chk at q
  rw [Bool.and_eq_true, Bool.and_eq_true, Bool.and_eq_true] at q
  exact q
theorem choices_ok {x : Shp} (h : x.Ok) : m_choices_of [x.D] = some (.list ((rows x).map .list)) := isD1_ok (chk_parts h).1
theorem law_rows_ok {x : Shp} (h : x.Ok) : m__law_tiny_rows [x.D] = some (.list ((rows x).map .list)) := isD1_ok (chk_parts h).2.1
theorem rows_good {x : Shp} (h : x.Ok) : ∀ r ∈ rows x, rowOk r = true := List.all_eq_true.mp (chk_parts h).2.2.1
theorem rows_few {x : Shp} (h : x.Ok) : (rows x).length ≤ 24 := of_decide_eq_true (chk_parts h).2.2.2
end LW
end

section
set_option Elab.async false
set_option linter.all false
set_option maxRecDepth 100000
set_option maxHeartbeats 999999
set_option exponentiation.threshold 5001
open DL
namespace LW
/-! ### digits by rows -/
def dig : List (List D) → Int → List D
  | [], _ => []
  | r :: rs, n => r.getD (n % (r.length : Int)).toNat .none :: dig rs (n / (r.length : Int))
theorem dig_len : ∀ (rs : List (List D)) (n : Int), (dig rs n).length = rs.length
  | [], _ => rfl
  | r :: rs, n => by unfold dig; rw [List.length_cons, List.length_cons, dig_len]
structure Row (r : List D) : Prop where
  pos : 0 < r.length
  few : r.length ≤ 10
  idx : ∀ (j : Nat) (p : D), r[j]? = some p → (r.findIdx? fun z => PySem.PyData.eqv z p) = some j
  sh : PySem.SeqAt.shaped (.list r) = true
  el : ∀ p ∈ r, PySem.SeqAt.shaped p = true
theorem row_of {r : List D} (h : rowOk r = true) : Row r := by
  unfold rowOk at h
  obtain ⟨h1, h2⟩ := Bool.and_eq_true_iff.mp h
  obtain ⟨h3, h4⟩ := Bool.and_eq_true_iff.mp h2
  obtain ⟨h5, h6⟩ := Bool.and_eq_true_iff.mp h4
  obtain ⟨h7, h8⟩ := Bool.and_eq_true_iff.mp h6
  refine ⟨?_, of_decide_eq_true h3, fun j p e => ?_, h7, fun p hp => List.all_eq_true.mp h8 p hp⟩
  · cases r with
    | nil => cases h1
    | cons _ _ => simp
  · have hj : j < r.length := (List.getElem?_eq_some_iff.mp e).1
    have := List.all_eq_true.mp h5 j (List.mem_range.mpr hj)
    rw [e] at this
    dsimp only at this
    split at this
    · rename_i i e2
      rw [e2, eq_of_beq this]
    · cases this
section
variable {r : List D} (h : Row r) (n : Int)
include h
theorem Row.at_ : L2.atI r (n % (r.length : Int)) = some (r.getD (n % (r.length : Int)).toNat .none) := by
  obtain ⟨j, e1, e2⟩ := ixN_mod (i := n) h.pos
  have ej : (n % (r.length : Int)).toNat = j := by
    unfold L2.ixN at e1
    have p := h.pos
    rw [if_pos (Int.emod_nonneg _ (by omega)), if_pos (Int.emod_lt_of_pos _ (by omega))] at e1
    exact Option.some.inj e1
  unfold L2.atI
  rw [e1, ej]
  show r[j]? = _
  rw [List.getD_eq_getElem?_getD, List.getElem?_eq_getElem e2]
  rfl
theorem Row.get : r[(n % (r.length : Int)).toNat]? = some (r.getD (n % (r.length : Int)).toNat .none) := by
  have p := h.pos
  have h1 := Int.emod_nonneg n (b := (r.length : Int)) (by omega)
  have h2 := Int.emod_lt_of_pos n (b := (r.length : Int)) (by omega)
  have hl : (n % (r.length : Int)).toNat < r.length := by omega
  rw [List.getD_eq_getElem?_getD, List.getElem?_eq_getElem hl]
  rfl
theorem Row.mem : r.getD (n % (r.length : Int)).toNat .none ∈ r := List.mem_of_getElem? (h.get n)
theorem Row.log : ((r.length : Nat) : Int).natAbs.log2 < 9000 := by
  have h1 := h.pos
  have h2 := h.few
  have : ((r.length : Nat) : Int).natAbs.log2 < 4 := (Nat.log2_lt (by omega)).mpr (by omega)
  omega
end
def bodyT : M Unit Out := (seqM (bnd (ownAt 2) fun _ => appM 2 (op2 ixD (nameM 3) (op2 modD (nameM 1) (callM lenD (consO (nameM 3) nilM))))) (augM 1 fdivD (callM lenD (consO (nameM 3) nilM))))
theorem stepT {sh : D} {n : Int} {acc r : List D} (h : Row r) (hz : acc.length < 1000) : bodyT ⟨[some (.d sh), some (.d (.int n)), some (.own acc), some (.d (.list r))], ()⟩ =
    some (.nx, ⟨[some (.d sh), some (.d (.int (n / (r.length : Int)))), some (.own (acc ++ [r.getD (n % (r.length : Int)).toNat .none])), some (.d (.list r))], ()⟩) := by
  have a1 := h.at_ n
  have a2 : (0 : Int) < (r.length : Nat) := by have := h.pos; omega
  have a3 : r.length.log2 < 9000 := by simpa using h.log
  have a4 : acc.length < 16777216 := by omega
  have a5 : 0 < r.length := h.pos
  simp [bodyT, seqM, bnd, ownAt, appM, valM, op2, lateM, nameM, getO, lift, ret, callM, lenD, consO, nilM, getL, toD, modD, DL.opI, modOk, ixD, augM, fdivD, divOk, putM, setM, a1, a2, a3, a4, a5, PySem.sizeLine_eq]
theorem loopT {sh : D} : ∀ (rs : List (List D)) (n : Int) (acc : List D) (w : Option Sl), (∀ r ∈ rs, Row r) → acc.length + rs.length ≤ 100 → ∃ n' w', DL.forM (setM 3) bodyT (rs.map .list) ⟨[some (.d sh), some (.d (.int n)), some (.own acc), w], ()⟩ =
    some (.nx, ⟨[some (.d sh), some (.d (.int n')), some (.own (acc ++ dig rs n)), w'], ()⟩)
  | [], n, acc, w, _, _ => ⟨n, w, by rw [dig, List.append_nil]; rfl⟩
  | r :: rs, n, acc, w, h, hz => by
    rw [List.length_cons] at hz
    have e1 := stepT (sh := sh) (n := n) (acc := acc) (h r (by simp)) (by omega)
    obtain ⟨n', w', e2⟩ := loopT rs (n / (r.length : Int)) (acc ++ [r.getD (n % (r.length : Int)).toNat .none]) (some (.d (.list r))) (fun z hz => h z (by simp [hz])) (by rw [List.length_append, List.length_cons, List.length_nil]; omega)
    refine ⟨n', w', ?_⟩
    rw [List.map_cons]
    unfold DL.forM
    have e0 : setM 3 (.list r) (⟨[some (.d sh), some (.d (.int n)), some (.own acc), w], ()⟩ : Stt Unit) = some ((), ⟨[some (.d sh), some (.d (.int n)), some (.own acc), some (.d (.list r))], ()⟩) := rfl
    simp only [bnd, e0, e1]
    rw [e2, dig, List.append_assoc]
    rfl
/-- the picks of a number -/
def picksOf (R : List (List D)) (n : Int) : List D := (dig R.reverse n).reverse
theorem free_task_ok {x : Shp} (h : x.Ok) (n : Int) : m_free_task [x.D, .int n] = m_task_of [x.D, .list (picksOf (rows x) n)] := by
  have hr : ∀ r ∈ (rows x).reverse, Row r := fun r hm => row_of (rows_good h r (List.mem_reverse.mp hm))
  obtain ⟨n', w', e⟩ := loopT (sh := x.D) (rows x).reverse n [] none hr (by rw [List.length_reverse]; have := rows_few h; simp; omega)
  have hF : F_free_task = seqM (asgM 2 (lstM nilM)) (seqM (loopM (iterM (revM (callP m_choices_of (consD (nameM 0) nilM)))) (setM 3) bodyT) (retM (callP m_task_of (consD (nameM 0) (consD (revM (nameM 2)) nilM))))) := rfl
  have e1 : iterM (revM (callP m_choices_of (consD (nameM 0) nilM))) (⟨[some (.d x.D), some (.d (.int n)), some (.own []), none], ()⟩ : Stt Unit) = some ((rows x).reverse.map .list, ⟨[some (.d x.D), some (.d (.int n)), some (.own []), none], ()⟩) := by
    simp [iterM, revM, callP, consD, nilM, nameM, bnd, valM, toD, ret, lift, getO, seqO, choices_ok h, List.map_reverse]
  rw [List.nil_append] at e
  have e2 : F_free_task (⟨[some (.d x.D), some (.d (.int n)), none, none], ()⟩ : Stt Unit) = retM (callP m_task_of (consD (nameM 0) (consD (revM (nameM 2)) nilM))) ⟨[some (.d x.D), some (.d (.int n')), some (.own (dig (rows x).reverse n)), w'], ()⟩ := by
    rw [hF]
    have e3 : asgM 2 (lstM nilM) (⟨[some (.d x.D), some (.d (.int n)), none, none], ()⟩ : Stt Unit) = some (.nx, ⟨[some (.d x.D), some (.d (.int n)), some (.own []), none], ()⟩) := rfl
    simp only [seqM, bnd, e3, loopM, e1, e]
  unfold m_free_task runP2
  rw [if_pos (show [x.D, PySem.PyData.int n].length = 2 from rfl)]
  unfold runP
  simp only [List.map_cons, List.map_nil, List.length_cons, List.length_nil, List.replicate, List.cons_append, List.nil_append]
  rw [e2]
  unfold picksOf
  simp only [retM, callP, consD, nilM, nameM, bnd, valM, toD, ret, lift, getO, revM, List.getElem?_cons_zero, List.getElem?_cons_succ]
  cases m_task_of [x.D, .list (dig (rows x).reverse n).reverse] <;> rfl
end LW
end

section
set_option Elab.async false
set_option linter.all false
set_option maxRecDepth 100000
set_option maxHeartbeats 999999
set_option exponentiation.threshold 5001
open DL
namespace LW
/-! ### the law's own digits, the number of picks -/
def bodyL : M Unit Out := (seqM (asgM 3 (op2 addD (lstM (consD (op2 ixD (nameM 4) (op2 modD (callM intD (consO (nameM 1) nilM)) (callM lenD (consO (nameM 4) nilM)))) nilM)) (nameM 3))) (asgM 1 (op2 fdivD (nameM 1) (callM lenD (consO (nameM 4) nilM)))))
def restL : M Unit Out := (seqM (parM [5, 6] (consN (op2 ixD (nameM 0) (ret (.val (PySem.PyData.int 0)))) (consN (op2 ixD (nameM 0) (ret (.val (PySem.PyData.int 1)))) nilM))) (seqM (asgM 7 (lcM [8] (rangeM (consO (nameM 6) nilM)) (setM 8) (ret true) (callM tupleD (consO (sliceM slD (nameM 3) (bnd (op2 mulD (nameM 8) (nameM 5)) intO) (bnd (op2 addD (op2 mulD (nameM 8) (nameM 5)) (nameM 5)) intO)) nilM)))) (seqM (asgM 3 (sliceM slD (nameM 3) (bnd (op2 mulD (nameM 5) (nameM 6)) intO) (ret none))) (seqM (asgM 9 (op2 addD (tupM (consD (op2 addD (tupM (consD (tupM (consD (ret (.val (PySem.PyData.int 0))) nilM)) nilM)) (callM tupleD (consO (sliceM slD (nameM 3) (ret none) (bnd (op2 subD (nameM 6) (ret (.val (PySem.PyData.int 1)))) intO)) nilM))) nilM)) (op2 ixD (nameM 3) (op2 subD (nameM 6) (ret (.val (PySem.PyData.int 1))))))) (seqM (parM [3, 10] (consN (sliceM slD (nameM 3) (bnd (nameM 6) intO) (ret none)) (consN (lstM nilM) nilM))) (seqM (loopM (iterM (op2 ixD (nameM 0) (ret (.val (PySem.PyData.int 5))))) (setM 11) (seqM (parM [12, 13] (consN (lstM nilM) (consN (lstM nilM) nilM))) (seqM (loopM (rangeM (consO (nameM 11) nilM)) (setM 14) (seqM (bnd (ownAt 12) fun _ => appM 12 (op2 addD (tupM (consD (op2 ixD (nameM 3) (ret (.val (PySem.PyData.int 0)))) (consD (op2 ixD (nameM 3) (ret (.val (PySem.PyData.int 1)))) (consD (op2 ixD (nameM 3) (ret (.val (PySem.PyData.int 2)))) nilM)))) (op2 ixD (nameM 3) (ret (.val (PySem.PyData.int 3)))))) (seqM (bnd (ownAt 13) fun _ => appM 13 (iteM (bnd (op2 gtD (nameM 14) (ret (.val (PySem.PyData.int 0)))) boolO) (op2 ixD (nameM 3) (ret (.val (PySem.PyData.int 4)))) (ret (.val PySem.PyData.none)))) (asgM 3 (iteM (bnd (op2 gtD (nameM 14) (ret (.val (PySem.PyData.int 0)))) boolO) (sliceM slD (nameM 3) (bnd (ret (.val (PySem.PyData.int 5))) intO) (ret none)) (sliceM slD (nameM 3) (bnd (ret (.val (PySem.PyData.int 4))) intO) (ret none))))))) (bnd (ownAt 10) fun _ => appM 10 (tupM (consD (callM tupleD (consO (nameM 12) nilM)) (consD (callM tupleD (consO (nameM 13) nilM)) nilM))))))) (retM (tupM (consD (tupM (consD (callM tupleD (consO (nameM 7) nilM)) (consD (tupM (consD (nameM 9) nilM)) (consD (op2 ixD (nameM 0) (ret (.val (PySem.PyData.int 2)))) (consD (op2 ixD (nameM 0) (ret (.val (PySem.PyData.int 3)))) (consD (op2 ixD (nameM 0) (ret (.val (PySem.PyData.int 4)))) nilM)))))) (consD (callM tupleD (consO (nameM 10) nilM)) nilM))))))))))
def parL : M Unit Out := (parM [2, 3] (consN (callP m__law_tiny_rows (consD (nameM 0) nilM)) (consN (lstM nilM) nilM)))
theorem lawF : F__law_tiny_task = seqM parL (seqM (loopM (iterM (revM (nameM 2))) (setM 4) bodyL) restL) := rfl
abbrev envL (sh : D) (n : Int) (R : D) (acc : List D) (w : Option Sl) : Stt Unit := ⟨[some (.d sh), some (.d (.int n)), some (.d R), some (.own acc), w, none, none, none, none, none, none, none, none, none, none], ()⟩
theorem stepL {sh R : D} {n : Int} {acc r : List D} (h : Row r) (hz : acc.length < 1000) : bodyL (envL sh n R acc (some (.d (.list r)))) = some (.nx, envL sh (n / (r.length : Int)) R (r.getD (n % (r.length : Int)).toNat .none :: acc) (some (.d (.list r)))) := by
  have a1 := h.at_ n
  have a2 : (0 : Int) < (r.length : Nat) := by have := h.pos; omega
  have a3 : r.length.log2 < 9000 := by simpa using h.log
  have a4 : 1 + acc.length ≤ 16777216 := by omega
  have a5 : 0 < r.length := h.pos
  simp [bodyL, envL, seqM, asgM, bnd, valM, op2, lateM, nameM, getO, lift, ret, callM, lenD, intD, consO, consD, nilM, getL, toD, modD, DL.opI, modOk, ixD, lstM, fitsL, addD, orO, catT, catL, fdivD, divOk, putM, setM, a1, a2, a3, a4, a5, PySem.sizeLine_eq]
theorem loopL {sh R : D} : ∀ (rs : List (List D)) (n : Int) (acc : List D) (w : Option Sl), (∀ r ∈ rs, Row r) → acc.length + rs.length ≤ 100 → ∃ n' w', DL.forM (setM 4) bodyL (rs.map .list) (envL sh n R acc w) = some (.nx, envL sh n' R ((dig rs n).reverse ++ acc) w')
  | [], n, acc, w, _, _ => ⟨n, w, by rw [dig]; rfl⟩
  | r :: rs, n, acc, w, h, hz => by
    rw [List.length_cons] at hz
    have e1 := stepL (sh := sh) (R := R) (n := n) (acc := acc) (h r (by simp)) (by omega)
    obtain ⟨n', w', e2⟩ := loopL (sh := sh) (R := R) rs (n / (r.length : Int)) (r.getD (n % (r.length : Int)).toNat .none :: acc) (some (.d (.list r))) (fun z hz => h z (by simp [hz])) (by rw [List.length_cons]; omega)
    refine ⟨n', w', ?_⟩
    rw [List.map_cons]
    unfold DL.forM
    have e0 : setM 4 (.list r) (envL sh n R acc w) = some ((), envL sh n R acc (some (.d (.list r)))) := rfl
    simp only [bnd, e0, e1]
    rw [e2, dig, List.reverse_cons, List.append_assoc]
    rfl
/-- what the law builds of picks -/
def lawBuild (sh : D) (n : Int) (R : D) (w : Option Sl) (picks : List D) : Option Out := (restL (envL sh n R picks w)).map (·.1)
theorem law_task_ok {x : Shp} (h : x.Ok) (n : Int) {tk : D} (hb : ∀ n' R w, lawBuild x.D n' R w (picksOf (rows x) n) = some (.rt tk)) : m__law_tiny_task [x.D, .int n] = some tk := by
  have hr : ∀ r ∈ (rows x).reverse, Row r := fun r hm => row_of (rows_good h r (List.mem_reverse.mp hm))
  obtain ⟨n', w', e⟩ := loopL (sh := x.D) (R := .list ((rows x).map .list)) (rows x).reverse n [] none hr (by rw [List.length_reverse]; have := rows_few h; simp; omega)
  rw [List.append_nil] at e
  have e1 : parL (⟨[some (.d x.D), some (.d (.int n)), none, none, none, none, none, none, none, none, none, none, none, none, none], ()⟩ : Stt Unit) = some (.nx, envL x.D n (.list ((rows x).map .list)) [] none) := by
    simp [parL, parM, consN, callP, consD, nilM, nameM, bnd, valM, toD, ret, lift, getO, lstM, fitsL, fixM, setsM, putM, setM, envL, law_rows_ok h]
  have e2 : iterM (revM (nameM 2)) (envL x.D n (.list ((rows x).map .list)) [] none) = some ((rows x).reverse.map .list, envL x.D n (.list ((rows x).map .list)) [] none) := by
    simp [iterM, revM, nameM, bnd, valM, toD, ret, getO, seqO, envL, List.map_reverse]
  have q := hb n' (.list ((rows x).map .list)) w'
  unfold lawBuild at q
  obtain ⟨⟨o, s'⟩, q1, q2⟩ := Option.map_eq_some_iff.mp q
  have q2' : o = .rt tk := q2
  subst q2'
  have e3 : F__law_tiny_task (⟨[some (.d x.D), some (.d (.int n)), none, none, none, none, none, none, none, none, none, none, none, none, none], ()⟩ : Stt Unit) = some (.rt tk, s') := by
    rw [lawF]
    unfold picksOf at q1
    simp only [seqM, bnd, e1, loopM, e2, e]
    exact q1
  unfold m__law_tiny_task runP2
  rw [if_pos (show [x.D, PySem.PyData.int n].length = 2 from rfl)]
  unfold runP
  simp only [List.map_cons, List.map_nil, List.length_cons, List.length_nil, List.replicate, List.cons_append, List.nil_append]
  rw [e3]
/-! the number of picks -/
def bodyN : M Unit Out := (seqM (ifM (bnd (op2 notInD (nameM 4) (nameM 3)) boolO) (retM (ret (.val PySem.PyData.none))) (ret .nx)) (asgM 2 (op2 addD (op2 mulD (nameM 2) (callM lenD (consO (nameM 3) nilM))) (indexM (nameM 3) (nameM 4)))))
def tgN : D → M Unit Unit := (tupG 2 (gsCons (setM 3) (gsCons (setM 4) gsNil)))
abbrev envN (sh tk : D) (n : Int) (w3 w4 : Option Sl) : Stt Unit := ⟨[some (.d sh), some (.d tk), some (.d (.int n)), w3, w4], ()⟩
theorem stepN {sh tk : D} {n : Int} {r : List D} {j : Nat} {p : D} (h : Row r) (hp : r[j]? = some p) (hn : n.natAbs < 2 ^ 3000) : bodyN (envN sh tk n (some (.d (.list r))) (some (.d p))) = some (.nx, envN sh tk (n * (r.length : Int) + (j : Int)) (some (.d (.list r))) (some (.d p))) := by
  have a1 := h.idx j p hp
  have a2 := h.sh
  have hm := List.mem_of_getElem? hp
  have a3 := h.el p hm
  have a4 : (r.any fun z => PySem.PyData.eqv z p) = true := by
    obtain ⟨hl, hq, _⟩ := List.findIdx?_eq_some_iff_getElem.mp a1
    exact List.any_eq_true.mpr ⟨_, List.getElem_mem hl, hq⟩
  have a5 : mulOk n (r.length : Int) = true := mulOk_of (le_pow hn (by decide)) (by have := h.few; omega)
  have a6 : inT true p (.list r) = none := rfl
  have a7 : notInD p (.list r) = some (.val (.bool false)) := by
    unfold notInD orO
    rw [a6]
    simp [inL, a2, a3, a4]
  have a8 : idxD (.list r) p = some (j : Int) := by
    simp [idxD, a1, a2, a3]
  simp [bodyN, envN, seqM, ifM, asgM, bnd, boolO, valM, op2, lateM, nameM, getO, lift, ret, callM, lenD, consO, nilM, getL, toD, DL.opI, addD, mulD, orO, indexM, isL, putM, setM, a5, a7, a8]
/-- turns that all go on -/
def Steps {τ : Type} (G : D → M τ Unit) (F : M τ Out) : List D → Stt τ → Stt τ → Prop
  | [], s, s1 => s = s1
  | x :: a, s, s1 => ∃ s2 s3, G x s = some ((), s2) ∧ F s2 = some (.nx, s3) ∧ Steps G F a s3 s1
theorem Steps.run {τ : Type} {G : D → M τ Unit} {F : M τ Out} : ∀ {a : List D} {s s1 : Stt τ}, Steps G F a s s1 → DL.forM G F a s = some (.nx, s1)
  | [], s, s1, h => by
    have e : s = s1 := h
    rw [e]
    rfl
  | x :: a, s, s1, ⟨s2, s3, h1, h2, h3⟩ => by
    unfold DL.forM
    simp only [bnd, h1, h2]
    exact h3.run
theorem Steps.snoc {τ : Type} {G : D → M τ Unit} {F : M τ Out} : ∀ {a : List D} {x : D} {s s1 s2 s3 : Stt τ}, Steps G F a s s1 → G x s1 = some ((), s2) → F s2 = some (.nx, s3) → Steps G F (a ++ [x]) s s3
  | [], x, s, s1, s2, s3, h, h1, h2 => by
    have e : s = s1 := h
    subst e
    exact ⟨s2, s3, h1, h2, rfl⟩
  | y :: a, x, s, s1, s2, s3, ⟨u, v, k1, k2, k3⟩, h1, h2 => ⟨u, v, k1, k2, k3.snoc h1 h2⟩
def prod : List (List D) → Int
  | [] => 1
  | r :: rs => (r.length : Int) * prod rs
theorem zipL_app : ∀ (a b : List D) (x y : D), a.length = b.length → zipL (a ++ [x]) (b ++ [y]) = zipL a b ++ [.tuple [x, y]]
  | [], [], x, y, _ => rfl
  | a :: as, b :: bs, x, y, h => by
    rw [List.cons_append, List.cons_append]
    unfold zipL
    rw [zipL_app as bs x y (by simpa using h)]
    rfl
  | [], _ :: _, _, _, h => by cases h
  | _ :: _, [], _, _, h => by cases h
theorem prod_pos : ∀ (rs : List (List D)), (∀ r ∈ rs, Row r) → 0 < prod rs
  | [], _ => by decide
  | r :: rs, h => by
    unfold prod
    have h1 := (h r (by simp)).pos
    exact Int.mul_pos (by omega) (prod_pos rs fun z hz => h z (by simp [hz]))
theorem loopN {sh tk : D} : ∀ (Q : List (List D)) (n : Int) (w3 w4 : Option Sl), (∀ r ∈ Q, Row r) → 0 ≤ n → n < prod Q → n < 2 ^ 2000 → ∃ u3 u4, Steps tgN bodyN (zipL (Q.reverse.map .list) (dig Q n).reverse) (envN sh tk 0 w3 w4) (envN sh tk n u3 u4)
  | [], n, w3, w4, _, h0, h1, _ => by
    have e : n = 0 := by unfold prod at h1; omega
    subst e
    exact ⟨w3, w4, rfl⟩
  | r :: rs, n, w3, w4, h, h0, h1, h2 => by
    have hr := h r (by simp)
    have hp : (0 : Int) < (r.length : Int) := by have := hr.pos; omega
    have k0 : 0 ≤ n / (r.length : Int) := Int.ediv_nonneg h0 (by omega)
    have k1 : n / (r.length : Int) < prod rs := by
      unfold prod at h1
      exact Int.ediv_lt_of_lt_mul hp (by rw [Int.mul_comm]; exact h1)
    have k2 : n / (r.length : Int) ≤ n := Int.ediv_le_self _ h0
    obtain ⟨u3, u4, e1⟩ := loopN (sh := sh) (tk := tk) rs (n / (r.length : Int)) w3 w4 (fun z hz => h z (by simp [hz])) k0 k1 (by omega)
    have g := hr.get n
    have hb : n / (r.length : Int) < 2 ^ 2000 := by omega
    have hc : (n / (r.length : Int)).natAbs < 2 ^ 3000 := le_pow (p := 2000) (by omega) (by decide)
    have e2 := stepN (sh := sh) (tk := tk) (n := n / (r.length : Int)) hr g hc
    have e4 : n / (r.length : Int) * (r.length : Int) + ((n % (r.length : Int)).toNat : Int) = n := by
      have q1 := Int.emod_nonneg n (b := (r.length : Int)) (by omega)
      rw [Int.toNat_of_nonneg q1, Int.mul_comm]
      exact Int.mul_ediv_add_emod n (r.length : Int)
    rw [e4] at e2
    refine ⟨some (.d (.list r)), some (.d (r.getD (n % (r.length : Int)).toNat .none)), ?_⟩
    rw [dig, List.reverse_cons, List.reverse_cons, List.map_append, List.map_cons, List.map_nil, zipL_app _ _ _ _ (by rw [List.length_map, List.length_reverse, List.length_reverse, dig_len])]
    exact e1.snoc rfl e2
end LW
end

section
set_option Elab.async false
set_option linter.all false
set_option maxRecDepth 100000
set_option maxHeartbeats 999999
set_option exponentiation.threshold 5001
open DL
open PySem (PyData)
namespace LW
/-! ### tasks of picks, by stuffs, states, sizes -/
def In2 : List D → List (List D) → Prop
  | [], [] => True
  | p :: ps, r :: rs => p ∈ r ∧ In2 ps rs
  | _, _ => False
theorem In2.snoc : ∀ {a : List D} {b : List (List D)} {x : D} {y : List D}, In2 a b → x ∈ y → In2 (a ++ [x]) (b ++ [y])
  | [], [], _, _, _, h => ⟨h, trivial⟩
  | _ :: _, _ :: _, _, _, ⟨h1, h2⟩, h => ⟨h1, h2.snoc h⟩
  | [], _ :: _, _, _, h, _ => h.elim
  | _ :: _, [], _, _, h, _ => h.elim
theorem dig_in : ∀ (Q : List (List D)) (n : Int), (∀ r ∈ Q, Row r) → In2 (dig Q n).reverse Q.reverse
  | [], _, _ => trivial
  | r :: rs, n, h => by
    rw [dig, List.reverse_cons, List.reverse_cons]
    exact (dig_in rs _ fun z hz => h z (by simp [hz])).snoc ((h r (by simp)).mem n)
theorem picks_in {R : List (List D)} (n : Int) (h : ∀ r ∈ R, Row r) : In2 (picksOf R n) R := by
  have q := dig_in R.reverse n fun r hr => h r (List.mem_reverse.mp hr)
  rw [List.reverse_reverse] at q
  exact q
theorem In2.uncons {ps : List D} {r : List D} {rs : List (List D)} (h : In2 ps (r :: rs)) : ∃ p qs, ps = p :: qs ∧ p ∈ r ∧ In2 qs rs := by
  cases ps with
  | nil => exact h.elim
  | cons p qs => exact ⟨p, qs, rfl, h.1, h.2⟩
theorem In2.end {ps : List D} (h : In2 ps []) : ps = [] := by
  cases ps with
  | nil => rfl
  | cons p qs => exact h.elim
def cde : List (Int × Int × Int) := [1, 2].flatMap fun c => [1, 2].flatMap fun d => [0, 1].map fun e => (c, d, e)

theorem tk0 (c d e f g a1 u2 v3 p4 p5 p6 u7 v8 : D) : m_task_of [.tuple [.int 1, .int 1, c, d, e, .tuple [.int 1], f, g], .list [a1, .tuple [u2, v3], p4, p5, p6, .tuple [u7, v8]]] = some (.tuple [.tuple [.tuple [.tuple [a1]], .tuple [.tuple [.tuple [.tuple [.int 0]], u2, v3]], c, d, e], .tuple [.tuple [.tuple [.tuple [p4, p5, p6, u7, v8]], .tuple [.none]]]]) := by kernel_rfl
theorem lt0 (c d e f g a1 u2 v3 p4 p5 p6 u7 v8 : D) (n : Int) (R : D) (w : Option Sl) : lawBuild (.tuple [.int 1, .int 1, c, d, e, .tuple [.int 1], f, g]) n R w [a1, .tuple [u2, v3], p4, p5, p6, .tuple [u7, v8]] = some (.rt (.tuple [.tuple [.tuple [.tuple [a1]], .tuple [.tuple [.tuple [.tuple [.int 0]], u2, v3]], c, d, e], .tuple [.tuple [.tuple [.tuple [p4, p5, p6, u7, v8]], .tuple [.none]]]])) := by kernel_rfl
theorem pk0 (c d e f g a1 u2 v3 p4 p5 p6 u7 v8 : D) : m_picks_of [.tuple [.int 1, .int 1, c, d, e, .tuple [.int 1], f, g], .tuple [.tuple [.tuple [.tuple [a1]], .tuple [.tuple [.tuple [.tuple [.int 0]], u2, v3]], c, d, e], .tuple [.tuple [.tuple [.tuple [p4, p5, p6, u7, v8]], .tuple [.none]]]]] = some (.list [a1, .tuple [u2, v3], p4, p5, p6, .tuple [u7, v8]]) := by kernel_rfl
theorem hs0 (f g a1 u2 v3 p4 p5 p6 u7 v8 : D) : (cde.all fun q => isD1 (m_has_sizes [.tuple [.int 1, .int 1, .int q.1, .int q.2.1, .int q.2.2, .tuple [.int 1], f, g], .tuple [.tuple [.tuple [.tuple [a1]], .tuple [.tuple [.tuple [.tuple [.int 0]], u2, v3]], .int q.1, .int q.2.1, .int q.2.2], .tuple [.tuple [.tuple [.tuple [p4, p5, p6, u7, v8]], .tuple [.none]]]]]) (.bool true)) = true := by kernel_rfl
theorem tk1 (c d e f g a1 u2 v3 p4 p5 p6 u7 v8 p9 p10 p11 u12 v13 w14 : D) : m_task_of [.tuple [.int 1, .int 1, c, d, e, .tuple [.int 2], f, g], .list [a1, .tuple [u2, v3], p4, p5, p6, .tuple [u7, v8], p9, p10, p11, .tuple [u12, v13], w14]] = some (.tuple [.tuple [.tuple [.tuple [a1]], .tuple [.tuple [.tuple [.tuple [.int 0]], u2, v3]], c, d, e], .tuple [.tuple [.tuple [.tuple [p4, p5, p6, u7, v8], .tuple [p9, p10, p11, u12, v13]], .tuple [.none, w14]]]]) := by kernel_rfl
theorem lt1 (c d e f g a1 u2 v3 p4 p5 p6 u7 v8 p9 p10 p11 u12 v13 w14 : D) (n : Int) (R : D) (w : Option Sl) : lawBuild (.tuple [.int 1, .int 1, c, d, e, .tuple [.int 2], f, g]) n R w [a1, .tuple [u2, v3], p4, p5, p6, .tuple [u7, v8], p9, p10, p11, .tuple [u12, v13], w14] = some (.rt (.tuple [.tuple [.tuple [.tuple [a1]], .tuple [.tuple [.tuple [.tuple [.int 0]], u2, v3]], c, d, e], .tuple [.tuple [.tuple [.tuple [p4, p5, p6, u7, v8], .tuple [p9, p10, p11, u12, v13]], .tuple [.none, w14]]]])) := by kernel_rfl
theorem pk1 (c d e f g a1 u2 v3 p4 p5 p6 u7 v8 p9 p10 p11 u12 v13 w14 : D) : m_picks_of [.tuple [.int 1, .int 1, c, d, e, .tuple [.int 2], f, g], .tuple [.tuple [.tuple [.tuple [a1]], .tuple [.tuple [.tuple [.tuple [.int 0]], u2, v3]], c, d, e], .tuple [.tuple [.tuple [.tuple [p4, p5, p6, u7, v8], .tuple [p9, p10, p11, u12, v13]], .tuple [.none, w14]]]]] = some (.list [a1, .tuple [u2, v3], p4, p5, p6, .tuple [u7, v8], p9, p10, p11, .tuple [u12, v13], w14]) := by kernel_rfl
theorem hs1 (f g a1 u2 v3 p4 p5 p6 u7 v8 p9 p10 p11 u12 v13 w14 : D) : (cde.all fun q => isD1 (m_has_sizes [.tuple [.int 1, .int 1, .int q.1, .int q.2.1, .int q.2.2, .tuple [.int 2], f, g], .tuple [.tuple [.tuple [.tuple [a1]], .tuple [.tuple [.tuple [.tuple [.int 0]], u2, v3]], .int q.1, .int q.2.1, .int q.2.2], .tuple [.tuple [.tuple [.tuple [p4, p5, p6, u7, v8], .tuple [p9, p10, p11, u12, v13]], .tuple [.none, w14]]]]]) (.bool true)) = true := by kernel_rfl
theorem tk2 (c d e f g a1 u2 v3 p4 p5 p6 u7 v8 p9 p10 p11 u12 v13 : D) : m_task_of [.tuple [.int 1, .int 1, c, d, e, .tuple [.int 1, .int 1], f, g], .list [a1, .tuple [u2, v3], p4, p5, p6, .tuple [u7, v8], p9, p10, p11, .tuple [u12, v13]]] = some (.tuple [.tuple [.tuple [.tuple [a1]], .tuple [.tuple [.tuple [.tuple [.int 0]], u2, v3]], c, d, e], .tuple [.tuple [.tuple [.tuple [p4, p5, p6, u7, v8]], .tuple [.none]], .tuple [.tuple [.tuple [p9, p10, p11, u12, v13]], .tuple [.none]]]]) := by kernel_rfl
theorem lt2 (c d e f g a1 u2 v3 p4 p5 p6 u7 v8 p9 p10 p11 u12 v13 : D) (n : Int) (R : D) (w : Option Sl) : lawBuild (.tuple [.int 1, .int 1, c, d, e, .tuple [.int 1, .int 1], f, g]) n R w [a1, .tuple [u2, v3], p4, p5, p6, .tuple [u7, v8], p9, p10, p11, .tuple [u12, v13]] = some (.rt (.tuple [.tuple [.tuple [.tuple [a1]], .tuple [.tuple [.tuple [.tuple [.int 0]], u2, v3]], c, d, e], .tuple [.tuple [.tuple [.tuple [p4, p5, p6, u7, v8]], .tuple [.none]], .tuple [.tuple [.tuple [p9, p10, p11, u12, v13]], .tuple [.none]]]])) := by kernel_rfl
theorem pk2 (c d e f g a1 u2 v3 p4 p5 p6 u7 v8 p9 p10 p11 u12 v13 : D) : m_picks_of [.tuple [.int 1, .int 1, c, d, e, .tuple [.int 1, .int 1], f, g], .tuple [.tuple [.tuple [.tuple [a1]], .tuple [.tuple [.tuple [.tuple [.int 0]], u2, v3]], c, d, e], .tuple [.tuple [.tuple [.tuple [p4, p5, p6, u7, v8]], .tuple [.none]], .tuple [.tuple [.tuple [p9, p10, p11, u12, v13]], .tuple [.none]]]]] = some (.list [a1, .tuple [u2, v3], p4, p5, p6, .tuple [u7, v8], p9, p10, p11, .tuple [u12, v13]]) := by kernel_rfl
theorem hs2 (f g a1 u2 v3 p4 p5 p6 u7 v8 p9 p10 p11 u12 v13 : D) : (cde.all fun q => isD1 (m_has_sizes [.tuple [.int 1, .int 1, .int q.1, .int q.2.1, .int q.2.2, .tuple [.int 1, .int 1], f, g], .tuple [.tuple [.tuple [.tuple [a1]], .tuple [.tuple [.tuple [.tuple [.int 0]], u2, v3]], .int q.1, .int q.2.1, .int q.2.2], .tuple [.tuple [.tuple [.tuple [p4, p5, p6, u7, v8]], .tuple [.none]], .tuple [.tuple [.tuple [p9, p10, p11, u12, v13]], .tuple [.none]]]]]) (.bool true)) = true := by kernel_rfl
theorem tk3 (c d e f g a1 u2 v3 p4 p5 p6 u7 v8 p9 p10 p11 u12 v13 p14 p15 p16 u17 v18 w19 : D) : m_task_of [.tuple [.int 1, .int 1, c, d, e, .tuple [.int 1, .int 2], f, g], .list [a1, .tuple [u2, v3], p4, p5, p6, .tuple [u7, v8], p9, p10, p11, .tuple [u12, v13], p14, p15, p16, .tuple [u17, v18], w19]] = some (.tuple [.tuple [.tuple [.tuple [a1]], .tuple [.tuple [.tuple [.tuple [.int 0]], u2, v3]], c, d, e], .tuple [.tuple [.tuple [.tuple [p4, p5, p6, u7, v8]], .tuple [.none]], .tuple [.tuple [.tuple [p9, p10, p11, u12, v13], .tuple [p14, p15, p16, u17, v18]], .tuple [.none, w19]]]]) := by kernel_rfl
theorem lt3 (c d e f g a1 u2 v3 p4 p5 p6 u7 v8 p9 p10 p11 u12 v13 p14 p15 p16 u17 v18 w19 : D) (n : Int) (R : D) (w : Option Sl) : lawBuild (.tuple [.int 1, .int 1, c, d, e, .tuple [.int 1, .int 2], f, g]) n R w [a1, .tuple [u2, v3], p4, p5, p6, .tuple [u7, v8], p9, p10, p11, .tuple [u12, v13], p14, p15, p16, .tuple [u17, v18], w19] = some (.rt (.tuple [.tuple [.tuple [.tuple [a1]], .tuple [.tuple [.tuple [.tuple [.int 0]], u2, v3]], c, d, e], .tuple [.tuple [.tuple [.tuple [p4, p5, p6, u7, v8]], .tuple [.none]], .tuple [.tuple [.tuple [p9, p10, p11, u12, v13], .tuple [p14, p15, p16, u17, v18]], .tuple [.none, w19]]]])) := by kernel_rfl
theorem pk3 (c d e f g a1 u2 v3 p4 p5 p6 u7 v8 p9 p10 p11 u12 v13 p14 p15 p16 u17 v18 w19 : D) : m_picks_of [.tuple [.int 1, .int 1, c, d, e, .tuple [.int 1, .int 2], f, g], .tuple [.tuple [.tuple [.tuple [a1]], .tuple [.tuple [.tuple [.tuple [.int 0]], u2, v3]], c, d, e], .tuple [.tuple [.tuple [.tuple [p4, p5, p6, u7, v8]], .tuple [.none]], .tuple [.tuple [.tuple [p9, p10, p11, u12, v13], .tuple [p14, p15, p16, u17, v18]], .tuple [.none, w19]]]]] = some (.list [a1, .tuple [u2, v3], p4, p5, p6, .tuple [u7, v8], p9, p10, p11, .tuple [u12, v13], p14, p15, p16, .tuple [u17, v18], w19]) := by kernel_rfl
theorem hs3 (f g a1 u2 v3 p4 p5 p6 u7 v8 p9 p10 p11 u12 v13 p14 p15 p16 u17 v18 w19 : D) : (cde.all fun q => isD1 (m_has_sizes [.tuple [.int 1, .int 1, .int q.1, .int q.2.1, .int q.2.2, .tuple [.int 1, .int 2], f, g], .tuple [.tuple [.tuple [.tuple [a1]], .tuple [.tuple [.tuple [.tuple [.int 0]], u2, v3]], .int q.1, .int q.2.1, .int q.2.2], .tuple [.tuple [.tuple [.tuple [p4, p5, p6, u7, v8]], .tuple [.none]], .tuple [.tuple [.tuple [p9, p10, p11, u12, v13], .tuple [p14, p15, p16, u17, v18]], .tuple [.none, w19]]]]]) (.bool true)) = true := by kernel_rfl
theorem tk4 (c d e f g a1 u2 v3 p4 p5 p6 u7 v8 p9 p10 p11 u12 v13 w14 p15 p16 p17 u18 v19 : D) : m_task_of [.tuple [.int 1, .int 1, c, d, e, .tuple [.int 2, .int 1], f, g], .list [a1, .tuple [u2, v3], p4, p5, p6, .tuple [u7, v8], p9, p10, p11, .tuple [u12, v13], w14, p15, p16, p17, .tuple [u18, v19]]] = some (.tuple [.tuple [.tuple [.tuple [a1]], .tuple [.tuple [.tuple [.tuple [.int 0]], u2, v3]], c, d, e], .tuple [.tuple [.tuple [.tuple [p4, p5, p6, u7, v8], .tuple [p9, p10, p11, u12, v13]], .tuple [.none, w14]], .tuple [.tuple [.tuple [p15, p16, p17, u18, v19]], .tuple [.none]]]]) := by kernel_rfl
theorem lt4 (c d e f g a1 u2 v3 p4 p5 p6 u7 v8 p9 p10 p11 u12 v13 w14 p15 p16 p17 u18 v19 : D) (n : Int) (R : D) (w : Option Sl) : lawBuild (.tuple [.int 1, .int 1, c, d, e, .tuple [.int 2, .int 1], f, g]) n R w [a1, .tuple [u2, v3], p4, p5, p6, .tuple [u7, v8], p9, p10, p11, .tuple [u12, v13], w14, p15, p16, p17, .tuple [u18, v19]] = some (.rt (.tuple [.tuple [.tuple [.tuple [a1]], .tuple [.tuple [.tuple [.tuple [.int 0]], u2, v3]], c, d, e], .tuple [.tuple [.tuple [.tuple [p4, p5, p6, u7, v8], .tuple [p9, p10, p11, u12, v13]], .tuple [.none, w14]], .tuple [.tuple [.tuple [p15, p16, p17, u18, v19]], .tuple [.none]]]])) := by kernel_rfl
theorem pk4 (c d e f g a1 u2 v3 p4 p5 p6 u7 v8 p9 p10 p11 u12 v13 w14 p15 p16 p17 u18 v19 : D) : m_picks_of [.tuple [.int 1, .int 1, c, d, e, .tuple [.int 2, .int 1], f, g], .tuple [.tuple [.tuple [.tuple [a1]], .tuple [.tuple [.tuple [.tuple [.int 0]], u2, v3]], c, d, e], .tuple [.tuple [.tuple [.tuple [p4, p5, p6, u7, v8], .tuple [p9, p10, p11, u12, v13]], .tuple [.none, w14]], .tuple [.tuple [.tuple [p15, p16, p17, u18, v19]], .tuple [.none]]]]] = some (.list [a1, .tuple [u2, v3], p4, p5, p6, .tuple [u7, v8], p9, p10, p11, .tuple [u12, v13], w14, p15, p16, p17, .tuple [u18, v19]]) := by kernel_rfl
theorem hs4 (f g a1 u2 v3 p4 p5 p6 u7 v8 p9 p10 p11 u12 v13 w14 p15 p16 p17 u18 v19 : D) : (cde.all fun q => isD1 (m_has_sizes [.tuple [.int 1, .int 1, .int q.1, .int q.2.1, .int q.2.2, .tuple [.int 2, .int 1], f, g], .tuple [.tuple [.tuple [.tuple [a1]], .tuple [.tuple [.tuple [.tuple [.int 0]], u2, v3]], .int q.1, .int q.2.1, .int q.2.2], .tuple [.tuple [.tuple [.tuple [p4, p5, p6, u7, v8], .tuple [p9, p10, p11, u12, v13]], .tuple [.none, w14]], .tuple [.tuple [.tuple [p15, p16, p17, u18, v19]], .tuple [.none]]]]]) (.bool true)) = true := by kernel_rfl
theorem tk5 (c d e f g a1 u2 v3 p4 p5 p6 u7 v8 p9 p10 p11 u12 v13 w14 p15 p16 p17 u18 v19 p20 p21 p22 u23 v24 w25 : D) : m_task_of [.tuple [.int 1, .int 1, c, d, e, .tuple [.int 2, .int 2], f, g], .list [a1, .tuple [u2, v3], p4, p5, p6, .tuple [u7, v8], p9, p10, p11, .tuple [u12, v13], w14, p15, p16, p17, .tuple [u18, v19], p20, p21, p22, .tuple [u23, v24], w25]] = some (.tuple [.tuple [.tuple [.tuple [a1]], .tuple [.tuple [.tuple [.tuple [.int 0]], u2, v3]], c, d, e], .tuple [.tuple [.tuple [.tuple [p4, p5, p6, u7, v8], .tuple [p9, p10, p11, u12, v13]], .tuple [.none, w14]], .tuple [.tuple [.tuple [p15, p16, p17, u18, v19], .tuple [p20, p21, p22, u23, v24]], .tuple [.none, w25]]]]) := by kernel_rfl
theorem lt5 (c d e f g a1 u2 v3 p4 p5 p6 u7 v8 p9 p10 p11 u12 v13 w14 p15 p16 p17 u18 v19 p20 p21 p22 u23 v24 w25 : D) (n : Int) (R : D) (w : Option Sl) : lawBuild (.tuple [.int 1, .int 1, c, d, e, .tuple [.int 2, .int 2], f, g]) n R w [a1, .tuple [u2, v3], p4, p5, p6, .tuple [u7, v8], p9, p10, p11, .tuple [u12, v13], w14, p15, p16, p17, .tuple [u18, v19], p20, p21, p22, .tuple [u23, v24], w25] = some (.rt (.tuple [.tuple [.tuple [.tuple [a1]], .tuple [.tuple [.tuple [.tuple [.int 0]], u2, v3]], c, d, e], .tuple [.tuple [.tuple [.tuple [p4, p5, p6, u7, v8], .tuple [p9, p10, p11, u12, v13]], .tuple [.none, w14]], .tuple [.tuple [.tuple [p15, p16, p17, u18, v19], .tuple [p20, p21, p22, u23, v24]], .tuple [.none, w25]]]])) := by kernel_rfl
theorem pk5 (c d e f g a1 u2 v3 p4 p5 p6 u7 v8 p9 p10 p11 u12 v13 w14 p15 p16 p17 u18 v19 p20 p21 p22 u23 v24 w25 : D) : m_picks_of [.tuple [.int 1, .int 1, c, d, e, .tuple [.int 2, .int 2], f, g], .tuple [.tuple [.tuple [.tuple [a1]], .tuple [.tuple [.tuple [.tuple [.int 0]], u2, v3]], c, d, e], .tuple [.tuple [.tuple [.tuple [p4, p5, p6, u7, v8], .tuple [p9, p10, p11, u12, v13]], .tuple [.none, w14]], .tuple [.tuple [.tuple [p15, p16, p17, u18, v19], .tuple [p20, p21, p22, u23, v24]], .tuple [.none, w25]]]]] = some (.list [a1, .tuple [u2, v3], p4, p5, p6, .tuple [u7, v8], p9, p10, p11, .tuple [u12, v13], w14, p15, p16, p17, .tuple [u18, v19], p20, p21, p22, .tuple [u23, v24], w25]) := by kernel_rfl
theorem hs5 (f g a1 u2 v3 p4 p5 p6 u7 v8 p9 p10 p11 u12 v13 w14 p15 p16 p17 u18 v19 p20 p21 p22 u23 v24 w25 : D) : (cde.all fun q => isD1 (m_has_sizes [.tuple [.int 1, .int 1, .int q.1, .int q.2.1, .int q.2.2, .tuple [.int 2, .int 2], f, g], .tuple [.tuple [.tuple [.tuple [a1]], .tuple [.tuple [.tuple [.tuple [.int 0]], u2, v3]], .int q.1, .int q.2.1, .int q.2.2], .tuple [.tuple [.tuple [.tuple [p4, p5, p6, u7, v8], .tuple [p9, p10, p11, u12, v13]], .tuple [.none, w14]], .tuple [.tuple [.tuple [p15, p16, p17, u18, v19], .tuple [p20, p21, p22, u23, v24]], .tuple [.none, w25]]]]]) (.bool true)) = true := by kernel_rfl
theorem tk6 (c d e f g a1 a2 l3 u4 v5 p6 p7 p8 u9 v10 : D) : m_task_of [.tuple [.int 1, .int 2, c, d, e, .tuple [.int 1], f, g], .list [a1, a2, l3, .tuple [u4, v5], p6, p7, p8, .tuple [u9, v10]]] = some (.tuple [.tuple [.tuple [.tuple [a1], .tuple [a2]], .tuple [.tuple [.tuple [.tuple [.int 0], l3], u4, v5]], c, d, e], .tuple [.tuple [.tuple [.tuple [p6, p7, p8, u9, v10]], .tuple [.none]]]]) := by kernel_rfl
theorem lt6 (c d e f g a1 a2 l3 u4 v5 p6 p7 p8 u9 v10 : D) (n : Int) (R : D) (w : Option Sl) : lawBuild (.tuple [.int 1, .int 2, c, d, e, .tuple [.int 1], f, g]) n R w [a1, a2, l3, .tuple [u4, v5], p6, p7, p8, .tuple [u9, v10]] = some (.rt (.tuple [.tuple [.tuple [.tuple [a1], .tuple [a2]], .tuple [.tuple [.tuple [.tuple [.int 0], l3], u4, v5]], c, d, e], .tuple [.tuple [.tuple [.tuple [p6, p7, p8, u9, v10]], .tuple [.none]]]])) := by kernel_rfl
theorem pk6 (c d e f g a1 a2 l3 u4 v5 p6 p7 p8 u9 v10 : D) : m_picks_of [.tuple [.int 1, .int 2, c, d, e, .tuple [.int 1], f, g], .tuple [.tuple [.tuple [.tuple [a1], .tuple [a2]], .tuple [.tuple [.tuple [.tuple [.int 0], l3], u4, v5]], c, d, e], .tuple [.tuple [.tuple [.tuple [p6, p7, p8, u9, v10]], .tuple [.none]]]]] = some (.list [a1, a2, l3, .tuple [u4, v5], p6, p7, p8, .tuple [u9, v10]]) := by kernel_rfl
theorem hs6 (f g a1 a2 l3 u4 v5 p6 p7 p8 u9 v10 : D) : (cde.all fun q => isD1 (m_has_sizes [.tuple [.int 1, .int 2, .int q.1, .int q.2.1, .int q.2.2, .tuple [.int 1], f, g], .tuple [.tuple [.tuple [.tuple [a1], .tuple [a2]], .tuple [.tuple [.tuple [.tuple [.int 0], l3], u4, v5]], .int q.1, .int q.2.1, .int q.2.2], .tuple [.tuple [.tuple [.tuple [p6, p7, p8, u9, v10]], .tuple [.none]]]]]) (.bool true)) = true := by kernel_rfl
theorem tk7 (c d e f g a1 a2 l3 u4 v5 p6 p7 p8 u9 v10 p11 p12 p13 u14 v15 w16 : D) : m_task_of [.tuple [.int 1, .int 2, c, d, e, .tuple [.int 2], f, g], .list [a1, a2, l3, .tuple [u4, v5], p6, p7, p8, .tuple [u9, v10], p11, p12, p13, .tuple [u14, v15], w16]] = some (.tuple [.tuple [.tuple [.tuple [a1], .tuple [a2]], .tuple [.tuple [.tuple [.tuple [.int 0], l3], u4, v5]], c, d, e], .tuple [.tuple [.tuple [.tuple [p6, p7, p8, u9, v10], .tuple [p11, p12, p13, u14, v15]], .tuple [.none, w16]]]]) := by kernel_rfl
theorem lt7 (c d e f g a1 a2 l3 u4 v5 p6 p7 p8 u9 v10 p11 p12 p13 u14 v15 w16 : D) (n : Int) (R : D) (w : Option Sl) : lawBuild (.tuple [.int 1, .int 2, c, d, e, .tuple [.int 2], f, g]) n R w [a1, a2, l3, .tuple [u4, v5], p6, p7, p8, .tuple [u9, v10], p11, p12, p13, .tuple [u14, v15], w16] = some (.rt (.tuple [.tuple [.tuple [.tuple [a1], .tuple [a2]], .tuple [.tuple [.tuple [.tuple [.int 0], l3], u4, v5]], c, d, e], .tuple [.tuple [.tuple [.tuple [p6, p7, p8, u9, v10], .tuple [p11, p12, p13, u14, v15]], .tuple [.none, w16]]]])) := by kernel_rfl
theorem pk7 (c d e f g a1 a2 l3 u4 v5 p6 p7 p8 u9 v10 p11 p12 p13 u14 v15 w16 : D) : m_picks_of [.tuple [.int 1, .int 2, c, d, e, .tuple [.int 2], f, g], .tuple [.tuple [.tuple [.tuple [a1], .tuple [a2]], .tuple [.tuple [.tuple [.tuple [.int 0], l3], u4, v5]], c, d, e], .tuple [.tuple [.tuple [.tuple [p6, p7, p8, u9, v10], .tuple [p11, p12, p13, u14, v15]], .tuple [.none, w16]]]]] = some (.list [a1, a2, l3, .tuple [u4, v5], p6, p7, p8, .tuple [u9, v10], p11, p12, p13, .tuple [u14, v15], w16]) := by kernel_rfl
theorem hs7 (f g a1 a2 l3 u4 v5 p6 p7 p8 u9 v10 p11 p12 p13 u14 v15 w16 : D) : (cde.all fun q => isD1 (m_has_sizes [.tuple [.int 1, .int 2, .int q.1, .int q.2.1, .int q.2.2, .tuple [.int 2], f, g], .tuple [.tuple [.tuple [.tuple [a1], .tuple [a2]], .tuple [.tuple [.tuple [.tuple [.int 0], l3], u4, v5]], .int q.1, .int q.2.1, .int q.2.2], .tuple [.tuple [.tuple [.tuple [p6, p7, p8, u9, v10], .tuple [p11, p12, p13, u14, v15]], .tuple [.none, w16]]]]]) (.bool true)) = true := by kernel_rfl
theorem tk8 (c d e f g a1 a2 l3 u4 v5 p6 p7 p8 u9 v10 p11 p12 p13 u14 v15 : D) : m_task_of [.tuple [.int 1, .int 2, c, d, e, .tuple [.int 1, .int 1], f, g], .list [a1, a2, l3, .tuple [u4, v5], p6, p7, p8, .tuple [u9, v10], p11, p12, p13, .tuple [u14, v15]]] = some (.tuple [.tuple [.tuple [.tuple [a1], .tuple [a2]], .tuple [.tuple [.tuple [.tuple [.int 0], l3], u4, v5]], c, d, e], .tuple [.tuple [.tuple [.tuple [p6, p7, p8, u9, v10]], .tuple [.none]], .tuple [.tuple [.tuple [p11, p12, p13, u14, v15]], .tuple [.none]]]]) := by kernel_rfl
theorem lt8 (c d e f g a1 a2 l3 u4 v5 p6 p7 p8 u9 v10 p11 p12 p13 u14 v15 : D) (n : Int) (R : D) (w : Option Sl) : lawBuild (.tuple [.int 1, .int 2, c, d, e, .tuple [.int 1, .int 1], f, g]) n R w [a1, a2, l3, .tuple [u4, v5], p6, p7, p8, .tuple [u9, v10], p11, p12, p13, .tuple [u14, v15]] = some (.rt (.tuple [.tuple [.tuple [.tuple [a1], .tuple [a2]], .tuple [.tuple [.tuple [.tuple [.int 0], l3], u4, v5]], c, d, e], .tuple [.tuple [.tuple [.tuple [p6, p7, p8, u9, v10]], .tuple [.none]], .tuple [.tuple [.tuple [p11, p12, p13, u14, v15]], .tuple [.none]]]])) := by kernel_rfl
theorem pk8 (c d e f g a1 a2 l3 u4 v5 p6 p7 p8 u9 v10 p11 p12 p13 u14 v15 : D) : m_picks_of [.tuple [.int 1, .int 2, c, d, e, .tuple [.int 1, .int 1], f, g], .tuple [.tuple [.tuple [.tuple [a1], .tuple [a2]], .tuple [.tuple [.tuple [.tuple [.int 0], l3], u4, v5]], c, d, e], .tuple [.tuple [.tuple [.tuple [p6, p7, p8, u9, v10]], .tuple [.none]], .tuple [.tuple [.tuple [p11, p12, p13, u14, v15]], .tuple [.none]]]]] = some (.list [a1, a2, l3, .tuple [u4, v5], p6, p7, p8, .tuple [u9, v10], p11, p12, p13, .tuple [u14, v15]]) := by kernel_rfl
theorem hs8 (f g a1 a2 l3 u4 v5 p6 p7 p8 u9 v10 p11 p12 p13 u14 v15 : D) : (cde.all fun q => isD1 (m_has_sizes [.tuple [.int 1, .int 2, .int q.1, .int q.2.1, .int q.2.2, .tuple [.int 1, .int 1], f, g], .tuple [.tuple [.tuple [.tuple [a1], .tuple [a2]], .tuple [.tuple [.tuple [.tuple [.int 0], l3], u4, v5]], .int q.1, .int q.2.1, .int q.2.2], .tuple [.tuple [.tuple [.tuple [p6, p7, p8, u9, v10]], .tuple [.none]], .tuple [.tuple [.tuple [p11, p12, p13, u14, v15]], .tuple [.none]]]]]) (.bool true)) = true := by kernel_rfl
theorem tk9 (c d e f g a1 a2 l3 u4 v5 p6 p7 p8 u9 v10 p11 p12 p13 u14 v15 p16 p17 p18 u19 v20 w21 : D) : m_task_of [.tuple [.int 1, .int 2, c, d, e, .tuple [.int 1, .int 2], f, g], .list [a1, a2, l3, .tuple [u4, v5], p6, p7, p8, .tuple [u9, v10], p11, p12, p13, .tuple [u14, v15], p16, p17, p18, .tuple [u19, v20], w21]] = some (.tuple [.tuple [.tuple [.tuple [a1], .tuple [a2]], .tuple [.tuple [.tuple [.tuple [.int 0], l3], u4, v5]], c, d, e], .tuple [.tuple [.tuple [.tuple [p6, p7, p8, u9, v10]], .tuple [.none]], .tuple [.tuple [.tuple [p11, p12, p13, u14, v15], .tuple [p16, p17, p18, u19, v20]], .tuple [.none, w21]]]]) := by kernel_rfl
theorem lt9 (c d e f g a1 a2 l3 u4 v5 p6 p7 p8 u9 v10 p11 p12 p13 u14 v15 p16 p17 p18 u19 v20 w21 : D) (n : Int) (R : D) (w : Option Sl) : lawBuild (.tuple [.int 1, .int 2, c, d, e, .tuple [.int 1, .int 2], f, g]) n R w [a1, a2, l3, .tuple [u4, v5], p6, p7, p8, .tuple [u9, v10], p11, p12, p13, .tuple [u14, v15], p16, p17, p18, .tuple [u19, v20], w21] = some (.rt (.tuple [.tuple [.tuple [.tuple [a1], .tuple [a2]], .tuple [.tuple [.tuple [.tuple [.int 0], l3], u4, v5]], c, d, e], .tuple [.tuple [.tuple [.tuple [p6, p7, p8, u9, v10]], .tuple [.none]], .tuple [.tuple [.tuple [p11, p12, p13, u14, v15], .tuple [p16, p17, p18, u19, v20]], .tuple [.none, w21]]]])) := by kernel_rfl
theorem pk9 (c d e f g a1 a2 l3 u4 v5 p6 p7 p8 u9 v10 p11 p12 p13 u14 v15 p16 p17 p18 u19 v20 w21 : D) : m_picks_of [.tuple [.int 1, .int 2, c, d, e, .tuple [.int 1, .int 2], f, g], .tuple [.tuple [.tuple [.tuple [a1], .tuple [a2]], .tuple [.tuple [.tuple [.tuple [.int 0], l3], u4, v5]], c, d, e], .tuple [.tuple [.tuple [.tuple [p6, p7, p8, u9, v10]], .tuple [.none]], .tuple [.tuple [.tuple [p11, p12, p13, u14, v15], .tuple [p16, p17, p18, u19, v20]], .tuple [.none, w21]]]]] = some (.list [a1, a2, l3, .tuple [u4, v5], p6, p7, p8, .tuple [u9, v10], p11, p12, p13, .tuple [u14, v15], p16, p17, p18, .tuple [u19, v20], w21]) := by kernel_rfl
theorem hs9 (f g a1 a2 l3 u4 v5 p6 p7 p8 u9 v10 p11 p12 p13 u14 v15 p16 p17 p18 u19 v20 w21 : D) : (cde.all fun q => isD1 (m_has_sizes [.tuple [.int 1, .int 2, .int q.1, .int q.2.1, .int q.2.2, .tuple [.int 1, .int 2], f, g], .tuple [.tuple [.tuple [.tuple [a1], .tuple [a2]], .tuple [.tuple [.tuple [.tuple [.int 0], l3], u4, v5]], .int q.1, .int q.2.1, .int q.2.2], .tuple [.tuple [.tuple [.tuple [p6, p7, p8, u9, v10]], .tuple [.none]], .tuple [.tuple [.tuple [p11, p12, p13, u14, v15], .tuple [p16, p17, p18, u19, v20]], .tuple [.none, w21]]]]]) (.bool true)) = true := by kernel_rfl
theorem tk10 (c d e f g a1 a2 l3 u4 v5 p6 p7 p8 u9 v10 p11 p12 p13 u14 v15 w16 p17 p18 p19 u20 v21 : D) : m_task_of [.tuple [.int 1, .int 2, c, d, e, .tuple [.int 2, .int 1], f, g], .list [a1, a2, l3, .tuple [u4, v5], p6, p7, p8, .tuple [u9, v10], p11, p12, p13, .tuple [u14, v15], w16, p17, p18, p19, .tuple [u20, v21]]] = some (.tuple [.tuple [.tuple [.tuple [a1], .tuple [a2]], .tuple [.tuple [.tuple [.tuple [.int 0], l3], u4, v5]], c, d, e], .tuple [.tuple [.tuple [.tuple [p6, p7, p8, u9, v10], .tuple [p11, p12, p13, u14, v15]], .tuple [.none, w16]], .tuple [.tuple [.tuple [p17, p18, p19, u20, v21]], .tuple [.none]]]]) := by kernel_rfl
theorem lt10 (c d e f g a1 a2 l3 u4 v5 p6 p7 p8 u9 v10 p11 p12 p13 u14 v15 w16 p17 p18 p19 u20 v21 : D) (n : Int) (R : D) (w : Option Sl) : lawBuild (.tuple [.int 1, .int 2, c, d, e, .tuple [.int 2, .int 1], f, g]) n R w [a1, a2, l3, .tuple [u4, v5], p6, p7, p8, .tuple [u9, v10], p11, p12, p13, .tuple [u14, v15], w16, p17, p18, p19, .tuple [u20, v21]] = some (.rt (.tuple [.tuple [.tuple [.tuple [a1], .tuple [a2]], .tuple [.tuple [.tuple [.tuple [.int 0], l3], u4, v5]], c, d, e], .tuple [.tuple [.tuple [.tuple [p6, p7, p8, u9, v10], .tuple [p11, p12, p13, u14, v15]], .tuple [.none, w16]], .tuple [.tuple [.tuple [p17, p18, p19, u20, v21]], .tuple [.none]]]])) := by kernel_rfl
theorem pk10 (c d e f g a1 a2 l3 u4 v5 p6 p7 p8 u9 v10 p11 p12 p13 u14 v15 w16 p17 p18 p19 u20 v21 : D) : m_picks_of [.tuple [.int 1, .int 2, c, d, e, .tuple [.int 2, .int 1], f, g], .tuple [.tuple [.tuple [.tuple [a1], .tuple [a2]], .tuple [.tuple [.tuple [.tuple [.int 0], l3], u4, v5]], c, d, e], .tuple [.tuple [.tuple [.tuple [p6, p7, p8, u9, v10], .tuple [p11, p12, p13, u14, v15]], .tuple [.none, w16]], .tuple [.tuple [.tuple [p17, p18, p19, u20, v21]], .tuple [.none]]]]] = some (.list [a1, a2, l3, .tuple [u4, v5], p6, p7, p8, .tuple [u9, v10], p11, p12, p13, .tuple [u14, v15], w16, p17, p18, p19, .tuple [u20, v21]]) := by kernel_rfl
theorem hs10 (f g a1 a2 l3 u4 v5 p6 p7 p8 u9 v10 p11 p12 p13 u14 v15 w16 p17 p18 p19 u20 v21 : D) : (cde.all fun q => isD1 (m_has_sizes [.tuple [.int 1, .int 2, .int q.1, .int q.2.1, .int q.2.2, .tuple [.int 2, .int 1], f, g], .tuple [.tuple [.tuple [.tuple [a1], .tuple [a2]], .tuple [.tuple [.tuple [.tuple [.int 0], l3], u4, v5]], .int q.1, .int q.2.1, .int q.2.2], .tuple [.tuple [.tuple [.tuple [p6, p7, p8, u9, v10], .tuple [p11, p12, p13, u14, v15]], .tuple [.none, w16]], .tuple [.tuple [.tuple [p17, p18, p19, u20, v21]], .tuple [.none]]]]]) (.bool true)) = true := by kernel_rfl
theorem tk11 (c d e f g a1 a2 l3 u4 v5 p6 p7 p8 u9 v10 p11 p12 p13 u14 v15 w16 p17 p18 p19 u20 v21 p22 p23 p24 u25 v26 w27 : D) : m_task_of [.tuple [.int 1, .int 2, c, d, e, .tuple [.int 2, .int 2], f, g], .list [a1, a2, l3, .tuple [u4, v5], p6, p7, p8, .tuple [u9, v10], p11, p12, p13, .tuple [u14, v15], w16, p17, p18, p19, .tuple [u20, v21], p22, p23, p24, .tuple [u25, v26], w27]] = some (.tuple [.tuple [.tuple [.tuple [a1], .tuple [a2]], .tuple [.tuple [.tuple [.tuple [.int 0], l3], u4, v5]], c, d, e], .tuple [.tuple [.tuple [.tuple [p6, p7, p8, u9, v10], .tuple [p11, p12, p13, u14, v15]], .tuple [.none, w16]], .tuple [.tuple [.tuple [p17, p18, p19, u20, v21], .tuple [p22, p23, p24, u25, v26]], .tuple [.none, w27]]]]) := by kernel_rfl
theorem lt11 (c d e f g a1 a2 l3 u4 v5 p6 p7 p8 u9 v10 p11 p12 p13 u14 v15 w16 p17 p18 p19 u20 v21 p22 p23 p24 u25 v26 w27 : D) (n : Int) (R : D) (w : Option Sl) : lawBuild (.tuple [.int 1, .int 2, c, d, e, .tuple [.int 2, .int 2], f, g]) n R w [a1, a2, l3, .tuple [u4, v5], p6, p7, p8, .tuple [u9, v10], p11, p12, p13, .tuple [u14, v15], w16, p17, p18, p19, .tuple [u20, v21], p22, p23, p24, .tuple [u25, v26], w27] = some (.rt (.tuple [.tuple [.tuple [.tuple [a1], .tuple [a2]], .tuple [.tuple [.tuple [.tuple [.int 0], l3], u4, v5]], c, d, e], .tuple [.tuple [.tuple [.tuple [p6, p7, p8, u9, v10], .tuple [p11, p12, p13, u14, v15]], .tuple [.none, w16]], .tuple [.tuple [.tuple [p17, p18, p19, u20, v21], .tuple [p22, p23, p24, u25, v26]], .tuple [.none, w27]]]])) := by kernel_rfl
theorem pk11 (c d e f g a1 a2 l3 u4 v5 p6 p7 p8 u9 v10 p11 p12 p13 u14 v15 w16 p17 p18 p19 u20 v21 p22 p23 p24 u25 v26 w27 : D) : m_picks_of [.tuple [.int 1, .int 2, c, d, e, .tuple [.int 2, .int 2], f, g], .tuple [.tuple [.tuple [.tuple [a1], .tuple [a2]], .tuple [.tuple [.tuple [.tuple [.int 0], l3], u4, v5]], c, d, e], .tuple [.tuple [.tuple [.tuple [p6, p7, p8, u9, v10], .tuple [p11, p12, p13, u14, v15]], .tuple [.none, w16]], .tuple [.tuple [.tuple [p17, p18, p19, u20, v21], .tuple [p22, p23, p24, u25, v26]], .tuple [.none, w27]]]]] = some (.list [a1, a2, l3, .tuple [u4, v5], p6, p7, p8, .tuple [u9, v10], p11, p12, p13, .tuple [u14, v15], w16, p17, p18, p19, .tuple [u20, v21], p22, p23, p24, .tuple [u25, v26], w27]) := by kernel_rfl
theorem hs11 (f g a1 a2 l3 u4 v5 p6 p7 p8 u9 v10 p11 p12 p13 u14 v15 w16 p17 p18 p19 u20 v21 p22 p23 p24 u25 v26 w27 : D) : (cde.all fun q => isD1 (m_has_sizes [.tuple [.int 1, .int 2, .int q.1, .int q.2.1, .int q.2.2, .tuple [.int 2, .int 2], f, g], .tuple [.tuple [.tuple [.tuple [a1], .tuple [a2]], .tuple [.tuple [.tuple [.tuple [.int 0], l3], u4, v5]], .int q.1, .int q.2.1, .int q.2.2], .tuple [.tuple [.tuple [.tuple [p6, p7, p8, u9, v10], .tuple [p11, p12, p13, u14, v15]], .tuple [.none, w16]], .tuple [.tuple [.tuple [p17, p18, p19, u20, v21], .tuple [p22, p23, p24, u25, v26]], .tuple [.none, w27]]]]]) (.bool true)) = true := by kernel_rfl
theorem tk12 (c d e f g a1 a2 u3 v4 p5 p6 p7 u8 v9 : D) : m_task_of [.tuple [.int 2, .int 1, c, d, e, .tuple [.int 1], f, g], .list [a1, a2, .tuple [u3, v4], p5, p6, p7, .tuple [u8, v9]]] = some (.tuple [.tuple [.tuple [.tuple [a1, a2]], .tuple [.tuple [.tuple [.tuple [.int 0]], u3, v4]], c, d, e], .tuple [.tuple [.tuple [.tuple [p5, p6, p7, u8, v9]], .tuple [.none]]]]) := by kernel_rfl
theorem lt12 (c d e f g a1 a2 u3 v4 p5 p6 p7 u8 v9 : D) (n : Int) (R : D) (w : Option Sl) : lawBuild (.tuple [.int 2, .int 1, c, d, e, .tuple [.int 1], f, g]) n R w [a1, a2, .tuple [u3, v4], p5, p6, p7, .tuple [u8, v9]] = some (.rt (.tuple [.tuple [.tuple [.tuple [a1, a2]], .tuple [.tuple [.tuple [.tuple [.int 0]], u3, v4]], c, d, e], .tuple [.tuple [.tuple [.tuple [p5, p6, p7, u8, v9]], .tuple [.none]]]])) := by kernel_rfl
theorem pk12 (c d e f g a1 a2 u3 v4 p5 p6 p7 u8 v9 : D) : m_picks_of [.tuple [.int 2, .int 1, c, d, e, .tuple [.int 1], f, g], .tuple [.tuple [.tuple [.tuple [a1, a2]], .tuple [.tuple [.tuple [.tuple [.int 0]], u3, v4]], c, d, e], .tuple [.tuple [.tuple [.tuple [p5, p6, p7, u8, v9]], .tuple [.none]]]]] = some (.list [a1, a2, .tuple [u3, v4], p5, p6, p7, .tuple [u8, v9]]) := by kernel_rfl
theorem hs12 (f g a1 a2 u3 v4 p5 p6 p7 u8 v9 : D) : (cde.all fun q => isD1 (m_has_sizes [.tuple [.int 2, .int 1, .int q.1, .int q.2.1, .int q.2.2, .tuple [.int 1], f, g], .tuple [.tuple [.tuple [.tuple [a1, a2]], .tuple [.tuple [.tuple [.tuple [.int 0]], u3, v4]], .int q.1, .int q.2.1, .int q.2.2], .tuple [.tuple [.tuple [.tuple [p5, p6, p7, u8, v9]], .tuple [.none]]]]]) (.bool true)) = true := by kernel_rfl
theorem tk13 (c d e f g a1 a2 u3 v4 p5 p6 p7 u8 v9 p10 p11 p12 u13 v14 w15 : D) : m_task_of [.tuple [.int 2, .int 1, c, d, e, .tuple [.int 2], f, g], .list [a1, a2, .tuple [u3, v4], p5, p6, p7, .tuple [u8, v9], p10, p11, p12, .tuple [u13, v14], w15]] = some (.tuple [.tuple [.tuple [.tuple [a1, a2]], .tuple [.tuple [.tuple [.tuple [.int 0]], u3, v4]], c, d, e], .tuple [.tuple [.tuple [.tuple [p5, p6, p7, u8, v9], .tuple [p10, p11, p12, u13, v14]], .tuple [.none, w15]]]]) := by kernel_rfl
theorem lt13 (c d e f g a1 a2 u3 v4 p5 p6 p7 u8 v9 p10 p11 p12 u13 v14 w15 : D) (n : Int) (R : D) (w : Option Sl) : lawBuild (.tuple [.int 2, .int 1, c, d, e, .tuple [.int 2], f, g]) n R w [a1, a2, .tuple [u3, v4], p5, p6, p7, .tuple [u8, v9], p10, p11, p12, .tuple [u13, v14], w15] = some (.rt (.tuple [.tuple [.tuple [.tuple [a1, a2]], .tuple [.tuple [.tuple [.tuple [.int 0]], u3, v4]], c, d, e], .tuple [.tuple [.tuple [.tuple [p5, p6, p7, u8, v9], .tuple [p10, p11, p12, u13, v14]], .tuple [.none, w15]]]])) := by kernel_rfl
theorem pk13 (c d e f g a1 a2 u3 v4 p5 p6 p7 u8 v9 p10 p11 p12 u13 v14 w15 : D) : m_picks_of [.tuple [.int 2, .int 1, c, d, e, .tuple [.int 2], f, g], .tuple [.tuple [.tuple [.tuple [a1, a2]], .tuple [.tuple [.tuple [.tuple [.int 0]], u3, v4]], c, d, e], .tuple [.tuple [.tuple [.tuple [p5, p6, p7, u8, v9], .tuple [p10, p11, p12, u13, v14]], .tuple [.none, w15]]]]] = some (.list [a1, a2, .tuple [u3, v4], p5, p6, p7, .tuple [u8, v9], p10, p11, p12, .tuple [u13, v14], w15]) := by kernel_rfl
theorem hs13 (f g a1 a2 u3 v4 p5 p6 p7 u8 v9 p10 p11 p12 u13 v14 w15 : D) : (cde.all fun q => isD1 (m_has_sizes [.tuple [.int 2, .int 1, .int q.1, .int q.2.1, .int q.2.2, .tuple [.int 2], f, g], .tuple [.tuple [.tuple [.tuple [a1, a2]], .tuple [.tuple [.tuple [.tuple [.int 0]], u3, v4]], .int q.1, .int q.2.1, .int q.2.2], .tuple [.tuple [.tuple [.tuple [p5, p6, p7, u8, v9], .tuple [p10, p11, p12, u13, v14]], .tuple [.none, w15]]]]]) (.bool true)) = true := by kernel_rfl
theorem tk14 (c d e f g a1 a2 u3 v4 p5 p6 p7 u8 v9 p10 p11 p12 u13 v14 : D) : m_task_of [.tuple [.int 2, .int 1, c, d, e, .tuple [.int 1, .int 1], f, g], .list [a1, a2, .tuple [u3, v4], p5, p6, p7, .tuple [u8, v9], p10, p11, p12, .tuple [u13, v14]]] = some (.tuple [.tuple [.tuple [.tuple [a1, a2]], .tuple [.tuple [.tuple [.tuple [.int 0]], u3, v4]], c, d, e], .tuple [.tuple [.tuple [.tuple [p5, p6, p7, u8, v9]], .tuple [.none]], .tuple [.tuple [.tuple [p10, p11, p12, u13, v14]], .tuple [.none]]]]) := by kernel_rfl
theorem lt14 (c d e f g a1 a2 u3 v4 p5 p6 p7 u8 v9 p10 p11 p12 u13 v14 : D) (n : Int) (R : D) (w : Option Sl) : lawBuild (.tuple [.int 2, .int 1, c, d, e, .tuple [.int 1, .int 1], f, g]) n R w [a1, a2, .tuple [u3, v4], p5, p6, p7, .tuple [u8, v9], p10, p11, p12, .tuple [u13, v14]] = some (.rt (.tuple [.tuple [.tuple [.tuple [a1, a2]], .tuple [.tuple [.tuple [.tuple [.int 0]], u3, v4]], c, d, e], .tuple [.tuple [.tuple [.tuple [p5, p6, p7, u8, v9]], .tuple [.none]], .tuple [.tuple [.tuple [p10, p11, p12, u13, v14]], .tuple [.none]]]])) := by kernel_rfl
theorem pk14 (c d e f g a1 a2 u3 v4 p5 p6 p7 u8 v9 p10 p11 p12 u13 v14 : D) : m_picks_of [.tuple [.int 2, .int 1, c, d, e, .tuple [.int 1, .int 1], f, g], .tuple [.tuple [.tuple [.tuple [a1, a2]], .tuple [.tuple [.tuple [.tuple [.int 0]], u3, v4]], c, d, e], .tuple [.tuple [.tuple [.tuple [p5, p6, p7, u8, v9]], .tuple [.none]], .tuple [.tuple [.tuple [p10, p11, p12, u13, v14]], .tuple [.none]]]]] = some (.list [a1, a2, .tuple [u3, v4], p5, p6, p7, .tuple [u8, v9], p10, p11, p12, .tuple [u13, v14]]) := by kernel_rfl
theorem hs14 (f g a1 a2 u3 v4 p5 p6 p7 u8 v9 p10 p11 p12 u13 v14 : D) : (cde.all fun q => isD1 (m_has_sizes [.tuple [.int 2, .int 1, .int q.1, .int q.2.1, .int q.2.2, .tuple [.int 1, .int 1], f, g], .tuple [.tuple [.tuple [.tuple [a1, a2]], .tuple [.tuple [.tuple [.tuple [.int 0]], u3, v4]], .int q.1, .int q.2.1, .int q.2.2], .tuple [.tuple [.tuple [.tuple [p5, p6, p7, u8, v9]], .tuple [.none]], .tuple [.tuple [.tuple [p10, p11, p12, u13, v14]], .tuple [.none]]]]]) (.bool true)) = true := by kernel_rfl
theorem tk15 (c d e f g a1 a2 u3 v4 p5 p6 p7 u8 v9 p10 p11 p12 u13 v14 p15 p16 p17 u18 v19 w20 : D) : m_task_of [.tuple [.int 2, .int 1, c, d, e, .tuple [.int 1, .int 2], f, g], .list [a1, a2, .tuple [u3, v4], p5, p6, p7, .tuple [u8, v9], p10, p11, p12, .tuple [u13, v14], p15, p16, p17, .tuple [u18, v19], w20]] = some (.tuple [.tuple [.tuple [.tuple [a1, a2]], .tuple [.tuple [.tuple [.tuple [.int 0]], u3, v4]], c, d, e], .tuple [.tuple [.tuple [.tuple [p5, p6, p7, u8, v9]], .tuple [.none]], .tuple [.tuple [.tuple [p10, p11, p12, u13, v14], .tuple [p15, p16, p17, u18, v19]], .tuple [.none, w20]]]]) := by kernel_rfl
theorem lt15 (c d e f g a1 a2 u3 v4 p5 p6 p7 u8 v9 p10 p11 p12 u13 v14 p15 p16 p17 u18 v19 w20 : D) (n : Int) (R : D) (w : Option Sl) : lawBuild (.tuple [.int 2, .int 1, c, d, e, .tuple [.int 1, .int 2], f, g]) n R w [a1, a2, .tuple [u3, v4], p5, p6, p7, .tuple [u8, v9], p10, p11, p12, .tuple [u13, v14], p15, p16, p17, .tuple [u18, v19], w20] = some (.rt (.tuple [.tuple [.tuple [.tuple [a1, a2]], .tuple [.tuple [.tuple [.tuple [.int 0]], u3, v4]], c, d, e], .tuple [.tuple [.tuple [.tuple [p5, p6, p7, u8, v9]], .tuple [.none]], .tuple [.tuple [.tuple [p10, p11, p12, u13, v14], .tuple [p15, p16, p17, u18, v19]], .tuple [.none, w20]]]])) := by kernel_rfl
theorem pk15 (c d e f g a1 a2 u3 v4 p5 p6 p7 u8 v9 p10 p11 p12 u13 v14 p15 p16 p17 u18 v19 w20 : D) : m_picks_of [.tuple [.int 2, .int 1, c, d, e, .tuple [.int 1, .int 2], f, g], .tuple [.tuple [.tuple [.tuple [a1, a2]], .tuple [.tuple [.tuple [.tuple [.int 0]], u3, v4]], c, d, e], .tuple [.tuple [.tuple [.tuple [p5, p6, p7, u8, v9]], .tuple [.none]], .tuple [.tuple [.tuple [p10, p11, p12, u13, v14], .tuple [p15, p16, p17, u18, v19]], .tuple [.none, w20]]]]] = some (.list [a1, a2, .tuple [u3, v4], p5, p6, p7, .tuple [u8, v9], p10, p11, p12, .tuple [u13, v14], p15, p16, p17, .tuple [u18, v19], w20]) := by kernel_rfl
theorem hs15 (f g a1 a2 u3 v4 p5 p6 p7 u8 v9 p10 p11 p12 u13 v14 p15 p16 p17 u18 v19 w20 : D) : (cde.all fun q => isD1 (m_has_sizes [.tuple [.int 2, .int 1, .int q.1, .int q.2.1, .int q.2.2, .tuple [.int 1, .int 2], f, g], .tuple [.tuple [.tuple [.tuple [a1, a2]], .tuple [.tuple [.tuple [.tuple [.int 0]], u3, v4]], .int q.1, .int q.2.1, .int q.2.2], .tuple [.tuple [.tuple [.tuple [p5, p6, p7, u8, v9]], .tuple [.none]], .tuple [.tuple [.tuple [p10, p11, p12, u13, v14], .tuple [p15, p16, p17, u18, v19]], .tuple [.none, w20]]]]]) (.bool true)) = true := by kernel_rfl
theorem tk16 (c d e f g a1 a2 u3 v4 p5 p6 p7 u8 v9 p10 p11 p12 u13 v14 w15 p16 p17 p18 u19 v20 : D) : m_task_of [.tuple [.int 2, .int 1, c, d, e, .tuple [.int 2, .int 1], f, g], .list [a1, a2, .tuple [u3, v4], p5, p6, p7, .tuple [u8, v9], p10, p11, p12, .tuple [u13, v14], w15, p16, p17, p18, .tuple [u19, v20]]] = some (.tuple [.tuple [.tuple [.tuple [a1, a2]], .tuple [.tuple [.tuple [.tuple [.int 0]], u3, v4]], c, d, e], .tuple [.tuple [.tuple [.tuple [p5, p6, p7, u8, v9], .tuple [p10, p11, p12, u13, v14]], .tuple [.none, w15]], .tuple [.tuple [.tuple [p16, p17, p18, u19, v20]], .tuple [.none]]]]) := by kernel_rfl
theorem lt16 (c d e f g a1 a2 u3 v4 p5 p6 p7 u8 v9 p10 p11 p12 u13 v14 w15 p16 p17 p18 u19 v20 : D) (n : Int) (R : D) (w : Option Sl) : lawBuild (.tuple [.int 2, .int 1, c, d, e, .tuple [.int 2, .int 1], f, g]) n R w [a1, a2, .tuple [u3, v4], p5, p6, p7, .tuple [u8, v9], p10, p11, p12, .tuple [u13, v14], w15, p16, p17, p18, .tuple [u19, v20]] = some (.rt (.tuple [.tuple [.tuple [.tuple [a1, a2]], .tuple [.tuple [.tuple [.tuple [.int 0]], u3, v4]], c, d, e], .tuple [.tuple [.tuple [.tuple [p5, p6, p7, u8, v9], .tuple [p10, p11, p12, u13, v14]], .tuple [.none, w15]], .tuple [.tuple [.tuple [p16, p17, p18, u19, v20]], .tuple [.none]]]])) := by kernel_rfl
theorem pk16 (c d e f g a1 a2 u3 v4 p5 p6 p7 u8 v9 p10 p11 p12 u13 v14 w15 p16 p17 p18 u19 v20 : D) : m_picks_of [.tuple [.int 2, .int 1, c, d, e, .tuple [.int 2, .int 1], f, g], .tuple [.tuple [.tuple [.tuple [a1, a2]], .tuple [.tuple [.tuple [.tuple [.int 0]], u3, v4]], c, d, e], .tuple [.tuple [.tuple [.tuple [p5, p6, p7, u8, v9], .tuple [p10, p11, p12, u13, v14]], .tuple [.none, w15]], .tuple [.tuple [.tuple [p16, p17, p18, u19, v20]], .tuple [.none]]]]] = some (.list [a1, a2, .tuple [u3, v4], p5, p6, p7, .tuple [u8, v9], p10, p11, p12, .tuple [u13, v14], w15, p16, p17, p18, .tuple [u19, v20]]) := by kernel_rfl
theorem hs16 (f g a1 a2 u3 v4 p5 p6 p7 u8 v9 p10 p11 p12 u13 v14 w15 p16 p17 p18 u19 v20 : D) : (cde.all fun q => isD1 (m_has_sizes [.tuple [.int 2, .int 1, .int q.1, .int q.2.1, .int q.2.2, .tuple [.int 2, .int 1], f, g], .tuple [.tuple [.tuple [.tuple [a1, a2]], .tuple [.tuple [.tuple [.tuple [.int 0]], u3, v4]], .int q.1, .int q.2.1, .int q.2.2], .tuple [.tuple [.tuple [.tuple [p5, p6, p7, u8, v9], .tuple [p10, p11, p12, u13, v14]], .tuple [.none, w15]], .tuple [.tuple [.tuple [p16, p17, p18, u19, v20]], .tuple [.none]]]]]) (.bool true)) = true := by kernel_rfl
theorem tk17 (c d e f g a1 a2 u3 v4 p5 p6 p7 u8 v9 p10 p11 p12 u13 v14 w15 p16 p17 p18 u19 v20 p21 p22 p23 u24 v25 w26 : D) : m_task_of [.tuple [.int 2, .int 1, c, d, e, .tuple [.int 2, .int 2], f, g], .list [a1, a2, .tuple [u3, v4], p5, p6, p7, .tuple [u8, v9], p10, p11, p12, .tuple [u13, v14], w15, p16, p17, p18, .tuple [u19, v20], p21, p22, p23, .tuple [u24, v25], w26]] = some (.tuple [.tuple [.tuple [.tuple [a1, a2]], .tuple [.tuple [.tuple [.tuple [.int 0]], u3, v4]], c, d, e], .tuple [.tuple [.tuple [.tuple [p5, p6, p7, u8, v9], .tuple [p10, p11, p12, u13, v14]], .tuple [.none, w15]], .tuple [.tuple [.tuple [p16, p17, p18, u19, v20], .tuple [p21, p22, p23, u24, v25]], .tuple [.none, w26]]]]) := by kernel_rfl
theorem lt17 (c d e f g a1 a2 u3 v4 p5 p6 p7 u8 v9 p10 p11 p12 u13 v14 w15 p16 p17 p18 u19 v20 p21 p22 p23 u24 v25 w26 : D) (n : Int) (R : D) (w : Option Sl) : lawBuild (.tuple [.int 2, .int 1, c, d, e, .tuple [.int 2, .int 2], f, g]) n R w [a1, a2, .tuple [u3, v4], p5, p6, p7, .tuple [u8, v9], p10, p11, p12, .tuple [u13, v14], w15, p16, p17, p18, .tuple [u19, v20], p21, p22, p23, .tuple [u24, v25], w26] = some (.rt (.tuple [.tuple [.tuple [.tuple [a1, a2]], .tuple [.tuple [.tuple [.tuple [.int 0]], u3, v4]], c, d, e], .tuple [.tuple [.tuple [.tuple [p5, p6, p7, u8, v9], .tuple [p10, p11, p12, u13, v14]], .tuple [.none, w15]], .tuple [.tuple [.tuple [p16, p17, p18, u19, v20], .tuple [p21, p22, p23, u24, v25]], .tuple [.none, w26]]]])) := by kernel_rfl
theorem pk17 (c d e f g a1 a2 u3 v4 p5 p6 p7 u8 v9 p10 p11 p12 u13 v14 w15 p16 p17 p18 u19 v20 p21 p22 p23 u24 v25 w26 : D) : m_picks_of [.tuple [.int 2, .int 1, c, d, e, .tuple [.int 2, .int 2], f, g], .tuple [.tuple [.tuple [.tuple [a1, a2]], .tuple [.tuple [.tuple [.tuple [.int 0]], u3, v4]], c, d, e], .tuple [.tuple [.tuple [.tuple [p5, p6, p7, u8, v9], .tuple [p10, p11, p12, u13, v14]], .tuple [.none, w15]], .tuple [.tuple [.tuple [p16, p17, p18, u19, v20], .tuple [p21, p22, p23, u24, v25]], .tuple [.none, w26]]]]] = some (.list [a1, a2, .tuple [u3, v4], p5, p6, p7, .tuple [u8, v9], p10, p11, p12, .tuple [u13, v14], w15, p16, p17, p18, .tuple [u19, v20], p21, p22, p23, .tuple [u24, v25], w26]) := by kernel_rfl
theorem hs17 (f g a1 a2 u3 v4 p5 p6 p7 u8 v9 p10 p11 p12 u13 v14 w15 p16 p17 p18 u19 v20 p21 p22 p23 u24 v25 w26 : D) : (cde.all fun q => isD1 (m_has_sizes [.tuple [.int 2, .int 1, .int q.1, .int q.2.1, .int q.2.2, .tuple [.int 2, .int 2], f, g], .tuple [.tuple [.tuple [.tuple [a1, a2]], .tuple [.tuple [.tuple [.tuple [.int 0]], u3, v4]], .int q.1, .int q.2.1, .int q.2.2], .tuple [.tuple [.tuple [.tuple [p5, p6, p7, u8, v9], .tuple [p10, p11, p12, u13, v14]], .tuple [.none, w15]], .tuple [.tuple [.tuple [p16, p17, p18, u19, v20], .tuple [p21, p22, p23, u24, v25]], .tuple [.none, w26]]]]]) (.bool true)) = true := by kernel_rfl
theorem tk18 (c d e f g a1 a2 a3 a4 l5 u6 v7 p8 p9 p10 u11 v12 : D) : m_task_of [.tuple [.int 2, .int 2, c, d, e, .tuple [.int 1], f, g], .list [a1, a2, a3, a4, l5, .tuple [u6, v7], p8, p9, p10, .tuple [u11, v12]]] = some (.tuple [.tuple [.tuple [.tuple [a1, a2], .tuple [a3, a4]], .tuple [.tuple [.tuple [.tuple [.int 0], l5], u6, v7]], c, d, e], .tuple [.tuple [.tuple [.tuple [p8, p9, p10, u11, v12]], .tuple [.none]]]]) := by kernel_rfl
theorem lt18 (c d e f g a1 a2 a3 a4 l5 u6 v7 p8 p9 p10 u11 v12 : D) (n : Int) (R : D) (w : Option Sl) : lawBuild (.tuple [.int 2, .int 2, c, d, e, .tuple [.int 1], f, g]) n R w [a1, a2, a3, a4, l5, .tuple [u6, v7], p8, p9, p10, .tuple [u11, v12]] = some (.rt (.tuple [.tuple [.tuple [.tuple [a1, a2], .tuple [a3, a4]], .tuple [.tuple [.tuple [.tuple [.int 0], l5], u6, v7]], c, d, e], .tuple [.tuple [.tuple [.tuple [p8, p9, p10, u11, v12]], .tuple [.none]]]])) := by kernel_rfl
theorem pk18 (c d e f g a1 a2 a3 a4 l5 u6 v7 p8 p9 p10 u11 v12 : D) : m_picks_of [.tuple [.int 2, .int 2, c, d, e, .tuple [.int 1], f, g], .tuple [.tuple [.tuple [.tuple [a1, a2], .tuple [a3, a4]], .tuple [.tuple [.tuple [.tuple [.int 0], l5], u6, v7]], c, d, e], .tuple [.tuple [.tuple [.tuple [p8, p9, p10, u11, v12]], .tuple [.none]]]]] = some (.list [a1, a2, a3, a4, l5, .tuple [u6, v7], p8, p9, p10, .tuple [u11, v12]]) := by kernel_rfl
theorem hs18 (f g a1 a2 a3 a4 l5 u6 v7 p8 p9 p10 u11 v12 : D) : (cde.all fun q => isD1 (m_has_sizes [.tuple [.int 2, .int 2, .int q.1, .int q.2.1, .int q.2.2, .tuple [.int 1], f, g], .tuple [.tuple [.tuple [.tuple [a1, a2], .tuple [a3, a4]], .tuple [.tuple [.tuple [.tuple [.int 0], l5], u6, v7]], .int q.1, .int q.2.1, .int q.2.2], .tuple [.tuple [.tuple [.tuple [p8, p9, p10, u11, v12]], .tuple [.none]]]]]) (.bool true)) = true := by kernel_rfl
theorem tk19 (c d e f g a1 a2 a3 a4 l5 u6 v7 p8 p9 p10 u11 v12 p13 p14 p15 u16 v17 w18 : D) : m_task_of [.tuple [.int 2, .int 2, c, d, e, .tuple [.int 2], f, g], .list [a1, a2, a3, a4, l5, .tuple [u6, v7], p8, p9, p10, .tuple [u11, v12], p13, p14, p15, .tuple [u16, v17], w18]] = some (.tuple [.tuple [.tuple [.tuple [a1, a2], .tuple [a3, a4]], .tuple [.tuple [.tuple [.tuple [.int 0], l5], u6, v7]], c, d, e], .tuple [.tuple [.tuple [.tuple [p8, p9, p10, u11, v12], .tuple [p13, p14, p15, u16, v17]], .tuple [.none, w18]]]]) := by kernel_rfl
theorem lt19 (c d e f g a1 a2 a3 a4 l5 u6 v7 p8 p9 p10 u11 v12 p13 p14 p15 u16 v17 w18 : D) (n : Int) (R : D) (w : Option Sl) : lawBuild (.tuple [.int 2, .int 2, c, d, e, .tuple [.int 2], f, g]) n R w [a1, a2, a3, a4, l5, .tuple [u6, v7], p8, p9, p10, .tuple [u11, v12], p13, p14, p15, .tuple [u16, v17], w18] = some (.rt (.tuple [.tuple [.tuple [.tuple [a1, a2], .tuple [a3, a4]], .tuple [.tuple [.tuple [.tuple [.int 0], l5], u6, v7]], c, d, e], .tuple [.tuple [.tuple [.tuple [p8, p9, p10, u11, v12], .tuple [p13, p14, p15, u16, v17]], .tuple [.none, w18]]]])) := by kernel_rfl
theorem pk19 (c d e f g a1 a2 a3 a4 l5 u6 v7 p8 p9 p10 u11 v12 p13 p14 p15 u16 v17 w18 : D) : m_picks_of [.tuple [.int 2, .int 2, c, d, e, .tuple [.int 2], f, g], .tuple [.tuple [.tuple [.tuple [a1, a2], .tuple [a3, a4]], .tuple [.tuple [.tuple [.tuple [.int 0], l5], u6, v7]], c, d, e], .tuple [.tuple [.tuple [.tuple [p8, p9, p10, u11, v12], .tuple [p13, p14, p15, u16, v17]], .tuple [.none, w18]]]]] = some (.list [a1, a2, a3, a4, l5, .tuple [u6, v7], p8, p9, p10, .tuple [u11, v12], p13, p14, p15, .tuple [u16, v17], w18]) := by kernel_rfl
theorem hs19 (f g a1 a2 a3 a4 l5 u6 v7 p8 p9 p10 u11 v12 p13 p14 p15 u16 v17 w18 : D) : (cde.all fun q => isD1 (m_has_sizes [.tuple [.int 2, .int 2, .int q.1, .int q.2.1, .int q.2.2, .tuple [.int 2], f, g], .tuple [.tuple [.tuple [.tuple [a1, a2], .tuple [a3, a4]], .tuple [.tuple [.tuple [.tuple [.int 0], l5], u6, v7]], .int q.1, .int q.2.1, .int q.2.2], .tuple [.tuple [.tuple [.tuple [p8, p9, p10, u11, v12], .tuple [p13, p14, p15, u16, v17]], .tuple [.none, w18]]]]]) (.bool true)) = true := by kernel_rfl
theorem tk20 (c d e f g a1 a2 a3 a4 l5 u6 v7 p8 p9 p10 u11 v12 p13 p14 p15 u16 v17 : D) : m_task_of [.tuple [.int 2, .int 2, c, d, e, .tuple [.int 1, .int 1], f, g], .list [a1, a2, a3, a4, l5, .tuple [u6, v7], p8, p9, p10, .tuple [u11, v12], p13, p14, p15, .tuple [u16, v17]]] = some (.tuple [.tuple [.tuple [.tuple [a1, a2], .tuple [a3, a4]], .tuple [.tuple [.tuple [.tuple [.int 0], l5], u6, v7]], c, d, e], .tuple [.tuple [.tuple [.tuple [p8, p9, p10, u11, v12]], .tuple [.none]], .tuple [.tuple [.tuple [p13, p14, p15, u16, v17]], .tuple [.none]]]]) := by kernel_rfl
theorem lt20 (c d e f g a1 a2 a3 a4 l5 u6 v7 p8 p9 p10 u11 v12 p13 p14 p15 u16 v17 : D) (n : Int) (R : D) (w : Option Sl) : lawBuild (.tuple [.int 2, .int 2, c, d, e, .tuple [.int 1, .int 1], f, g]) n R w [a1, a2, a3, a4, l5, .tuple [u6, v7], p8, p9, p10, .tuple [u11, v12], p13, p14, p15, .tuple [u16, v17]] = some (.rt (.tuple [.tuple [.tuple [.tuple [a1, a2], .tuple [a3, a4]], .tuple [.tuple [.tuple [.tuple [.int 0], l5], u6, v7]], c, d, e], .tuple [.tuple [.tuple [.tuple [p8, p9, p10, u11, v12]], .tuple [.none]], .tuple [.tuple [.tuple [p13, p14, p15, u16, v17]], .tuple [.none]]]])) := by kernel_rfl
theorem pk20 (c d e f g a1 a2 a3 a4 l5 u6 v7 p8 p9 p10 u11 v12 p13 p14 p15 u16 v17 : D) : m_picks_of [.tuple [.int 2, .int 2, c, d, e, .tuple [.int 1, .int 1], f, g], .tuple [.tuple [.tuple [.tuple [a1, a2], .tuple [a3, a4]], .tuple [.tuple [.tuple [.tuple [.int 0], l5], u6, v7]], c, d, e], .tuple [.tuple [.tuple [.tuple [p8, p9, p10, u11, v12]], .tuple [.none]], .tuple [.tuple [.tuple [p13, p14, p15, u16, v17]], .tuple [.none]]]]] = some (.list [a1, a2, a3, a4, l5, .tuple [u6, v7], p8, p9, p10, .tuple [u11, v12], p13, p14, p15, .tuple [u16, v17]]) := by kernel_rfl
theorem hs20 (f g a1 a2 a3 a4 l5 u6 v7 p8 p9 p10 u11 v12 p13 p14 p15 u16 v17 : D) : (cde.all fun q => isD1 (m_has_sizes [.tuple [.int 2, .int 2, .int q.1, .int q.2.1, .int q.2.2, .tuple [.int 1, .int 1], f, g], .tuple [.tuple [.tuple [.tuple [a1, a2], .tuple [a3, a4]], .tuple [.tuple [.tuple [.tuple [.int 0], l5], u6, v7]], .int q.1, .int q.2.1, .int q.2.2], .tuple [.tuple [.tuple [.tuple [p8, p9, p10, u11, v12]], .tuple [.none]], .tuple [.tuple [.tuple [p13, p14, p15, u16, v17]], .tuple [.none]]]]]) (.bool true)) = true := by kernel_rfl
theorem tk21 (c d e f g a1 a2 a3 a4 l5 u6 v7 p8 p9 p10 u11 v12 p13 p14 p15 u16 v17 p18 p19 p20 u21 v22 w23 : D) : m_task_of [.tuple [.int 2, .int 2, c, d, e, .tuple [.int 1, .int 2], f, g], .list [a1, a2, a3, a4, l5, .tuple [u6, v7], p8, p9, p10, .tuple [u11, v12], p13, p14, p15, .tuple [u16, v17], p18, p19, p20, .tuple [u21, v22], w23]] = some (.tuple [.tuple [.tuple [.tuple [a1, a2], .tuple [a3, a4]], .tuple [.tuple [.tuple [.tuple [.int 0], l5], u6, v7]], c, d, e], .tuple [.tuple [.tuple [.tuple [p8, p9, p10, u11, v12]], .tuple [.none]], .tuple [.tuple [.tuple [p13, p14, p15, u16, v17], .tuple [p18, p19, p20, u21, v22]], .tuple [.none, w23]]]]) := by kernel_rfl
theorem lt21 (c d e f g a1 a2 a3 a4 l5 u6 v7 p8 p9 p10 u11 v12 p13 p14 p15 u16 v17 p18 p19 p20 u21 v22 w23 : D) (n : Int) (R : D) (w : Option Sl) : lawBuild (.tuple [.int 2, .int 2, c, d, e, .tuple [.int 1, .int 2], f, g]) n R w [a1, a2, a3, a4, l5, .tuple [u6, v7], p8, p9, p10, .tuple [u11, v12], p13, p14, p15, .tuple [u16, v17], p18, p19, p20, .tuple [u21, v22], w23] = some (.rt (.tuple [.tuple [.tuple [.tuple [a1, a2], .tuple [a3, a4]], .tuple [.tuple [.tuple [.tuple [.int 0], l5], u6, v7]], c, d, e], .tuple [.tuple [.tuple [.tuple [p8, p9, p10, u11, v12]], .tuple [.none]], .tuple [.tuple [.tuple [p13, p14, p15, u16, v17], .tuple [p18, p19, p20, u21, v22]], .tuple [.none, w23]]]])) := by kernel_rfl
theorem pk21 (c d e f g a1 a2 a3 a4 l5 u6 v7 p8 p9 p10 u11 v12 p13 p14 p15 u16 v17 p18 p19 p20 u21 v22 w23 : D) : m_picks_of [.tuple [.int 2, .int 2, c, d, e, .tuple [.int 1, .int 2], f, g], .tuple [.tuple [.tuple [.tuple [a1, a2], .tuple [a3, a4]], .tuple [.tuple [.tuple [.tuple [.int 0], l5], u6, v7]], c, d, e], .tuple [.tuple [.tuple [.tuple [p8, p9, p10, u11, v12]], .tuple [.none]], .tuple [.tuple [.tuple [p13, p14, p15, u16, v17], .tuple [p18, p19, p20, u21, v22]], .tuple [.none, w23]]]]] = some (.list [a1, a2, a3, a4, l5, .tuple [u6, v7], p8, p9, p10, .tuple [u11, v12], p13, p14, p15, .tuple [u16, v17], p18, p19, p20, .tuple [u21, v22], w23]) := by kernel_rfl
theorem hs21 (f g a1 a2 a3 a4 l5 u6 v7 p8 p9 p10 u11 v12 p13 p14 p15 u16 v17 p18 p19 p20 u21 v22 w23 : D) : (cde.all fun q => isD1 (m_has_sizes [.tuple [.int 2, .int 2, .int q.1, .int q.2.1, .int q.2.2, .tuple [.int 1, .int 2], f, g], .tuple [.tuple [.tuple [.tuple [a1, a2], .tuple [a3, a4]], .tuple [.tuple [.tuple [.tuple [.int 0], l5], u6, v7]], .int q.1, .int q.2.1, .int q.2.2], .tuple [.tuple [.tuple [.tuple [p8, p9, p10, u11, v12]], .tuple [.none]], .tuple [.tuple [.tuple [p13, p14, p15, u16, v17], .tuple [p18, p19, p20, u21, v22]], .tuple [.none, w23]]]]]) (.bool true)) = true := by kernel_rfl
theorem tk22 (c d e f g a1 a2 a3 a4 l5 u6 v7 p8 p9 p10 u11 v12 p13 p14 p15 u16 v17 w18 p19 p20 p21 u22 v23 : D) : m_task_of [.tuple [.int 2, .int 2, c, d, e, .tuple [.int 2, .int 1], f, g], .list [a1, a2, a3, a4, l5, .tuple [u6, v7], p8, p9, p10, .tuple [u11, v12], p13, p14, p15, .tuple [u16, v17], w18, p19, p20, p21, .tuple [u22, v23]]] = some (.tuple [.tuple [.tuple [.tuple [a1, a2], .tuple [a3, a4]], .tuple [.tuple [.tuple [.tuple [.int 0], l5], u6, v7]], c, d, e], .tuple [.tuple [.tuple [.tuple [p8, p9, p10, u11, v12], .tuple [p13, p14, p15, u16, v17]], .tuple [.none, w18]], .tuple [.tuple [.tuple [p19, p20, p21, u22, v23]], .tuple [.none]]]]) := by kernel_rfl
theorem lt22 (c d e f g a1 a2 a3 a4 l5 u6 v7 p8 p9 p10 u11 v12 p13 p14 p15 u16 v17 w18 p19 p20 p21 u22 v23 : D) (n : Int) (R : D) (w : Option Sl) : lawBuild (.tuple [.int 2, .int 2, c, d, e, .tuple [.int 2, .int 1], f, g]) n R w [a1, a2, a3, a4, l5, .tuple [u6, v7], p8, p9, p10, .tuple [u11, v12], p13, p14, p15, .tuple [u16, v17], w18, p19, p20, p21, .tuple [u22, v23]] = some (.rt (.tuple [.tuple [.tuple [.tuple [a1, a2], .tuple [a3, a4]], .tuple [.tuple [.tuple [.tuple [.int 0], l5], u6, v7]], c, d, e], .tuple [.tuple [.tuple [.tuple [p8, p9, p10, u11, v12], .tuple [p13, p14, p15, u16, v17]], .tuple [.none, w18]], .tuple [.tuple [.tuple [p19, p20, p21, u22, v23]], .tuple [.none]]]])) := by kernel_rfl
theorem pk22 (c d e f g a1 a2 a3 a4 l5 u6 v7 p8 p9 p10 u11 v12 p13 p14 p15 u16 v17 w18 p19 p20 p21 u22 v23 : D) : m_picks_of [.tuple [.int 2, .int 2, c, d, e, .tuple [.int 2, .int 1], f, g], .tuple [.tuple [.tuple [.tuple [a1, a2], .tuple [a3, a4]], .tuple [.tuple [.tuple [.tuple [.int 0], l5], u6, v7]], c, d, e], .tuple [.tuple [.tuple [.tuple [p8, p9, p10, u11, v12], .tuple [p13, p14, p15, u16, v17]], .tuple [.none, w18]], .tuple [.tuple [.tuple [p19, p20, p21, u22, v23]], .tuple [.none]]]]] = some (.list [a1, a2, a3, a4, l5, .tuple [u6, v7], p8, p9, p10, .tuple [u11, v12], p13, p14, p15, .tuple [u16, v17], w18, p19, p20, p21, .tuple [u22, v23]]) := by kernel_rfl
theorem hs22 (f g a1 a2 a3 a4 l5 u6 v7 p8 p9 p10 u11 v12 p13 p14 p15 u16 v17 w18 p19 p20 p21 u22 v23 : D) : (cde.all fun q => isD1 (m_has_sizes [.tuple [.int 2, .int 2, .int q.1, .int q.2.1, .int q.2.2, .tuple [.int 2, .int 1], f, g], .tuple [.tuple [.tuple [.tuple [a1, a2], .tuple [a3, a4]], .tuple [.tuple [.tuple [.tuple [.int 0], l5], u6, v7]], .int q.1, .int q.2.1, .int q.2.2], .tuple [.tuple [.tuple [.tuple [p8, p9, p10, u11, v12], .tuple [p13, p14, p15, u16, v17]], .tuple [.none, w18]], .tuple [.tuple [.tuple [p19, p20, p21, u22, v23]], .tuple [.none]]]]]) (.bool true)) = true := by kernel_rfl
theorem tk23 (c d e f g a1 a2 a3 a4 l5 u6 v7 p8 p9 p10 u11 v12 p13 p14 p15 u16 v17 w18 p19 p20 p21 u22 v23 p24 p25 p26 u27 v28 w29 : D) : m_task_of [.tuple [.int 2, .int 2, c, d, e, .tuple [.int 2, .int 2], f, g], .list [a1, a2, a3, a4, l5, .tuple [u6, v7], p8, p9, p10, .tuple [u11, v12], p13, p14, p15, .tuple [u16, v17], w18, p19, p20, p21, .tuple [u22, v23], p24, p25, p26, .tuple [u27, v28], w29]] = some (.tuple [.tuple [.tuple [.tuple [a1, a2], .tuple [a3, a4]], .tuple [.tuple [.tuple [.tuple [.int 0], l5], u6, v7]], c, d, e], .tuple [.tuple [.tuple [.tuple [p8, p9, p10, u11, v12], .tuple [p13, p14, p15, u16, v17]], .tuple [.none, w18]], .tuple [.tuple [.tuple [p19, p20, p21, u22, v23], .tuple [p24, p25, p26, u27, v28]], .tuple [.none, w29]]]]) := by kernel_rfl
theorem lt23 (c d e f g a1 a2 a3 a4 l5 u6 v7 p8 p9 p10 u11 v12 p13 p14 p15 u16 v17 w18 p19 p20 p21 u22 v23 p24 p25 p26 u27 v28 w29 : D) (n : Int) (R : D) (w : Option Sl) : lawBuild (.tuple [.int 2, .int 2, c, d, e, .tuple [.int 2, .int 2], f, g]) n R w [a1, a2, a3, a4, l5, .tuple [u6, v7], p8, p9, p10, .tuple [u11, v12], p13, p14, p15, .tuple [u16, v17], w18, p19, p20, p21, .tuple [u22, v23], p24, p25, p26, .tuple [u27, v28], w29] = some (.rt (.tuple [.tuple [.tuple [.tuple [a1, a2], .tuple [a3, a4]], .tuple [.tuple [.tuple [.tuple [.int 0], l5], u6, v7]], c, d, e], .tuple [.tuple [.tuple [.tuple [p8, p9, p10, u11, v12], .tuple [p13, p14, p15, u16, v17]], .tuple [.none, w18]], .tuple [.tuple [.tuple [p19, p20, p21, u22, v23], .tuple [p24, p25, p26, u27, v28]], .tuple [.none, w29]]]])) := by kernel_rfl
theorem pk23 (c d e f g a1 a2 a3 a4 l5 u6 v7 p8 p9 p10 u11 v12 p13 p14 p15 u16 v17 w18 p19 p20 p21 u22 v23 p24 p25 p26 u27 v28 w29 : D) : m_picks_of [.tuple [.int 2, .int 2, c, d, e, .tuple [.int 2, .int 2], f, g], .tuple [.tuple [.tuple [.tuple [a1, a2], .tuple [a3, a4]], .tuple [.tuple [.tuple [.tuple [.int 0], l5], u6, v7]], c, d, e], .tuple [.tuple [.tuple [.tuple [p8, p9, p10, u11, v12], .tuple [p13, p14, p15, u16, v17]], .tuple [.none, w18]], .tuple [.tuple [.tuple [p19, p20, p21, u22, v23], .tuple [p24, p25, p26, u27, v28]], .tuple [.none, w29]]]]] = some (.list [a1, a2, a3, a4, l5, .tuple [u6, v7], p8, p9, p10, .tuple [u11, v12], p13, p14, p15, .tuple [u16, v17], w18, p19, p20, p21, .tuple [u22, v23], p24, p25, p26, .tuple [u27, v28], w29]) := by kernel_rfl
theorem hs23 (f g a1 a2 a3 a4 l5 u6 v7 p8 p9 p10 u11 v12 p13 p14 p15 u16 v17 w18 p19 p20 p21 u22 v23 p24 p25 p26 u27 v28 w29 : D) : (cde.all fun q => isD1 (m_has_sizes [.tuple [.int 2, .int 2, .int q.1, .int q.2.1, .int q.2.2, .tuple [.int 2, .int 2], f, g], .tuple [.tuple [.tuple [.tuple [a1, a2], .tuple [a3, a4]], .tuple [.tuple [.tuple [.tuple [.int 0], l5], u6, v7]], .int q.1, .int q.2.1, .int q.2.2], .tuple [.tuple [.tuple [.tuple [p8, p9, p10, u11, v12], .tuple [p13, p14, p15, u16, v17]], .tuple [.none, w18]], .tuple [.tuple [.tuple [p19, p20, p21, u22, v23], .tuple [p24, p25, p26, u27, v28]], .tuple [.none, w29]]]]]) (.bool true)) = true := by kernel_rfl
end LW
end

section
set_option Elab.async false
set_option linter.all false
set_option maxRecDepth 100000
set_option maxHeartbeats 999999
set_option exponentiation.threshold 5001
open DL
open PySem (PyData)
namespace LW
/-! ### tasks without fault -/
theorem tof (xs : List D) (n : Int) : m_is_tuple_of [.tuple xs, .int n] = some (.bool (((xs.length : Nat) : Int) == n)) := by
  simp [m_is_tuple_of, runP2, runP, F_is_tuple_of, retM, andV, isiM, isiB, tyD, boolO, bnd, op2, lateM, nameM, getO, lift, ret, callM, lenD, consO, nilM, getL, valM, toD, eqD, PySem.SeqAt.shaped, PyData.canLay0, PyData.depth, PyData.eqv]
theorem tto (xs : List D) (lo hi : Int) : m_is_tuple_to [.tuple xs, .int lo, .int hi] = some (.bool (decide (lo ≤ ((xs.length : Nat) : Int)) && decide (((xs.length : Nat) : Int) ≤ hi))) := by
  by_cases h : lo ≤ ((xs.length : Nat) : Int) <;> simp [m_is_tuple_to, runP2, runP, F_is_tuple_to, retM, andV, isiM, isiB, tyD, boolO, bnd, op2, lateM, nameM, getO, lift, ret, callM, lenD, consO, nilM, getL, valM, toD, chainM, leD, DL.opI, h]
theorem win (k lo hi : Int) : m_is_within [.int k, .int lo, .int hi] = some (.bool (decide (lo ≤ k) && decide (k ≤ hi))) := by
  have e : m_is_whole [.int k] = some (.bool true) := by rfl
  by_cases h : lo ≤ k <;> simp [m_is_within, runP2, runP, F_is_within, retM, andV, callP, consD, boolO, bnd, op2, lateM, nameM, getO, lift, ret, consO, nilM, getL, valM, toD, chainM, leD, DL.opI, h, e]
theorem lab0 {ms : List D} {c d e : Int} (hm : m_meets_fault [.tuple ms] = some .none) (c1 : 1 ≤ c) (c2 : c ≤ 3) (d1 : 1 ≤ d) (d2 : d ≤ 3) (e1 : 0 ≤ e) (e2 : e ≤ 4) : m_lab_fault [.tuple [.tuple ms, .tuple [], .int c, .int d, .int e]] = some .none := by
  simp [m_lab_fault, runP2, runP, F_lab_fault, seqM, ifM, notT, andT, orT, asgM, unpM, tupG, gsCons, gsNil, loopM, enumM, iterM, seqO, enumL, DL.forM, callP, consD, nilM, boolO, isNotD, isNoneB, bnd, op2, lateM, nameM, getO, lift, ret, callM, lenD, consO, getL, valM, toD, setM, putM, retM, eqD, PySem.SeqAt.shaped, PyData.canLay0, PyData.depth, PyData.eqv, tof, tto, win, hm, c1, c2, d1, d2, e1, e2]
theorem lab1 {ms : List D} {w : D} {c d e : Int} (hm : m_meets_fault [.tuple ms] = some .none) (hw : m_wash_fault [w, .int (ms.length : Nat)] = some .none) (c1 : 1 ≤ c) (c2 : c ≤ 3) (d1 : 1 ≤ d) (d2 : d ≤ 3) (e1 : 0 ≤ e) (e2 : e ≤ 4) : m_lab_fault [.tuple [.tuple ms, .tuple [w], .int c, .int d, .int e]] = some .none := by
  simp [m_lab_fault, runP2, runP, F_lab_fault, seqM, ifM, notT, andT, orT, asgM, unpM, tupG, gsCons, gsNil, loopM, enumM, iterM, seqO, enumL, DL.forM, callP, consD, nilM, boolO, isNotD, isNoneB, bnd, op2, lateM, nameM, getO, lift, ret, callM, lenD, consO, getL, valM, toD, setM, putM, retM, eqD, PySem.SeqAt.shaped, PyData.canLay0, PyData.depth, PyData.eqv, tof, tto, win, hm, hw, c1, c2, d1, d2, e1, e2]
theorem lab2 {ms : List D} {w : D} {c d e : Int} (hm : m_meets_fault [.tuple ms] = some .none) (hw : m_wash_fault [w, .int (ms.length : Nat)] = some .none) (c1 : 1 ≤ c) (c2 : c ≤ 3) (d1 : 1 ≤ d) (d2 : d ≤ 3) (e1 : 0 ≤ e) (e2 : e ≤ 4) : m_lab_fault [.tuple [.tuple ms, .tuple [w, w], .int c, .int d, .int e]] = some .none := by
  simp [m_lab_fault, runP2, runP, F_lab_fault, seqM, ifM, notT, andT, orT, asgM, unpM, tupG, gsCons, gsNil, loopM, enumM, iterM, seqO, enumL, DL.forM, callP, consD, nilM, boolO, isNotD, isNoneB, bnd, op2, lateM, nameM, getO, lift, ret, callM, lenD, consO, getL, valM, toD, setM, putM, retM, eqD, PySem.SeqAt.shaped, PyData.canLay0, PyData.depth, PyData.eqv, tof, tto, win, hm, hw, c1, c2, d1, d2, e1, e2]
/-- a window that does: none, or a number that is not the first's -/
def WinOk (w : D) : Prop := w = .none ∨ ∃ k : Int, w = .int k ∧ 0 ≤ k ∧ k ≤ 6
theorem sample0 {lab : D} : m_sample_fault [lab, .tuple [.tuple [], .tuple []]] = some .none := by
  simp [m_sample_fault, runP2, runP, F_sample_fault, seqM, ifM, notT, andT, orT, asgM, unpM, tupG, gsCons, gsNil, loopM, enumM, iterM, seqO, enumL, DL.forM, callP, consD, nilM, boolO, isNotD, isNoneB, bnd, op2, lateM, nameM, getO, lift, ret, callM, lenD, consO, getL, valM, toD, setM, putM, retM, eqD, PySem.SeqAt.shaped, PyData.canLay0, PyData.depth, PyData.eqv, tof, tto, win]
theorem sample1 {lab s0 : D} (h0 : m_step_fault [lab, s0] = some .none) : m_sample_fault [lab, .tuple [.tuple [s0], .tuple [.none]]] = some .none := by
  simp [m_sample_fault, runP2, runP, F_sample_fault, seqM, ifM, notT, andT, orT, asgM, unpM, tupG, gsCons, gsNil, loopM, enumM, iterM, seqO, enumL, DL.forM, callP, consD, nilM, boolO, isNotD, isNoneB, bnd, op2, lateM, nameM, getO, lift, ret, callM, lenD, consO, getL, valM, toD, setM, putM, retM, eqD, PySem.SeqAt.shaped, PyData.canLay0, PyData.depth, PyData.eqv, tof, tto, win, h0]
theorem sample2 {lab s0 s1 w : D} (h0 : m_step_fault [lab, s0] = some .none) (h1 : m_step_fault [lab, s1] = some .none) (hw : WinOk w) : m_sample_fault [lab, .tuple [.tuple [s0, s1], .tuple [.none, w]]] = some .none := by
  rcases hw with rfl | ⟨k, rfl, k1, k2⟩
  · simp [m_sample_fault, runP2, runP, F_sample_fault, seqM, ifM, notT, andT, orT, asgM, unpM, tupG, gsCons, gsNil, loopM, enumM, iterM, seqO, enumL, DL.forM, callP, consD, nilM, boolO, isNotD, isNoneB, bnd, op2, lateM, nameM, getO, lift, ret, callM, lenD, consO, getL, valM, toD, setM, putM, retM, eqD, PySem.SeqAt.shaped, PyData.canLay0, PyData.depth, PyData.eqv, tof, tto, win, h0, h1]
  · simp [m_sample_fault, runP2, runP, F_sample_fault, seqM, ifM, notT, andT, orT, asgM, unpM, tupG, gsCons, gsNil, loopM, enumM, iterM, seqO, enumL, DL.forM, callP, consD, nilM, boolO, isNotD, isNoneB, bnd, op2, lateM, nameM, getO, lift, ret, callM, lenD, consO, getL, valM, toD, setM, putM, retM, eqD, PySem.SeqAt.shaped, PyData.canLay0, PyData.depth, PyData.eqv, tof, tto, win, h0, h1, k1, k2]
theorem sample3 {lab s0 s1 s2 w : D} (h0 : m_step_fault [lab, s0] = some .none) (h1 : m_step_fault [lab, s1] = some .none) (h2 : m_step_fault [lab, s2] = some .none) (hw : WinOk w) : m_sample_fault [lab, .tuple [.tuple [s0, s1, s2], .tuple [.none, w, .none]]] = some .none := by
  rcases hw with rfl | ⟨k, rfl, k1, k2⟩
  · simp [m_sample_fault, runP2, runP, F_sample_fault, seqM, ifM, notT, andT, orT, asgM, unpM, tupG, gsCons, gsNil, loopM, enumM, iterM, seqO, enumL, DL.forM, callP, consD, nilM, boolO, isNotD, isNoneB, bnd, op2, lateM, nameM, getO, lift, ret, callM, lenD, consO, getL, valM, toD, setM, putM, retM, eqD, PySem.SeqAt.shaped, PyData.canLay0, PyData.depth, PyData.eqv, tof, tto, win, h0, h1, h2]
  · simp [m_sample_fault, runP2, runP, F_sample_fault, seqM, ifM, notT, andT, orT, asgM, unpM, tupG, gsCons, gsNil, loopM, enumM, iterM, seqO, enumL, DL.forM, callP, consD, nilM, boolO, isNotD, isNoneB, bnd, op2, lateM, nameM, getO, lift, ret, callM, lenD, consO, getL, valM, toD, setM, putM, retM, eqD, PySem.SeqAt.shaped, PyData.canLay0, PyData.depth, PyData.eqv, tof, tto, win, h0, h1, h2, k1, k2]
theorem task1 {lab a : D} (hl : m_lab_fault [lab] = some .none) (h0 : m_sample_fault [lab, a] = some .none) : m_task_fault [.tuple [lab, .tuple [a]]] = some .none := by
  simp [m_task_fault, runP2, runP, F_task_fault, seqM, ifM, notT, andT, orT, asgM, unpM, tupG, gsCons, gsNil, loopM, enumM, iterM, seqO, enumL, DL.forM, callP, consD, nilM, boolO, isNotD, isNoneB, bnd, op2, lateM, nameM, getO, lift, ret, callM, lenD, consO, getL, valM, toD, setM, putM, retM, eqD, PySem.SeqAt.shaped, PyData.canLay0, PyData.depth, PyData.eqv, tof, tto, win, hl, h0]
theorem task2 {lab a b : D} (hl : m_lab_fault [lab] = some .none) (h0 : m_sample_fault [lab, a] = some .none) (h1 : m_sample_fault [lab, b] = some .none) : m_task_fault [.tuple [lab, .tuple [a, b]]] = some .none := by
  simp [m_task_fault, runP2, runP, F_task_fault, seqM, ifM, notT, andT, orT, asgM, unpM, tupG, gsCons, gsNil, loopM, enumM, iterM, seqO, enumL, DL.forM, callP, consD, nilM, boolO, isNotD, isNoneB, bnd, op2, lateM, nameM, getO, lift, ret, callM, lenD, consO, getL, valM, toD, setM, putM, retM, eqD, PySem.SeqAt.shaped, PyData.canLay0, PyData.depth, PyData.eqv, tof, tto, win, hl, h0, h1]
theorem task3 {lab a b c : D} (hl : m_lab_fault [lab] = some .none) (h0 : m_sample_fault [lab, a] = some .none) (h1 : m_sample_fault [lab, b] = some .none) (h2 : m_sample_fault [lab, c] = some .none) : m_task_fault [.tuple [lab, .tuple [a, b, c]]] = some .none := by
  simp [m_task_fault, runP2, runP, F_task_fault, seqM, ifM, notT, andT, orT, asgM, unpM, tupG, gsCons, gsNil, loopM, enumM, iterM, seqO, enumL, DL.forM, callP, consD, nilM, boolO, isNotD, isNoneB, bnd, op2, lateM, nameM, getO, lift, ret, callM, lenD, consO, getL, valM, toD, setM, putM, retM, eqD, PySem.SeqAt.shaped, PyData.canLay0, PyData.depth, PyData.eqv, tof, tto, win, hl, h0, h1, h2]
theorem need_ok {tk : D} (h : m_task_fault [tk] = some .none) : m_need_task [tk] = some tk := by
  simp [m_need_task, runP2, runP, F_need_task, seqM, ifM, notT, andT, orT, asgM, unpM, tupG, gsCons, gsNil, loopM, enumM, iterM, seqO, enumL, DL.forM, callP, consD, nilM, boolO, isNotD, isNoneB, bnd, op2, lateM, nameM, getO, lift, ret, callM, lenD, consO, getL, valM, toD, setM, putM, retM, eqD, PySem.SeqAt.shaped, PyData.canLay0, PyData.depth, PyData.eqv, tof, tto, win, h]
end LW
end

section
set_option Elab.async false
set_option linter.all false
set_option maxRecDepth 100000
set_option maxHeartbeats 999999
set_option exponentiation.threshold 5001
open DL
open PySem (PyData)
namespace LW
/-! ### the small parts without fault -/
def upN (n : Int) : List D := .none :: uptoD n
def chkM (M : List D) (s : Nat) : Bool := isD1 (m_meets_fault [.tuple M]) .none && isD1 (m_meets_fault [.tuple (M ++ [.tuple (List.replicate s .none)])]) .none
theorem mf11 : ((uptoD 1).all fun a => chkM [.tuple [a]] 1) = true := by kernel_rfl
theorem mf21 : ((uptoD 1).all fun a => (uptoD 1).all fun b => chkM [.tuple [a, b]] 2) = true := by kernel_rfl
theorem mf12 : ((uptoD 2).all fun a => (upN 2).all fun b => chkM [.tuple [a], .tuple [b]] 1) = true := by kernel_rfl
theorem mf22 : ((uptoD 2).all fun a => (uptoD 2).all fun b => (upN 2).all fun c => (upN 2).all fun d => chkM [.tuple [a, b], .tuple [c, d]] 2) = true := by kernel_rfl
def spans3 : List (Int × Int) := [(1, 1), (1, 2), (2, 2)]
def spans4 : List (Int × Int) := [(1, 1), (1, 2), (2, 2), (1, 3)]
def chkW (ls : List D) : Bool := spans3.all fun q => isD1 (m_wash_fault [.tuple [.tuple ls, .int q.1, .int q.2], .int (ls.length : Nat)]) .none
theorem wf1 : chkW [tup1 [0]] = true := by kernel_rfl
theorem wf1b : chkW [tup1 [0], tup1 [0]] = true := by kernel_rfl
theorem wf2 : ([tup1 [0], tup1 [1], tup1 [0, 1]].all fun a => [tup1 [0], tup1 [0, 1], tup1 [1]].all fun b => chkW [a, b]) = true := by kernel_rfl
theorem wf3 : ([tup1 [0], tup1 [0, 1], tup1 [1]].all fun b => chkW [tup1 [0], b, tup1 [0]]) = true := by kernel_rfl
def zonesE (e : Int) : List D := if e = 0 then [tup1 []] else [tup1 [], tup1 [0]]
def chkP (s c e : Int) (F : D → Option D) : Bool := (uptoD s).all fun p => (toolsR c).all fun t => (zonesE e).all fun z => spans4.all fun q => isD1 (F (.tuple [p, t, z, .int q.1, .int q.2])) .none
theorem sf11 (x w d : D) : ([1, 2].all fun c => [0, 1, 2].all fun e => chkP 1 c e fun st => m_step_fault [.tuple [.tuple [.tuple [x]], w, .int c, d, .int e], st]) = true := by kernel_rfl
theorem sf12 (x r w d : D) : ([1, 2].all fun c => [0, 1, 2].all fun e => chkP 1 c e fun st => m_step_fault [.tuple [.tuple [.tuple [x], r], w, .int c, d, .int e], st]) = true := by kernel_rfl
theorem sf13 (x r r2 w d : D) : ([1, 2].all fun c => [0, 1, 2].all fun e => chkP 1 c e fun st => m_step_fault [.tuple [.tuple [.tuple [x], r, r2], w, .int c, d, .int e], st]) = true := by kernel_rfl
theorem sf21 (x y w d : D) : ([1, 2].all fun c => [0, 1, 2].all fun e => chkP 2 c e fun st => m_step_fault [.tuple [.tuple [.tuple [x, y]], w, .int c, d, .int e], st]) = true := by kernel_rfl
theorem sf22 (x y r w d : D) : ([1, 2].all fun c => [0, 1, 2].all fun e => chkP 2 c e fun st => m_step_fault [.tuple [.tuple [.tuple [x, y], r], w, .int c, d, .int e], st]) = true := by kernel_rfl
theorem sf23 (x y r r2 w d : D) : ([1, 2].all fun c => [0, 1, 2].all fun e => chkP 2 c e fun st => m_step_fault [.tuple [.tuple [.tuple [x, y], r, r2], w, .int c, d, .int e], st]) = true := by kernel_rfl
end LW
end

section
set_option Elab.async false
set_option linter.all false
set_option maxRecDepth 100000
set_option maxHeartbeats 999999
set_option exponentiation.threshold 5001
open DL
open PySem (PyData Str)
namespace LW
/-! ### texts of plain data are short -/
def plainB : D → Bool
  | .none => true
  | .bool _ => true
  | .int i => decide (0 ≤ i) && decide (i < 10 ^ 150)
  | .list xs => plains xs
  | .tuple xs => plains xs
  | _ => false
where plains : List D → Bool
  | [] => true
  | x :: xs => plainB x && plains xs
def big : D → Nat
  | .int _ => 150
  | .list xs => bigs xs + 6
  | .tuple xs => bigs xs + 6
  | _ => 6
where bigs : List D → Nat
  | [] => 0
  | x :: xs => big x + 2 + bigs xs
def pil (ts : List Str) : Nat := (ts.map fun t => t.length + 2).sum
theorem textFrom_le : ∀ (ts : List Str) (k : Nat) (acc : Str), (PySem.textFrom k acc ts).length ≤ acc.length + pil ts
  | [], k, acc => by show acc.length ≤ acc.length + 0; omega
  | t :: r, k, acc => by
    show (PySem.textFrom (k + 1) (acc ++ (if k > 0 then ", " else "" : String) ++ t) r).length ≤ _
    refine Nat.le_trans (textFrom_le r (k + 1) _) ?_
    rw [PySem.strLen_append, PySem.strLen_append]
    have h2 : (((if k > 0 then ", " else "" : String) : Str)).length ≤ 2 := by split <;> decide
    show _ ≤ acc.length + ((t.length + 2) + pil r)
    omega
theorem join_le : ∀ ts : List Str, (Str.join ", " ts).length ≤ pil ts
  | [] => Nat.zero_le _
  | [x] => by show x.length ≤ (x.length + 2) + 0; omega
  | x :: y :: r => by
    have h := join_le (y :: r)
    show (x ++ ", " ++ Str.join ", " (y :: r)).length ≤ (x.length + 2) + pil (y :: r)
    rw [PySem.strLen_append, PySem.strLen_append]
    have h2 : (((", " : String) : Str)).length = 2 := rfl
    omega
mutual
theorem shown_le : ∀ d : D, plainB d = true → d.shown.length ≤ big d ∧ d.showable = true ∧ d.hasDict = false
  | .none, _ => ⟨by decide, rfl, rfl⟩
  | .bool b, _ => ⟨by cases b <;> decide, rfl, rfl⟩
  | .int i, h => by
    unfold plainB at h
    obtain ⟨h1, h2⟩ := Bool.and_eq_true_iff.mp h
    have h1 := of_decide_eq_true h1
    have h2 := of_decide_eq_true h2
    refine ⟨PyProof.Rows.toString_length_le h1 (by show 0 < 150; decide) h2, ?_, rfl⟩
    show decide (i.natAbs.log2 < 1920) = true
    by_cases h0 : i.natAbs = 0
    · rw [h0]; decide
    · have : i.natAbs.log2 < 1920 := (Nat.log2_lt h0).mpr (Nat.lt_of_lt_of_le (m := 10 ^ 150) (by omega) (by decide))
      exact decide_eq_true this
  | .list xs, h => by
    unfold plainB at h
    obtain ⟨h1, h2, h3⟩ := showns_le xs h
    refine ⟨?_, h2, h3⟩
    show (PySem.textFrom 0 "[" (PyData.shownAll xs) ++ "]").length ≤ big.bigs xs + 6
    rw [PySem.strLen_append]
    have h4 := textFrom_le (PyData.shownAll xs) 0 "["
    have h5 : (((("[" : String) : Str))).length = 1 := rfl
    have h6 : (((("]" : String) : Str))).length = 1 := rfl
    omega
  | .tuple xs, h => by
    unfold plainB at h
    obtain ⟨h1, h2, h3⟩ := showns_le xs h
    refine ⟨?_, h2, h3⟩
    show (PySem.tupleText (PyData.shownAll xs)).length ≤ big.bigs xs + 6
    unfold PySem.tupleText
    rw [PySem.strLen_append, PySem.strLen_append]
    have h4 := join_le (PyData.shownAll xs)
    have h5 : (((("(" : String) : Str))).length = 1 := rfl
    have h6 : (((if (PyData.shownAll xs).length == 1 then ",)" else ")" : String) : Str)).length ≤ 2 := by split <;> decide
    omega
  | .str _, h => by
    unfold plainB at h
    cases h
  | .dict _, h => by
    unfold plainB at h
    cases h
theorem showns_le : ∀ xs : List D, plainB.plains xs = true → pil (PyData.shownAll xs) ≤ big.bigs xs ∧ PyData.showableAll xs = true ∧ PyData.hasDictAll xs = false
  | [], _ => ⟨Nat.le_refl _, rfl, rfl⟩
  | x :: xs, h => by
    unfold plainB.plains at h
    obtain ⟨h1, h2⟩ := Bool.and_eq_true_iff.mp h
    obtain ⟨a1, a2, a3⟩ := shown_le x h1
    obtain ⟨b1, b2, b3⟩ := showns_le xs h2
    refine ⟨?_, ?_, ?_⟩
    · show (x.shown.length + 2) + pil (PyData.shownAll xs) ≤ big x + 2 + big.bigs xs
      omega
    · show (x.showable && PyData.showableAll xs) = true
      rw [a2, b2]
      rfl
    · show (x.hasDict || PyData.hasDictAll xs) = false
      rw [a3, b3]
      rfl
end
theorem ok_of (s : String) : PyData.strOk (PySem.Str.ofString s) = true := by
  rw [PySem.Str.ofString_eq_toList]
  unfold PyData.strOk
  rw [← Array.all_toList]
  refine List.all_eq_true.mpr fun n hn => ?_
  obtain ⟨c, hc, rfl⟩ := List.mem_map.mp (by simpa using hn)
  have h := c.valid
  have e : c.toNat = c.val.toNat := rfl
  rcases h with h | ⟨_, h⟩
  · exact decide_eq_true (by rw [e]; omega)
  · exact decide_eq_true (by rw [e]; omega)
theorem ok_app (x y : Str) : PyData.strOk (x ++ y) = (PyData.strOk x && PyData.strOk y) := by
  show (x.cps ++ y.cps).all _ = _
  rw [Array.all_append]
  rfl
theorem ok_from : ∀ (ts : List Str) (k : Nat) (acc : Str), PyData.strOk acc = true → (∀ t ∈ ts, PyData.strOk t = true) → PyData.strOk (PySem.textFrom k acc ts) = true
  | [], k, acc, h, _ => h
  | t :: r, k, acc, h, hs => by
    refine ok_from r (k + 1) _ ?_ fun z hz => hs z (by simp [hz])
    rw [ok_app, ok_app, h, hs t (by simp)]
    have : PyData.strOk ((if k > 0 then ", " else "" : String) : Str) = true := ok_of _
    rw [this]
    rfl
theorem ok_join : ∀ ts : List Str, (∀ t ∈ ts, PyData.strOk t = true) → PyData.strOk (Str.join ", " ts) = true
  | [], _ => by
    show PyData.strOk Str.empty = true
    decide +kernel
  | [x], h => h x (by simp)
  | x :: y :: r, h => by
    show PyData.strOk (x ++ ", " ++ Str.join ", " (y :: r)) = true
    rw [ok_app, ok_app, h x (by simp), ok_join (y :: r) fun z hz => h z (by simp [List.mem_cons.mp hz])]
    have : PyData.strOk ((", " : String) : Str) = true := ok_of _
    rw [this]
    rfl
mutual
theorem shown_strOk : ∀ d : D, plainB d = true → PyData.strOk d.shown = true
  | .none, _ => ok_of _
  | .bool b, _ => by cases b <;> exact ok_of _
  | .int i, _ => ok_of _
  | .list xs, h => by
    unfold plainB at h
    show PyData.strOk (PySem.textFrom 0 "[" (PyData.shownAll xs) ++ "]") = true
    rw [ok_app, ok_from _ _ _ (ok_of _) (showns_strOk xs h)]
    exact ok_of _
  | .tuple xs, h => by
    unfold plainB at h
    show PyData.strOk (PySem.tupleText (PyData.shownAll xs)) = true
    unfold PySem.tupleText
    rw [ok_app, ok_app, ok_join _ (showns_strOk xs h)]
    have h1 : PyData.strOk (("(" : String) : Str) = true := ok_of _
    have h2 : PyData.strOk ((if (PyData.shownAll xs).length == 1 then ",)" else ")" : String) : Str) = true := ok_of _
    rw [h1, h2]
    rfl
  | .str _, h => by
    unfold plainB at h
    cases h
  | .dict _, h => by
    unfold plainB at h
    cases h
theorem showns_strOk : ∀ xs : List D, plainB.plains xs = true → ∀ t ∈ PyData.shownAll xs, PyData.strOk t = true
  | [], _, t, ht => by cases ht
  | x :: xs, h, t, ht => by
    unfold plainB.plains at h
    obtain ⟨h1, h2⟩ := Bool.and_eq_true_iff.mp h
    have ht' : t ∈ x.shown :: PyData.shownAll xs := ht
    rcases List.mem_cons.mp ht' with rfl | q
    · exact shown_strOk x h1
    · exact showns_strOk xs h2 t q
end
theorem repr_ok {d : D} (h : plainB d = true) (h1 : d.depth ≤ 64) (h2 : big d ≤ 16777216) : reprOk d = true := by
  obtain ⟨a1, a2, a3⟩ := shown_le d h
  unfold reprOk
  rw [a2, a3, decide_eq_true h1, decide_eq_true (Nat.le_trans a1 (by rw [PySem.sizeLine_eq]; exact h2))]
  rfl
theorem like_ok {d : D} (h : plainB d = true) (h1 : d.depth ≤ 64) (h2 : big d ≤ 16777216) : m__law_like [d, d] = some (.bool true) := by
  have hr := repr_ok h h1 h2
  have hs : PySem.SeqAt.shaped (.str d.shown) = true := by
    show (PyData.strOk d.shown && decide (0 ≤ 64)) = true
    rw [shown_strOk d h]
    rfl
  simp [m__law_like, runP2, runP, F__law_like, retM, valM, bnd, op2, lateM, nameM, getO, toD, lift, ret, callM, reprD, consO, nilM, getL, hr, eqD, hs, PyData.eqv]
end LW
end

section
set_option Elab.async false
set_option linter.all false
set_option maxRecDepth 100000
set_option maxHeartbeats 999999
set_option exponentiation.threshold 5001
open DL
open PySem (PyData Str)
namespace LW
/-! ### the count -/
theorem prod_app : ∀ (a b : List (List D)), prod (a ++ b) = prod a * prod b
  | [], b => by show prod b = 1 * prod b; rw [Int.one_mul]
  | r :: a, b => by
    show (r.length : Int) * prod (a ++ b) = (r.length : Int) * prod a * prod b
    rw [prod_app a b, Int.mul_assoc]
theorem prod_rev : ∀ a : List (List D), prod a.reverse = prod a
  | [] => rfl
  | r :: a => by
    rw [List.reverse_cons, prod_app, prod_rev a]
    show prod a * ((r.length : Int) * 1) = (r.length : Int) * prod a
    rw [Int.mul_one, Int.mul_comm]
theorem prod_small : ∀ (rs : List (List D)), (∀ r ∈ rs, Row r) → prod rs ≤ 10 ^ rs.length
  | [], _ => by decide
  | r :: rs, h => by
    have h1 := prod_small rs fun z hz => h z (by simp [hz])
    have h2 := (h r (by simp)).few
    have h3 := prod_pos rs fun z hz => h z (by simp [hz])
    show (r.length : Int) * prod rs ≤ 10 ^ (rs.length + 1)
    rw [Int.pow_succ, Int.mul_comm]
    exact Int.mul_le_mul h1 (by omega) (by omega) (by have : (0 : Int) < 10 ^ rs.length := Int.pow_pos (by decide); omega)
def bodyC : M Unit Out := (augM 1 (opI mulOk1 fun i j => .int (i * j)) (callM lenD (consO (nameM 2) nilM)))
def bodyK : M Unit Out := (asgM 1 (op2 mulD (nameM 1) (callM lenD (consO (nameM 2) nilM))))
abbrev envC (sh : D) (n : Int) (w : Option Sl) : Stt Unit := ⟨[some (.d sh), some (.d (.int n)), w], ()⟩
theorem stepC {sh : D} {n : Int} {r : List D} (h : Row r) : bodyC (envC sh n (some (.d (.list r)))) = some (.nx, envC sh (n * (r.length : Int)) (some (.d (.list r)))) := by
  have a1 : mulOk1 n (r.length : Int) = true := by
    have := h.few
    unfold mulOk1
    have h2 : (decide (-(2 ^ 64) < (r.length : Int)) && decide ((r.length : Int) < 2 ^ 64)) = true := by
      rw [decide_eq_true (by omega), decide_eq_true (by omega)]
      rfl
    rw [h2, Bool.or_true]
  simp [bodyC, envC, augM, bnd, nameM, getO, lift, ret, callM, lenD, consO, lateM, nilM, getL, DL.opI, putM, setM, a1]
theorem stepK {sh : D} {n : Int} {r : List D} (h : Row r) (hn : n.natAbs < 2 ^ 3000) : bodyK (envC sh n (some (.d (.list r)))) = some (.nx, envC sh (n * (r.length : Int)) (some (.d (.list r)))) := by
  have a1 : mulOk n (r.length : Int) = true := mulOk_of (le_pow hn (by decide)) (by have := h.few; omega)
  simp [bodyK, envC, asgM, op2, bnd, nameM, getO, lift, ret, callM, lenD, consO, lateM, nilM, getL, mulD, orO, DL.opI, putM, setM, a1]
theorem loopC {sh : D} : ∀ (rs : List (List D)) (n : Int) (w : Option Sl), (∀ r ∈ rs, Row r) → ∃ w', Steps (setM 2) bodyC (rs.map .list) (envC sh n w) (envC sh (n * prod rs) w')
  | [], n, w, _ => ⟨w, by show envC sh n w = envC sh (n * 1) w; rw [Int.mul_one]⟩
  | r :: rs, n, w, h => by
    obtain ⟨w', e⟩ := loopC (sh := sh) rs (n * (r.length : Int)) (some (.d (.list r))) fun z hz => h z (by simp [hz])
    refine ⟨w', _, _, rfl, stepC (h r (by simp)), ?_⟩
    have q : n * prod (r :: rs) = n * (r.length : Int) * prod rs := by show n * ((r.length : Int) * prod rs) = _; rw [Int.mul_assoc]
    rw [q]
    exact e
theorem loopK {sh : D} : ∀ (rs : List (List D)) (n : Int) (p : Nat) (w : Option Sl), (∀ r ∈ rs, Row r) → n.natAbs < 2 ^ p → p + 4 * rs.length ≤ 3000 → ∃ w', Steps (setM 2) bodyK (rs.map .list) (envC sh n w) (envC sh (n * prod rs) w')
  | [], n, p, w, _, _, _ => ⟨w, by show envC sh n w = envC sh (n * 1) w; rw [Int.mul_one]⟩
  | r :: rs, n, p, w, h, hn, hp => by
    rw [List.length_cons] at hp
    have hr := h r (by simp)
    have h4 : ((r.length : Nat) : Int).natAbs < 2 ^ 4 := by have := hr.few; omega
    obtain ⟨w', e⟩ := loopK (sh := sh) rs (n * (r.length : Int)) (p + 4) (some (.d (.list r))) (fun z hz => h z (by simp [hz])) (lt_mul hn h4 (Nat.le_refl _)) (by omega)
    refine ⟨w', _, _, rfl, stepK hr (le_pow hn (by omega)), ?_⟩
    have q : n * prod (r :: rs) = n * (r.length : Int) * prod rs := by show n * ((r.length : Int) * prod rs) = _; rw [Int.mul_assoc]
    rw [q]
    exact e
theorem all_rows {x : Shp} (h : x.Ok) : ∀ r ∈ rows x, Row r := fun r hr => row_of (rows_good h r hr)
theorem free_count_ok {x : Shp} (h : x.Ok) : m_free_count [x.D] = some (.int (prod (rows x))) := by
  obtain ⟨w', e⟩ := loopC (sh := x.D) (rows x) 1 none (all_rows h)
  have e := e.run
  rw [Int.one_mul] at e
  have hF : F_free_count = seqM (asgM 1 (ret (.val (PyData.int 1)))) (seqM (loopM (iterM (callP m_choices_of (consD (nameM 0) nilM))) (setM 2) bodyC) (retM (nameM 1))) := rfl
  have e1 : iterM (callP m_choices_of (consD (nameM 0) nilM)) (envC x.D 1 none) = some ((rows x).map .list, envC x.D 1 none) := by
    simp [iterM, callP, consD, nilM, nameM, bnd, valM, toD, ret, lift, getO, seqO, envC, choices_ok h]
  have e2 : F_free_count (⟨[some (.d x.D), none, none], ()⟩ : Stt Unit) = some (.rt (.int (prod (rows x))), envC x.D (prod (rows x)) w') := by
    rw [hF]
    have e3 : asgM 1 (ret (.val (PyData.int 1))) (⟨[some (.d x.D), none, none], ()⟩ : Stt Unit) = some (.nx, envC x.D 1 none) := rfl
    simp only [seqM, bnd, e3, loopM, e1, e]
    rfl
  unfold m_free_count runP2
  rw [if_pos (show [x.D].length = 1 from rfl)]
  unfold runP
  simp only [List.map_cons, List.map_nil, List.length_cons, List.length_nil, List.replicate, List.cons_append, List.nil_append]
  rw [e2]
theorem law_count_ok {x : Shp} (h : x.Ok) : m__law_tiny_count [x.D] = some (.int (prod (rows x))) := by
  obtain ⟨w', e⟩ := loopK (sh := x.D) (rows x) 1 1 none (all_rows h) (by decide) (by have := rows_few h; omega)
  have e := e.run
  rw [Int.one_mul] at e
  have hF : F__law_tiny_count = seqM (asgM 1 (ret (.val (PyData.int 1)))) (seqM (loopM (iterM (callP m__law_tiny_rows (consD (nameM 0) nilM))) (setM 2) bodyK) (retM (nameM 1))) := rfl
  have e1 : iterM (callP m__law_tiny_rows (consD (nameM 0) nilM)) (envC x.D 1 none) = some ((rows x).map .list, envC x.D 1 none) := by
    simp [iterM, callP, consD, nilM, nameM, bnd, valM, toD, ret, lift, getO, seqO, envC, law_rows_ok h]
  have e2 : F__law_tiny_count (⟨[some (.d x.D), none, none], ()⟩ : Stt Unit) = some (.rt (.int (prod (rows x))), envC x.D (prod (rows x)) w') := by
    rw [hF]
    have e3 : asgM 1 (ret (.val (PyData.int 1))) (⟨[some (.d x.D), none, none], ()⟩ : Stt Unit) = some (.nx, envC x.D 1 none) := rfl
    simp only [seqM, bnd, e3, loopM, e1, e]
    rfl
  unfold m__law_tiny_count runP2
  rw [if_pos (show [x.D].length = 1 from rfl)]
  unfold runP
  simp only [List.map_cons, List.map_nil, List.length_cons, List.length_nil, List.replicate, List.cons_append, List.nil_append]
  rw [e2]
theorem need_shape_ok {x : Shp} (h : x.Ok) : m_need_shape [x.D] = some x.D := by
  simp [m_need_shape, runP2, runP, F_need_shape, seqM, ifM, notT, callP, consD, nilM, nameM, bnd, valM, toD, ret, lift, getO, boolO, retM, is_shape_ok h]
theorem tiny_count_ok {x : Shp} (h : x.Ok) : m_tiny_count [x.D] = some (.int (prod (rows x))) := by
  simp [m_tiny_count, runP2, runP, F_tiny_count, callP, consD, nilM, nameM, bnd, valM, toD, ret, lift, getO, retM, need_shape_ok h, free_count_ok h]
theorem tiny_task_ok {x : Shp} (h : x.Ok) {n : Int} {tk : D} (h0 : 0 ≤ n) (h1 : n < prod (rows x)) (ht : m_task_of [x.D, .list (picksOf (rows x) n)] = some tk) : m_tiny_task [x.D, .int n] = some tk := by
  have h2 : n ≤ prod (rows x) - 1 := by omega
  have e := free_task_ok h n
  rw [ht] at e
  simp [m_tiny_task, runP2, runP, F_tiny_task, seqM, ifM, notT, dropM, callP, consD, nilM, nameM, bnd, valM, toD, ret, lift, getO, boolO, retM, op2, lateM, subD, DL.opI, need_shape_ok h, free_count_ok h, win, h0, h2, e]
/-- the number of a task that stands in the rows -/
theorem tiny_number_ok {x : Shp} (h : x.Ok) {n : Int} {tk : D} (h0 : 0 ≤ n) (h1 : n < prod (rows x)) (hf : m_task_fault [tk] = some .none) (hs : m_has_sizes [x.D, tk] = some (.bool true)) (hp : m_picks_of [x.D, tk] = some (.list (picksOf (rows x) n))) : m_tiny_number [x.D, tk] = some (.int n) := by
  have hr : ∀ r ∈ (rows x).reverse, Row r := fun r hm => all_rows h r (List.mem_reverse.mp hm)
  have hb : n < 2 ^ 2000 := by
    have q1 := prod_small (rows x) (all_rows h)
    have q2 := rows_few h
    have q3 : (10 : Int) ^ (rows x).length ≤ 10 ^ 24 := by
      have q4 : ((10 ^ (rows x).length : Nat) : Int) ≤ ((10 ^ 24 : Nat) : Int) := Int.ofNat_le.mpr (Nat.pow_le_pow_right (by decide) q2)
      rw [Int.natCast_pow, Int.natCast_pow] at q4
      exact q4
    omega
  obtain ⟨u3, u4, e⟩ := loopN (sh := x.D) (tk := tk) (rows x).reverse n none none hr h0 (by rw [prod_rev]; exact h1) hb
  rw [List.reverse_reverse] at e
  have e := e.run
  have hF : F_free_number = seqM (ifM (notT (bnd (callP m_has_sizes (consD (nameM 0) (consD (nameM 1) nilM))) boolO)) (retM (ret (.val PyData.none))) (ret .nx)) (seqM (asgM 2 (ret (.val (PyData.int 0)))) (seqM (loopM (zipM (consD (callP m_choices_of (consD (nameM 0) nilM)) (consD (callP m_picks_of (consD (nameM 0) (consD (nameM 1) nilM))) nilM))) tgN bodyN) (retM (nameM 2)))) := rfl
  have e1 : zipM (consD (callP m_choices_of (consD (nameM 0) nilM)) (consD (callP m_picks_of (consD (nameM 0) (consD (nameM 1) nilM))) nilM)) (envN x.D tk 0 none none) = some (zipL ((rows x).map .list) (dig (rows x).reverse n).reverse, envN x.D tk 0 none none) := by
    unfold picksOf at hp
    simp [zipM, zipD, callP, consD, nilM, nameM, bnd, valM, toD, ret, lift, getO, envN, choices_ok h, hp]
  have e4 : ifM (notT (bnd (callP m_has_sizes (consD (nameM 0) (consD (nameM 1) nilM))) boolO)) (retM (ret (.val PyData.none))) (ret .nx) (⟨[some (.d x.D), some (.d tk), none, none, none], ()⟩ : Stt Unit) = some (.nx, ⟨[some (.d x.D), some (.d tk), none, none, none], ()⟩) := by
    simp [ifM, notT, callP, consD, nilM, nameM, bnd, valM, toD, ret, lift, getO, boolO, hs]
  have e2 : F_free_number (⟨[some (.d x.D), some (.d tk), none, none, none], ()⟩ : Stt Unit) = some (.rt (.int n), envN x.D tk n u3 u4) := by
    rw [hF]
    have e3 : asgM 2 (ret (.val (PyData.int 0))) (⟨[some (.d x.D), some (.d tk), none, none, none], ()⟩ : Stt Unit) = some (.nx, envN x.D tk 0 none none) := rfl
    simp only [seqM, bnd, e4, e3, loopM, e1, e]
    rfl
  have e5 : m_free_number [x.D, tk] = some (.int n) := by
    unfold m_free_number runP2
    rw [if_pos (show [x.D, tk].length = 2 from rfl)]
    unfold runP
    simp only [List.map_cons, List.map_nil, List.length_cons, List.length_nil, List.replicate, List.cons_append, List.nil_append]
    rw [e2]
  simp [m_tiny_number, runP2, runP, F_tiny_number, seqM, dropM, callP, consD, nilM, nameM, bnd, valM, toD, ret, lift, getO, retM, need_shape_ok h, need_ok hf, e5]
/-- a bent task has no number -/
theorem bent_number {x : Shp} (h : x.Ok) {tk : D} (hf : m_task_fault [tk] = some .none) (hs : m_free_number [x.D, tk] = some .none) : m_tiny_number [x.D, tk] = some .none := by
  simp [m_tiny_number, runP2, runP, F_tiny_number, seqM, dropM, callP, consD, nilM, nameM, bnd, valM, toD, ret, lift, getO, retM, need_shape_ok h, need_ok hf, hs]
theorem sizes_differ {x : Shp} {tk : D} (hs : m_has_sizes [x.D, tk] = some (.bool false)) : m_free_number [x.D, tk] = some .none := by
  simp [m_free_number, runP2, runP, F_free_number, seqM, ifM, notT, callP, consD, nilM, nameM, bnd, valM, toD, ret, lift, getO, boolO, retM, hs]
end LW
end

section
set_option Elab.async false
set_option linter.all false
set_option maxRecDepth 100000
set_option maxHeartbeats 999999
set_option exponentiation.threshold 5001
open DL
open PySem (PyData Str)
namespace LW
/-! ### bent tasks: the words -/
theorem cut0 (xs : List D) : cutD xs none (some 0) = [] := by
  simp [cutD, HT.sIx]
theorem cut1 (x : D) (xs : List D) : cutD (x :: xs) (some 1) none = xs := by
  simp [cutD, HT.sIx]
theorem cutTo1 (x : D) (xs : List D) : cutD (x :: xs) none (some 1) = [x] := by
  simp [cutD, HT.sIx]
theorem at0 (x : D) (xs : List D) : L2.atI (x :: xs) 0 = some x := by
  have h : (0 : Int) < ((x :: xs).length : Nat) := by simp
  unfold L2.atI L2.ixN
  rw [if_pos (by decide), if_pos h]
  rfl
theorem item0 (x v : D) (xs : List D) (h : xs.length ≤ 1000) : m__law_item [.tuple (x :: xs), .int 0, v] = some (.tuple (v :: xs)) := by
  have h1 : 1 + xs.length ≤ 16777216 := by omega
  simp [m__law_item, runP2, runP, F__law_item, retM, valM, bnd, op2, lateM, nameM, getO, toD, lift, ret, consD, nilM, tupM, fitsL, sliceM, slD, intO, addD, orO, DL.opI, catT, cut0, cut1, PySem.sizeLine_eq, h1]
theorem lab1i (m w c d e v : D) : m__law_item [.tuple [m, w, c, d, e], .int 1, v] = some (.tuple [m, v, c, d, e]) := by kernel_rfl
theorem lab2i (m w c d e v : D) : m__law_item [.tuple [m, w, c, d, e], .int 2, v] = some (.tuple [m, w, v, d, e]) := by kernel_rfl
theorem lab3i (m w c d e v : D) : m__law_item [.tuple [m, w, c, d, e], .int 3, v] = some (.tuple [m, w, c, v, e]) := by kernel_rfl
theorem lab4i (m w c d e v : D) : m__law_item [.tuple [m, w, c, d, e], .int 4, v] = some (.tuple [m, w, c, d, v]) := by kernel_rfl
theorem arms_ok (m w c d e S v : D) : m__law_arms [.tuple [.tuple [m, w, c, d, e], S], v] = some (.tuple [.tuple [m, w, c, v, e], S]) := by kernel_rfl
theorem wash_with (m w c d e S v : D) : m__law_wash_with [.tuple [.tuple [m, .tuple [w], c, d, e], S], .int 0, v] = some (.tuple [.tuple [m, .tuple [v], c, d, e], S]) := by kernel_rfl
theorem step_with (lab s0 W v : D) (ss S : List D) (h : S.length ≤ 100) (h2 : ss.length ≤ 100) : m__law_step_with [.tuple [lab, .tuple (.tuple [.tuple (s0 :: ss), W] :: S)], .int 0, .int 0, v] = some (.tuple [lab, .tuple (.tuple [.tuple (v :: ss), W] :: S)]) := by
  have h1 := item0 s0 v ss (by omega)
  have h3 := item0 (.tuple [.tuple (s0 :: ss), W]) (.tuple [.tuple (v :: ss), W]) S (by omega)
  have k0 := at0 (.tuple [.tuple (s0 :: ss), W]) S
  have e0 : L2.atI [lab, .tuple (.tuple [.tuple (s0 :: ss), W] :: S)] 0 = some lab := rfl
  have e1 : L2.atI [lab, .tuple (.tuple [.tuple (s0 :: ss), W] :: S)] 1 = some (.tuple (.tuple [.tuple (s0 :: ss), W] :: S)) := rfl
  simp [m__law_step_with, runP2, runP, F__law_step_with, seqM, unpM, tupG, gsCons, gsNil, setM, retM, valM, bnd, op2, lateM, nameM, getO, toD, lift, ret, callP, consD, nilM, tupM, fitsL, ixD, PySem.sizeLine_eq, h1, h3, k0, e0, e1]
theorem window_with (lab s w0 w1 v : D) (S : List D) (h : S.length ≤ 100) : m__law_window_with [.tuple [lab, .tuple (.tuple [s, .tuple [w0, w1]] :: S)], .int 0, .int 1, v] = some (.tuple [lab, .tuple (.tuple [s, .tuple [w0, v]] :: S)]) := by
  have h1 : m__law_item [.tuple [w0, w1], .int 1, v] = some (.tuple [w0, v]) := by rfl
  have h3 := item0 (.tuple [s, .tuple [w0, w1]]) (.tuple [s, .tuple [w0, v]]) S (by omega)
  have k0 := at0 (.tuple [s, .tuple [w0, w1]]) S
  have e0 : L2.atI [lab, .tuple (.tuple [s, .tuple [w0, w1]] :: S)] 0 = some lab := rfl
  have e1 : L2.atI [lab, .tuple (.tuple [s, .tuple [w0, w1]] :: S)] 1 = some (.tuple (.tuple [s, .tuple [w0, w1]] :: S)) := rfl
  simp [m__law_window_with, runP2, runP, F__law_window_with, seqM, unpM, tupG, gsCons, gsNil, setM, retM, valM, bnd, op2, lateM, nameM, getO, toD, lift, ret, callP, consD, nilM, tupM, fitsL, ixD, PySem.sizeLine_eq, h1, h3, k0, e0, e1]
/-- a task, seen from its first step -/
def tkOf (ms as ss ws S : List D) (u v c d e s0 : D) : D := .tuple [.tuple [.tuple ms, .tuple [.tuple [.tuple as, u, v]], c, d, e], .tuple (.tuple [.tuple (s0 :: ss), .tuple ws] :: S)]
section
variable {x : Shp} {ms as ss ws S : List D} {u v c d e s0 : D} {st : DrawSt}
theorem ix0 {l m : D} : ixD (.tuple [l, m]) (.int 0) = some (.val l) := rfl
theorem ix1 {l m : D} : ixD (.tuple [l, m]) (.int 1) = some (.val m) := rfl
theorem ix51 {a b c d e : D} : ixD (.tuple [a, b, c, d, e]) (.int 1) = some (.val b) := rfl
theorem ix50 {a b c d e : D} : ixD (.tuple [a, b, c, d, e]) (.int 0) = some (.val a) := rfl
theorem ix53 {a b c d e : D} : ixD (.tuple [a, b, c, d, e]) (.int 3) = some (.val d) := rfl
theorem ixS {a : D} {as : List D} : ixD (.tuple (a :: as)) (.int 0) = some (.val a) := by
  unfold ixD
  simp only [at0]
  rfl
theorem bm7 (ht : x.t = 2) {a0 a1 : D} : m__law_bent_more [x.D, tkOf ms [a0, a1] ss ws S u v c d e s0, .int 7] st = some (.tuple [.tuple [.tuple ms, .tuple [.tuple [.tuple [a0, tup1 [1]], u, v]], c, d, e], .tuple (.tuple [.tuple (s0 :: ss), .tuple ws] :: S)], st) := by
  have sh1 : ixD x.D (.int 1) = some (.val (.int 2)) := by rw [Shp.D, ht]; rfl
  simp [tkOf, tup1, m__law_bent_more, runD2, runD, F__law_bent_more, seqM, ifM, andT, unpM, tupG, gsCons, gsNil, setM, asgM, putM, retM, valM, bnd, boolO, op2, lateM, nameM, getO, toD, lift, ret, callP, callM, lenD, consD, consO, nilM, getL, tupM, lstM, fitsL, eqD, PySem.SeqAt.shaped, PyData.canLay0, PyData.depth, PyData.eqv, sliceM, slD, intO, addD, orO, DL.opI, catT, mulD, repT, callD, hAt, PySem.sizeLine_eq, cut0, cut1, cutTo1, wash_with, step_with, window_with, item0, lab1i, lab2i, lab3i, lab4i, at0, ix0, ix1, ix50, ix51, ixS, sh1]

theorem bm6 (ht : x.t = 2) {a0 lv : D} {st' : DrawSt} (ho : m__law_of [.list [tup1 [1], tup1 [0, 1]]] st = some (lv, st')) (hl : as.length ≤ 100) : m__law_bent_more [x.D, tkOf ms (a0 :: as) ss ws S u v c d e s0, .int 6] st = some (.tuple [.tuple [.tuple ms, .tuple [.tuple [.tuple (lv :: as), u, v]], c, d, e], .tuple (.tuple [.tuple (s0 :: ss), .tuple ws] :: S)], st') := by
  have sh1 : ixD x.D (.int 1) = some (.val (.int 2)) := by rw [Shp.D, ht]; rfl
  have hz : 1 + as.length ≤ 16777216 := by omega
  simp only [tup1, List.map_cons, List.map_nil] at ho
  simp [m__law_bent_more, runD2, runD, F__law_bent_more, seqM, ifM, andT, unpM, tupG, gsCons, gsNil, setM, asgM, putM, retM, valM, bnd, boolO, op2, lateM, nameM, getO, toD, lift, ret, callP, callM, lenD, consD, consO, nilM, getL, tupM, lstM, fitsL, eqD, PySem.SeqAt.shaped, PyData.canLay0, PyData.depth, PyData.eqv, sliceM, slD, intO, addD, orO, DL.opI, catT, mulD, repT, callD, hAt, PySem.sizeLine_eq, cut0, cut1, cutTo1, wash_with, step_with, window_with, item0, lab1i, lab2i, lab3i, lab4i, tkOf, tup1, ix0, ix1, ix50, ix51, ix53, ixS, sh1, ho, hz]
theorem bm6n (ht : x.t = 1) : m__law_bent_more [x.D, tkOf ms as ss ws S u v c d e s0, .int 6] st = some (.none, st) := by
  have sh1 : ixD x.D (.int 1) = some (.val (.int 1)) := by rw [Shp.D, ht]; rfl
  simp [m__law_bent_more, runD2, runD, F__law_bent_more, seqM, ifM, andT, unpM, tupG, gsCons, gsNil, setM, asgM, putM, retM, valM, bnd, boolO, op2, lateM, nameM, getO, toD, lift, ret, callP, callM, lenD, consD, consO, nilM, getL, tupM, lstM, fitsL, eqD, PySem.SeqAt.shaped, PyData.canLay0, PyData.depth, PyData.eqv, sliceM, slD, intO, addD, orO, DL.opI, catT, mulD, repT, callD, hAt, PySem.sizeLine_eq, cut0, cut1, cutTo1, wash_with, step_with, window_with, item0, lab1i, lab2i, lab3i, lab4i, tkOf, tup1, ix0, ix1, ix50, ix51, ix53, ixS, sh1]
theorem bm7n (ht : x.t = 1) : m__law_bent_more [x.D, tkOf ms as ss ws S u v c d e s0, .int 7] st = some (.none, st) := by
  have sh1 : ixD x.D (.int 1) = some (.val (.int 1)) := by rw [Shp.D, ht]; rfl
  simp [m__law_bent_more, runD2, runD, F__law_bent_more, seqM, ifM, andT, unpM, tupG, gsCons, gsNil, setM, asgM, putM, retM, valM, bnd, boolO, op2, lateM, nameM, getO, toD, lift, ret, callP, callM, lenD, consD, consO, nilM, getL, tupM, lstM, fitsL, eqD, PySem.SeqAt.shaped, PyData.canLay0, PyData.depth, PyData.eqv, sliceM, slD, intO, addD, orO, DL.opI, catT, mulD, repT, callD, hAt, PySem.sizeLine_eq, cut0, cut1, cutTo1, wash_with, step_with, window_with, item0, lab1i, lab2i, lab3i, lab4i, tkOf, tup1, ix0, ix1, ix50, ix51, ix53, ixS, sh1]
theorem bm8 {s1 w0 w1 : D} {r : Int} {st' : DrawSt} (hd : m__law_draw [.int 3] st = some (.int r, st')) (hS : S.length ≤ 100) : m__law_bent_more [x.D, tkOf ms as [s1] [w0, w1] S u v c d e s0, .int 8] st = some (.tuple [.tuple [.tuple ms, .tuple [.tuple [.tuple as, u, v]], c, d, e], .tuple (.tuple [.tuple [s0, s1], .tuple [w0, .int (x.g + 1 + r)]] :: S)], st') := by
  have sh1 : ixD x.D (.int 7) = some (.val (.int x.g)) := by rw [Shp.D]; rfl
  simp [m__law_bent_more, runD2, runD, F__law_bent_more, seqM, ifM, andT, unpM, tupG, gsCons, gsNil, setM, asgM, putM, retM, valM, bnd, boolO, op2, lateM, nameM, getO, toD, lift, ret, callP, callM, lenD, consD, consO, nilM, getL, tupM, lstM, fitsL, eqD, PySem.SeqAt.shaped, PyData.canLay0, PyData.depth, PyData.eqv, sliceM, slD, intO, addD, orO, DL.opI, catT, mulD, repT, callD, hAt, PySem.sizeLine_eq, cut0, cut1, cutTo1, wash_with, step_with, window_with, item0, lab1i, lab2i, lab3i, lab4i, tkOf, tup1, ix0, ix1, ix50, ix51, ix53, ixS, sh1, hd, hS]
theorem bm8n : m__law_bent_more [x.D, tkOf ms as [] ws S u v c d e s0, .int 8] st = some (.none, st) := by
  simp [m__law_bent_more, runD2, runD, F__law_bent_more, seqM, ifM, andT, unpM, tupG, gsCons, gsNil, setM, asgM, putM, retM, valM, bnd, boolO, op2, lateM, nameM, getO, toD, lift, ret, callP, callM, lenD, consD, consO, nilM, getL, tupM, lstM, fitsL, eqD, PySem.SeqAt.shaped, PyData.canLay0, PyData.depth, PyData.eqv, sliceM, slD, intO, addD, orO, DL.opI, catT, mulD, repT, callD, hAt, PySem.sizeLine_eq, cut0, cut1, cutTo1, wash_with, step_with, window_with, item0, lab1i, lab2i, lab3i, lab4i, tkOf, tup1, ix0, ix1, ix50, ix51, ix53, ixS]
theorem bm9 (hf : x.f = 1) {p q z u0 v0 i j : D} {st' : DrawSt} (ho : m__law_of [.list [tup1 [1, 2], tup1 [2, 2]]] st = some (.tuple [i, j], st')) (hS : S.length ≤ 100) (hss : ss.length ≤ 100) : m__law_bent_more [x.D, tkOf ms as ss ws S u v c d e (.tuple [p, q, z, u0, v0]), .int 9] st = some (.tuple [.tuple [.tuple ms, .tuple [.tuple [.tuple as, u, v]], c, d, e], .tuple (.tuple [.tuple (.tuple [p, q, z, i, j] :: ss), .tuple ws] :: S)], st') := by
  have sh1 : ixD x.D (.int 6) = some (.val (.int 1)) := by rw [Shp.D, hf]; rfl
  have c3 : cutD [p, q, z, u0, v0] none (some 3) = [p, q, z] := rfl
  simp only [tup1, List.map_cons, List.map_nil] at ho
  simp [m__law_bent_more, runD2, runD, F__law_bent_more, seqM, ifM, andT, unpM, tupG, gsCons, gsNil, setM, asgM, putM, retM, valM, bnd, boolO, op2, lateM, nameM, getO, toD, lift, ret, callP, callM, lenD, consD, consO, nilM, getL, tupM, lstM, fitsL, eqD, PySem.SeqAt.shaped, PyData.canLay0, PyData.depth, PyData.eqv, sliceM, slD, intO, addD, orO, DL.opI, catT, mulD, repT, callD, hAt, PySem.sizeLine_eq, cut0, cut1, cutTo1, wash_with, step_with, window_with, item0, lab1i, lab2i, lab3i, lab4i, tkOf, tup1, ix0, ix1, ix50, ix51, ix53, ixS, sh1, ho, hS, hss, c3]
theorem bm9n (hf : x.f = 2) : m__law_bent_more [x.D, tkOf ms as ss ws S u v c d e s0, .int 9] st = some (.none, st) := by
  have sh1 : ixD x.D (.int 6) = some (.val (.int 2)) := by rw [Shp.D, hf]; rfl
  simp [m__law_bent_more, runD2, runD, F__law_bent_more, seqM, ifM, andT, unpM, tupG, gsCons, gsNil, setM, asgM, putM, retM, valM, bnd, boolO, op2, lateM, nameM, getO, toD, lift, ret, callP, callM, lenD, consD, consO, nilM, getL, tupM, lstM, fitsL, eqD, PySem.SeqAt.shaped, PyData.canLay0, PyData.depth, PyData.eqv, sliceM, slD, intO, addD, orO, DL.opI, catT, mulD, repT, callD, hAt, PySem.sizeLine_eq, cut0, cut1, cutTo1, wash_with, step_with, window_with, item0, lab1i, lab2i, lab3i, lab4i, tkOf, tup1, ix0, ix1, ix50, ix51, ix53, ixS, sh1]
theorem bm10 (hS : S.length ≤ 100) (hss : ss.length ≤ 100) (hws : ws.length ≤ 100) : m__law_bent_more [x.D, tkOf ms as ss ws S u v c d e s0, .int 10] st = some (.tuple [.tuple [.tuple ms, .tuple [.tuple [.tuple as, u, v]], c, d, e], .tuple (.tuple [.tuple (s0 :: (ss ++ [s0])), .tuple (ws ++ [.none])] :: S)], st) := by
  have z1 : ss.length + 1 + 1 ≤ 16777216 := by omega
  have z2 : ws.length + 1 ≤ 16777216 := by omega
  have z3 : S.length ≤ 1000 := by omega
  simp [m__law_bent_more, runD2, runD, F__law_bent_more, seqM, ifM, andT, unpM, tupG, gsCons, gsNil, setM, asgM, putM, retM, valM, bnd, boolO, op2, lateM, nameM, getO, toD, lift, ret, callP, callM, lenD, consD, consO, nilM, getL, tupM, lstM, fitsL, eqD, PySem.SeqAt.shaped, PyData.canLay0, PyData.depth, PyData.eqv, sliceM, slD, intO, addD, orO, DL.opI, catT, mulD, repT, callD, hAt, PySem.sizeLine_eq, cut0, cut1, cutTo1, wash_with, step_with, window_with, item0, lab1i, lab2i, lab3i, lab4i, tkOf, tup1, ix0, ix1, ix50, ix51, ix53, ixS, hS, z1, z2, z3]
theorem bm11a (hs : x.s = 1) (hms : ms.length ≤ 100) (has : as.length ≤ 100) : m__law_bent_more [x.D, tkOf ms as ss ws S u v c d e s0, .int 11] st = some (.tuple [.tuple [.tuple (ms ++ [.tuple [.none]]), .tuple [.tuple [.tuple (as ++ [tup1 [0]]), u, v]], c, d, e], .tuple (.tuple [.tuple (s0 :: ss), .tuple ws] :: S)], st) := by
  have sh0 : ixD x.D (.int 0) = some (.val (.int 1)) := by rw [Shp.D, hs]; rfl
  have z1 : ms.length + 1 ≤ 16777216 := by omega
  have z2 : as.length + 1 ≤ 16777216 := by omega
  have r1 : mulD (.tuple [.none]) (.int 1) = some (.val (.tuple [.none])) := by rfl
  have c2 : cutD [.tuple ms, .tuple [.tuple [.tuple as, u, v]], c, d, e] (some 2) none = [c, d, e] := rfl
  simp [m__law_bent_more, runD2, runD, F__law_bent_more, seqM, ifM, andT, unpM, tupG, gsCons, gsNil, setM, asgM, putM, retM, valM, bnd, boolO, op2, lateM, nameM, getO, toD, lift, ret, callP, callM, lenD, consD, consO, nilM, getL, tupM, lstM, fitsL, eqD, PySem.SeqAt.shaped, PyData.canLay0, PyData.depth, PyData.eqv, sliceM, slD, intO, addD, orO, DL.opI, catT, callD, hAt, PySem.sizeLine_eq, cut0, cut1, cutTo1, wash_with, step_with, window_with, item0, lab1i, lab2i, lab3i, lab4i, tkOf, tup1, ix0, ix1, ix50, ix51, ix53, ixS, sh0, z1, z2, r1, c2]
theorem bm11b (hs : x.s = 2) (hms : ms.length ≤ 100) (has : as.length ≤ 100) : m__law_bent_more [x.D, tkOf ms as ss ws S u v c d e s0, .int 11] st = some (.tuple [.tuple [.tuple (ms ++ [.tuple [.none, .none]]), .tuple [.tuple [.tuple (as ++ [tup1 [0]]), u, v]], c, d, e], .tuple (.tuple [.tuple (s0 :: ss), .tuple ws] :: S)], st) := by
  have sh0 : ixD x.D (.int 0) = some (.val (.int 2)) := by rw [Shp.D, hs]; rfl
  have z1 : ms.length + 1 ≤ 16777216 := by omega
  have z2 : as.length + 1 ≤ 16777216 := by omega
  have r1 : mulD (.tuple [.none]) (.int 2) = some (.val (.tuple [.none, .none])) := by rfl
  have c2 : cutD [.tuple ms, .tuple [.tuple [.tuple as, u, v]], c, d, e] (some 2) none = [c, d, e] := rfl
  simp [m__law_bent_more, runD2, runD, F__law_bent_more, seqM, ifM, andT, unpM, tupG, gsCons, gsNil, setM, asgM, putM, retM, valM, bnd, boolO, op2, lateM, nameM, getO, toD, lift, ret, callP, callM, lenD, consD, consO, nilM, getL, tupM, lstM, fitsL, eqD, PySem.SeqAt.shaped, PyData.canLay0, PyData.depth, PyData.eqv, sliceM, slD, intO, addD, orO, DL.opI, catT, callD, hAt, PySem.sizeLine_eq, cut0, cut1, cutTo1, wash_with, step_with, window_with, item0, lab1i, lab2i, lab3i, lab4i, tkOf, tup1, ix0, ix1, ix50, ix51, ix53, ixS, sh0, z1, z2, r1, c2]
theorem bm12 (hc : x.c = 1) : m__law_bent_more [x.D, tkOf ms as ss ws S u v c d e s0, .int 12] st = some (.tuple [.tuple [.tuple ms, .tuple [.tuple [.tuple as, u, v]], .int 2, d, e], .tuple (.tuple [.tuple (s0 :: ss), .tuple ws] :: S)], st) := by
  have sh2 : ixD x.D (.int 2) = some (.val (.int 1)) := by rw [Shp.D, hc]; rfl
  simp [m__law_bent_more, runD2, runD, F__law_bent_more, seqM, ifM, andT, unpM, tupG, gsCons, gsNil, setM, asgM, putM, retM, valM, bnd, boolO, op2, lateM, nameM, getO, toD, lift, ret, callP, callM, lenD, consD, consO, nilM, getL, tupM, lstM, fitsL, eqD, PySem.SeqAt.shaped, PyData.canLay0, PyData.depth, PyData.eqv, sliceM, slD, intO, addD, orO, DL.opI, catT, mulD, repT, callD, hAt, PySem.sizeLine_eq, cut0, cut1, cutTo1, wash_with, step_with, window_with, item0, lab1i, lab2i, lab3i, lab4i, tkOf, tup1, ix0, ix1, ix50, ix51, ix53, ixS, sh2]
theorem bm12n (hc : x.c = 2) : m__law_bent_more [x.D, tkOf ms as ss ws S u v c d e s0, .int 12] st = some (.none, st) := by
  have sh2 : ixD x.D (.int 2) = some (.val (.int 2)) := by rw [Shp.D, hc]; rfl
  simp [m__law_bent_more, runD2, runD, F__law_bent_more, seqM, ifM, andT, unpM, tupG, gsCons, gsNil, setM, asgM, putM, retM, valM, bnd, boolO, op2, lateM, nameM, getO, toD, lift, ret, callP, callM, lenD, consD, consO, nilM, getL, tupM, lstM, fitsL, eqD, PySem.SeqAt.shaped, PyData.canLay0, PyData.depth, PyData.eqv, sliceM, slD, intO, addD, orO, DL.opI, catT, mulD, repT, callD, hAt, PySem.sizeLine_eq, cut0, cut1, cutTo1, wash_with, step_with, window_with, item0, lab1i, lab2i, lab3i, lab4i, tkOf, tup1, ix0, ix1, ix50, ix51, ix53, ixS, sh2]

/-- the six plain ways to bend -/
def bentT (r : Int) (ms ss ws S : List D) (w c e p q z u0 v0 : D) (d : Int) : D :=
  if r = 0 then .tuple [.tuple [.tuple ms, .tuple [w], c, .int (3 - d), e], .tuple (.tuple [.tuple (.tuple [p, q, z, u0, v0] :: ss), .tuple ws] :: S)]
  else if r = 1 then .tuple [.tuple [.tuple ms, .tuple [w], c, .int d, e], .tuple (.tuple [.tuple (.tuple [p, q, z, .int 1, .int 3] :: ss), .tuple ws] :: S)]
  else if r = 2 then .tuple [.tuple [.tuple ms, .tuple [], c, .int d, e], .tuple (.tuple [.tuple (.tuple [p, q, z, u0, v0] :: ss), .tuple ws] :: S)]
  else if r = 3 then .tuple [.tuple [.tuple ms, .tuple [w], c, .int d, e], .tuple (.tuple [.tuple (.tuple [p, q, z, u0, v0] :: ss), .tuple ws] :: (S ++ [.tuple [.tuple [], .tuple []]]))]
  else if r = 4 then .tuple [.tuple [.tuple ms, .tuple [w], c, .int d, .int 2], .tuple (.tuple [.tuple (.tuple [p, q, z, u0, v0] :: ss), .tuple ws] :: S)]
  else .tuple [.tuple [.tuple ms, .tuple [w, w], c, .int d, e], .tuple (.tuple [.tuple (.tuple [p, q, z, u0, v0] :: ss), .tuple ws] :: S)]
theorem six {r : Int} (h0 : 0 ≤ r) (h1 : r < 6) : r = 0 ∨ r = 1 ∨ r = 2 ∨ r = 3 ∨ r = 4 ∨ r = 5 := by omega
theorem bent_low {p q z u0 v0 : D} {dd r : Int} {st1 : DrawSt} (hd : m__law_draw [.int 13] st = some (.int r, st1)) (h0 : 0 ≤ r) (h1 : r < 6) (hS : S.length ≤ 100) (hss : ss.length ≤ 100) :
    m__law_bent [x.D, tkOf ms as ss ws S u v c (.int dd) e (.tuple [p, q, z, u0, v0])] st = some (bentT r ms ss ws S (.tuple [.tuple as, u, v]) c e p q z u0 v0 dd, st1) := by
  have c3 : cutD [p, q, z, u0, v0] none (some 3) = [p, q, z] := rfl
  have z3 : S.length + 1 + 1 ≤ 16777216 := by omega
  rcases six h0 h1 with rfl | rfl | rfl | rfl | rfl | rfl <;> simp [bentT, m__law_bent, runD2, runD, F__law_bent, seqM, ifM, andT, unpM, tupG, gsCons, gsNil, setM, asgM, putM, retM, valM, bnd, boolO, op2, lateM, nameM, getO, toD, lift, ret, callP, callM, lenD, consD, consO, consN, parM, fixM, setsM, nilM, getL, tupM, lstM, fitsL, eqD, gtD, subD, isNotD, isNoneB, PySem.SeqAt.shaped, PyData.canLay0, PyData.depth, PyData.eqv, sliceM, slD, intO, addD, orO, DL.opI, catT, callD, hAt, PySem.sizeLine_eq, arms_ok, step_with, item0, lab1i, lab2i, lab3i, lab4i, tkOf, ix0, ix1, ix50, ix51, ix53, ixS, hd, hS, hss, c3, z3]
theorem bent_none {p q z u0 v0 : D} {dd r r2 : Int} {st1 st2 st3 : DrawSt} (hd : m__law_draw [.int 13] st = some (.int r, st1)) (h0 : 5 < r) (hm : m__law_bent_more [x.D, tkOf ms as ss ws S u v c (.int dd) e (.tuple [p, q, z, u0, v0]), .int r] st1 = some (.none, st2))
    (hd2 : m__law_draw [.int 6] st2 = some (.int r2, st3)) (h2 : 0 ≤ r2) (h3 : r2 < 6) (hS : S.length ≤ 100) (hss : ss.length ≤ 100) :
    m__law_bent [x.D, tkOf ms as ss ws S u v c (.int dd) e (.tuple [p, q, z, u0, v0])] st = some (bentT r2 ms ss ws S (.tuple [.tuple as, u, v]) c e p q z u0 v0 dd, st3) := by
  have c3 : cutD [p, q, z, u0, v0] none (some 3) = [p, q, z] := rfl
  have z3 : S.length + 1 + 1 ≤ 16777216 := by omega
  unfold tkOf at hm
  rcases six h2 h3 with rfl | rfl | rfl | rfl | rfl | rfl <;> simp [bentT, m__law_bent, runD2, runD, F__law_bent, seqM, ifM, andT, unpM, tupG, gsCons, gsNil, setM, asgM, putM, retM, valM, bnd, boolO, op2, lateM, nameM, getO, toD, lift, ret, callP, callM, lenD, consD, consO, consN, parM, fixM, setsM, nilM, getL, tupM, lstM, fitsL, eqD, gtD, subD, isNotD, isNoneB, PySem.SeqAt.shaped, PyData.canLay0, PyData.depth, PyData.eqv, sliceM, slD, intO, addD, orO, DL.opI, catT, callD, hAt, PySem.sizeLine_eq, arms_ok, step_with, item0, lab1i, lab2i, lab3i, lab4i, tkOf, ix0, ix1, ix50, ix51, ix53, ixS, hd, hd2, hm, h0, hS, hss, c3, z3]
theorem bent_more {s0' : D} {r : Int} {b : List D} {st1 st2 : DrawSt} (hd : m__law_draw [.int 13] st = some (.int r, st1)) (h0 : 5 < r) (hm : m__law_bent_more [x.D, tkOf ms as ss ws S u v c d e s0', .int r] st1 = some (.tuple b, st2)) :
    m__law_bent [x.D, tkOf ms as ss ws S u v c d e s0'] st = some (.tuple b, st2) := by
  unfold tkOf at hm
  simp [m__law_bent, runD2, runD, F__law_bent, seqM, ifM, andT, unpM, tupG, gsCons, gsNil, setM, asgM, putM, retM, valM, bnd, boolO, op2, lateM, nameM, getO, toD, lift, ret, callP, callM, lenD, consD, consO, consN, parM, fixM, setsM, nilM, getL, tupM, lstM, fitsL, eqD, gtD, subD, isNotD, isNoneB, PySem.SeqAt.shaped, PyData.canLay0, PyData.depth, PyData.eqv, sliceM, slD, intO, addD, orO, DL.opI, catT, callD, hAt, PySem.sizeLine_eq, arms_ok, step_with, item0, lab1i, lab2i, lab3i, lab4i, tkOf, ix0, ix1, ix50, ix51, ix53, ixS, hd, hm, h0]
end
end LW
end

section
set_option Elab.async false
set_option linter.all false
set_option maxRecDepth 100000
set_option maxHeartbeats 999999
set_option exponentiation.threshold 5001
open DL
open PySem (PyData Str)
namespace LW
/-! ### a pick that is in no row -/
theorem stepBad {sh tk : D} {n : Int} {r : List D} {p : D} (h : Row r) (hs : PySem.SeqAt.shaped p = true) (hp : (r.any fun z => PyData.eqv z p) = false) : bodyN (envN sh tk n (some (.d (.list r))) (some (.d p))) = some (.rt .none, envN sh tk n (some (.d (.list r))) (some (.d p))) := by
  have a6 : inT true p (.list r) = none := rfl
  have a7 : notInD p (.list r) = some (.val (.bool true)) := by
    unfold notInD orO
    rw [a6]
    simp [inL, h.sh, hs, hp]
  simp [bodyN, envN, seqM, ifM, asgM, retM, bnd, boolO, valM, op2, lateM, nameM, getO, lift, ret, toD, a7]
theorem stepIn {sh tk : D} {n : Int} {r : List D} {p : D} (h : Row r) (hs : PySem.SeqAt.shaped p = true) (hp : (r.any fun z => PyData.eqv z p) = true) (hn : n.natAbs < 2 ^ 3000) : ∃ j : Nat, j < r.length ∧ bodyN (envN sh tk n (some (.d (.list r))) (some (.d p))) = some (.nx, envN sh tk (n * (r.length : Int) + (j : Int)) (some (.d (.list r))) (some (.d p))) := by
  cases e : (r.findIdx? fun z => PyData.eqv z p) with
  | none =>
    rw [List.findIdx?_eq_none_iff] at e
    obtain ⟨z, hz, hq⟩ := List.any_eq_true.mp hp
    rw [e z hz] at hq
    cases hq
  | some j =>
    have hj : j < r.length := (List.findIdx?_eq_some_iff_getElem.mp e).1
    have a5 : mulOk n (r.length : Int) = true := mulOk_of (le_pow hn (by decide)) (by have := h.few; omega)
    have a6 : inT true p (.list r) = none := rfl
    have a7 : notInD p (.list r) = some (.val (.bool false)) := by
      unfold notInD orO
      rw [a6]
      simp [inL, h.sh, hs, hp]
    have a8 : idxD (.list r) p = some (j : Int) := by
      simp [idxD, e, h.sh, hs]
    refine ⟨j, hj, ?_⟩
    simp [bodyN, envN, seqM, ifM, asgM, bnd, boolO, valM, op2, lateM, nameM, getO, lift, ret, callM, lenD, consO, nilM, getL, toD, DL.opI, addD, mulD, orO, indexM, isL, putM, setM, a5, a7, a8]
/-- some pick is in no row of its place -/
def BadAt : List (List D) → List D → Prop
  | r :: rs, p :: ps => (r.any fun z => PyData.eqv z p) = false ∨ BadAt rs ps
  | _, _ => False
theorem loopBad {sh tk : D} : ∀ (R : List (List D)) (P : List D) (n : Int) (k : Nat) (w3 w4 : Option Sl), (∀ r ∈ R, Row r) → (∀ p ∈ P, PySem.SeqAt.shaped p = true) → BadAt R P → n.natAbs < 2 ^ k → k + 5 * R.length ≤ 3000 →
    ∃ s', DL.forM tgN bodyN (zipL (R.map .list) P) (envN sh tk n w3 w4) = some (.rt .none, s')
  | [], P, n, k, w3, w4, _, _, h, _, _ => h.elim
  | _ :: _, [], n, k, w3, w4, _, _, h, _, _ => h.elim
  | r :: rs, p :: ps, n, k, w3, w4, hR, hP, hb, hn, hk => by
    rw [List.length_cons] at hk
    have hr := hR r (by simp)
    have hs := hP p (by simp)
    have e0 : tgN (.tuple [.list r, p]) (envN sh tk n w3 w4) = some ((), envN sh tk n (some (.d (.list r))) (some (.d p))) := rfl
    rw [List.map_cons]
    unfold zipL DL.forM
    cases q : (r.any fun z => PyData.eqv z p) with
    | false =>
      simp only [bnd, e0, stepBad hr hs q]
      exact ⟨_, rfl⟩
    | true =>
      have hb' : BadAt rs ps := by
        rcases hb with z | z
        · rw [q] at z; cases z
        · exact z
      obtain ⟨j, hj, e1⟩ := stepIn (sh := sh) (tk := tk) hr hs q (le_pow hn (by omega))
      have h4 : ((r.length : Nat) : Int).natAbs < 2 ^ 4 := by have := hr.few; omega
      have h5 := lt_mul hn h4 (Nat.le_refl _)
      have h6 : (n * (r.length : Int) + (j : Int)).natAbs < 2 ^ (k + 5) := by
        have h7 : 2 ^ (k + 5) = 2 ^ (k + 4) + 2 ^ (k + 4) := by rw [show k + 5 = (k + 4) + 1 from rfl, Nat.pow_succ]; omega
        have h8 : 2 ^ 4 ≤ 2 ^ (k + 4) := Nat.pow_le_pow_right (by decide) (by omega)
        have := hr.few
        omega
      obtain ⟨s', e2⟩ := loopBad (sh := sh) (tk := tk) rs ps (n * (r.length : Int) + (j : Int)) (k + 5) (some (.d (.list r))) (some (.d p)) (fun z hz => hR z (by simp [hz])) (fun z hz => hP z (by simp [hz])) hb' h6 (by omega)
      simp only [bnd, e0, e1]
      exact ⟨s', e2⟩
theorem bad_number {x : Shp} (h : x.Ok) {tk : D} {P : List D} (hs : m_has_sizes [x.D, tk] = some (.bool true)) (hp : m_picks_of [x.D, tk] = some (.list P)) (hsh : ∀ p ∈ P, PySem.SeqAt.shaped p = true) (hb : BadAt (rows x) P) : m_free_number [x.D, tk] = some .none := by
  obtain ⟨s', e⟩ := loopBad (sh := x.D) (tk := tk) (rows x) P 0 1 none none (all_rows h) hsh hb (by decide) (by have := rows_few h; omega)
  have hF : F_free_number = seqM (ifM (notT (bnd (callP m_has_sizes (consD (nameM 0) (consD (nameM 1) nilM))) boolO)) (retM (ret (.val PyData.none))) (ret .nx)) (seqM (asgM 2 (ret (.val (PyData.int 0)))) (seqM (loopM (zipM (consD (callP m_choices_of (consD (nameM 0) nilM)) (consD (callP m_picks_of (consD (nameM 0) (consD (nameM 1) nilM))) nilM))) tgN bodyN) (retM (nameM 2)))) := rfl
  have e1 : zipM (consD (callP m_choices_of (consD (nameM 0) nilM)) (consD (callP m_picks_of (consD (nameM 0) (consD (nameM 1) nilM))) nilM)) (envN x.D tk 0 none none) = some (zipL ((rows x).map .list) P, envN x.D tk 0 none none) := by
    simp [zipM, zipD, callP, consD, nilM, nameM, bnd, valM, toD, ret, lift, getO, envN, choices_ok h, hp]
  have e4 : ifM (notT (bnd (callP m_has_sizes (consD (nameM 0) (consD (nameM 1) nilM))) boolO)) (retM (ret (.val PyData.none))) (ret .nx) (⟨[some (.d x.D), some (.d tk), none, none, none], ()⟩ : Stt Unit) = some (.nx, ⟨[some (.d x.D), some (.d tk), none, none, none], ()⟩) := by
    simp [ifM, notT, callP, consD, nilM, nameM, bnd, valM, toD, ret, lift, getO, boolO, hs]
  have e2 : F_free_number (⟨[some (.d x.D), some (.d tk), none, none, none], ()⟩ : Stt Unit) = some (.rt .none, s') := by
    rw [hF]
    have e3 : asgM 2 (ret (.val (PyData.int 0))) (⟨[some (.d x.D), some (.d tk), none, none, none], ()⟩ : Stt Unit) = some (.nx, envN x.D tk 0 none none) := rfl
    simp only [seqM, bnd, e4, e3, loopM, e1, e]
    rfl
  unfold m_free_number runP2
  rw [if_pos (show [x.D, tk].length = 2 from rfl)]
  unfold runP
  simp only [List.map_cons, List.map_nil, List.length_cons, List.length_nil, List.replicate, List.cons_append, List.nil_append]
  rw [e2]
end LW
end

section
set_option Elab.async false
set_option linter.all false
set_option maxRecDepth 100000
set_option maxHeartbeats 999999
set_option exponentiation.threshold 5001
open DL
open PySem (PyData Str)
namespace LW
/-! ### sizes that differ -/
theorem eqvAll_len : ∀ (a b : List D), PyData.eqvAll a b = true → a.length = b.length
  | [], [], _ => rfl
  | x :: a, y :: b, h => by
    unfold PyData.eqvAll at h
    rw [List.length_cons, List.length_cons, eqvAll_len a b (Bool.and_eq_true_iff.mp h).2]
  | [], _ :: _, h => by cases h
  | _ :: _, [], h => by cases h
def smp (a b : List D) : D := .tuple [.tuple a, .tuple b]
def sizesOf (r0 mr : List D) (c d e : Int) (zs : List Int) : D := .tuple [.int (r0.length : Nat), .int ((mr.length : Int) + 1), .int c, .int d, .int e, .tuple (zs.map .int)]
def shp6 (x : Shp) : D := .tuple [.int x.s, .int x.t, .int x.c, .int x.d, .int x.e, .tuple (x.z.map .int)]
theorem cut6 (x : Shp) : slD x.D none (some 6) = some (.val (shp6 x)) := by rfl
theorem hsz1 {x : Shp} {r0 mr W a1 b1 : List D} {c d e : Int} (hz : PySem.SeqAt.shaped (sizesOf r0 mr c d e [(a1.length : Nat)]) = true) (hx : PySem.SeqAt.shaped (shp6 x) = true) (hq : PyData.eqv (sizesOf r0 mr c d e [(a1.length : Nat)]) (shp6 x) = false) : m_has_sizes [x.D, .tuple [.tuple [.tuple (.tuple r0 :: mr), .tuple W, .int c, .int d, .int e], .tuple [smp a1 b1]]] = some (.bool false) := by
  unfold sizesOf at hz hq
  simp only [List.map_cons, List.map_nil] at hz hq
  have c6 := cut6 x
  simp [m_has_sizes, runP2, runP, F_has_sizes, smp, seqM, ifM, andV, andT, unpM, tupG, gsCons, gsNil, setM, asgM, putM, retM, valM, bnd, boolO, op2, lateM, nameM, getO, toD, lift, ret, callP, callM, lenD, tupleD, consD, consO, nilM, getL, tupM, lstM, fitsL, eqD, sliceM, intO, lcM, lcLoop, turnM, iterM, seqO, wipeE, restE, keepD, PySem.sizeLine_eq, ix0, ix1, ixS, c6, hz, hx, hq]
theorem hszW1 {x : Shp} {r0 mr W a1 b1 : List D} {c d e : Int} (hz : PySem.SeqAt.shaped (sizesOf r0 mr c d e [(a1.length : Nat)]) = true) (hx : PySem.SeqAt.shaped (shp6 x) = true) (hW : W.length ≠ 1) : m_has_sizes [x.D, .tuple [.tuple [.tuple (.tuple r0 :: mr), .tuple W, .int c, .int d, .int e], .tuple [smp a1 b1]]] = some (.bool false) := by
  unfold sizesOf at hz
  simp only [List.map_cons, List.map_nil] at hz
  have c6 := cut6 x
  have hw : PyData.eqv (.int (W.length : Nat)) (.int 1) = false := by
    show (((W.length : Nat) : Int) == 1) = false
    exact beq_eq_false_iff_ne.mpr (by omega)
  have s1 : PySem.SeqAt.shaped (.int (W.length : Nat)) = true := rfl
  have s2 : PySem.SeqAt.shaped (.int 1) = true := rfl
  cases hq : PyData.eqv (.tuple [.int (r0.length : Nat), .int ((mr.length : Nat) + 1), .int c, .int d, .int e, .tuple [.int (a1.length : Nat)]]) (shp6 x) <;>
    simp [m_has_sizes, runP2, runP, F_has_sizes, smp, seqM, ifM, andV, andT, unpM, tupG, gsCons, gsNil, setM, asgM, putM, retM, valM, bnd, boolO, op2, lateM, nameM, getO, toD, lift, ret, callP, callM, lenD, tupleD, consD, consO, nilM, getL, tupM, lstM, fitsL, eqD, sliceM, intO, lcM, lcLoop, turnM, iterM, seqO, wipeE, restE, keepD, PySem.sizeLine_eq, ix0, ix1, ixS, c6, hz, hx, hq, hw, s1, s2]
theorem hszL1 {x : Shp} {r0 mr W a1 b1 : List D} {c d e : Int} (hz : PySem.SeqAt.shaped (sizesOf r0 mr c d e [(a1.length : Nat)]) = true) (hx : PySem.SeqAt.shaped (shp6 x) = true) {l0 u v : D} {lr : List D} (hl : PyData.eqv l0 (tup1 [0]) = false) (sl : PySem.SeqAt.shaped l0 = true) : m_has_sizes [x.D, .tuple [.tuple [.tuple (.tuple r0 :: mr), .tuple [.tuple [.tuple (l0 :: lr), u, v]], .int c, .int d, .int e], .tuple [smp a1 b1]]] = some (.bool false) := by
  unfold sizesOf at hz
  simp only [List.map_cons, List.map_nil] at hz
  have c6 := cut6 x
  have s1 : PySem.SeqAt.shaped (.int 1) = true := rfl
  have s2 : PySem.SeqAt.shaped (.tuple [.int 0]) = true := rfl
  have s3 : PyData.eqv (.int 1) (.int 1) = true := rfl
  have hl' : PyData.eqv l0 (.tuple [.int 0]) = false := hl
  cases hq : PyData.eqv (.tuple [.int (r0.length : Nat), .int ((mr.length : Nat) + 1), .int c, .int d, .int e, .tuple [.int (a1.length : Nat)]]) (shp6 x) <;>
    simp [m_has_sizes, runP2, runP, F_has_sizes, smp, seqM, ifM, andV, andT, unpM, tupG, gsCons, gsNil, setM, asgM, putM, retM, valM, bnd, boolO, op2, lateM, nameM, getO, toD, lift, ret, callP, callM, lenD, tupleD, consD, consO, nilM, getL, tupM, lstM, fitsL, eqD, sliceM, intO, lcM, lcLoop, turnM, iterM, seqO, wipeE, restE, keepD, PySem.sizeLine_eq, ix0, ix1, ixS, c6, hz, hx, hq, hl', sl, s1, s2, s3]
theorem hsz2 {x : Shp} {r0 mr W a1 b1 a2 b2 : List D} {c d e : Int} (hz : PySem.SeqAt.shaped (sizesOf r0 mr c d e [(a1.length : Nat), (a2.length : Nat)]) = true) (hx : PySem.SeqAt.shaped (shp6 x) = true) (hq : PyData.eqv (sizesOf r0 mr c d e [(a1.length : Nat), (a2.length : Nat)]) (shp6 x) = false) : m_has_sizes [x.D, .tuple [.tuple [.tuple (.tuple r0 :: mr), .tuple W, .int c, .int d, .int e], .tuple [smp a1 b1, smp a2 b2]]] = some (.bool false) := by
  unfold sizesOf at hz hq
  simp only [List.map_cons, List.map_nil] at hz hq
  have c6 := cut6 x
  simp [m_has_sizes, runP2, runP, F_has_sizes, smp, seqM, ifM, andV, andT, unpM, tupG, gsCons, gsNil, setM, asgM, putM, retM, valM, bnd, boolO, op2, lateM, nameM, getO, toD, lift, ret, callP, callM, lenD, tupleD, consD, consO, nilM, getL, tupM, lstM, fitsL, eqD, sliceM, intO, lcM, lcLoop, turnM, iterM, seqO, wipeE, restE, keepD, PySem.sizeLine_eq, ix0, ix1, ixS, c6, hz, hx, hq]
theorem hszW2 {x : Shp} {r0 mr W a1 b1 a2 b2 : List D} {c d e : Int} (hz : PySem.SeqAt.shaped (sizesOf r0 mr c d e [(a1.length : Nat), (a2.length : Nat)]) = true) (hx : PySem.SeqAt.shaped (shp6 x) = true) (hW : W.length ≠ 1) : m_has_sizes [x.D, .tuple [.tuple [.tuple (.tuple r0 :: mr), .tuple W, .int c, .int d, .int e], .tuple [smp a1 b1, smp a2 b2]]] = some (.bool false) := by
  unfold sizesOf at hz
  simp only [List.map_cons, List.map_nil] at hz
  have c6 := cut6 x
  have hw : PyData.eqv (.int (W.length : Nat)) (.int 1) = false := by
    show (((W.length : Nat) : Int) == 1) = false
    exact beq_eq_false_iff_ne.mpr (by omega)
  have s1 : PySem.SeqAt.shaped (.int (W.length : Nat)) = true := rfl
  have s2 : PySem.SeqAt.shaped (.int 1) = true := rfl
  cases hq : PyData.eqv (.tuple [.int (r0.length : Nat), .int ((mr.length : Nat) + 1), .int c, .int d, .int e, .tuple [.int (a1.length : Nat), .int (a2.length : Nat)]]) (shp6 x) <;>
    simp [m_has_sizes, runP2, runP, F_has_sizes, smp, seqM, ifM, andV, andT, unpM, tupG, gsCons, gsNil, setM, asgM, putM, retM, valM, bnd, boolO, op2, lateM, nameM, getO, toD, lift, ret, callP, callM, lenD, tupleD, consD, consO, nilM, getL, tupM, lstM, fitsL, eqD, sliceM, intO, lcM, lcLoop, turnM, iterM, seqO, wipeE, restE, keepD, PySem.sizeLine_eq, ix0, ix1, ixS, c6, hz, hx, hq, hw, s1, s2]
theorem hszL2 {x : Shp} {r0 mr W a1 b1 a2 b2 : List D} {c d e : Int} (hz : PySem.SeqAt.shaped (sizesOf r0 mr c d e [(a1.length : Nat), (a2.length : Nat)]) = true) (hx : PySem.SeqAt.shaped (shp6 x) = true) {l0 u v : D} {lr : List D} (hl : PyData.eqv l0 (tup1 [0]) = false) (sl : PySem.SeqAt.shaped l0 = true) : m_has_sizes [x.D, .tuple [.tuple [.tuple (.tuple r0 :: mr), .tuple [.tuple [.tuple (l0 :: lr), u, v]], .int c, .int d, .int e], .tuple [smp a1 b1, smp a2 b2]]] = some (.bool false) := by
  unfold sizesOf at hz
  simp only [List.map_cons, List.map_nil] at hz
  have c6 := cut6 x
  have s1 : PySem.SeqAt.shaped (.int 1) = true := rfl
  have s2 : PySem.SeqAt.shaped (.tuple [.int 0]) = true := rfl
  have s3 : PyData.eqv (.int 1) (.int 1) = true := rfl
  have hl' : PyData.eqv l0 (.tuple [.int 0]) = false := hl
  cases hq : PyData.eqv (.tuple [.int (r0.length : Nat), .int ((mr.length : Nat) + 1), .int c, .int d, .int e, .tuple [.int (a1.length : Nat), .int (a2.length : Nat)]]) (shp6 x) <;>
    simp [m_has_sizes, runP2, runP, F_has_sizes, smp, seqM, ifM, andV, andT, unpM, tupG, gsCons, gsNil, setM, asgM, putM, retM, valM, bnd, boolO, op2, lateM, nameM, getO, toD, lift, ret, callP, callM, lenD, tupleD, consD, consO, nilM, getL, tupM, lstM, fitsL, eqD, sliceM, intO, lcM, lcLoop, turnM, iterM, seqO, wipeE, restE, keepD, PySem.sizeLine_eq, ix0, ix1, ixS, c6, hz, hx, hq, hl', sl, s1, s2, s3]
theorem hsz3 {x : Shp} {r0 mr W a1 b1 a2 b2 a3 b3 : List D} {c d e : Int} (hz : PySem.SeqAt.shaped (sizesOf r0 mr c d e [(a1.length : Nat), (a2.length : Nat), (a3.length : Nat)]) = true) (hx : PySem.SeqAt.shaped (shp6 x) = true) (hq : PyData.eqv (sizesOf r0 mr c d e [(a1.length : Nat), (a2.length : Nat), (a3.length : Nat)]) (shp6 x) = false) : m_has_sizes [x.D, .tuple [.tuple [.tuple (.tuple r0 :: mr), .tuple W, .int c, .int d, .int e], .tuple [smp a1 b1, smp a2 b2, smp a3 b3]]] = some (.bool false) := by
  unfold sizesOf at hz hq
  simp only [List.map_cons, List.map_nil] at hz hq
  have c6 := cut6 x
  simp [m_has_sizes, runP2, runP, F_has_sizes, smp, seqM, ifM, andV, andT, unpM, tupG, gsCons, gsNil, setM, asgM, putM, retM, valM, bnd, boolO, op2, lateM, nameM, getO, toD, lift, ret, callP, callM, lenD, tupleD, consD, consO, nilM, getL, tupM, lstM, fitsL, eqD, sliceM, intO, lcM, lcLoop, turnM, iterM, seqO, wipeE, restE, keepD, PySem.sizeLine_eq, ix0, ix1, ixS, c6, hz, hx, hq]
end LW
end

section
set_option Elab.async false
set_option linter.all false
set_option maxRecDepth 100000
set_option maxHeartbeats 999999
set_option exponentiation.threshold 5001
open DL
open PySem (PyData Str)
namespace LW
/-! ### what a bent task keeps -/
def nones (x : Shp) : D := .tuple (List.replicate x.s.toNat .none)
def Adm (x : Shp) (ms : List D) (lab : D) : Prop := ∃ (W d' : D) (ms' : List D) (c' e' : Int), lab = .tuple [.tuple ms', W, .int c', d', .int e'] ∧ (ms' = ms ∨ ms' = ms ++ [nones x]) ∧ (c' = x.c ∨ c' = 2) ∧ (e' = x.e ∨ e' = 2)
def StepG (x : Shp) (ms : List D) (st : D) : Prop := ∀ lab, Adm x ms lab → m_step_fault [lab, st] = some .none
def SampleG (x : Shp) (ms : List D) (a : D) : Prop := ∀ lab, Adm x ms lab → m_sample_fault [lab, a] = some .none
structure Parts (x : Shp) (r0 mr as ss ws S : List D) (u v : Int) (p q z : D) (i j : Int) : Prop where
  ok : x.Ok
  few : mr.length ≤ 10 ∧ as.length ≤ 10 ∧ ss.length ≤ 10 ∧ ws.length ≤ 10 ∧ S.length ≤ 10
  s : (r0.length : Int) = x.s
  t : (mr.length : Int) + 1 = x.t
  mf : m_meets_fault [.tuple (.tuple r0 :: mr)] = some .none
  mfx : m_meets_fault [.tuple (.tuple r0 :: mr ++ [nones x])] = some .none
  wf : m_wash_fault [.tuple [.tuple as, .int u, .int v], .int ((.tuple r0 :: mr : List D).length : Nat)] = some .none
  wfx : m_wash_fault [.tuple [.tuple (as ++ [tup1 [0]]), .int u, .int v], .int ((.tuple r0 :: mr ++ [nones x] : List D).length : Nat)] = some .none
  wf2 : x.t = 2 → ∃ a0 a1, as = [a0, a1] ∧ (∀ l ∈ [tup1 [1], tup1 [0, 1]], m_wash_fault [.tuple [.tuple [l, a1], .int u, .int v], .int ((.tuple r0 :: mr : List D).length : Nat)] = some .none) ∧ m_wash_fault [.tuple [.tuple [a0, tup1 [1]], .int u, .int v], .int ((.tuple r0 :: mr : List D).length : Nat)] = some .none
  st0 : ∀ i' j', (i', j') ∈ spans4 → StepG x (.tuple r0 :: mr) (.tuple [p, q, z, .int i', .int j'])
  sp0 : (i, j) ∈ spans4
  rest : (ss = [] ∧ ws = [.none]) ∨ ∃ s1 w, ss = [s1] ∧ ws = [.none, w] ∧ StepG x (.tuple r0 :: mr) s1 ∧ WinOk w
  more : (S = [] ∧ x.z = [((ss.length : Nat) : Int) + 1]) ∨ ∃ a b, S = [smp a b] ∧ SampleG x (.tuple r0 :: mr) (smp a b) ∧ x.z = [((ss.length : Nat) : Int) + 1, (a.length : Nat)]
  bad1 : ∀ i' j' : Int, (i', j') = (1, 3) ∨ (x.f = 1 ∧ (i', j') ∈ [((1 : Int), (2 : Int)), (2, 2)]) → m_free_number [x.D, tkOf (.tuple r0 :: mr) as ss ws S (.int u) (.int v) (.int x.c) (.int x.d) (.int x.e) (.tuple [p, q, z, .int i', .int j'])] = some .none
  bad7 : ∀ a0 a1, x.t = 2 → as = [a0, a1] → m_free_number [x.D, tkOf (.tuple r0 :: mr) [a0, tup1 [1]] ss ws S (.int u) (.int v) (.int x.c) (.int x.d) (.int x.e) (.tuple [p, q, z, .int i, .int j])] = some .none
  bad8 : ∀ w1 (r : Int), ws = [.none, w1] → x.g < r → m_free_number [x.D, tkOf (.tuple r0 :: mr) as ss [.none, .int r] S (.int u) (.int v) (.int x.c) (.int x.d) (.int x.e) (.tuple [p, q, z, .int i, .int j])] = some .none
section
variable {x : Shp} {r0 mr as ss ws S : List D} {u v : Int} {p q z : D} {i j : Int} (h : Parts x r0 mr as ss ws S u v p q z i j)
include h
/-- the first sample and the others, in an admissible lab -/
theorem Parts.tasks {lab s0 : D} (ha : Adm x (.tuple r0 :: mr) lab) (hl : m_lab_fault [lab] = some .none) (h0 : StepG x (.tuple r0 :: mr) s0) : m_task_fault [.tuple [lab, .tuple (.tuple [.tuple (s0 :: ss), .tuple ws] :: S)]] = some .none := by
  have f0 : m_sample_fault [lab, .tuple [.tuple (s0 :: ss), .tuple ws]] = some .none := by
    rcases h.rest with ⟨rfl, rfl⟩ | ⟨s1, w, rfl, rfl, h1, hw⟩
    · exact sample1 (h0 lab ha)
    · exact sample2 (h0 lab ha) (h1 lab ha) hw
  rcases h.more with ⟨rfl, _⟩ | ⟨a, b, rfl, hs, _⟩
  · exact task1 hl f0
  · exact task2 hl f0 (hs lab ha)
theorem Parts.window {lab s0 w1 : D} {r : Int} (ha : Adm x (.tuple r0 :: mr) lab) (hl : m_lab_fault [lab] = some .none) (h0 : StepG x (.tuple r0 :: mr) s0) (hw : ws = [.none, w1]) (hr0 : 0 ≤ r) (hr : r ≤ 6) : m_task_fault [.tuple [lab, .tuple (.tuple [.tuple (s0 :: ss), .tuple [.none, .int r]] :: S)]] = some .none := by
  have f0 : m_sample_fault [lab, .tuple [.tuple (s0 :: ss), .tuple [.none, .int r]]] = some .none := by
    rcases h.rest with ⟨rfl, e⟩ | ⟨s1, w, rfl, e, h1, _⟩
    · rw [hw] at e; cases e
    · exact sample2 (h0 lab ha) (h1 lab ha) (.inr ⟨r, rfl, hr0, hr⟩)
  rcases h.more with ⟨rfl, _⟩ | ⟨a, b, rfl, hs, _⟩
  · exact task1 hl f0
  · exact task2 hl f0 (hs lab ha)
theorem Parts.longer {lab s0 : D} (ha : Adm x (.tuple r0 :: mr) lab) (hl : m_lab_fault [lab] = some .none) (h0 : StepG x (.tuple r0 :: mr) s0) : m_task_fault [.tuple [lab, .tuple (.tuple [.tuple (s0 :: (ss ++ [s0])), .tuple (ws ++ [.none])] :: S)]] = some .none := by
  have f0 : m_sample_fault [lab, .tuple [.tuple (s0 :: (ss ++ [s0])), .tuple (ws ++ [.none])]] = some .none := by
    rcases h.rest with ⟨rfl, rfl⟩ | ⟨s1, w, rfl, rfl, h1, hw⟩
    · exact sample2 (h0 lab ha) (h0 lab ha) (.inl rfl)
    · exact sample3 (h0 lab ha) (h1 lab ha) (h0 lab ha) hw
  rcases h.more with ⟨rfl, _⟩ | ⟨a, b, rfl, hs, _⟩
  · exact task1 hl f0
  · exact task2 hl f0 (hs lab ha)
theorem Parts.another {lab s0 : D} (ha : Adm x (.tuple r0 :: mr) lab) (hl : m_lab_fault [lab] = some .none) (h0 : StepG x (.tuple r0 :: mr) s0) : m_task_fault [.tuple [lab, .tuple (.tuple [.tuple (s0 :: ss), .tuple ws] :: (S ++ [.tuple [.tuple [], .tuple []]]))]] = some .none := by
  have f0 : m_sample_fault [lab, .tuple [.tuple (s0 :: ss), .tuple ws]] = some .none := by
    rcases h.rest with ⟨rfl, rfl⟩ | ⟨s1, w, rfl, rfl, h1, hw⟩
    · exact sample1 (h0 lab ha)
    · exact sample2 (h0 lab ha) (h1 lab ha) hw
  rcases h.more with ⟨rfl, _⟩ | ⟨a, b, rfl, hs, _⟩
  · exact task2 hl f0 sample0
  · exact task3 hl f0 (hs lab ha) sample0
theorem Parts.bnd : 1 ≤ x.c ∧ x.c ≤ 3 ∧ 1 ≤ x.d ∧ x.d ≤ 3 ∧ 0 ≤ x.e ∧ x.e ≤ 4 := by
  have h1 := h.ok.c
  have h2 := h.ok.d
  have h3 := h.ok.e
  omega
theorem Parts.step0 : StepG x (.tuple r0 :: mr) (.tuple [p, q, z, .int i, .int j]) := h.st0 i j h.sp0
omit h in
theorem adm {W d' : D} {ms : List D} {c' e' : Int} (hc : c' = x.c ∨ c' = 2) (he : e' = x.e ∨ e' = 2) : Adm x ms (.tuple [.tuple ms, W, .int c', d', .int e']) := ⟨W, d', ms, c', e', rfl, .inl rfl, hc, he⟩
omit h in
theorem admx {W d' : D} {ms : List D} {c' e' : Int} (hc : c' = x.c ∨ c' = 2) (he : e' = x.e ∨ e' = 2) : Adm x ms (.tuple [.tuple (ms ++ [nones x]), W, .int c', d', .int e']) := ⟨W, d', _, c', e', rfl, .inr rfl, hc, he⟩
omit h in
theorem dep0 : ∀ ns : List Int, PyData.depthAll (ns.map .int) = 0
  | [] => rfl
  | n :: ns => by
    show max 0 (PyData.depthAll (ns.map .int)) = 0
    rw [dep0 ns]
    rfl
omit h in
theorem lay0 : ∀ ns : List Int, PyData.canLayAll0 (ns.map .int) = true
  | [] => rfl
  | n :: ns => by
    show (true && PyData.canLayAll0 (ns.map .int)) = true
    rw [lay0 ns]
    rfl
omit h in
theorem sh_sizes (r0 mr : List D) (c d e : Int) (zs : List Int) : PySem.SeqAt.shaped (sizesOf r0 mr c d e zs) = true := by
  unfold PySem.SeqAt.shaped
  simp [PyData.canLay0, PyData.canLayAll0, PyData.depth, PyData.depthAll, sizesOf, dep0, lay0]
omit h in
theorem sh_shp6 (x : Shp) : PySem.SeqAt.shaped (shp6 x) = true := by
  unfold PySem.SeqAt.shaped
  simp [PyData.canLay0, PyData.canLayAll0, PyData.depth, PyData.depthAll, shp6, dep0, lay0]
omit h in
theorem eqv_ints : ∀ (a b : List Int), PyData.eqvAll (a.map .int) (b.map .int) = decide (a = b)
  | [], [] => rfl
  | [], _ :: _ => rfl
  | _ :: _, [] => rfl
  | m :: a, n :: b => by
    show (m == n && PyData.eqvAll (a.map .int) (b.map .int)) = _
    rw [eqv_ints a b]
    by_cases h1 : m = n <;> by_cases h2 : a = b <;> simp [h1, h2]
omit h in
theorem eqv_sizes (r0 mr : List D) (c d e : Int) (zs : List Int) : PyData.eqv (sizesOf r0 mr c d e zs) (shp6 x) = (decide ((r0.length : Int) = x.s) && (decide ((mr.length : Int) + 1 = x.t) && (decide (c = x.c) && (decide (d = x.d) && (decide (e = x.e) && decide (zs = x.z)))))) := by
  simp [sizesOf, shp6, PyData.eqv, PyData.eqvAll, eqv_ints]
  rfl
end
end LW
end

section
set_option Elab.async false
set_option linter.all false
set_option maxRecDepth 100000
set_option maxHeartbeats 999999
set_option exponentiation.threshold 5001
open DL
open PySem (PyData Str)
namespace LW
section
variable {x : Shp} {r0 mr as ss ws S : List D} {u v : Int} {p q z : D} {i j : Int} (h : Parts x r0 mr as ss ws S u v p q z i j)
include h
theorem Parts.sizesF {r0' mr' W f1 f2 : List D} {c' d' e' : Int} (hd : (mr'.length : Int) + 1 ≠ x.t ∨ c' ≠ x.c ∨ d' ≠ x.d ∨ e' ≠ x.e ∨ f1.length ≠ ss.length + 1) :
    m_free_number [x.D, .tuple [.tuple [.tuple (.tuple r0' :: mr'), .tuple W, .int c', .int d', .int e'], .tuple (.tuple [.tuple f1, .tuple f2] :: S)]] = some .none := by
  have key : ∀ zs : List Int, (((f1.length : Nat) : Int) = ((ss.length : Nat) : Int) + 1 → False) ∨ (mr'.length : Int) + 1 ≠ x.t ∨ c' ≠ x.c ∨ d' ≠ x.d ∨ e' ≠ x.e → (zs = x.z → ((f1.length : Nat) : Int) = ((ss.length : Nat) : Int) + 1) → PyData.eqv (sizesOf r0' mr' c' d' e' zs) (shp6 x) = false := fun zs hh hz => by
    rw [eqv_sizes]
    cases hb : (decide ((r0'.length : Int) = x.s) && (decide ((mr'.length : Int) + 1 = x.t) && (decide (c' = x.c) && (decide (d' = x.d) && (decide (e' = x.e) && decide (zs = x.z)))))) with
    | false => rfl
    | true =>
      simp only [Bool.and_eq_true, decide_eq_true_eq] at hb
      obtain ⟨_, b2, b3, b4, b5, b6⟩ := hb
      rcases hh with k | k | k | k | k
      · exact (k (hz b6)).elim
      · exact (k b2).elim
      · exact (k b3).elim
      · exact (k b4).elim
      · exact (k b5).elim
  have hh : (((f1.length : Nat) : Int) = ((ss.length : Nat) : Int) + 1 → False) ∨ (mr'.length : Int) + 1 ≠ x.t ∨ c' ≠ x.c ∨ d' ≠ x.d ∨ e' ≠ x.e := by
    rcases hd with k | k | k | k | k
    · exact .inr (.inl k)
    · exact .inr (.inr (.inl k))
    · exact .inr (.inr (.inr (.inl k)))
    · exact .inr (.inr (.inr (.inr k)))
    · exact .inl (by omega)
  rcases h.more with ⟨rfl, hz⟩ | ⟨a, b, rfl, _, hz⟩
  · exact sizes_differ (hsz1 (a1 := f1) (b1 := f2) (sh_sizes _ _ _ _ _ _) (sh_shp6 x) (key _ hh fun e => by rw [hz] at e; exact (List.cons.inj e).1))
  · exact sizes_differ (hsz2 (a1 := f1) (b1 := f2) (a2 := a) (b2 := b) (sh_sizes _ _ _ _ _ _) (sh_shp6 x) (key _ hh fun e => by rw [hz] at e; exact (List.cons.inj e).1))
theorem Parts.anotherF {r0' mr' W f1 f2 : List D} {c' d' e' : Int} : m_free_number [x.D, .tuple [.tuple [.tuple (.tuple r0' :: mr'), .tuple W, .int c', .int d', .int e'], .tuple (.tuple [.tuple f1, .tuple f2] :: (S ++ [.tuple [.tuple [], .tuple []]]))]] = some .none := by
  have key : ∀ zs : List Int, zs ≠ x.z → PyData.eqv (sizesOf r0' mr' c' d' e' zs) (shp6 x) = false := fun zs hz => by
    rw [eqv_sizes, decide_eq_false hz]
    simp
  rcases h.more with ⟨rfl, hz⟩ | ⟨a, b, rfl, _, hz⟩
  · exact sizes_differ (hsz2 (a1 := f1) (b1 := f2) (a2 := []) (b2 := []) (sh_sizes _ _ _ _ _ _) (sh_shp6 x) (key _ (by rw [hz]; intro e; have := congrArg List.length e; simp at this)))
  · exact sizes_differ (hsz3 (a1 := f1) (b1 := f2) (a2 := a) (b2 := b) (a3 := []) (b3 := []) (sh_sizes _ _ _ _ _ _) (sh_shp6 x) (key _ (by rw [hz]; intro e; have := congrArg List.length e; simp at this)))
theorem Parts.washF {r0' mr' W f1 f2 : List D} {c' d' e' : Int} (hW : W.length ≠ 1) : m_free_number [x.D, .tuple [.tuple [.tuple (.tuple r0' :: mr'), .tuple W, .int c', .int d', .int e'], .tuple (.tuple [.tuple f1, .tuple f2] :: S)]] = some .none := by
  rcases h.more with ⟨rfl, hz⟩ | ⟨a, b, rfl, _, hz⟩
  · exact sizes_differ (hszW1 (a1 := f1) (b1 := f2) (sh_sizes _ _ _ _ _ _) (sh_shp6 x) hW)
  · exact sizes_differ (hszW2 (a1 := f1) (b1 := f2) (a2 := a) (b2 := b) (sh_sizes _ _ _ _ _ _) (sh_shp6 x) hW)
theorem Parts.leafF {r0' mr' f1 f2 lr : List D} {c' d' e' : Int} {l0 u' v' : D} (hl : PyData.eqv l0 (tup1 [0]) = false) (sl : PySem.SeqAt.shaped l0 = true) : m_free_number [x.D, .tuple [.tuple [.tuple (.tuple r0' :: mr'), .tuple [.tuple [.tuple (l0 :: lr), u', v']], .int c', .int d', .int e'], .tuple (.tuple [.tuple f1, .tuple f2] :: S)]] = some .none := by
  rcases h.more with ⟨rfl, hz⟩ | ⟨a, b, rfl, _, hz⟩
  · exact sizes_differ (hszL1 (W := []) (a1 := f1) (b1 := f2) (sh_sizes _ _ _ _ _ _) (sh_shp6 x) hl sl)
  · exact sizes_differ (hszL2 (W := []) (a1 := f1) (b1 := f2) (a2 := a) (b2 := b) (sh_sizes _ _ _ _ _ _) (sh_shp6 x) hl sl)
/-- bent in one of the six plain ways -/
theorem Parts.low {r : Int} (r0' : 0 ≤ r) (r6 : r < 6) : m_task_fault [bentT r (.tuple r0 :: mr) ss ws S (.tuple [.tuple as, .int u, .int v]) (.int x.c) (.int x.e) p q z (.int i) (.int j) x.d] = some .none ∧
    m_free_number [x.D, bentT r (.tuple r0 :: mr) ss ws S (.tuple [.tuple as, .int u, .int v]) (.int x.c) (.int x.e) p q z (.int i) (.int j) x.d] = some .none := by
  obtain ⟨c1, c2, d1, d2, e1, e2⟩ := h.bnd
  have hd := h.ok.d
  have he := h.ok.e
  have L1 := lab1 h.mf h.wf c1 c2 d1 d2 e1 e2
  rcases six r0' r6 with rfl | rfl | rfl | rfl | rfl | rfl
  · exact ⟨h.tasks (adm (.inl rfl) (.inl rfl)) (lab1 h.mf h.wf c1 c2 (by omega) (by omega) e1 e2) h.step0, h.sizesF (.inr (.inr (.inl (by omega))))⟩
  · exact ⟨h.tasks (adm (.inl rfl) (.inl rfl)) L1 (h.st0 1 3 (by decide)), h.bad1 1 3 (.inl rfl)⟩
  · exact ⟨h.tasks (adm (.inl rfl) (.inl rfl)) (lab0 h.mf c1 c2 d1 d2 e1 e2) h.step0, h.washF (by decide)⟩
  · exact ⟨h.another (adm (.inl rfl) (.inl rfl)) L1 h.step0, h.anotherF⟩
  · exact ⟨h.tasks (adm (.inl rfl) (.inr rfl)) (lab1 h.mf h.wf c1 c2 d1 d2 (by omega) (by omega)) h.step0, h.sizesF (.inr (.inr (.inr (.inl (by omega)))))⟩
  · exact ⟨h.tasks (adm (.inl rfl) (.inl rfl)) (lab2 h.mf h.wf c1 c2 d1 d2 e1 e2) h.step0, h.washF (by show 2 ≠ 1; decide)⟩
/-- THE BENT TASK: whatever is drawn, it is a task and has no number -/
theorem Parts.bent {k : Nat} {st : DrawSt} (hs : StOk k st) (hk : k ≤ 100000) : ∃ b st' k', m__law_bent [x.D, tkOf (.tuple r0 :: mr) as ss ws S (.int u) (.int v) (.int x.c) (.int x.d) (.int x.e) (.tuple [p, q, z, .int i, .int j])] st = some (b, st') ∧ StOk k' st' ∧ k' ≤ k + 5 ∧ m_tiny_number [x.D, b] = some .none := by
  obtain ⟨c1, c2, d1, d2, e1, e2⟩ := h.bnd
  obtain ⟨f1, f2, f3, f4, f5⟩ := h.few
  have L1 := lab1 h.mf h.wf c1 c2 d1 d2 e1 e2
  have A0 : ∀ W d', Adm x (.tuple r0 :: mr) (.tuple [.tuple (.tuple r0 :: mr), W, .int x.c, d', .int x.e]) := fun W d' => adm (.inl rfl) (.inl rfl)
  have fin : ∀ b : D, m_task_fault [b] = some .none → m_free_number [x.D, b] = some .none → m_tiny_number [x.D, b] = some .none := fun b a1 a2 => bent_number h.ok a1 a2
  obtain ⟨r, st1, hd, r0', r1, ok1⟩ := draw_ok hs (by omega) (L := 13) (by decide) (by omega)
  by_cases h6 : r < 6
  · obtain ⟨b1, b2⟩ := h.low r0' h6
    exact ⟨_, _, _, bent_low hd r0' h6 (by omega) (by omega), ok1, by omega, fin _ b1 b2⟩
  · have h5 : 5 < r := by omega
    -- none of the further ways: one of the six
    have none_ : m__law_bent_more [x.D, tkOf (.tuple r0 :: mr) as ss ws S (.int u) (.int v) (.int x.c) (.int x.d) (.int x.e) (.tuple [p, q, z, .int i, .int j]), .int r] st1 = some (.none, st1) →
        ∃ b st' k', m__law_bent [x.D, tkOf (.tuple r0 :: mr) as ss ws S (.int u) (.int v) (.int x.c) (.int x.d) (.int x.e) (.tuple [p, q, z, .int i, .int j])] st = some (b, st') ∧ StOk k' st' ∧ k' ≤ k + 5 ∧ m_tiny_number [x.D, b] = some .none := fun hm => by
      obtain ⟨r2, st3, hd2, g0, g1, ok3⟩ := draw_ok ok1 (by omega) (L := 6) (by decide) (by omega)
      obtain ⟨b1, b2⟩ := h.low g0 g1
      exact ⟨_, _, _, bent_none hd h5 hm hd2 g0 g1 (by omega) (by omega), ok3, by omega, fin _ b1 b2⟩
    have some_ : ∀ (b : List D) (st2 : DrawSt) (k2 : Nat), m__law_bent_more [x.D, tkOf (.tuple r0 :: mr) as ss ws S (.int u) (.int v) (.int x.c) (.int x.d) (.int x.e) (.tuple [p, q, z, .int i, .int j]), .int r] st1 = some (.tuple b, st2) → StOk k2 st2 → k2 ≤ k + 5 → m_task_fault [.tuple b] = some .none → m_free_number [x.D, .tuple b] = some .none →
        ∃ b st' k', m__law_bent [x.D, tkOf (.tuple r0 :: mr) as ss ws S (.int u) (.int v) (.int x.c) (.int x.d) (.int x.e) (.tuple [p, q, z, .int i, .int j])] st = some (b, st') ∧ StOk k' st' ∧ k' ≤ k + 5 ∧ m_tiny_number [x.D, b] = some .none := fun b st2 k2 hm o2 l2 a1 a2 =>
      ⟨_, _, _, bent_more hd h5 hm, o2, l2, fin _ a1 a2⟩
    have rs : r = 6 ∨ r = 7 ∨ r = 8 ∨ r = 9 ∨ r = 10 ∨ r = 11 ∨ r = 12 := by omega
    rcases rs with rfl | rfl | rfl | rfl | rfl | rfl | rfl
    · rcases h.ok.t with ht | ht
      · exact none_ (bm6n ht)
      · obtain ⟨a0, a1, rfl, w1, _⟩ := h.wf2 ht
        obtain ⟨lv, st2, ho, hm, ok2⟩ := of_ok ok1 (by omega) (xs := [tup1 [1], tup1 [0, 1]]) (by simp) (by decide)
        have hl : PyData.eqv lv (tup1 [0]) = false ∧ PySem.SeqAt.shaped lv = true := by
          rcases List.mem_cons.mp hm with rfl | q
          · exact ⟨by rfl, by rfl⟩
          · rcases List.mem_cons.mp q with rfl | q
            · exact ⟨by rfl, by rfl⟩
            · cases q
        exact some_ _ _ _ (bm6 ht ho (by show 1 ≤ 100; decide)) ok2 (by omega) (h.tasks (A0 _ _) (lab1 h.mf (w1 lv hm) c1 c2 d1 d2 e1 e2) h.step0) (h.leafF hl.1 hl.2)
    · rcases h.ok.t with ht | ht
      · exact none_ (bm7n ht)
      · obtain ⟨a0, a1, rfl, _, w2⟩ := h.wf2 ht
        exact some_ _ _ _ (bm7 ht) ok1 (by omega) (h.tasks (A0 _ _) (lab1 h.mf w2 c1 c2 d1 d2 e1 e2) h.step0) (h.bad7 a0 a1 ht rfl)
    · rcases h.rest with ⟨rfl, rfl⟩ | ⟨s1, w, rfl, rfl, h1, hw⟩
      · exact none_ bm8n
      · obtain ⟨r2, st3, hd2, g0, g1, ok3⟩ := draw_ok ok1 (by omega) (L := 3) (by decide) (by omega)
        have hg := h.ok.g
        exact some_ _ _ _ (bm8 hd2 (by omega)) ok3 (by omega) (h.window (A0 _ _) L1 h.step0 rfl (by omega) (by omega)) (h.bad8 w (x.g + 1 + r2) rfl (by omega))
    · rcases h.ok.f with hf | hf
      · obtain ⟨lv, st2, ho, hm, ok2⟩ := of_ok ok1 (by omega) (xs := [tup1 [1, 2], tup1 [2, 2]]) (by simp) (by decide)
        rcases List.mem_cons.mp hm with rfl | q
        · exact some_ _ _ _ (bm9 hf ho (by omega) (by omega)) ok2 (by omega) (h.tasks (A0 _ _) L1 (h.st0 1 2 (by decide))) (h.bad1 1 2 (.inr ⟨hf, by decide⟩))
        · rcases List.mem_cons.mp q with rfl | q
          · exact some_ _ _ _ (bm9 hf ho (by omega) (by omega)) ok2 (by omega) (h.tasks (A0 _ _) L1 (h.st0 2 2 (by decide))) (h.bad1 2 2 (.inr ⟨hf, by decide⟩))
          · cases q
      · exact none_ (bm9n hf)
    · exact some_ _ _ _ (bm10 (by omega) (by omega) (by omega)) ok1 (by omega) (h.longer (A0 _ _) L1 h.step0) (h.sizesF (.inr (.inr (.inr (.inr (by simp))))))
    · have wx := h.wfx
      have mx := h.mfx
      have hsz : ((mr ++ [nones x]).length : Int) + 1 ≠ x.t := by
        have := h.t
        rw [List.length_append, List.length_cons, List.length_nil]
        omega
      have go : m_task_fault [.tuple [.tuple [.tuple (.tuple r0 :: mr ++ [nones x]), .tuple [.tuple [.tuple (as ++ [tup1 [0]]), .int u, .int v]], .int x.c, .int x.d, .int x.e], .tuple (.tuple [.tuple (.tuple [p, q, z, .int i, .int j] :: ss), .tuple ws] :: S)]] = some .none :=
        h.tasks (admx (.inl rfl) (.inl rfl)) (lab1 mx wx c1 c2 d1 d2 e1 e2) h.step0
      have go2 : m_free_number [x.D, .tuple [.tuple [.tuple (.tuple r0 :: mr ++ [nones x]), .tuple [.tuple [.tuple (as ++ [tup1 [0]]), .int u, .int v]], .int x.c, .int x.d, .int x.e], .tuple (.tuple [.tuple (.tuple [p, q, z, .int i, .int j] :: ss), .tuple ws] :: S)]] = some .none :=
        h.sizesF (mr' := mr ++ [nones x]) (.inl hsz)
      rcases h.ok.s with hsx | hsx
      · have e0 : nones x = .tuple [.none] := by unfold nones; rw [hsx]; rfl
        rw [e0] at go go2
        exact some_ _ _ _ (bm11a hsx (by simp; omega) (by omega)) ok1 (by omega) go go2
      · have e0 : nones x = .tuple [.none, .none] := by unfold nones; rw [hsx]; rfl
        rw [e0] at go go2
        exact some_ _ _ _ (bm11b hsx (by simp; omega) (by omega)) ok1 (by omega) go go2
    · rcases h.ok.c with hc | hc
      · exact some_ _ _ _ (bm12 hc) ok1 (by omega) (h.tasks (adm (.inr rfl) (.inl rfl)) (lab1 h.mf h.wf (by omega) (by omega) d1 d2 e1 e2) h.step0) (h.sizesF (.inr (.inl (by omega))))
      · exact none_ (bm12n hc)
end
end LW
end

section
set_option Elab.async false
set_option linter.all false
set_option maxRecDepth 100000
set_option maxHeartbeats 999999
set_option exponentiation.threshold 5001
open DL
open PySem (PyData Str)
namespace LW
/-! ### what the picks are -/
theorem tools_sub {c c' : Int} (hc : c = 1 ∨ c = 2) (h : c' = c ∨ c' = 2) {q : D} (hq : q ∈ toolsR c) : q ∈ toolsR c' := by
  rcases h with rfl | rfl
  · exact hq
  · rcases hc with rfl | rfl
    · have : q = tup1 [0] := by simpa [toolsR] using hq
      rw [this]; simp [toolsR]
    · exact hq
theorem zones_sub {e e' : Int} (he : e = 0 ∨ e = 1) (h : e' = e ∨ e' = 2) {q : D} (hq : q ∈ zonesR e) : q ∈ zonesE e' := by
  rcases he with rfl | rfl <;> rcases h with rfl | rfl <;> simp [zonesR, zonesE] at hq ⊢ <;> simp [hq]
theorem chkP_get {s : Int} (F : Int → Int → D → Option D) {c' e' : Int} (h : ([1, 2].all fun c => [0, 1, 2].all fun e => chkP s c e (F c e)) = true) (hc : c' = 1 ∨ c' = 2) (he : e' = 0 ∨ e' = 1 ∨ e' = 2) : chkP s c' e' (F c' e') = true := by
  have h1 := List.all_eq_true.mp h c' (by rcases hc with rfl | rfl <;> simp)
  exact List.all_eq_true.mp h1 e' (by rcases he with rfl | rfl | rfl <;> simp)
theorem chkP_at {s c e : Int} {F : D → Option D} (h : chkP s c e F = true) {p t z : D} {i j : Int} (hp : p ∈ uptoD s) (ht : t ∈ toolsR c) (hz : z ∈ zonesE e) (hij : (i, j) ∈ spans4) : F (.tuple [p, t, z, .int i, .int j]) = some .none := by
  unfold chkP at h
  have h1 := List.all_eq_true.mp h p hp
  have h2 := List.all_eq_true.mp h1 t ht
  have h3 := List.all_eq_true.mp h2 z hz
  exact isD1_ok (List.all_eq_true.mp h3 (i, j) hij)
section
variable {x : Shp} (h : x.Ok) {p q z : D} {i j : Int}
include h
theorem step_of {s : Int} {ms : List D} (hq : q ∈ toolsR x.c) (hz : z ∈ zonesR x.e) (hp : p ∈ uptoD s) (hij : (i, j) ∈ spans4)
    (g : ∀ W d', ([1, 2].all fun c => [0, 1, 2].all fun e => chkP s c e fun st => m_step_fault [.tuple [.tuple ms, W, .int c, d', .int e], st]) = true)
    (g2 : ∀ W d', ([1, 2].all fun c => [0, 1, 2].all fun e => chkP s c e fun st => m_step_fault [.tuple [.tuple (ms ++ [nones x]), W, .int c, d', .int e], st]) = true) : StepG x ms (.tuple [p, q, z, .int i, .int j]) := by
  rintro lab ⟨W, d', ms', c', e', rfl, hms, hc, he⟩
  have hc' : c' = 1 ∨ c' = 2 := by have := h.c; omega
  have he' : e' = 0 ∨ e' = 1 ∨ e' = 2 := by have := h.e; omega
  rcases hms with e0 | e0
  · subst e0
    have g1 := chkP_get (fun c e st => m_step_fault [.tuple [.tuple ms', W, .int c, d', .int e], st]) (g W d') hc' he'
    have r := chkP_at g1 hp (tools_sub h.c hc hq) (zones_sub h.e he hz) hij
    exact r
  · subst e0
    have g1 := chkP_get (fun c e st => m_step_fault [.tuple [.tuple (ms ++ [nones x]), W, .int c, d', .int e], st]) (g2 W d') hc' he'
    have r := chkP_at g1 hp (tools_sub h.c hc hq) (zones_sub h.e he hz) hij
    exact r
theorem span_of {a : D} (ha : a ∈ spans x.f) : ∃ u v : Int, a = .tuple [.int u, .int v] ∧ (u, v) ∈ spans3 := by
  rcases h.f with hf | hf
  · rw [hf] at ha
    have : a = tup1 [1, 1] := by simpa [spans] using ha
    exact ⟨1, 1, this, by decide⟩
  · rw [hf] at ha
    have : a = tup1 [1, 1] ∨ a = tup1 [1, 2] ∨ a = tup1 [2, 2] := by simpa [spans] using ha
    rcases this with e | e | e
    · exact ⟨1, 1, e, by decide⟩
    · exact ⟨1, 2, e, by decide⟩
    · exact ⟨2, 2, e, by decide⟩
theorem win_of {a : D} (ha : a ∈ .none :: uptoD (x.g + 1)) : WinOk a := by
  rcases List.mem_cons.mp ha with e | e
  · exact .inl e
  · unfold uptoD at e
    obtain ⟨n, hn, rfl⟩ := List.mem_map.mp e
    have := List.mem_range.mp hn
    have hg := h.g
    exact .inr ⟨(n : Int), rfl, by omega, by omega⟩
theorem win_bad {r : Int} (hr : x.g < r) : ((.none :: uptoD (x.g + 1) : List D).any fun z => PyData.eqv z (.int r)) = false := by
  rw [List.any_cons]
  show (false || _) = false
  rw [Bool.false_or, List.any_eq_false]
  intro a ha
  unfold uptoD at ha
  obtain ⟨n, hn, rfl⟩ := List.mem_map.mp ha
  have := List.mem_range.mp hn
  have hg := h.g
  show ¬ ((n : Int) == r) = true
  rw [beq_iff_eq]
  omega
theorem span_bad {i' j' : Int} (hb : (i', j') = (1, 3) ∨ (x.f = 1 ∧ (i', j') ∈ [((1 : Int), (2 : Int)), (2, 2)])) : ((spans x.f).any fun z => PyData.eqv z (.tuple [.int i', .int j'])) = false := by
  rcases hb with e | ⟨hf, e⟩
  · cases e
    rcases h.f with hf | hf <;> rw [hf] <;> rfl
  · rw [hf]
    rcases List.mem_cons.mp e with e | e
    · cases e; rfl
    · rcases List.mem_cons.mp e with e | e
      · cases e; rfl
      · cases e
theorem bad_set {tk : D} {P : List D} {k : Nat} {b : D} {r : List D} (hin : In2 P (rows x)) (hs : m_has_sizes [x.D, tk] = some (.bool true)) (hp : m_picks_of [x.D, tk] = some (.list (P.set k b))) (sb : PySem.SeqAt.shaped b = true) (hr : (rows x)[k]? = some r)
    (hb : (r.any fun z => PyData.eqv z b) = false) : m_free_number [x.D, tk] = some .none := by
  have R := all_rows h
  have sh : ∀ (Q : List D) (S : List (List D)), In2 Q S → (∀ r ∈ S, Row r) → ∀ p ∈ Q, PySem.SeqAt.shaped p = true := fun Q => by
    induction Q with
    | nil => intro S _ _ p hp; cases hp
    | cons a Q ih =>
      intro S hi hS p hp
      cases S with
      | nil => exact hi.elim
      | cons s S =>
        rcases List.mem_cons.mp hp with rfl | q
        · exact (hS s (by simp)).el _ hi.1
        · exact ih S hi.2 (fun r hr => hS r (by simp [hr])) p q
  have bd : ∀ (Q : List D) (S : List (List D)) (k : Nat), In2 Q S → S[k]? = some r → BadAt S (Q.set k b) := fun Q => by
    induction Q with
    | nil =>
      intro S k hi hk
      cases S with
      | nil => cases hk
      | cons _ _ => exact hi.elim
    | cons a Q ih =>
      intro S k hi hk
      cases S with
      | nil => exact hi.elim
      | cons s S =>
        cases k with
        | zero =>
          have e : s = r := by simpa using hk
          subst e
          exact .inl hb
        | succ k => exact .inr (ih S k hi.2 (by simpa using hk))
  refine bad_number h hs hp (fun p hm => ?_) (bd P (rows x) k hin hr)
  rcases List.mem_or_eq_of_mem_set hm with q | q
  · exact sh P _ hin R p q
  · rw [q]; exact sb
end
/-! plain picks -/
def Pl (d : D) : Prop := plainB d = true ∧ d.depth ≤ 1 ∧ big d ≤ 500
theorem pl_none : Pl .none := ⟨rfl, by decide, by decide⟩
theorem pl_int {n : Int} (h0 : 0 ≤ n) (h1 : n ≤ 10) : Pl (.int n) := by
  refine ⟨?_, by show 0 ≤ 1; decide, by show 150 ≤ 500; decide⟩
  unfold plainB
  rw [decide_eq_true h0, decide_eq_true (by omega)]
  rfl
theorem pl_upto {n : Int} (hn : n ≤ 5) {a : D} (h : a ∈ uptoD n) : Pl a := by
  unfold uptoD at h
  obtain ⟨k, hk, rfl⟩ := List.mem_map.mp h
  have := List.mem_range.mp hk
  exact pl_int (by omega) (by omega)
theorem pl_upN {n : Int} (hn : n ≤ 5) {a : D} (h : a ∈ .none :: uptoD n) : Pl a := by
  rcases List.mem_cons.mp h with rfl | q
  · exact pl_none
  · exact pl_upto hn q
theorem pl_list (L : List D) (h : (L.all fun d => plainB d && (decide (d.depth ≤ 1) && decide (big d ≤ 500))) = true) {a : D} (ha : a ∈ L) : Pl a := by
  have := List.all_eq_true.mp h a ha
  simp only [Bool.and_eq_true, decide_eq_true_eq] at this
  exact this
theorem pl_tools {c : Int} (hc : c = 1 ∨ c = 2) {a : D} (h : a ∈ toolsR c) : Pl a := by
  rcases hc with rfl | rfl
  · exact pl_list (toolsR 1) (by rfl) h
  · exact pl_list (toolsR 2) (by rfl) h
theorem pl_zones {e : Int} (he : e = 0 ∨ e = 1) {a : D} (h : a ∈ zonesR e) : Pl a := by
  rcases he with rfl | rfl
  · exact pl_list (zonesR 0) (by rfl) h
  · exact pl_list (zonesR 1) (by rfl) h
theorem pl_leaf {a : D} (h : a ∈ [tup1 [0], tup1 [0, 1]]) : Pl a := pl_list _ (by rfl) h
theorem sp_pl {u v : Int} (h : (u, v) ∈ spans3) : Pl (.int u) ∧ Pl (.int v) := by
  simp only [spans3, List.mem_cons, List.not_mem_nil, or_false, Prod.mk.injEq] at h
  rcases h with ⟨rfl, rfl⟩ | ⟨rfl, rfl⟩ | ⟨rfl, rfl⟩ <;> exact ⟨pl_int (by decide) (by decide), pl_int (by decide) (by decide)⟩
theorem sp34 {p : Int × Int} (h : p ∈ spans3) : p ∈ spans4 := by
  simp only [spans3, spans4, List.mem_cons, List.not_mem_nil, or_false] at h ⊢
  rcases h with h | h | h
  · exact .inl h
  · exact .inr (.inl h)
  · exact .inr (.inr (.inl h))
theorem wash_get {ls : List D} (h : chkW ls = true) {u v : Int} (hs : (u, v) ∈ spans3) : m_wash_fault [.tuple [.tuple ls, .int u, .int v], .int (ls.length : Nat)] = some .none := by
  unfold chkW at h
  exact isD1_ok (List.all_eq_true.mp h (u, v) hs)
theorem meets_get {M : List D} {s : Nat} (h : chkM M s = true) : m_meets_fault [.tuple M] = some .none ∧ m_meets_fault [.tuple (M ++ [.tuple (List.replicate s .none)])] = some .none := by
  unfold chkM at h
  obtain ⟨h1, h2⟩ := Bool.and_eq_true_iff.mp h
  exact ⟨isD1_ok h1, isD1_ok h2⟩
def bL : Nat → Nat
  | 0 => 500
  | n + 1 => 5 * (bL n + 2) + 6
def Lv (n : Nat) (d : D) : Prop := plainB d = true ∧ d.depth ≤ n + 1 ∧ big d ≤ bL n
def LvA (n : Nat) : List D → Prop
  | [] => True
  | x :: xs => Lv n x ∧ LvA n xs
theorem bL_up {n m : Nat} (h : n ≤ m) : bL n ≤ bL m := by
  induction h with
  | refl => exact Nat.le_refl _
  | @step m _ ih => exact Nat.le_trans ih (by show bL m ≤ 5 * (bL m + 2) + 6; omega)
theorem Pl.up {d : D} (h : Pl d) (n : Nat) : Lv n d := ⟨h.1, Nat.le_trans h.2.1 (by omega), Nat.le_trans h.2.2 (bL_up (Nat.zero_le n))⟩
theorem lvA {n : Nat} : ∀ {xs : List D}, LvA n xs → plainB.plains xs = true ∧ PyData.depthAll xs ≤ n + 1 ∧ big.bigs xs ≤ xs.length * (bL n + 2)
  | [], _ => ⟨rfl, Nat.zero_le _, Nat.zero_le _⟩
  | x :: xs, ⟨h1, h2⟩ => by
    obtain ⟨a1, a2, a3⟩ := h1
    obtain ⟨b1, b2, b3⟩ := lvA h2
    refine ⟨?_, ?_, ?_⟩
    · unfold plainB.plains
      rw [a1, b1]
      rfl
    · show max x.depth (PyData.depthAll xs) ≤ n + 1
      omega
    · show big x + 2 + big.bigs xs ≤ (xs.length + 1) * (bL n + 2)
      rw [Nat.add_mul]
      omega
theorem tupL {n : Nat} {xs : List D} (h : LvA n xs) (hl : xs.length ≤ 5) : Lv (n + 1) (.tuple xs) := by
  obtain ⟨b1, b2, b3⟩ := lvA h
  refine ⟨?_, ?_, ?_⟩
  · unfold plainB
    exact b1
  · show PyData.depthAll xs + 1 ≤ n + 1 + 1
    omega
  · show big.bigs xs + 6 ≤ 5 * (bL n + 2) + 6
    have := Nat.mul_le_mul_right (bL n + 2) hl
    omega
structure TurnOk (x : Shp) (picks : List D) : Prop where
  ex : ∃ tk, m_task_of [x.D, .list picks] = some tk ∧ (∀ n R w, lawBuild x.D n R w picks = some (.rt tk)) ∧ m_picks_of [x.D, tk] = some (.list picks) ∧ m_has_sizes [x.D, tk] = some (.bool true) ∧ m_task_fault [tk] = some .none ∧
    plainB tk = true ∧ tk.depth ≤ 20 ∧ big tk ≤ 2000000 ∧
    ∀ (k : Nat) (st : DrawSt), StOk k st → k ≤ 100000 → ∃ b st' k', m__law_bent [x.D, tk] st = some (b, st') ∧ StOk k' st' ∧ k' ≤ k + 5 ∧ m_tiny_number [x.D, b] = some .none
end LW
end

section
set_option Elab.async false
set_option linter.all false
set_option maxRecDepth 100000
set_option maxHeartbeats 999999
open DL
open PySem (PyData Str)
namespace LW
theorem rw0 (c d e f g : Int) : rows ⟨1, 1, c, d, e, [1], f, g⟩ = [uptoD 1, spans f, uptoD 1, toolsR c, zonesR e, spans f] := by kernel_rfl
theorem all0 {c d e f g : Int} (h : Shp.Ok ⟨1, 1, c, d, e, [1], f, g⟩) {picks : List D} (hp : In2 picks (rows ⟨1, 1, c, d, e, [1], f, g⟩)) : TurnOk ⟨1, 1, c, d, e, [1], f, g⟩ picks := by
  have hin := hp
  rw [rw0] at hp
  obtain ⟨a1, _, rfl, m0, hp⟩ := hp.uncons
  obtain ⟨sp1, _, rfl, m1, hp⟩ := hp.uncons
  obtain ⟨p4, _, rfl, m2, hp⟩ := hp.uncons
  obtain ⟨p5, _, rfl, m3, hp⟩ := hp.uncons
  obtain ⟨p6, _, rfl, m4, hp⟩ := hp.uncons
  obtain ⟨sp5, _, rfl, m5, hp⟩ := hp.uncons
  obtain rfl := hp.end
  obtain ⟨u2, v3, rfl, s1⟩ := span_of h m1
  obtain ⟨u7, v8, rfl, s5⟩ := span_of h m5
  have hcde : (c, d, e) ∈ cde := by
    obtain ⟨_, _, k1, k2, k3, _, _, _⟩ := h
    rcases k1 with k1 | k1 <;> rcases k2 with k2 | k2 <;> rcases k3 with k3 | k3 <;> (dsimp only at k1 k2 k3; subst k1 k2 k3; decide)
  have MM : chkM (.tuple [a1] :: []) 1 = true := (List.all_eq_true.mp mf11 a1 m0)
  have PP : Parts ⟨1, 1, c, d, e, [1], f, g⟩ [a1] [] [tup1 [0]] [] [.none] [] u2 v3 p4 p5 p6 u7 v8 := {
    ok := h, few := by simp, s := rfl, t := rfl, mf := (meets_get MM).1, mfx := (meets_get MM).2, wf := wash_get wf1 s1, wfx := wash_get wf1b s1, wf2 := fun ht => absurd (show (1 : Int) = 2 from ht) (by decide),
    st0 := fun i' j' hij => (step_of (s := 1) h m3 m4 m2 hij (fun W d' => sf11 a1 W d') (fun W d' => sf12 a1 (nones ⟨1, 1, c, d, e, [1], f, g⟩) W d')), sp0 := sp34 s5, rest := .inl ⟨rfl, rfl⟩, more := .inl ⟨rfl, rfl⟩,
    bad1 := fun i' j' hb => bad_set h hin (k := 5) (b := .tuple [.int i', .int j']) (r := spans f) (isD1_ok (List.all_eq_true.mp (hs0 (.int f) (.int g) a1 (.int u2) (.int v3) p4 p5 p6 (.int i') (.int j')) (c, d, e) hcde)) (pk0 (.int c) (.int d) (.int e) (.int f) (.int g) a1 (.int u2) (.int v3) p4 p5 p6 (.int i') (.int j')) (by rfl) (by rw [rw0]; rfl) (span_bad h hb), bad7 := fun _ _ ht _ => absurd (show (1 : Int) = 2 from ht) (by decide), bad8 := fun w1 r ee => by cases ee }
  obtain ⟨c1, c2, d1, d2, e1, e2⟩ := PP.bnd
  refine ⟨tkOf (.tuple [a1] :: []) [tup1 [0]] [] [.none] [] (.int u2) (.int v3) (.int c) (.int d) (.int e) (.tuple [p4, p5, p6, .int u7, .int v8]), tk0 (.int c) (.int d) (.int e) (.int f) (.int g) a1 (.int u2) (.int v3) p4 p5 p6 (.int u7) (.int v8), fun N R W => lt0 (.int c) (.int d) (.int e) (.int f) (.int g) a1 (.int u2) (.int v3) p4 p5 p6 (.int u7) (.int v8) N R W, (pk0 (.int c) (.int d) (.int e) (.int f) (.int g) a1 (.int u2) (.int v3) p4 p5 p6 (.int u7) (.int v8)), (isD1_ok (List.all_eq_true.mp (hs0 (.int f) (.int g) a1 (.int u2) (.int v3) p4 p5 p6 (.int u7) (.int v8)) (c, d, e) hcde)), PP.tasks (adm (.inl rfl) (.inl rfl)) (lab1 PP.mf PP.wf c1 c2 d1 d2 e1 e2) PP.step0, ?_, ?_, ?_, fun k st hs hk => PP.bent hs hk⟩
  all_goals
    have hg5 : g + 1 ≤ 5 := by have := h.g; dsimp only at this; omega
    have q1 := h.c
    have q2 := h.d
    have q3 := h.e
    dsimp only at q1 q2 q3 c1 c2 d1 d2 e1 e2
    have LL : Lv 5 (tkOf (.tuple [a1] :: []) [tup1 [0]] [] [.none] [] (.int u2) (.int v3) (.int c) (.int d) (.int e) (.tuple [p4, p5, p6, .int u7, .int v8])) := (tupL (n := 4) ⟨(tupL (n := 3) ⟨(tupL (n := 2) ⟨(tupL (n := 1) ⟨(Pl.up (pl_upto (n := 1) (by decide) m0) 1), trivial⟩ (by show 1 ≤ 5; decide)), trivial⟩ (by show 1 ≤ 5; decide)), (tupL (n := 2) ⟨(tupL (n := 1) ⟨(tupL (n := 0) ⟨(Pl.up (pl_list [tup1 [0]] (by rfl) List.mem_cons_self) 0), trivial⟩ (by show 1 ≤ 5; decide)), (Pl.up (sp_pl s1).1 1), (Pl.up (sp_pl s1).2 1), trivial⟩ (by show 3 ≤ 5; decide)), trivial⟩ (by show 1 ≤ 5; decide)), (Pl.up (pl_int (n := c) (by omega) (by omega)) 3), (Pl.up (pl_int (n := d) (by omega) (by omega)) 3), (Pl.up (pl_int (n := e) (by omega) (by omega)) 3), trivial⟩ (by show 5 ≤ 5; decide)), (tupL (n := 3) ⟨(tupL (n := 2) ⟨(tupL (n := 1) ⟨(tupL (n := 0) ⟨(Pl.up (pl_upto (n := 1) (by decide) m2) 0), (Pl.up (pl_tools h.c m3) 0), (Pl.up (pl_zones h.e m4) 0), (Pl.up (sp_pl s5).1 0), (Pl.up (sp_pl s5).2 0), trivial⟩ (by show 5 ≤ 5; decide)), trivial⟩ (by show 1 ≤ 5; decide)), (tupL (n := 1) ⟨(Pl.up pl_none 1), trivial⟩ (by show 1 ≤ 5; decide)), trivial⟩ (by show 2 ≤ 5; decide)), trivial⟩ (by show 1 ≤ 5; decide)), trivial⟩ (by show 2 ≤ 5; decide))
  · exact LL.1
  · exact Nat.le_trans LL.2.1 (by decide)
  · exact Nat.le_trans LL.2.2 (by decide)
theorem rw1 (c d e f g : Int) : rows ⟨1, 1, c, d, e, [2], f, g⟩ = [uptoD 1, spans f, uptoD 1, toolsR c, zonesR e, spans f, uptoD 1, toolsR c, zonesR e, spans f, (.none :: uptoD (g + 1))] := by kernel_rfl
theorem all1 {c d e f g : Int} (h : Shp.Ok ⟨1, 1, c, d, e, [2], f, g⟩) {picks : List D} (hp : In2 picks (rows ⟨1, 1, c, d, e, [2], f, g⟩)) : TurnOk ⟨1, 1, c, d, e, [2], f, g⟩ picks := by
  have hin := hp
  rw [rw1] at hp
  obtain ⟨a1, _, rfl, m0, hp⟩ := hp.uncons
  obtain ⟨sp1, _, rfl, m1, hp⟩ := hp.uncons
  obtain ⟨p4, _, rfl, m2, hp⟩ := hp.uncons
  obtain ⟨p5, _, rfl, m3, hp⟩ := hp.uncons
  obtain ⟨p6, _, rfl, m4, hp⟩ := hp.uncons
  obtain ⟨sp5, _, rfl, m5, hp⟩ := hp.uncons
  obtain ⟨p9, _, rfl, m6, hp⟩ := hp.uncons
  obtain ⟨p10, _, rfl, m7, hp⟩ := hp.uncons
  obtain ⟨p11, _, rfl, m8, hp⟩ := hp.uncons
  obtain ⟨sp9, _, rfl, m9, hp⟩ := hp.uncons
  obtain ⟨w14, _, rfl, m10, hp⟩ := hp.uncons
  obtain rfl := hp.end
  obtain ⟨u2, v3, rfl, s1⟩ := span_of h m1
  obtain ⟨u7, v8, rfl, s5⟩ := span_of h m5
  obtain ⟨u12, v13, rfl, s9⟩ := span_of h m9
  have hcde : (c, d, e) ∈ cde := by
    obtain ⟨_, _, k1, k2, k3, _, _, _⟩ := h
    rcases k1 with k1 | k1 <;> rcases k2 with k2 | k2 <;> rcases k3 with k3 | k3 <;> (dsimp only at k1 k2 k3; subst k1 k2 k3; decide)
  have MM : chkM (.tuple [a1] :: []) 1 = true := (List.all_eq_true.mp mf11 a1 m0)
  have PP : Parts ⟨1, 1, c, d, e, [2], f, g⟩ [a1] [] [tup1 [0]] [.tuple [p9, p10, p11, .int u12, .int v13]] [.none, w14] [] u2 v3 p4 p5 p6 u7 v8 := {
    ok := h, few := by simp, s := rfl, t := rfl, mf := (meets_get MM).1, mfx := (meets_get MM).2, wf := wash_get wf1 s1, wfx := wash_get wf1b s1, wf2 := fun ht => absurd (show (1 : Int) = 2 from ht) (by decide),
    st0 := fun i' j' hij => (step_of (s := 1) h m3 m4 m2 hij (fun W d' => sf11 a1 W d') (fun W d' => sf12 a1 (nones ⟨1, 1, c, d, e, [2], f, g⟩) W d')), sp0 := sp34 s5, rest := .inr ⟨_, _, rfl, rfl, (step_of (s := 1) h m7 m8 m6 (sp34 s9) (fun W d' => sf11 a1 W d') (fun W d' => sf12 a1 (nones ⟨1, 1, c, d, e, [2], f, g⟩) W d')), win_of h m10⟩, more := .inl ⟨rfl, rfl⟩,
    bad1 := fun i' j' hb => bad_set h hin (k := 5) (b := .tuple [.int i', .int j']) (r := spans f) (isD1_ok (List.all_eq_true.mp (hs1 (.int f) (.int g) a1 (.int u2) (.int v3) p4 p5 p6 (.int i') (.int j') p9 p10 p11 (.int u12) (.int v13) w14) (c, d, e) hcde)) (pk1 (.int c) (.int d) (.int e) (.int f) (.int g) a1 (.int u2) (.int v3) p4 p5 p6 (.int i') (.int j') p9 p10 p11 (.int u12) (.int v13) w14) (by rfl) (by rw [rw1]; rfl) (span_bad h hb), bad7 := fun _ _ ht _ => absurd (show (1 : Int) = 2 from ht) (by decide), bad8 := fun w1 r _ hr => bad_set h hin (k := 10) (b := .int r) (r := (.none :: uptoD (g + 1))) (isD1_ok (List.all_eq_true.mp (hs1 (.int f) (.int g) a1 (.int u2) (.int v3) p4 p5 p6 (.int u7) (.int v8) p9 p10 p11 (.int u12) (.int v13) (.int r)) (c, d, e) hcde)) (pk1 (.int c) (.int d) (.int e) (.int f) (.int g) a1 (.int u2) (.int v3) p4 p5 p6 (.int u7) (.int v8) p9 p10 p11 (.int u12) (.int v13) (.int r)) (by rfl) (by rw [rw1]; rfl) (win_bad h hr) }
  obtain ⟨c1, c2, d1, d2, e1, e2⟩ := PP.bnd
  refine ⟨tkOf (.tuple [a1] :: []) [tup1 [0]] [.tuple [p9, p10, p11, .int u12, .int v13]] [.none, w14] [] (.int u2) (.int v3) (.int c) (.int d) (.int e) (.tuple [p4, p5, p6, .int u7, .int v8]), tk1 (.int c) (.int d) (.int e) (.int f) (.int g) a1 (.int u2) (.int v3) p4 p5 p6 (.int u7) (.int v8) p9 p10 p11 (.int u12) (.int v13) w14, fun N R W => lt1 (.int c) (.int d) (.int e) (.int f) (.int g) a1 (.int u2) (.int v3) p4 p5 p6 (.int u7) (.int v8) p9 p10 p11 (.int u12) (.int v13) w14 N R W, (pk1 (.int c) (.int d) (.int e) (.int f) (.int g) a1 (.int u2) (.int v3) p4 p5 p6 (.int u7) (.int v8) p9 p10 p11 (.int u12) (.int v13) w14), (isD1_ok (List.all_eq_true.mp (hs1 (.int f) (.int g) a1 (.int u2) (.int v3) p4 p5 p6 (.int u7) (.int v8) p9 p10 p11 (.int u12) (.int v13) w14) (c, d, e) hcde)), PP.tasks (adm (.inl rfl) (.inl rfl)) (lab1 PP.mf PP.wf c1 c2 d1 d2 e1 e2) PP.step0, ?_, ?_, ?_, fun k st hs hk => PP.bent hs hk⟩
  all_goals
    have hg5 : g + 1 ≤ 5 := by have := h.g; dsimp only at this; omega
    have q1 := h.c
    have q2 := h.d
    have q3 := h.e
    dsimp only at q1 q2 q3 c1 c2 d1 d2 e1 e2
    have LL : Lv 5 (tkOf (.tuple [a1] :: []) [tup1 [0]] [.tuple [p9, p10, p11, .int u12, .int v13]] [.none, w14] [] (.int u2) (.int v3) (.int c) (.int d) (.int e) (.tuple [p4, p5, p6, .int u7, .int v8])) := (tupL (n := 4) ⟨(tupL (n := 3) ⟨(tupL (n := 2) ⟨(tupL (n := 1) ⟨(Pl.up (pl_upto (n := 1) (by decide) m0) 1), trivial⟩ (by show 1 ≤ 5; decide)), trivial⟩ (by show 1 ≤ 5; decide)), (tupL (n := 2) ⟨(tupL (n := 1) ⟨(tupL (n := 0) ⟨(Pl.up (pl_list [tup1 [0]] (by rfl) List.mem_cons_self) 0), trivial⟩ (by show 1 ≤ 5; decide)), (Pl.up (sp_pl s1).1 1), (Pl.up (sp_pl s1).2 1), trivial⟩ (by show 3 ≤ 5; decide)), trivial⟩ (by show 1 ≤ 5; decide)), (Pl.up (pl_int (n := c) (by omega) (by omega)) 3), (Pl.up (pl_int (n := d) (by omega) (by omega)) 3), (Pl.up (pl_int (n := e) (by omega) (by omega)) 3), trivial⟩ (by show 5 ≤ 5; decide)), (tupL (n := 3) ⟨(tupL (n := 2) ⟨(tupL (n := 1) ⟨(tupL (n := 0) ⟨(Pl.up (pl_upto (n := 1) (by decide) m2) 0), (Pl.up (pl_tools h.c m3) 0), (Pl.up (pl_zones h.e m4) 0), (Pl.up (sp_pl s5).1 0), (Pl.up (sp_pl s5).2 0), trivial⟩ (by show 5 ≤ 5; decide)), (tupL (n := 0) ⟨(Pl.up (pl_upto (n := 1) (by decide) m6) 0), (Pl.up (pl_tools h.c m7) 0), (Pl.up (pl_zones h.e m8) 0), (Pl.up (sp_pl s9).1 0), (Pl.up (sp_pl s9).2 0), trivial⟩ (by show 5 ≤ 5; decide)), trivial⟩ (by show 2 ≤ 5; decide)), (tupL (n := 1) ⟨(Pl.up pl_none 1), (Pl.up (pl_upN (n := g + 1) hg5 m10) 1), trivial⟩ (by show 2 ≤ 5; decide)), trivial⟩ (by show 2 ≤ 5; decide)), trivial⟩ (by show 1 ≤ 5; decide)), trivial⟩ (by show 2 ≤ 5; decide))
  · exact LL.1
  · exact Nat.le_trans LL.2.1 (by decide)
  · exact Nat.le_trans LL.2.2 (by decide)
theorem rw2 (c d e f g : Int) : rows ⟨1, 1, c, d, e, [1, 1], f, g⟩ = [uptoD 1, spans f, uptoD 1, toolsR c, zonesR e, spans f, uptoD 1, toolsR c, zonesR e, spans f] := by kernel_rfl
theorem all2 {c d e f g : Int} (h : Shp.Ok ⟨1, 1, c, d, e, [1, 1], f, g⟩) {picks : List D} (hp : In2 picks (rows ⟨1, 1, c, d, e, [1, 1], f, g⟩)) : TurnOk ⟨1, 1, c, d, e, [1, 1], f, g⟩ picks := by
  have hin := hp
  rw [rw2] at hp
  obtain ⟨a1, _, rfl, m0, hp⟩ := hp.uncons
  obtain ⟨sp1, _, rfl, m1, hp⟩ := hp.uncons
  obtain ⟨p4, _, rfl, m2, hp⟩ := hp.uncons
  obtain ⟨p5, _, rfl, m3, hp⟩ := hp.uncons
  obtain ⟨p6, _, rfl, m4, hp⟩ := hp.uncons
  obtain ⟨sp5, _, rfl, m5, hp⟩ := hp.uncons
  obtain ⟨p9, _, rfl, m6, hp⟩ := hp.uncons
  obtain ⟨p10, _, rfl, m7, hp⟩ := hp.uncons
  obtain ⟨p11, _, rfl, m8, hp⟩ := hp.uncons
  obtain ⟨sp9, _, rfl, m9, hp⟩ := hp.uncons
  obtain rfl := hp.end
  obtain ⟨u2, v3, rfl, s1⟩ := span_of h m1
  obtain ⟨u7, v8, rfl, s5⟩ := span_of h m5
  obtain ⟨u12, v13, rfl, s9⟩ := span_of h m9
  have hcde : (c, d, e) ∈ cde := by
    obtain ⟨_, _, k1, k2, k3, _, _, _⟩ := h
    rcases k1 with k1 | k1 <;> rcases k2 with k2 | k2 <;> rcases k3 with k3 | k3 <;> (dsimp only at k1 k2 k3; subst k1 k2 k3; decide)
  have MM : chkM (.tuple [a1] :: []) 1 = true := (List.all_eq_true.mp mf11 a1 m0)
  have PP : Parts ⟨1, 1, c, d, e, [1, 1], f, g⟩ [a1] [] [tup1 [0]] [] [.none] [smp [.tuple [p9, p10, p11, .int u12, .int v13]] [.none]] u2 v3 p4 p5 p6 u7 v8 := {
    ok := h, few := by simp, s := rfl, t := rfl, mf := (meets_get MM).1, mfx := (meets_get MM).2, wf := wash_get wf1 s1, wfx := wash_get wf1b s1, wf2 := fun ht => absurd (show (1 : Int) = 2 from ht) (by decide),
    st0 := fun i' j' hij => (step_of (s := 1) h m3 m4 m2 hij (fun W d' => sf11 a1 W d') (fun W d' => sf12 a1 (nones ⟨1, 1, c, d, e, [1, 1], f, g⟩) W d')), sp0 := sp34 s5, rest := .inl ⟨rfl, rfl⟩, more := .inr ⟨_, _, rfl, fun lab ha => sample1 ((step_of (s := 1) h m7 m8 m6 (sp34 s9) (fun W d' => sf11 a1 W d') (fun W d' => sf12 a1 (nones ⟨1, 1, c, d, e, [1, 1], f, g⟩) W d')) lab ha), rfl⟩,
    bad1 := fun i' j' hb => bad_set h hin (k := 5) (b := .tuple [.int i', .int j']) (r := spans f) (isD1_ok (List.all_eq_true.mp (hs2 (.int f) (.int g) a1 (.int u2) (.int v3) p4 p5 p6 (.int i') (.int j') p9 p10 p11 (.int u12) (.int v13)) (c, d, e) hcde)) (pk2 (.int c) (.int d) (.int e) (.int f) (.int g) a1 (.int u2) (.int v3) p4 p5 p6 (.int i') (.int j') p9 p10 p11 (.int u12) (.int v13)) (by rfl) (by rw [rw2]; rfl) (span_bad h hb), bad7 := fun _ _ ht _ => absurd (show (1 : Int) = 2 from ht) (by decide), bad8 := fun w1 r ee => by cases ee }
  obtain ⟨c1, c2, d1, d2, e1, e2⟩ := PP.bnd
  refine ⟨tkOf (.tuple [a1] :: []) [tup1 [0]] [] [.none] [smp [.tuple [p9, p10, p11, .int u12, .int v13]] [.none]] (.int u2) (.int v3) (.int c) (.int d) (.int e) (.tuple [p4, p5, p6, .int u7, .int v8]), tk2 (.int c) (.int d) (.int e) (.int f) (.int g) a1 (.int u2) (.int v3) p4 p5 p6 (.int u7) (.int v8) p9 p10 p11 (.int u12) (.int v13), fun N R W => lt2 (.int c) (.int d) (.int e) (.int f) (.int g) a1 (.int u2) (.int v3) p4 p5 p6 (.int u7) (.int v8) p9 p10 p11 (.int u12) (.int v13) N R W, (pk2 (.int c) (.int d) (.int e) (.int f) (.int g) a1 (.int u2) (.int v3) p4 p5 p6 (.int u7) (.int v8) p9 p10 p11 (.int u12) (.int v13)), (isD1_ok (List.all_eq_true.mp (hs2 (.int f) (.int g) a1 (.int u2) (.int v3) p4 p5 p6 (.int u7) (.int v8) p9 p10 p11 (.int u12) (.int v13)) (c, d, e) hcde)), PP.tasks (adm (.inl rfl) (.inl rfl)) (lab1 PP.mf PP.wf c1 c2 d1 d2 e1 e2) PP.step0, ?_, ?_, ?_, fun k st hs hk => PP.bent hs hk⟩
  all_goals
    have hg5 : g + 1 ≤ 5 := by have := h.g; dsimp only at this; omega
    have q1 := h.c
    have q2 := h.d
    have q3 := h.e
    dsimp only at q1 q2 q3 c1 c2 d1 d2 e1 e2
    have LL : Lv 5 (tkOf (.tuple [a1] :: []) [tup1 [0]] [] [.none] [smp [.tuple [p9, p10, p11, .int u12, .int v13]] [.none]] (.int u2) (.int v3) (.int c) (.int d) (.int e) (.tuple [p4, p5, p6, .int u7, .int v8])) := (tupL (n := 4) ⟨(tupL (n := 3) ⟨(tupL (n := 2) ⟨(tupL (n := 1) ⟨(Pl.up (pl_upto (n := 1) (by decide) m0) 1), trivial⟩ (by show 1 ≤ 5; decide)), trivial⟩ (by show 1 ≤ 5; decide)), (tupL (n := 2) ⟨(tupL (n := 1) ⟨(tupL (n := 0) ⟨(Pl.up (pl_list [tup1 [0]] (by rfl) List.mem_cons_self) 0), trivial⟩ (by show 1 ≤ 5; decide)), (Pl.up (sp_pl s1).1 1), (Pl.up (sp_pl s1).2 1), trivial⟩ (by show 3 ≤ 5; decide)), trivial⟩ (by show 1 ≤ 5; decide)), (Pl.up (pl_int (n := c) (by omega) (by omega)) 3), (Pl.up (pl_int (n := d) (by omega) (by omega)) 3), (Pl.up (pl_int (n := e) (by omega) (by omega)) 3), trivial⟩ (by show 5 ≤ 5; decide)), (tupL (n := 3) ⟨(tupL (n := 2) ⟨(tupL (n := 1) ⟨(tupL (n := 0) ⟨(Pl.up (pl_upto (n := 1) (by decide) m2) 0), (Pl.up (pl_tools h.c m3) 0), (Pl.up (pl_zones h.e m4) 0), (Pl.up (sp_pl s5).1 0), (Pl.up (sp_pl s5).2 0), trivial⟩ (by show 5 ≤ 5; decide)), trivial⟩ (by show 1 ≤ 5; decide)), (tupL (n := 1) ⟨(Pl.up pl_none 1), trivial⟩ (by show 1 ≤ 5; decide)), trivial⟩ (by show 2 ≤ 5; decide)), (tupL (n := 2) ⟨(tupL (n := 1) ⟨(tupL (n := 0) ⟨(Pl.up (pl_upto (n := 1) (by decide) m6) 0), (Pl.up (pl_tools h.c m7) 0), (Pl.up (pl_zones h.e m8) 0), (Pl.up (sp_pl s9).1 0), (Pl.up (sp_pl s9).2 0), trivial⟩ (by show 5 ≤ 5; decide)), trivial⟩ (by show 1 ≤ 5; decide)), (tupL (n := 1) ⟨(Pl.up pl_none 1), trivial⟩ (by show 1 ≤ 5; decide)), trivial⟩ (by show 2 ≤ 5; decide)), trivial⟩ (by show 2 ≤ 5; decide)), trivial⟩ (by show 2 ≤ 5; decide))
  · exact LL.1
  · exact Nat.le_trans LL.2.1 (by decide)
  · exact Nat.le_trans LL.2.2 (by decide)
theorem rw3 (c d e f g : Int) : rows ⟨1, 1, c, d, e, [1, 2], f, g⟩ = [uptoD 1, spans f, uptoD 1, toolsR c, zonesR e, spans f, uptoD 1, toolsR c, zonesR e, spans f, uptoD 1, toolsR c, zonesR e, spans f, (.none :: uptoD (g + 1))] := by kernel_rfl
theorem all3 {c d e f g : Int} (h : Shp.Ok ⟨1, 1, c, d, e, [1, 2], f, g⟩) {picks : List D} (hp : In2 picks (rows ⟨1, 1, c, d, e, [1, 2], f, g⟩)) : TurnOk ⟨1, 1, c, d, e, [1, 2], f, g⟩ picks := by
  have hin := hp
  rw [rw3] at hp
  obtain ⟨a1, _, rfl, m0, hp⟩ := hp.uncons
  obtain ⟨sp1, _, rfl, m1, hp⟩ := hp.uncons
  obtain ⟨p4, _, rfl, m2, hp⟩ := hp.uncons
  obtain ⟨p5, _, rfl, m3, hp⟩ := hp.uncons
  obtain ⟨p6, _, rfl, m4, hp⟩ := hp.uncons
  obtain ⟨sp5, _, rfl, m5, hp⟩ := hp.uncons
  obtain ⟨p9, _, rfl, m6, hp⟩ := hp.uncons
  obtain ⟨p10, _, rfl, m7, hp⟩ := hp.uncons
  obtain ⟨p11, _, rfl, m8, hp⟩ := hp.uncons
  obtain ⟨sp9, _, rfl, m9, hp⟩ := hp.uncons
  obtain ⟨p14, _, rfl, m10, hp⟩ := hp.uncons
  obtain ⟨p15, _, rfl, m11, hp⟩ := hp.uncons
  obtain ⟨p16, _, rfl, m12, hp⟩ := hp.uncons
  obtain ⟨sp13, _, rfl, m13, hp⟩ := hp.uncons
  obtain ⟨w19, _, rfl, m14, hp⟩ := hp.uncons
  obtain rfl := hp.end
  obtain ⟨u2, v3, rfl, s1⟩ := span_of h m1
  obtain ⟨u7, v8, rfl, s5⟩ := span_of h m5
  obtain ⟨u12, v13, rfl, s9⟩ := span_of h m9
  obtain ⟨u17, v18, rfl, s13⟩ := span_of h m13
  have hcde : (c, d, e) ∈ cde := by
    obtain ⟨_, _, k1, k2, k3, _, _, _⟩ := h
    rcases k1 with k1 | k1 <;> rcases k2 with k2 | k2 <;> rcases k3 with k3 | k3 <;> (dsimp only at k1 k2 k3; subst k1 k2 k3; decide)
  have MM : chkM (.tuple [a1] :: []) 1 = true := (List.all_eq_true.mp mf11 a1 m0)
  have PP : Parts ⟨1, 1, c, d, e, [1, 2], f, g⟩ [a1] [] [tup1 [0]] [] [.none] [smp [.tuple [p9, p10, p11, .int u12, .int v13], .tuple [p14, p15, p16, .int u17, .int v18]] [.none, w19]] u2 v3 p4 p5 p6 u7 v8 := {
    ok := h, few := by simp, s := rfl, t := rfl, mf := (meets_get MM).1, mfx := (meets_get MM).2, wf := wash_get wf1 s1, wfx := wash_get wf1b s1, wf2 := fun ht => absurd (show (1 : Int) = 2 from ht) (by decide),
    st0 := fun i' j' hij => (step_of (s := 1) h m3 m4 m2 hij (fun W d' => sf11 a1 W d') (fun W d' => sf12 a1 (nones ⟨1, 1, c, d, e, [1, 2], f, g⟩) W d')), sp0 := sp34 s5, rest := .inl ⟨rfl, rfl⟩, more := .inr ⟨_, _, rfl, fun lab ha => sample2 ((step_of (s := 1) h m7 m8 m6 (sp34 s9) (fun W d' => sf11 a1 W d') (fun W d' => sf12 a1 (nones ⟨1, 1, c, d, e, [1, 2], f, g⟩) W d')) lab ha) ((step_of (s := 1) h m11 m12 m10 (sp34 s13) (fun W d' => sf11 a1 W d') (fun W d' => sf12 a1 (nones ⟨1, 1, c, d, e, [1, 2], f, g⟩) W d')) lab ha) (win_of h m14), rfl⟩,
    bad1 := fun i' j' hb => bad_set h hin (k := 5) (b := .tuple [.int i', .int j']) (r := spans f) (isD1_ok (List.all_eq_true.mp (hs3 (.int f) (.int g) a1 (.int u2) (.int v3) p4 p5 p6 (.int i') (.int j') p9 p10 p11 (.int u12) (.int v13) p14 p15 p16 (.int u17) (.int v18) w19) (c, d, e) hcde)) (pk3 (.int c) (.int d) (.int e) (.int f) (.int g) a1 (.int u2) (.int v3) p4 p5 p6 (.int i') (.int j') p9 p10 p11 (.int u12) (.int v13) p14 p15 p16 (.int u17) (.int v18) w19) (by rfl) (by rw [rw3]; rfl) (span_bad h hb), bad7 := fun _ _ ht _ => absurd (show (1 : Int) = 2 from ht) (by decide), bad8 := fun w1 r ee => by cases ee }
  obtain ⟨c1, c2, d1, d2, e1, e2⟩ := PP.bnd
  refine ⟨tkOf (.tuple [a1] :: []) [tup1 [0]] [] [.none] [smp [.tuple [p9, p10, p11, .int u12, .int v13], .tuple [p14, p15, p16, .int u17, .int v18]] [.none, w19]] (.int u2) (.int v3) (.int c) (.int d) (.int e) (.tuple [p4, p5, p6, .int u7, .int v8]), tk3 (.int c) (.int d) (.int e) (.int f) (.int g) a1 (.int u2) (.int v3) p4 p5 p6 (.int u7) (.int v8) p9 p10 p11 (.int u12) (.int v13) p14 p15 p16 (.int u17) (.int v18) w19, fun N R W => lt3 (.int c) (.int d) (.int e) (.int f) (.int g) a1 (.int u2) (.int v3) p4 p5 p6 (.int u7) (.int v8) p9 p10 p11 (.int u12) (.int v13) p14 p15 p16 (.int u17) (.int v18) w19 N R W, (pk3 (.int c) (.int d) (.int e) (.int f) (.int g) a1 (.int u2) (.int v3) p4 p5 p6 (.int u7) (.int v8) p9 p10 p11 (.int u12) (.int v13) p14 p15 p16 (.int u17) (.int v18) w19), (isD1_ok (List.all_eq_true.mp (hs3 (.int f) (.int g) a1 (.int u2) (.int v3) p4 p5 p6 (.int u7) (.int v8) p9 p10 p11 (.int u12) (.int v13) p14 p15 p16 (.int u17) (.int v18) w19) (c, d, e) hcde)), PP.tasks (adm (.inl rfl) (.inl rfl)) (lab1 PP.mf PP.wf c1 c2 d1 d2 e1 e2) PP.step0, ?_, ?_, ?_, fun k st hs hk => PP.bent hs hk⟩
  all_goals
    have hg5 : g + 1 ≤ 5 := by have := h.g; dsimp only at this; omega
    have q1 := h.c
    have q2 := h.d
    have q3 := h.e
    dsimp only at q1 q2 q3 c1 c2 d1 d2 e1 e2
    have LL : Lv 5 (tkOf (.tuple [a1] :: []) [tup1 [0]] [] [.none] [smp [.tuple [p9, p10, p11, .int u12, .int v13], .tuple [p14, p15, p16, .int u17, .int v18]] [.none, w19]] (.int u2) (.int v3) (.int c) (.int d) (.int e) (.tuple [p4, p5, p6, .int u7, .int v8])) := (tupL (n := 4) ⟨(tupL (n := 3) ⟨(tupL (n := 2) ⟨(tupL (n := 1) ⟨(Pl.up (pl_upto (n := 1) (by decide) m0) 1), trivial⟩ (by show 1 ≤ 5; decide)), trivial⟩ (by show 1 ≤ 5; decide)), (tupL (n := 2) ⟨(tupL (n := 1) ⟨(tupL (n := 0) ⟨(Pl.up (pl_list [tup1 [0]] (by rfl) List.mem_cons_self) 0), trivial⟩ (by show 1 ≤ 5; decide)), (Pl.up (sp_pl s1).1 1), (Pl.up (sp_pl s1).2 1), trivial⟩ (by show 3 ≤ 5; decide)), trivial⟩ (by show 1 ≤ 5; decide)), (Pl.up (pl_int (n := c) (by omega) (by omega)) 3), (Pl.up (pl_int (n := d) (by omega) (by omega)) 3), (Pl.up (pl_int (n := e) (by omega) (by omega)) 3), trivial⟩ (by show 5 ≤ 5; decide)), (tupL (n := 3) ⟨(tupL (n := 2) ⟨(tupL (n := 1) ⟨(tupL (n := 0) ⟨(Pl.up (pl_upto (n := 1) (by decide) m2) 0), (Pl.up (pl_tools h.c m3) 0), (Pl.up (pl_zones h.e m4) 0), (Pl.up (sp_pl s5).1 0), (Pl.up (sp_pl s5).2 0), trivial⟩ (by show 5 ≤ 5; decide)), trivial⟩ (by show 1 ≤ 5; decide)), (tupL (n := 1) ⟨(Pl.up pl_none 1), trivial⟩ (by show 1 ≤ 5; decide)), trivial⟩ (by show 2 ≤ 5; decide)), (tupL (n := 2) ⟨(tupL (n := 1) ⟨(tupL (n := 0) ⟨(Pl.up (pl_upto (n := 1) (by decide) m6) 0), (Pl.up (pl_tools h.c m7) 0), (Pl.up (pl_zones h.e m8) 0), (Pl.up (sp_pl s9).1 0), (Pl.up (sp_pl s9).2 0), trivial⟩ (by show 5 ≤ 5; decide)), (tupL (n := 0) ⟨(Pl.up (pl_upto (n := 1) (by decide) m10) 0), (Pl.up (pl_tools h.c m11) 0), (Pl.up (pl_zones h.e m12) 0), (Pl.up (sp_pl s13).1 0), (Pl.up (sp_pl s13).2 0), trivial⟩ (by show 5 ≤ 5; decide)), trivial⟩ (by show 2 ≤ 5; decide)), (tupL (n := 1) ⟨(Pl.up pl_none 1), (Pl.up (pl_upN (n := g + 1) hg5 m14) 1), trivial⟩ (by show 2 ≤ 5; decide)), trivial⟩ (by show 2 ≤ 5; decide)), trivial⟩ (by show 2 ≤ 5; decide)), trivial⟩ (by show 2 ≤ 5; decide))
  · exact LL.1
  · exact Nat.le_trans LL.2.1 (by decide)
  · exact Nat.le_trans LL.2.2 (by decide)
theorem rw4 (c d e f g : Int) : rows ⟨1, 1, c, d, e, [2, 1], f, g⟩ = [uptoD 1, spans f, uptoD 1, toolsR c, zonesR e, spans f, uptoD 1, toolsR c, zonesR e, spans f, (.none :: uptoD (g + 1)), uptoD 1, toolsR c, zonesR e, spans f] := by kernel_rfl
theorem all4 {c d e f g : Int} (h : Shp.Ok ⟨1, 1, c, d, e, [2, 1], f, g⟩) {picks : List D} (hp : In2 picks (rows ⟨1, 1, c, d, e, [2, 1], f, g⟩)) : TurnOk ⟨1, 1, c, d, e, [2, 1], f, g⟩ picks := by
  have hin := hp
  rw [rw4] at hp
  obtain ⟨a1, _, rfl, m0, hp⟩ := hp.uncons
  obtain ⟨sp1, _, rfl, m1, hp⟩ := hp.uncons
  obtain ⟨p4, _, rfl, m2, hp⟩ := hp.uncons
  obtain ⟨p5, _, rfl, m3, hp⟩ := hp.uncons
  obtain ⟨p6, _, rfl, m4, hp⟩ := hp.uncons
  obtain ⟨sp5, _, rfl, m5, hp⟩ := hp.uncons
  obtain ⟨p9, _, rfl, m6, hp⟩ := hp.uncons
  obtain ⟨p10, _, rfl, m7, hp⟩ := hp.uncons
  obtain ⟨p11, _, rfl, m8, hp⟩ := hp.uncons
  obtain ⟨sp9, _, rfl, m9, hp⟩ := hp.uncons
  obtain ⟨w14, _, rfl, m10, hp⟩ := hp.uncons
  obtain ⟨p15, _, rfl, m11, hp⟩ := hp.uncons
  obtain ⟨p16, _, rfl, m12, hp⟩ := hp.uncons
  obtain ⟨p17, _, rfl, m13, hp⟩ := hp.uncons
  obtain ⟨sp14, _, rfl, m14, hp⟩ := hp.uncons
  obtain rfl := hp.end
  obtain ⟨u2, v3, rfl, s1⟩ := span_of h m1
  obtain ⟨u7, v8, rfl, s5⟩ := span_of h m5
  obtain ⟨u12, v13, rfl, s9⟩ := span_of h m9
  obtain ⟨u18, v19, rfl, s14⟩ := span_of h m14
  have hcde : (c, d, e) ∈ cde := by
    obtain ⟨_, _, k1, k2, k3, _, _, _⟩ := h
    rcases k1 with k1 | k1 <;> rcases k2 with k2 | k2 <;> rcases k3 with k3 | k3 <;> (dsimp only at k1 k2 k3; subst k1 k2 k3; decide)
  have MM : chkM (.tuple [a1] :: []) 1 = true := (List.all_eq_true.mp mf11 a1 m0)
  have PP : Parts ⟨1, 1, c, d, e, [2, 1], f, g⟩ [a1] [] [tup1 [0]] [.tuple [p9, p10, p11, .int u12, .int v13]] [.none, w14] [smp [.tuple [p15, p16, p17, .int u18, .int v19]] [.none]] u2 v3 p4 p5 p6 u7 v8 := {
    ok := h, few := by simp, s := rfl, t := rfl, mf := (meets_get MM).1, mfx := (meets_get MM).2, wf := wash_get wf1 s1, wfx := wash_get wf1b s1, wf2 := fun ht => absurd (show (1 : Int) = 2 from ht) (by decide),
    st0 := fun i' j' hij => (step_of (s := 1) h m3 m4 m2 hij (fun W d' => sf11 a1 W d') (fun W d' => sf12 a1 (nones ⟨1, 1, c, d, e, [2, 1], f, g⟩) W d')), sp0 := sp34 s5, rest := .inr ⟨_, _, rfl, rfl, (step_of (s := 1) h m7 m8 m6 (sp34 s9) (fun W d' => sf11 a1 W d') (fun W d' => sf12 a1 (nones ⟨1, 1, c, d, e, [2, 1], f, g⟩) W d')), win_of h m10⟩, more := .inr ⟨_, _, rfl, fun lab ha => sample1 ((step_of (s := 1) h m12 m13 m11 (sp34 s14) (fun W d' => sf11 a1 W d') (fun W d' => sf12 a1 (nones ⟨1, 1, c, d, e, [2, 1], f, g⟩) W d')) lab ha), rfl⟩,
    bad1 := fun i' j' hb => bad_set h hin (k := 5) (b := .tuple [.int i', .int j']) (r := spans f) (isD1_ok (List.all_eq_true.mp (hs4 (.int f) (.int g) a1 (.int u2) (.int v3) p4 p5 p6 (.int i') (.int j') p9 p10 p11 (.int u12) (.int v13) w14 p15 p16 p17 (.int u18) (.int v19)) (c, d, e) hcde)) (pk4 (.int c) (.int d) (.int e) (.int f) (.int g) a1 (.int u2) (.int v3) p4 p5 p6 (.int i') (.int j') p9 p10 p11 (.int u12) (.int v13) w14 p15 p16 p17 (.int u18) (.int v19)) (by rfl) (by rw [rw4]; rfl) (span_bad h hb), bad7 := fun _ _ ht _ => absurd (show (1 : Int) = 2 from ht) (by decide), bad8 := fun w1 r _ hr => bad_set h hin (k := 10) (b := .int r) (r := (.none :: uptoD (g + 1))) (isD1_ok (List.all_eq_true.mp (hs4 (.int f) (.int g) a1 (.int u2) (.int v3) p4 p5 p6 (.int u7) (.int v8) p9 p10 p11 (.int u12) (.int v13) (.int r) p15 p16 p17 (.int u18) (.int v19)) (c, d, e) hcde)) (pk4 (.int c) (.int d) (.int e) (.int f) (.int g) a1 (.int u2) (.int v3) p4 p5 p6 (.int u7) (.int v8) p9 p10 p11 (.int u12) (.int v13) (.int r) p15 p16 p17 (.int u18) (.int v19)) (by rfl) (by rw [rw4]; rfl) (win_bad h hr) }
  obtain ⟨c1, c2, d1, d2, e1, e2⟩ := PP.bnd
  refine ⟨tkOf (.tuple [a1] :: []) [tup1 [0]] [.tuple [p9, p10, p11, .int u12, .int v13]] [.none, w14] [smp [.tuple [p15, p16, p17, .int u18, .int v19]] [.none]] (.int u2) (.int v3) (.int c) (.int d) (.int e) (.tuple [p4, p5, p6, .int u7, .int v8]), tk4 (.int c) (.int d) (.int e) (.int f) (.int g) a1 (.int u2) (.int v3) p4 p5 p6 (.int u7) (.int v8) p9 p10 p11 (.int u12) (.int v13) w14 p15 p16 p17 (.int u18) (.int v19), fun N R W => lt4 (.int c) (.int d) (.int e) (.int f) (.int g) a1 (.int u2) (.int v3) p4 p5 p6 (.int u7) (.int v8) p9 p10 p11 (.int u12) (.int v13) w14 p15 p16 p17 (.int u18) (.int v19) N R W, (pk4 (.int c) (.int d) (.int e) (.int f) (.int g) a1 (.int u2) (.int v3) p4 p5 p6 (.int u7) (.int v8) p9 p10 p11 (.int u12) (.int v13) w14 p15 p16 p17 (.int u18) (.int v19)), (isD1_ok (List.all_eq_true.mp (hs4 (.int f) (.int g) a1 (.int u2) (.int v3) p4 p5 p6 (.int u7) (.int v8) p9 p10 p11 (.int u12) (.int v13) w14 p15 p16 p17 (.int u18) (.int v19)) (c, d, e) hcde)), PP.tasks (adm (.inl rfl) (.inl rfl)) (lab1 PP.mf PP.wf c1 c2 d1 d2 e1 e2) PP.step0, ?_, ?_, ?_, fun k st hs hk => PP.bent hs hk⟩
  all_goals
    have hg5 : g + 1 ≤ 5 := by have := h.g; dsimp only at this; omega
    have q1 := h.c
    have q2 := h.d
    have q3 := h.e
    dsimp only at q1 q2 q3 c1 c2 d1 d2 e1 e2
    have LL : Lv 5 (tkOf (.tuple [a1] :: []) [tup1 [0]] [.tuple [p9, p10, p11, .int u12, .int v13]] [.none, w14] [smp [.tuple [p15, p16, p17, .int u18, .int v19]] [.none]] (.int u2) (.int v3) (.int c) (.int d) (.int e) (.tuple [p4, p5, p6, .int u7, .int v8])) := (tupL (n := 4) ⟨(tupL (n := 3) ⟨(tupL (n := 2) ⟨(tupL (n := 1) ⟨(Pl.up (pl_upto (n := 1) (by decide) m0) 1), trivial⟩ (by show 1 ≤ 5; decide)), trivial⟩ (by show 1 ≤ 5; decide)), (tupL (n := 2) ⟨(tupL (n := 1) ⟨(tupL (n := 0) ⟨(Pl.up (pl_list [tup1 [0]] (by rfl) List.mem_cons_self) 0), trivial⟩ (by show 1 ≤ 5; decide)), (Pl.up (sp_pl s1).1 1), (Pl.up (sp_pl s1).2 1), trivial⟩ (by show 3 ≤ 5; decide)), trivial⟩ (by show 1 ≤ 5; decide)), (Pl.up (pl_int (n := c) (by omega) (by omega)) 3), (Pl.up (pl_int (n := d) (by omega) (by omega)) 3), (Pl.up (pl_int (n := e) (by omega) (by omega)) 3), trivial⟩ (by show 5 ≤ 5; decide)), (tupL (n := 3) ⟨(tupL (n := 2) ⟨(tupL (n := 1) ⟨(tupL (n := 0) ⟨(Pl.up (pl_upto (n := 1) (by decide) m2) 0), (Pl.up (pl_tools h.c m3) 0), (Pl.up (pl_zones h.e m4) 0), (Pl.up (sp_pl s5).1 0), (Pl.up (sp_pl s5).2 0), trivial⟩ (by show 5 ≤ 5; decide)), (tupL (n := 0) ⟨(Pl.up (pl_upto (n := 1) (by decide) m6) 0), (Pl.up (pl_tools h.c m7) 0), (Pl.up (pl_zones h.e m8) 0), (Pl.up (sp_pl s9).1 0), (Pl.up (sp_pl s9).2 0), trivial⟩ (by show 5 ≤ 5; decide)), trivial⟩ (by show 2 ≤ 5; decide)), (tupL (n := 1) ⟨(Pl.up pl_none 1), (Pl.up (pl_upN (n := g + 1) hg5 m10) 1), trivial⟩ (by show 2 ≤ 5; decide)), trivial⟩ (by show 2 ≤ 5; decide)), (tupL (n := 2) ⟨(tupL (n := 1) ⟨(tupL (n := 0) ⟨(Pl.up (pl_upto (n := 1) (by decide) m11) 0), (Pl.up (pl_tools h.c m12) 0), (Pl.up (pl_zones h.e m13) 0), (Pl.up (sp_pl s14).1 0), (Pl.up (sp_pl s14).2 0), trivial⟩ (by show 5 ≤ 5; decide)), trivial⟩ (by show 1 ≤ 5; decide)), (tupL (n := 1) ⟨(Pl.up pl_none 1), trivial⟩ (by show 1 ≤ 5; decide)), trivial⟩ (by show 2 ≤ 5; decide)), trivial⟩ (by show 2 ≤ 5; decide)), trivial⟩ (by show 2 ≤ 5; decide))
  · exact LL.1
  · exact Nat.le_trans LL.2.1 (by decide)
  · exact Nat.le_trans LL.2.2 (by decide)
theorem rw5 (c d e f g : Int) : rows ⟨1, 1, c, d, e, [2, 2], f, g⟩ = [uptoD 1, spans f, uptoD 1, toolsR c, zonesR e, spans f, uptoD 1, toolsR c, zonesR e, spans f, (.none :: uptoD (g + 1)), uptoD 1, toolsR c, zonesR e, spans f, uptoD 1, toolsR c, zonesR e, spans f, (.none :: uptoD (g + 1))] := by kernel_rfl
theorem all5 {c d e f g : Int} (h : Shp.Ok ⟨1, 1, c, d, e, [2, 2], f, g⟩) {picks : List D} (hp : In2 picks (rows ⟨1, 1, c, d, e, [2, 2], f, g⟩)) : TurnOk ⟨1, 1, c, d, e, [2, 2], f, g⟩ picks := by
  have hin := hp
  rw [rw5] at hp
  obtain ⟨a1, _, rfl, m0, hp⟩ := hp.uncons
  obtain ⟨sp1, _, rfl, m1, hp⟩ := hp.uncons
  obtain ⟨p4, _, rfl, m2, hp⟩ := hp.uncons
  obtain ⟨p5, _, rfl, m3, hp⟩ := hp.uncons
  obtain ⟨p6, _, rfl, m4, hp⟩ := hp.uncons
  obtain ⟨sp5, _, rfl, m5, hp⟩ := hp.uncons
  obtain ⟨p9, _, rfl, m6, hp⟩ := hp.uncons
  obtain ⟨p10, _, rfl, m7, hp⟩ := hp.uncons
  obtain ⟨p11, _, rfl, m8, hp⟩ := hp.uncons
  obtain ⟨sp9, _, rfl, m9, hp⟩ := hp.uncons
  obtain ⟨w14, _, rfl, m10, hp⟩ := hp.uncons
  obtain ⟨p15, _, rfl, m11, hp⟩ := hp.uncons
  obtain ⟨p16, _, rfl, m12, hp⟩ := hp.uncons
  obtain ⟨p17, _, rfl, m13, hp⟩ := hp.uncons
  obtain ⟨sp14, _, rfl, m14, hp⟩ := hp.uncons
  obtain ⟨p20, _, rfl, m15, hp⟩ := hp.uncons
  obtain ⟨p21, _, rfl, m16, hp⟩ := hp.uncons
  obtain ⟨p22, _, rfl, m17, hp⟩ := hp.uncons
  obtain ⟨sp18, _, rfl, m18, hp⟩ := hp.uncons
  obtain ⟨w25, _, rfl, m19, hp⟩ := hp.uncons
  obtain rfl := hp.end
  obtain ⟨u2, v3, rfl, s1⟩ := span_of h m1
  obtain ⟨u7, v8, rfl, s5⟩ := span_of h m5
  obtain ⟨u12, v13, rfl, s9⟩ := span_of h m9
  obtain ⟨u18, v19, rfl, s14⟩ := span_of h m14
  obtain ⟨u23, v24, rfl, s18⟩ := span_of h m18
  have hcde : (c, d, e) ∈ cde := by
    obtain ⟨_, _, k1, k2, k3, _, _, _⟩ := h
    rcases k1 with k1 | k1 <;> rcases k2 with k2 | k2 <;> rcases k3 with k3 | k3 <;> (dsimp only at k1 k2 k3; subst k1 k2 k3; decide)
  have MM : chkM (.tuple [a1] :: []) 1 = true := (List.all_eq_true.mp mf11 a1 m0)
  have PP : Parts ⟨1, 1, c, d, e, [2, 2], f, g⟩ [a1] [] [tup1 [0]] [.tuple [p9, p10, p11, .int u12, .int v13]] [.none, w14] [smp [.tuple [p15, p16, p17, .int u18, .int v19], .tuple [p20, p21, p22, .int u23, .int v24]] [.none, w25]] u2 v3 p4 p5 p6 u7 v8 := {
    ok := h, few := by simp, s := rfl, t := rfl, mf := (meets_get MM).1, mfx := (meets_get MM).2, wf := wash_get wf1 s1, wfx := wash_get wf1b s1, wf2 := fun ht => absurd (show (1 : Int) = 2 from ht) (by decide),
    st0 := fun i' j' hij => (step_of (s := 1) h m3 m4 m2 hij (fun W d' => sf11 a1 W d') (fun W d' => sf12 a1 (nones ⟨1, 1, c, d, e, [2, 2], f, g⟩) W d')), sp0 := sp34 s5, rest := .inr ⟨_, _, rfl, rfl, (step_of (s := 1) h m7 m8 m6 (sp34 s9) (fun W d' => sf11 a1 W d') (fun W d' => sf12 a1 (nones ⟨1, 1, c, d, e, [2, 2], f, g⟩) W d')), win_of h m10⟩, more := .inr ⟨_, _, rfl, fun lab ha => sample2 ((step_of (s := 1) h m12 m13 m11 (sp34 s14) (fun W d' => sf11 a1 W d') (fun W d' => sf12 a1 (nones ⟨1, 1, c, d, e, [2, 2], f, g⟩) W d')) lab ha) ((step_of (s := 1) h m16 m17 m15 (sp34 s18) (fun W d' => sf11 a1 W d') (fun W d' => sf12 a1 (nones ⟨1, 1, c, d, e, [2, 2], f, g⟩) W d')) lab ha) (win_of h m19), rfl⟩,
    bad1 := fun i' j' hb => bad_set h hin (k := 5) (b := .tuple [.int i', .int j']) (r := spans f) (isD1_ok (List.all_eq_true.mp (hs5 (.int f) (.int g) a1 (.int u2) (.int v3) p4 p5 p6 (.int i') (.int j') p9 p10 p11 (.int u12) (.int v13) w14 p15 p16 p17 (.int u18) (.int v19) p20 p21 p22 (.int u23) (.int v24) w25) (c, d, e) hcde)) (pk5 (.int c) (.int d) (.int e) (.int f) (.int g) a1 (.int u2) (.int v3) p4 p5 p6 (.int i') (.int j') p9 p10 p11 (.int u12) (.int v13) w14 p15 p16 p17 (.int u18) (.int v19) p20 p21 p22 (.int u23) (.int v24) w25) (by rfl) (by rw [rw5]; rfl) (span_bad h hb), bad7 := fun _ _ ht _ => absurd (show (1 : Int) = 2 from ht) (by decide), bad8 := fun w1 r _ hr => bad_set h hin (k := 10) (b := .int r) (r := (.none :: uptoD (g + 1))) (isD1_ok (List.all_eq_true.mp (hs5 (.int f) (.int g) a1 (.int u2) (.int v3) p4 p5 p6 (.int u7) (.int v8) p9 p10 p11 (.int u12) (.int v13) (.int r) p15 p16 p17 (.int u18) (.int v19) p20 p21 p22 (.int u23) (.int v24) w25) (c, d, e) hcde)) (pk5 (.int c) (.int d) (.int e) (.int f) (.int g) a1 (.int u2) (.int v3) p4 p5 p6 (.int u7) (.int v8) p9 p10 p11 (.int u12) (.int v13) (.int r) p15 p16 p17 (.int u18) (.int v19) p20 p21 p22 (.int u23) (.int v24) w25) (by rfl) (by rw [rw5]; rfl) (win_bad h hr) }
  obtain ⟨c1, c2, d1, d2, e1, e2⟩ := PP.bnd
  refine ⟨tkOf (.tuple [a1] :: []) [tup1 [0]] [.tuple [p9, p10, p11, .int u12, .int v13]] [.none, w14] [smp [.tuple [p15, p16, p17, .int u18, .int v19], .tuple [p20, p21, p22, .int u23, .int v24]] [.none, w25]] (.int u2) (.int v3) (.int c) (.int d) (.int e) (.tuple [p4, p5, p6, .int u7, .int v8]), tk5 (.int c) (.int d) (.int e) (.int f) (.int g) a1 (.int u2) (.int v3) p4 p5 p6 (.int u7) (.int v8) p9 p10 p11 (.int u12) (.int v13) w14 p15 p16 p17 (.int u18) (.int v19) p20 p21 p22 (.int u23) (.int v24) w25, fun N R W => lt5 (.int c) (.int d) (.int e) (.int f) (.int g) a1 (.int u2) (.int v3) p4 p5 p6 (.int u7) (.int v8) p9 p10 p11 (.int u12) (.int v13) w14 p15 p16 p17 (.int u18) (.int v19) p20 p21 p22 (.int u23) (.int v24) w25 N R W, (pk5 (.int c) (.int d) (.int e) (.int f) (.int g) a1 (.int u2) (.int v3) p4 p5 p6 (.int u7) (.int v8) p9 p10 p11 (.int u12) (.int v13) w14 p15 p16 p17 (.int u18) (.int v19) p20 p21 p22 (.int u23) (.int v24) w25), (isD1_ok (List.all_eq_true.mp (hs5 (.int f) (.int g) a1 (.int u2) (.int v3) p4 p5 p6 (.int u7) (.int v8) p9 p10 p11 (.int u12) (.int v13) w14 p15 p16 p17 (.int u18) (.int v19) p20 p21 p22 (.int u23) (.int v24) w25) (c, d, e) hcde)), PP.tasks (adm (.inl rfl) (.inl rfl)) (lab1 PP.mf PP.wf c1 c2 d1 d2 e1 e2) PP.step0, ?_, ?_, ?_, fun k st hs hk => PP.bent hs hk⟩
  all_goals
    have hg5 : g + 1 ≤ 5 := by have := h.g; dsimp only at this; omega
    have q1 := h.c
    have q2 := h.d
    have q3 := h.e
    dsimp only at q1 q2 q3 c1 c2 d1 d2 e1 e2
    have LL : Lv 5 (tkOf (.tuple [a1] :: []) [tup1 [0]] [.tuple [p9, p10, p11, .int u12, .int v13]] [.none, w14] [smp [.tuple [p15, p16, p17, .int u18, .int v19], .tuple [p20, p21, p22, .int u23, .int v24]] [.none, w25]] (.int u2) (.int v3) (.int c) (.int d) (.int e) (.tuple [p4, p5, p6, .int u7, .int v8])) := (tupL (n := 4) ⟨(tupL (n := 3) ⟨(tupL (n := 2) ⟨(tupL (n := 1) ⟨(Pl.up (pl_upto (n := 1) (by decide) m0) 1), trivial⟩ (by show 1 ≤ 5; decide)), trivial⟩ (by show 1 ≤ 5; decide)), (tupL (n := 2) ⟨(tupL (n := 1) ⟨(tupL (n := 0) ⟨(Pl.up (pl_list [tup1 [0]] (by rfl) List.mem_cons_self) 0), trivial⟩ (by show 1 ≤ 5; decide)), (Pl.up (sp_pl s1).1 1), (Pl.up (sp_pl s1).2 1), trivial⟩ (by show 3 ≤ 5; decide)), trivial⟩ (by show 1 ≤ 5; decide)), (Pl.up (pl_int (n := c) (by omega) (by omega)) 3), (Pl.up (pl_int (n := d) (by omega) (by omega)) 3), (Pl.up (pl_int (n := e) (by omega) (by omega)) 3), trivial⟩ (by show 5 ≤ 5; decide)), (tupL (n := 3) ⟨(tupL (n := 2) ⟨(tupL (n := 1) ⟨(tupL (n := 0) ⟨(Pl.up (pl_upto (n := 1) (by decide) m2) 0), (Pl.up (pl_tools h.c m3) 0), (Pl.up (pl_zones h.e m4) 0), (Pl.up (sp_pl s5).1 0), (Pl.up (sp_pl s5).2 0), trivial⟩ (by show 5 ≤ 5; decide)), (tupL (n := 0) ⟨(Pl.up (pl_upto (n := 1) (by decide) m6) 0), (Pl.up (pl_tools h.c m7) 0), (Pl.up (pl_zones h.e m8) 0), (Pl.up (sp_pl s9).1 0), (Pl.up (sp_pl s9).2 0), trivial⟩ (by show 5 ≤ 5; decide)), trivial⟩ (by show 2 ≤ 5; decide)), (tupL (n := 1) ⟨(Pl.up pl_none 1), (Pl.up (pl_upN (n := g + 1) hg5 m10) 1), trivial⟩ (by show 2 ≤ 5; decide)), trivial⟩ (by show 2 ≤ 5; decide)), (tupL (n := 2) ⟨(tupL (n := 1) ⟨(tupL (n := 0) ⟨(Pl.up (pl_upto (n := 1) (by decide) m11) 0), (Pl.up (pl_tools h.c m12) 0), (Pl.up (pl_zones h.e m13) 0), (Pl.up (sp_pl s14).1 0), (Pl.up (sp_pl s14).2 0), trivial⟩ (by show 5 ≤ 5; decide)), (tupL (n := 0) ⟨(Pl.up (pl_upto (n := 1) (by decide) m15) 0), (Pl.up (pl_tools h.c m16) 0), (Pl.up (pl_zones h.e m17) 0), (Pl.up (sp_pl s18).1 0), (Pl.up (sp_pl s18).2 0), trivial⟩ (by show 5 ≤ 5; decide)), trivial⟩ (by show 2 ≤ 5; decide)), (tupL (n := 1) ⟨(Pl.up pl_none 1), (Pl.up (pl_upN (n := g + 1) hg5 m19) 1), trivial⟩ (by show 2 ≤ 5; decide)), trivial⟩ (by show 2 ≤ 5; decide)), trivial⟩ (by show 2 ≤ 5; decide)), trivial⟩ (by show 2 ≤ 5; decide))
  · exact LL.1
  · exact Nat.le_trans LL.2.1 (by decide)
  · exact Nat.le_trans LL.2.2 (by decide)
theorem rw6 (c d e f g : Int) : rows ⟨1, 2, c, d, e, [1], f, g⟩ = [uptoD 2, (.none :: uptoD 2), [tup1 [0], tup1 [0, 1]], spans f, uptoD 1, toolsR c, zonesR e, spans f] := by kernel_rfl
theorem all6 {c d e f g : Int} (h : Shp.Ok ⟨1, 2, c, d, e, [1], f, g⟩) {picks : List D} (hp : In2 picks (rows ⟨1, 2, c, d, e, [1], f, g⟩)) : TurnOk ⟨1, 2, c, d, e, [1], f, g⟩ picks := by
  have hin := hp
  rw [rw6] at hp
  obtain ⟨a1, _, rfl, m0, hp⟩ := hp.uncons
  obtain ⟨a2, _, rfl, m1, hp⟩ := hp.uncons
  obtain ⟨l3, _, rfl, m2, hp⟩ := hp.uncons
  obtain ⟨sp3, _, rfl, m3, hp⟩ := hp.uncons
  obtain ⟨p6, _, rfl, m4, hp⟩ := hp.uncons
  obtain ⟨p7, _, rfl, m5, hp⟩ := hp.uncons
  obtain ⟨p8, _, rfl, m6, hp⟩ := hp.uncons
  obtain ⟨sp7, _, rfl, m7, hp⟩ := hp.uncons
  obtain rfl := hp.end
  obtain ⟨u4, v5, rfl, s3⟩ := span_of h m3
  obtain ⟨u9, v10, rfl, s7⟩ := span_of h m7
  have hcde : (c, d, e) ∈ cde := by
    obtain ⟨_, _, k1, k2, k3, _, _, _⟩ := h
    rcases k1 with k1 | k1 <;> rcases k2 with k2 | k2 <;> rcases k3 with k3 | k3 <;> (dsimp only at k1 k2 k3; subst k1 k2 k3; decide)
  have MM : chkM (.tuple [a1] :: [.tuple [a2]]) 1 = true := (List.all_eq_true.mp (List.all_eq_true.mp mf12 a1 m0) a2 m1)
  have ml3 : l3 ∈ [tup1 [0], tup1 [0, 1], tup1 [1]] := by
    rcases List.mem_cons.mp m2 with k | k
    · exact k ▸ List.mem_cons_self
    · exact List.mem_cons_of_mem _ (List.mem_cons.mpr (.inl (List.mem_singleton.mp k)))
  have PP : Parts ⟨1, 2, c, d, e, [1], f, g⟩ [a1] [.tuple [a2]] [tup1 [0], l3] [] [.none] [] u4 v5 p6 p7 p8 u9 v10 := {
    ok := h, few := by simp, s := rfl, t := rfl, mf := (meets_get MM).1, mfx := (meets_get MM).2, wf := wash_get (List.all_eq_true.mp (List.all_eq_true.mp wf2 (tup1 [0]) (by simp)) l3 ml3) s3, wfx := wash_get (List.all_eq_true.mp wf3 l3 ml3) s3, wf2 := fun _ => ⟨tup1 [0], l3, rfl, fun l' hl' => wash_get (List.all_eq_true.mp (List.all_eq_true.mp wf2 l' (by rcases List.mem_cons.mp hl' with k | k; exact List.mem_cons_of_mem _ (List.mem_cons.mpr (.inl k)); exact List.mem_cons_of_mem _ (List.mem_cons_of_mem _ k))) l3 ml3) s3, wash_get (List.all_eq_true.mp (List.all_eq_true.mp wf2 (tup1 [0]) (by simp)) (tup1 [1]) (by simp)) s3⟩,
    st0 := fun i' j' hij => (step_of (s := 1) h m5 m6 m4 hij (fun W d' => sf12 a1 (.tuple [a2]) W d') (fun W d' => sf13 a1 (.tuple [a2]) (nones ⟨1, 2, c, d, e, [1], f, g⟩) W d')), sp0 := sp34 s7, rest := .inl ⟨rfl, rfl⟩, more := .inl ⟨rfl, rfl⟩,
    bad1 := fun i' j' hb => bad_set h hin (k := 7) (b := .tuple [.int i', .int j']) (r := spans f) (isD1_ok (List.all_eq_true.mp (hs6 (.int f) (.int g) a1 a2 l3 (.int u4) (.int v5) p6 p7 p8 (.int i') (.int j')) (c, d, e) hcde)) (pk6 (.int c) (.int d) (.int e) (.int f) (.int g) a1 a2 l3 (.int u4) (.int v5) p6 p7 p8 (.int i') (.int j')) (by rfl) (by rw [rw6]; rfl) (span_bad h hb), bad7 := fun a0 a1 _ ee => by cases ee; exact bad_set h hin (k := 2) (b := tup1 [1]) (r := [tup1 [0], tup1 [0, 1]]) (isD1_ok (List.all_eq_true.mp (hs6 (.int f) (.int g) a1 a2 (tup1 [1]) (.int u4) (.int v5) p6 p7 p8 (.int u9) (.int v10)) (c, d, e) hcde)) (pk6 (.int c) (.int d) (.int e) (.int f) (.int g) a1 a2 (tup1 [1]) (.int u4) (.int v5) p6 p7 p8 (.int u9) (.int v10)) (by rfl) (by rw [rw6]; rfl) (by rfl), bad8 := fun w1 r ee => by cases ee }
  obtain ⟨c1, c2, d1, d2, e1, e2⟩ := PP.bnd
  refine ⟨tkOf (.tuple [a1] :: [.tuple [a2]]) [tup1 [0], l3] [] [.none] [] (.int u4) (.int v5) (.int c) (.int d) (.int e) (.tuple [p6, p7, p8, .int u9, .int v10]), tk6 (.int c) (.int d) (.int e) (.int f) (.int g) a1 a2 l3 (.int u4) (.int v5) p6 p7 p8 (.int u9) (.int v10), fun N R W => lt6 (.int c) (.int d) (.int e) (.int f) (.int g) a1 a2 l3 (.int u4) (.int v5) p6 p7 p8 (.int u9) (.int v10) N R W, (pk6 (.int c) (.int d) (.int e) (.int f) (.int g) a1 a2 l3 (.int u4) (.int v5) p6 p7 p8 (.int u9) (.int v10)), (isD1_ok (List.all_eq_true.mp (hs6 (.int f) (.int g) a1 a2 l3 (.int u4) (.int v5) p6 p7 p8 (.int u9) (.int v10)) (c, d, e) hcde)), PP.tasks (adm (.inl rfl) (.inl rfl)) (lab1 PP.mf PP.wf c1 c2 d1 d2 e1 e2) PP.step0, ?_, ?_, ?_, fun k st hs hk => PP.bent hs hk⟩
  all_goals
    have hg5 : g + 1 ≤ 5 := by have := h.g; dsimp only at this; omega
    have q1 := h.c
    have q2 := h.d
    have q3 := h.e
    dsimp only at q1 q2 q3 c1 c2 d1 d2 e1 e2
    have LL : Lv 5 (tkOf (.tuple [a1] :: [.tuple [a2]]) [tup1 [0], l3] [] [.none] [] (.int u4) (.int v5) (.int c) (.int d) (.int e) (.tuple [p6, p7, p8, .int u9, .int v10])) := (tupL (n := 4) ⟨(tupL (n := 3) ⟨(tupL (n := 2) ⟨(tupL (n := 1) ⟨(Pl.up (pl_upto (n := 2) (by decide) m0) 1), trivial⟩ (by show 1 ≤ 5; decide)), (tupL (n := 1) ⟨(Pl.up (pl_upN (n := 2) (by decide) m1) 1), trivial⟩ (by show 1 ≤ 5; decide)), trivial⟩ (by show 2 ≤ 5; decide)), (tupL (n := 2) ⟨(tupL (n := 1) ⟨(tupL (n := 0) ⟨(Pl.up (pl_list [tup1 [0]] (by rfl) List.mem_cons_self) 0), (Pl.up (pl_leaf m2) 0), trivial⟩ (by show 2 ≤ 5; decide)), (Pl.up (sp_pl s3).1 1), (Pl.up (sp_pl s3).2 1), trivial⟩ (by show 3 ≤ 5; decide)), trivial⟩ (by show 1 ≤ 5; decide)), (Pl.up (pl_int (n := c) (by omega) (by omega)) 3), (Pl.up (pl_int (n := d) (by omega) (by omega)) 3), (Pl.up (pl_int (n := e) (by omega) (by omega)) 3), trivial⟩ (by show 5 ≤ 5; decide)), (tupL (n := 3) ⟨(tupL (n := 2) ⟨(tupL (n := 1) ⟨(tupL (n := 0) ⟨(Pl.up (pl_upto (n := 1) (by decide) m4) 0), (Pl.up (pl_tools h.c m5) 0), (Pl.up (pl_zones h.e m6) 0), (Pl.up (sp_pl s7).1 0), (Pl.up (sp_pl s7).2 0), trivial⟩ (by show 5 ≤ 5; decide)), trivial⟩ (by show 1 ≤ 5; decide)), (tupL (n := 1) ⟨(Pl.up pl_none 1), trivial⟩ (by show 1 ≤ 5; decide)), trivial⟩ (by show 2 ≤ 5; decide)), trivial⟩ (by show 1 ≤ 5; decide)), trivial⟩ (by show 2 ≤ 5; decide))
  · exact LL.1
  · exact Nat.le_trans LL.2.1 (by decide)
  · exact Nat.le_trans LL.2.2 (by decide)
theorem rw7 (c d e f g : Int) : rows ⟨1, 2, c, d, e, [2], f, g⟩ = [uptoD 2, (.none :: uptoD 2), [tup1 [0], tup1 [0, 1]], spans f, uptoD 1, toolsR c, zonesR e, spans f, uptoD 1, toolsR c, zonesR e, spans f, (.none :: uptoD (g + 1))] := by kernel_rfl
theorem all7 {c d e f g : Int} (h : Shp.Ok ⟨1, 2, c, d, e, [2], f, g⟩) {picks : List D} (hp : In2 picks (rows ⟨1, 2, c, d, e, [2], f, g⟩)) : TurnOk ⟨1, 2, c, d, e, [2], f, g⟩ picks := by
  have hin := hp
  rw [rw7] at hp
  obtain ⟨a1, _, rfl, m0, hp⟩ := hp.uncons
  obtain ⟨a2, _, rfl, m1, hp⟩ := hp.uncons
  obtain ⟨l3, _, rfl, m2, hp⟩ := hp.uncons
  obtain ⟨sp3, _, rfl, m3, hp⟩ := hp.uncons
  obtain ⟨p6, _, rfl, m4, hp⟩ := hp.uncons
  obtain ⟨p7, _, rfl, m5, hp⟩ := hp.uncons
  obtain ⟨p8, _, rfl, m6, hp⟩ := hp.uncons
  obtain ⟨sp7, _, rfl, m7, hp⟩ := hp.uncons
  obtain ⟨p11, _, rfl, m8, hp⟩ := hp.uncons
  obtain ⟨p12, _, rfl, m9, hp⟩ := hp.uncons
  obtain ⟨p13, _, rfl, m10, hp⟩ := hp.uncons
  obtain ⟨sp11, _, rfl, m11, hp⟩ := hp.uncons
  obtain ⟨w16, _, rfl, m12, hp⟩ := hp.uncons
  obtain rfl := hp.end
  obtain ⟨u4, v5, rfl, s3⟩ := span_of h m3
  obtain ⟨u9, v10, rfl, s7⟩ := span_of h m7
  obtain ⟨u14, v15, rfl, s11⟩ := span_of h m11
  have hcde : (c, d, e) ∈ cde := by
    obtain ⟨_, _, k1, k2, k3, _, _, _⟩ := h
    rcases k1 with k1 | k1 <;> rcases k2 with k2 | k2 <;> rcases k3 with k3 | k3 <;> (dsimp only at k1 k2 k3; subst k1 k2 k3; decide)
  have MM : chkM (.tuple [a1] :: [.tuple [a2]]) 1 = true := (List.all_eq_true.mp (List.all_eq_true.mp mf12 a1 m0) a2 m1)
  have ml3 : l3 ∈ [tup1 [0], tup1 [0, 1], tup1 [1]] := by
    rcases List.mem_cons.mp m2 with k | k
    · exact k ▸ List.mem_cons_self
    · exact List.mem_cons_of_mem _ (List.mem_cons.mpr (.inl (List.mem_singleton.mp k)))
  have PP : Parts ⟨1, 2, c, d, e, [2], f, g⟩ [a1] [.tuple [a2]] [tup1 [0], l3] [.tuple [p11, p12, p13, .int u14, .int v15]] [.none, w16] [] u4 v5 p6 p7 p8 u9 v10 := {
    ok := h, few := by simp, s := rfl, t := rfl, mf := (meets_get MM).1, mfx := (meets_get MM).2, wf := wash_get (List.all_eq_true.mp (List.all_eq_true.mp wf2 (tup1 [0]) (by simp)) l3 ml3) s3, wfx := wash_get (List.all_eq_true.mp wf3 l3 ml3) s3, wf2 := fun _ => ⟨tup1 [0], l3, rfl, fun l' hl' => wash_get (List.all_eq_true.mp (List.all_eq_true.mp wf2 l' (by rcases List.mem_cons.mp hl' with k | k; exact List.mem_cons_of_mem _ (List.mem_cons.mpr (.inl k)); exact List.mem_cons_of_mem _ (List.mem_cons_of_mem _ k))) l3 ml3) s3, wash_get (List.all_eq_true.mp (List.all_eq_true.mp wf2 (tup1 [0]) (by simp)) (tup1 [1]) (by simp)) s3⟩,
    st0 := fun i' j' hij => (step_of (s := 1) h m5 m6 m4 hij (fun W d' => sf12 a1 (.tuple [a2]) W d') (fun W d' => sf13 a1 (.tuple [a2]) (nones ⟨1, 2, c, d, e, [2], f, g⟩) W d')), sp0 := sp34 s7, rest := .inr ⟨_, _, rfl, rfl, (step_of (s := 1) h m9 m10 m8 (sp34 s11) (fun W d' => sf12 a1 (.tuple [a2]) W d') (fun W d' => sf13 a1 (.tuple [a2]) (nones ⟨1, 2, c, d, e, [2], f, g⟩) W d')), win_of h m12⟩, more := .inl ⟨rfl, rfl⟩,
    bad1 := fun i' j' hb => bad_set h hin (k := 7) (b := .tuple [.int i', .int j']) (r := spans f) (isD1_ok (List.all_eq_true.mp (hs7 (.int f) (.int g) a1 a2 l3 (.int u4) (.int v5) p6 p7 p8 (.int i') (.int j') p11 p12 p13 (.int u14) (.int v15) w16) (c, d, e) hcde)) (pk7 (.int c) (.int d) (.int e) (.int f) (.int g) a1 a2 l3 (.int u4) (.int v5) p6 p7 p8 (.int i') (.int j') p11 p12 p13 (.int u14) (.int v15) w16) (by rfl) (by rw [rw7]; rfl) (span_bad h hb), bad7 := fun a0 a1 _ ee => by cases ee; exact bad_set h hin (k := 2) (b := tup1 [1]) (r := [tup1 [0], tup1 [0, 1]]) (isD1_ok (List.all_eq_true.mp (hs7 (.int f) (.int g) a1 a2 (tup1 [1]) (.int u4) (.int v5) p6 p7 p8 (.int u9) (.int v10) p11 p12 p13 (.int u14) (.int v15) w16) (c, d, e) hcde)) (pk7 (.int c) (.int d) (.int e) (.int f) (.int g) a1 a2 (tup1 [1]) (.int u4) (.int v5) p6 p7 p8 (.int u9) (.int v10) p11 p12 p13 (.int u14) (.int v15) w16) (by rfl) (by rw [rw7]; rfl) (by rfl), bad8 := fun w1 r _ hr => bad_set h hin (k := 12) (b := .int r) (r := (.none :: uptoD (g + 1))) (isD1_ok (List.all_eq_true.mp (hs7 (.int f) (.int g) a1 a2 l3 (.int u4) (.int v5) p6 p7 p8 (.int u9) (.int v10) p11 p12 p13 (.int u14) (.int v15) (.int r)) (c, d, e) hcde)) (pk7 (.int c) (.int d) (.int e) (.int f) (.int g) a1 a2 l3 (.int u4) (.int v5) p6 p7 p8 (.int u9) (.int v10) p11 p12 p13 (.int u14) (.int v15) (.int r)) (by rfl) (by rw [rw7]; rfl) (win_bad h hr) }
  obtain ⟨c1, c2, d1, d2, e1, e2⟩ := PP.bnd
  refine ⟨tkOf (.tuple [a1] :: [.tuple [a2]]) [tup1 [0], l3] [.tuple [p11, p12, p13, .int u14, .int v15]] [.none, w16] [] (.int u4) (.int v5) (.int c) (.int d) (.int e) (.tuple [p6, p7, p8, .int u9, .int v10]), tk7 (.int c) (.int d) (.int e) (.int f) (.int g) a1 a2 l3 (.int u4) (.int v5) p6 p7 p8 (.int u9) (.int v10) p11 p12 p13 (.int u14) (.int v15) w16, fun N R W => lt7 (.int c) (.int d) (.int e) (.int f) (.int g) a1 a2 l3 (.int u4) (.int v5) p6 p7 p8 (.int u9) (.int v10) p11 p12 p13 (.int u14) (.int v15) w16 N R W, (pk7 (.int c) (.int d) (.int e) (.int f) (.int g) a1 a2 l3 (.int u4) (.int v5) p6 p7 p8 (.int u9) (.int v10) p11 p12 p13 (.int u14) (.int v15) w16), (isD1_ok (List.all_eq_true.mp (hs7 (.int f) (.int g) a1 a2 l3 (.int u4) (.int v5) p6 p7 p8 (.int u9) (.int v10) p11 p12 p13 (.int u14) (.int v15) w16) (c, d, e) hcde)), PP.tasks (adm (.inl rfl) (.inl rfl)) (lab1 PP.mf PP.wf c1 c2 d1 d2 e1 e2) PP.step0, ?_, ?_, ?_, fun k st hs hk => PP.bent hs hk⟩
  all_goals
    have hg5 : g + 1 ≤ 5 := by have := h.g; dsimp only at this; omega
    have q1 := h.c
    have q2 := h.d
    have q3 := h.e
    dsimp only at q1 q2 q3 c1 c2 d1 d2 e1 e2
    have LL : Lv 5 (tkOf (.tuple [a1] :: [.tuple [a2]]) [tup1 [0], l3] [.tuple [p11, p12, p13, .int u14, .int v15]] [.none, w16] [] (.int u4) (.int v5) (.int c) (.int d) (.int e) (.tuple [p6, p7, p8, .int u9, .int v10])) := (tupL (n := 4) ⟨(tupL (n := 3) ⟨(tupL (n := 2) ⟨(tupL (n := 1) ⟨(Pl.up (pl_upto (n := 2) (by decide) m0) 1), trivial⟩ (by show 1 ≤ 5; decide)), (tupL (n := 1) ⟨(Pl.up (pl_upN (n := 2) (by decide) m1) 1), trivial⟩ (by show 1 ≤ 5; decide)), trivial⟩ (by show 2 ≤ 5; decide)), (tupL (n := 2) ⟨(tupL (n := 1) ⟨(tupL (n := 0) ⟨(Pl.up (pl_list [tup1 [0]] (by rfl) List.mem_cons_self) 0), (Pl.up (pl_leaf m2) 0), trivial⟩ (by show 2 ≤ 5; decide)), (Pl.up (sp_pl s3).1 1), (Pl.up (sp_pl s3).2 1), trivial⟩ (by show 3 ≤ 5; decide)), trivial⟩ (by show 1 ≤ 5; decide)), (Pl.up (pl_int (n := c) (by omega) (by omega)) 3), (Pl.up (pl_int (n := d) (by omega) (by omega)) 3), (Pl.up (pl_int (n := e) (by omega) (by omega)) 3), trivial⟩ (by show 5 ≤ 5; decide)), (tupL (n := 3) ⟨(tupL (n := 2) ⟨(tupL (n := 1) ⟨(tupL (n := 0) ⟨(Pl.up (pl_upto (n := 1) (by decide) m4) 0), (Pl.up (pl_tools h.c m5) 0), (Pl.up (pl_zones h.e m6) 0), (Pl.up (sp_pl s7).1 0), (Pl.up (sp_pl s7).2 0), trivial⟩ (by show 5 ≤ 5; decide)), (tupL (n := 0) ⟨(Pl.up (pl_upto (n := 1) (by decide) m8) 0), (Pl.up (pl_tools h.c m9) 0), (Pl.up (pl_zones h.e m10) 0), (Pl.up (sp_pl s11).1 0), (Pl.up (sp_pl s11).2 0), trivial⟩ (by show 5 ≤ 5; decide)), trivial⟩ (by show 2 ≤ 5; decide)), (tupL (n := 1) ⟨(Pl.up pl_none 1), (Pl.up (pl_upN (n := g + 1) hg5 m12) 1), trivial⟩ (by show 2 ≤ 5; decide)), trivial⟩ (by show 2 ≤ 5; decide)), trivial⟩ (by show 1 ≤ 5; decide)), trivial⟩ (by show 2 ≤ 5; decide))
  · exact LL.1
  · exact Nat.le_trans LL.2.1 (by decide)
  · exact Nat.le_trans LL.2.2 (by decide)
theorem rw8 (c d e f g : Int) : rows ⟨1, 2, c, d, e, [1, 1], f, g⟩ = [uptoD 2, (.none :: uptoD 2), [tup1 [0], tup1 [0, 1]], spans f, uptoD 1, toolsR c, zonesR e, spans f, uptoD 1, toolsR c, zonesR e, spans f] := by kernel_rfl
theorem all8 {c d e f g : Int} (h : Shp.Ok ⟨1, 2, c, d, e, [1, 1], f, g⟩) {picks : List D} (hp : In2 picks (rows ⟨1, 2, c, d, e, [1, 1], f, g⟩)) : TurnOk ⟨1, 2, c, d, e, [1, 1], f, g⟩ picks := by
  have hin := hp
  rw [rw8] at hp
  obtain ⟨a1, _, rfl, m0, hp⟩ := hp.uncons
  obtain ⟨a2, _, rfl, m1, hp⟩ := hp.uncons
  obtain ⟨l3, _, rfl, m2, hp⟩ := hp.uncons
  obtain ⟨sp3, _, rfl, m3, hp⟩ := hp.uncons
  obtain ⟨p6, _, rfl, m4, hp⟩ := hp.uncons
  obtain ⟨p7, _, rfl, m5, hp⟩ := hp.uncons
  obtain ⟨p8, _, rfl, m6, hp⟩ := hp.uncons
  obtain ⟨sp7, _, rfl, m7, hp⟩ := hp.uncons
  obtain ⟨p11, _, rfl, m8, hp⟩ := hp.uncons
  obtain ⟨p12, _, rfl, m9, hp⟩ := hp.uncons
  obtain ⟨p13, _, rfl, m10, hp⟩ := hp.uncons
  obtain ⟨sp11, _, rfl, m11, hp⟩ := hp.uncons
  obtain rfl := hp.end
  obtain ⟨u4, v5, rfl, s3⟩ := span_of h m3
  obtain ⟨u9, v10, rfl, s7⟩ := span_of h m7
  obtain ⟨u14, v15, rfl, s11⟩ := span_of h m11
  have hcde : (c, d, e) ∈ cde := by
    obtain ⟨_, _, k1, k2, k3, _, _, _⟩ := h
    rcases k1 with k1 | k1 <;> rcases k2 with k2 | k2 <;> rcases k3 with k3 | k3 <;> (dsimp only at k1 k2 k3; subst k1 k2 k3; decide)
  have MM : chkM (.tuple [a1] :: [.tuple [a2]]) 1 = true := (List.all_eq_true.mp (List.all_eq_true.mp mf12 a1 m0) a2 m1)
  have ml3 : l3 ∈ [tup1 [0], tup1 [0, 1], tup1 [1]] := by
    rcases List.mem_cons.mp m2 with k | k
    · exact k ▸ List.mem_cons_self
    · exact List.mem_cons_of_mem _ (List.mem_cons.mpr (.inl (List.mem_singleton.mp k)))
  have PP : Parts ⟨1, 2, c, d, e, [1, 1], f, g⟩ [a1] [.tuple [a2]] [tup1 [0], l3] [] [.none] [smp [.tuple [p11, p12, p13, .int u14, .int v15]] [.none]] u4 v5 p6 p7 p8 u9 v10 := {
    ok := h, few := by simp, s := rfl, t := rfl, mf := (meets_get MM).1, mfx := (meets_get MM).2, wf := wash_get (List.all_eq_true.mp (List.all_eq_true.mp wf2 (tup1 [0]) (by simp)) l3 ml3) s3, wfx := wash_get (List.all_eq_true.mp wf3 l3 ml3) s3, wf2 := fun _ => ⟨tup1 [0], l3, rfl, fun l' hl' => wash_get (List.all_eq_true.mp (List.all_eq_true.mp wf2 l' (by rcases List.mem_cons.mp hl' with k | k; exact List.mem_cons_of_mem _ (List.mem_cons.mpr (.inl k)); exact List.mem_cons_of_mem _ (List.mem_cons_of_mem _ k))) l3 ml3) s3, wash_get (List.all_eq_true.mp (List.all_eq_true.mp wf2 (tup1 [0]) (by simp)) (tup1 [1]) (by simp)) s3⟩,
    st0 := fun i' j' hij => (step_of (s := 1) h m5 m6 m4 hij (fun W d' => sf12 a1 (.tuple [a2]) W d') (fun W d' => sf13 a1 (.tuple [a2]) (nones ⟨1, 2, c, d, e, [1, 1], f, g⟩) W d')), sp0 := sp34 s7, rest := .inl ⟨rfl, rfl⟩, more := .inr ⟨_, _, rfl, fun lab ha => sample1 ((step_of (s := 1) h m9 m10 m8 (sp34 s11) (fun W d' => sf12 a1 (.tuple [a2]) W d') (fun W d' => sf13 a1 (.tuple [a2]) (nones ⟨1, 2, c, d, e, [1, 1], f, g⟩) W d')) lab ha), rfl⟩,
    bad1 := fun i' j' hb => bad_set h hin (k := 7) (b := .tuple [.int i', .int j']) (r := spans f) (isD1_ok (List.all_eq_true.mp (hs8 (.int f) (.int g) a1 a2 l3 (.int u4) (.int v5) p6 p7 p8 (.int i') (.int j') p11 p12 p13 (.int u14) (.int v15)) (c, d, e) hcde)) (pk8 (.int c) (.int d) (.int e) (.int f) (.int g) a1 a2 l3 (.int u4) (.int v5) p6 p7 p8 (.int i') (.int j') p11 p12 p13 (.int u14) (.int v15)) (by rfl) (by rw [rw8]; rfl) (span_bad h hb), bad7 := fun a0 a1 _ ee => by cases ee; exact bad_set h hin (k := 2) (b := tup1 [1]) (r := [tup1 [0], tup1 [0, 1]]) (isD1_ok (List.all_eq_true.mp (hs8 (.int f) (.int g) a1 a2 (tup1 [1]) (.int u4) (.int v5) p6 p7 p8 (.int u9) (.int v10) p11 p12 p13 (.int u14) (.int v15)) (c, d, e) hcde)) (pk8 (.int c) (.int d) (.int e) (.int f) (.int g) a1 a2 (tup1 [1]) (.int u4) (.int v5) p6 p7 p8 (.int u9) (.int v10) p11 p12 p13 (.int u14) (.int v15)) (by rfl) (by rw [rw8]; rfl) (by rfl), bad8 := fun w1 r ee => by cases ee }
  obtain ⟨c1, c2, d1, d2, e1, e2⟩ := PP.bnd
  refine ⟨tkOf (.tuple [a1] :: [.tuple [a2]]) [tup1 [0], l3] [] [.none] [smp [.tuple [p11, p12, p13, .int u14, .int v15]] [.none]] (.int u4) (.int v5) (.int c) (.int d) (.int e) (.tuple [p6, p7, p8, .int u9, .int v10]), tk8 (.int c) (.int d) (.int e) (.int f) (.int g) a1 a2 l3 (.int u4) (.int v5) p6 p7 p8 (.int u9) (.int v10) p11 p12 p13 (.int u14) (.int v15), fun N R W => lt8 (.int c) (.int d) (.int e) (.int f) (.int g) a1 a2 l3 (.int u4) (.int v5) p6 p7 p8 (.int u9) (.int v10) p11 p12 p13 (.int u14) (.int v15) N R W, (pk8 (.int c) (.int d) (.int e) (.int f) (.int g) a1 a2 l3 (.int u4) (.int v5) p6 p7 p8 (.int u9) (.int v10) p11 p12 p13 (.int u14) (.int v15)), (isD1_ok (List.all_eq_true.mp (hs8 (.int f) (.int g) a1 a2 l3 (.int u4) (.int v5) p6 p7 p8 (.int u9) (.int v10) p11 p12 p13 (.int u14) (.int v15)) (c, d, e) hcde)), PP.tasks (adm (.inl rfl) (.inl rfl)) (lab1 PP.mf PP.wf c1 c2 d1 d2 e1 e2) PP.step0, ?_, ?_, ?_, fun k st hs hk => PP.bent hs hk⟩
  all_goals
    have hg5 : g + 1 ≤ 5 := by have := h.g; dsimp only at this; omega
    have q1 := h.c
    have q2 := h.d
    have q3 := h.e
    dsimp only at q1 q2 q3 c1 c2 d1 d2 e1 e2
    have LL : Lv 5 (tkOf (.tuple [a1] :: [.tuple [a2]]) [tup1 [0], l3] [] [.none] [smp [.tuple [p11, p12, p13, .int u14, .int v15]] [.none]] (.int u4) (.int v5) (.int c) (.int d) (.int e) (.tuple [p6, p7, p8, .int u9, .int v10])) := (tupL (n := 4) ⟨(tupL (n := 3) ⟨(tupL (n := 2) ⟨(tupL (n := 1) ⟨(Pl.up (pl_upto (n := 2) (by decide) m0) 1), trivial⟩ (by show 1 ≤ 5; decide)), (tupL (n := 1) ⟨(Pl.up (pl_upN (n := 2) (by decide) m1) 1), trivial⟩ (by show 1 ≤ 5; decide)), trivial⟩ (by show 2 ≤ 5; decide)), (tupL (n := 2) ⟨(tupL (n := 1) ⟨(tupL (n := 0) ⟨(Pl.up (pl_list [tup1 [0]] (by rfl) List.mem_cons_self) 0), (Pl.up (pl_leaf m2) 0), trivial⟩ (by show 2 ≤ 5; decide)), (Pl.up (sp_pl s3).1 1), (Pl.up (sp_pl s3).2 1), trivial⟩ (by show 3 ≤ 5; decide)), trivial⟩ (by show 1 ≤ 5; decide)), (Pl.up (pl_int (n := c) (by omega) (by omega)) 3), (Pl.up (pl_int (n := d) (by omega) (by omega)) 3), (Pl.up (pl_int (n := e) (by omega) (by omega)) 3), trivial⟩ (by show 5 ≤ 5; decide)), (tupL (n := 3) ⟨(tupL (n := 2) ⟨(tupL (n := 1) ⟨(tupL (n := 0) ⟨(Pl.up (pl_upto (n := 1) (by decide) m4) 0), (Pl.up (pl_tools h.c m5) 0), (Pl.up (pl_zones h.e m6) 0), (Pl.up (sp_pl s7).1 0), (Pl.up (sp_pl s7).2 0), trivial⟩ (by show 5 ≤ 5; decide)), trivial⟩ (by show 1 ≤ 5; decide)), (tupL (n := 1) ⟨(Pl.up pl_none 1), trivial⟩ (by show 1 ≤ 5; decide)), trivial⟩ (by show 2 ≤ 5; decide)), (tupL (n := 2) ⟨(tupL (n := 1) ⟨(tupL (n := 0) ⟨(Pl.up (pl_upto (n := 1) (by decide) m8) 0), (Pl.up (pl_tools h.c m9) 0), (Pl.up (pl_zones h.e m10) 0), (Pl.up (sp_pl s11).1 0), (Pl.up (sp_pl s11).2 0), trivial⟩ (by show 5 ≤ 5; decide)), trivial⟩ (by show 1 ≤ 5; decide)), (tupL (n := 1) ⟨(Pl.up pl_none 1), trivial⟩ (by show 1 ≤ 5; decide)), trivial⟩ (by show 2 ≤ 5; decide)), trivial⟩ (by show 2 ≤ 5; decide)), trivial⟩ (by show 2 ≤ 5; decide))
  · exact LL.1
  · exact Nat.le_trans LL.2.1 (by decide)
  · exact Nat.le_trans LL.2.2 (by decide)
theorem rw9 (c d e f g : Int) : rows ⟨1, 2, c, d, e, [1, 2], f, g⟩ = [uptoD 2, (.none :: uptoD 2), [tup1 [0], tup1 [0, 1]], spans f, uptoD 1, toolsR c, zonesR e, spans f, uptoD 1, toolsR c, zonesR e, spans f, uptoD 1, toolsR c, zonesR e, spans f, (.none :: uptoD (g + 1))] := by kernel_rfl
theorem all9 {c d e f g : Int} (h : Shp.Ok ⟨1, 2, c, d, e, [1, 2], f, g⟩) {picks : List D} (hp : In2 picks (rows ⟨1, 2, c, d, e, [1, 2], f, g⟩)) : TurnOk ⟨1, 2, c, d, e, [1, 2], f, g⟩ picks := by
  have hin := hp
  rw [rw9] at hp
  obtain ⟨a1, _, rfl, m0, hp⟩ := hp.uncons
  obtain ⟨a2, _, rfl, m1, hp⟩ := hp.uncons
  obtain ⟨l3, _, rfl, m2, hp⟩ := hp.uncons
  obtain ⟨sp3, _, rfl, m3, hp⟩ := hp.uncons
  obtain ⟨p6, _, rfl, m4, hp⟩ := hp.uncons
  obtain ⟨p7, _, rfl, m5, hp⟩ := hp.uncons
  obtain ⟨p8, _, rfl, m6, hp⟩ := hp.uncons
  obtain ⟨sp7, _, rfl, m7, hp⟩ := hp.uncons
  obtain ⟨p11, _, rfl, m8, hp⟩ := hp.uncons
  obtain ⟨p12, _, rfl, m9, hp⟩ := hp.uncons
  obtain ⟨p13, _, rfl, m10, hp⟩ := hp.uncons
  obtain ⟨sp11, _, rfl, m11, hp⟩ := hp.uncons
  obtain ⟨p16, _, rfl, m12, hp⟩ := hp.uncons
  obtain ⟨p17, _, rfl, m13, hp⟩ := hp.uncons
  obtain ⟨p18, _, rfl, m14, hp⟩ := hp.uncons
  obtain ⟨sp15, _, rfl, m15, hp⟩ := hp.uncons
  obtain ⟨w21, _, rfl, m16, hp⟩ := hp.uncons
  obtain rfl := hp.end
  obtain ⟨u4, v5, rfl, s3⟩ := span_of h m3
  obtain ⟨u9, v10, rfl, s7⟩ := span_of h m7
  obtain ⟨u14, v15, rfl, s11⟩ := span_of h m11
  obtain ⟨u19, v20, rfl, s15⟩ := span_of h m15
  have hcde : (c, d, e) ∈ cde := by
    obtain ⟨_, _, k1, k2, k3, _, _, _⟩ := h
    rcases k1 with k1 | k1 <;> rcases k2 with k2 | k2 <;> rcases k3 with k3 | k3 <;> (dsimp only at k1 k2 k3; subst k1 k2 k3; decide)
  have MM : chkM (.tuple [a1] :: [.tuple [a2]]) 1 = true := (List.all_eq_true.mp (List.all_eq_true.mp mf12 a1 m0) a2 m1)
  have ml3 : l3 ∈ [tup1 [0], tup1 [0, 1], tup1 [1]] := by
    rcases List.mem_cons.mp m2 with k | k
    · exact k ▸ List.mem_cons_self
    · exact List.mem_cons_of_mem _ (List.mem_cons.mpr (.inl (List.mem_singleton.mp k)))
  have PP : Parts ⟨1, 2, c, d, e, [1, 2], f, g⟩ [a1] [.tuple [a2]] [tup1 [0], l3] [] [.none] [smp [.tuple [p11, p12, p13, .int u14, .int v15], .tuple [p16, p17, p18, .int u19, .int v20]] [.none, w21]] u4 v5 p6 p7 p8 u9 v10 := {
    ok := h, few := by simp, s := rfl, t := rfl, mf := (meets_get MM).1, mfx := (meets_get MM).2, wf := wash_get (List.all_eq_true.mp (List.all_eq_true.mp wf2 (tup1 [0]) (by simp)) l3 ml3) s3, wfx := wash_get (List.all_eq_true.mp wf3 l3 ml3) s3, wf2 := fun _ => ⟨tup1 [0], l3, rfl, fun l' hl' => wash_get (List.all_eq_true.mp (List.all_eq_true.mp wf2 l' (by rcases List.mem_cons.mp hl' with k | k; exact List.mem_cons_of_mem _ (List.mem_cons.mpr (.inl k)); exact List.mem_cons_of_mem _ (List.mem_cons_of_mem _ k))) l3 ml3) s3, wash_get (List.all_eq_true.mp (List.all_eq_true.mp wf2 (tup1 [0]) (by simp)) (tup1 [1]) (by simp)) s3⟩,
    st0 := fun i' j' hij => (step_of (s := 1) h m5 m6 m4 hij (fun W d' => sf12 a1 (.tuple [a2]) W d') (fun W d' => sf13 a1 (.tuple [a2]) (nones ⟨1, 2, c, d, e, [1, 2], f, g⟩) W d')), sp0 := sp34 s7, rest := .inl ⟨rfl, rfl⟩, more := .inr ⟨_, _, rfl, fun lab ha => sample2 ((step_of (s := 1) h m9 m10 m8 (sp34 s11) (fun W d' => sf12 a1 (.tuple [a2]) W d') (fun W d' => sf13 a1 (.tuple [a2]) (nones ⟨1, 2, c, d, e, [1, 2], f, g⟩) W d')) lab ha) ((step_of (s := 1) h m13 m14 m12 (sp34 s15) (fun W d' => sf12 a1 (.tuple [a2]) W d') (fun W d' => sf13 a1 (.tuple [a2]) (nones ⟨1, 2, c, d, e, [1, 2], f, g⟩) W d')) lab ha) (win_of h m16), rfl⟩,
    bad1 := fun i' j' hb => bad_set h hin (k := 7) (b := .tuple [.int i', .int j']) (r := spans f) (isD1_ok (List.all_eq_true.mp (hs9 (.int f) (.int g) a1 a2 l3 (.int u4) (.int v5) p6 p7 p8 (.int i') (.int j') p11 p12 p13 (.int u14) (.int v15) p16 p17 p18 (.int u19) (.int v20) w21) (c, d, e) hcde)) (pk9 (.int c) (.int d) (.int e) (.int f) (.int g) a1 a2 l3 (.int u4) (.int v5) p6 p7 p8 (.int i') (.int j') p11 p12 p13 (.int u14) (.int v15) p16 p17 p18 (.int u19) (.int v20) w21) (by rfl) (by rw [rw9]; rfl) (span_bad h hb), bad7 := fun a0 a1 _ ee => by cases ee; exact bad_set h hin (k := 2) (b := tup1 [1]) (r := [tup1 [0], tup1 [0, 1]]) (isD1_ok (List.all_eq_true.mp (hs9 (.int f) (.int g) a1 a2 (tup1 [1]) (.int u4) (.int v5) p6 p7 p8 (.int u9) (.int v10) p11 p12 p13 (.int u14) (.int v15) p16 p17 p18 (.int u19) (.int v20) w21) (c, d, e) hcde)) (pk9 (.int c) (.int d) (.int e) (.int f) (.int g) a1 a2 (tup1 [1]) (.int u4) (.int v5) p6 p7 p8 (.int u9) (.int v10) p11 p12 p13 (.int u14) (.int v15) p16 p17 p18 (.int u19) (.int v20) w21) (by rfl) (by rw [rw9]; rfl) (by rfl), bad8 := fun w1 r ee => by cases ee }
  obtain ⟨c1, c2, d1, d2, e1, e2⟩ := PP.bnd
  refine ⟨tkOf (.tuple [a1] :: [.tuple [a2]]) [tup1 [0], l3] [] [.none] [smp [.tuple [p11, p12, p13, .int u14, .int v15], .tuple [p16, p17, p18, .int u19, .int v20]] [.none, w21]] (.int u4) (.int v5) (.int c) (.int d) (.int e) (.tuple [p6, p7, p8, .int u9, .int v10]), tk9 (.int c) (.int d) (.int e) (.int f) (.int g) a1 a2 l3 (.int u4) (.int v5) p6 p7 p8 (.int u9) (.int v10) p11 p12 p13 (.int u14) (.int v15) p16 p17 p18 (.int u19) (.int v20) w21, fun N R W => lt9 (.int c) (.int d) (.int e) (.int f) (.int g) a1 a2 l3 (.int u4) (.int v5) p6 p7 p8 (.int u9) (.int v10) p11 p12 p13 (.int u14) (.int v15) p16 p17 p18 (.int u19) (.int v20) w21 N R W, (pk9 (.int c) (.int d) (.int e) (.int f) (.int g) a1 a2 l3 (.int u4) (.int v5) p6 p7 p8 (.int u9) (.int v10) p11 p12 p13 (.int u14) (.int v15) p16 p17 p18 (.int u19) (.int v20) w21), (isD1_ok (List.all_eq_true.mp (hs9 (.int f) (.int g) a1 a2 l3 (.int u4) (.int v5) p6 p7 p8 (.int u9) (.int v10) p11 p12 p13 (.int u14) (.int v15) p16 p17 p18 (.int u19) (.int v20) w21) (c, d, e) hcde)), PP.tasks (adm (.inl rfl) (.inl rfl)) (lab1 PP.mf PP.wf c1 c2 d1 d2 e1 e2) PP.step0, ?_, ?_, ?_, fun k st hs hk => PP.bent hs hk⟩
  all_goals
    have hg5 : g + 1 ≤ 5 := by have := h.g; dsimp only at this; omega
    have q1 := h.c
    have q2 := h.d
    have q3 := h.e
    dsimp only at q1 q2 q3 c1 c2 d1 d2 e1 e2
    have LL : Lv 5 (tkOf (.tuple [a1] :: [.tuple [a2]]) [tup1 [0], l3] [] [.none] [smp [.tuple [p11, p12, p13, .int u14, .int v15], .tuple [p16, p17, p18, .int u19, .int v20]] [.none, w21]] (.int u4) (.int v5) (.int c) (.int d) (.int e) (.tuple [p6, p7, p8, .int u9, .int v10])) := (tupL (n := 4) ⟨(tupL (n := 3) ⟨(tupL (n := 2) ⟨(tupL (n := 1) ⟨(Pl.up (pl_upto (n := 2) (by decide) m0) 1), trivial⟩ (by show 1 ≤ 5; decide)), (tupL (n := 1) ⟨(Pl.up (pl_upN (n := 2) (by decide) m1) 1), trivial⟩ (by show 1 ≤ 5; decide)), trivial⟩ (by show 2 ≤ 5; decide)), (tupL (n := 2) ⟨(tupL (n := 1) ⟨(tupL (n := 0) ⟨(Pl.up (pl_list [tup1 [0]] (by rfl) List.mem_cons_self) 0), (Pl.up (pl_leaf m2) 0), trivial⟩ (by show 2 ≤ 5; decide)), (Pl.up (sp_pl s3).1 1), (Pl.up (sp_pl s3).2 1), trivial⟩ (by show 3 ≤ 5; decide)), trivial⟩ (by show 1 ≤ 5; decide)), (Pl.up (pl_int (n := c) (by omega) (by omega)) 3), (Pl.up (pl_int (n := d) (by omega) (by omega)) 3), (Pl.up (pl_int (n := e) (by omega) (by omega)) 3), trivial⟩ (by show 5 ≤ 5; decide)), (tupL (n := 3) ⟨(tupL (n := 2) ⟨(tupL (n := 1) ⟨(tupL (n := 0) ⟨(Pl.up (pl_upto (n := 1) (by decide) m4) 0), (Pl.up (pl_tools h.c m5) 0), (Pl.up (pl_zones h.e m6) 0), (Pl.up (sp_pl s7).1 0), (Pl.up (sp_pl s7).2 0), trivial⟩ (by show 5 ≤ 5; decide)), trivial⟩ (by show 1 ≤ 5; decide)), (tupL (n := 1) ⟨(Pl.up pl_none 1), trivial⟩ (by show 1 ≤ 5; decide)), trivial⟩ (by show 2 ≤ 5; decide)), (tupL (n := 2) ⟨(tupL (n := 1) ⟨(tupL (n := 0) ⟨(Pl.up (pl_upto (n := 1) (by decide) m8) 0), (Pl.up (pl_tools h.c m9) 0), (Pl.up (pl_zones h.e m10) 0), (Pl.up (sp_pl s11).1 0), (Pl.up (sp_pl s11).2 0), trivial⟩ (by show 5 ≤ 5; decide)), (tupL (n := 0) ⟨(Pl.up (pl_upto (n := 1) (by decide) m12) 0), (Pl.up (pl_tools h.c m13) 0), (Pl.up (pl_zones h.e m14) 0), (Pl.up (sp_pl s15).1 0), (Pl.up (sp_pl s15).2 0), trivial⟩ (by show 5 ≤ 5; decide)), trivial⟩ (by show 2 ≤ 5; decide)), (tupL (n := 1) ⟨(Pl.up pl_none 1), (Pl.up (pl_upN (n := g + 1) hg5 m16) 1), trivial⟩ (by show 2 ≤ 5; decide)), trivial⟩ (by show 2 ≤ 5; decide)), trivial⟩ (by show 2 ≤ 5; decide)), trivial⟩ (by show 2 ≤ 5; decide))
  · exact LL.1
  · exact Nat.le_trans LL.2.1 (by decide)
  · exact Nat.le_trans LL.2.2 (by decide)
theorem rw10 (c d e f g : Int) : rows ⟨1, 2, c, d, e, [2, 1], f, g⟩ = [uptoD 2, (.none :: uptoD 2), [tup1 [0], tup1 [0, 1]], spans f, uptoD 1, toolsR c, zonesR e, spans f, uptoD 1, toolsR c, zonesR e, spans f, (.none :: uptoD (g + 1)), uptoD 1, toolsR c, zonesR e, spans f] := by kernel_rfl
theorem all10 {c d e f g : Int} (h : Shp.Ok ⟨1, 2, c, d, e, [2, 1], f, g⟩) {picks : List D} (hp : In2 picks (rows ⟨1, 2, c, d, e, [2, 1], f, g⟩)) : TurnOk ⟨1, 2, c, d, e, [2, 1], f, g⟩ picks := by
  have hin := hp
  rw [rw10] at hp
  obtain ⟨a1, _, rfl, m0, hp⟩ := hp.uncons
  obtain ⟨a2, _, rfl, m1, hp⟩ := hp.uncons
  obtain ⟨l3, _, rfl, m2, hp⟩ := hp.uncons
  obtain ⟨sp3, _, rfl, m3, hp⟩ := hp.uncons
  obtain ⟨p6, _, rfl, m4, hp⟩ := hp.uncons
  obtain ⟨p7, _, rfl, m5, hp⟩ := hp.uncons
  obtain ⟨p8, _, rfl, m6, hp⟩ := hp.uncons
  obtain ⟨sp7, _, rfl, m7, hp⟩ := hp.uncons
  obtain ⟨p11, _, rfl, m8, hp⟩ := hp.uncons
  obtain ⟨p12, _, rfl, m9, hp⟩ := hp.uncons
  obtain ⟨p13, _, rfl, m10, hp⟩ := hp.uncons
  obtain ⟨sp11, _, rfl, m11, hp⟩ := hp.uncons
  obtain ⟨w16, _, rfl, m12, hp⟩ := hp.uncons
  obtain ⟨p17, _, rfl, m13, hp⟩ := hp.uncons
  obtain ⟨p18, _, rfl, m14, hp⟩ := hp.uncons
  obtain ⟨p19, _, rfl, m15, hp⟩ := hp.uncons
  obtain ⟨sp16, _, rfl, m16, hp⟩ := hp.uncons
  obtain rfl := hp.end
  obtain ⟨u4, v5, rfl, s3⟩ := span_of h m3
  obtain ⟨u9, v10, rfl, s7⟩ := span_of h m7
  obtain ⟨u14, v15, rfl, s11⟩ := span_of h m11
  obtain ⟨u20, v21, rfl, s16⟩ := span_of h m16
  have hcde : (c, d, e) ∈ cde := by
    obtain ⟨_, _, k1, k2, k3, _, _, _⟩ := h
    rcases k1 with k1 | k1 <;> rcases k2 with k2 | k2 <;> rcases k3 with k3 | k3 <;> (dsimp only at k1 k2 k3; subst k1 k2 k3; decide)
  have MM : chkM (.tuple [a1] :: [.tuple [a2]]) 1 = true := (List.all_eq_true.mp (List.all_eq_true.mp mf12 a1 m0) a2 m1)
  have ml3 : l3 ∈ [tup1 [0], tup1 [0, 1], tup1 [1]] := by
    rcases List.mem_cons.mp m2 with k | k
    · exact k ▸ List.mem_cons_self
    · exact List.mem_cons_of_mem _ (List.mem_cons.mpr (.inl (List.mem_singleton.mp k)))
  have PP : Parts ⟨1, 2, c, d, e, [2, 1], f, g⟩ [a1] [.tuple [a2]] [tup1 [0], l3] [.tuple [p11, p12, p13, .int u14, .int v15]] [.none, w16] [smp [.tuple [p17, p18, p19, .int u20, .int v21]] [.none]] u4 v5 p6 p7 p8 u9 v10 := {
    ok := h, few := by simp, s := rfl, t := rfl, mf := (meets_get MM).1, mfx := (meets_get MM).2, wf := wash_get (List.all_eq_true.mp (List.all_eq_true.mp wf2 (tup1 [0]) (by simp)) l3 ml3) s3, wfx := wash_get (List.all_eq_true.mp wf3 l3 ml3) s3, wf2 := fun _ => ⟨tup1 [0], l3, rfl, fun l' hl' => wash_get (List.all_eq_true.mp (List.all_eq_true.mp wf2 l' (by rcases List.mem_cons.mp hl' with k | k; exact List.mem_cons_of_mem _ (List.mem_cons.mpr (.inl k)); exact List.mem_cons_of_mem _ (List.mem_cons_of_mem _ k))) l3 ml3) s3, wash_get (List.all_eq_true.mp (List.all_eq_true.mp wf2 (tup1 [0]) (by simp)) (tup1 [1]) (by simp)) s3⟩,
    st0 := fun i' j' hij => (step_of (s := 1) h m5 m6 m4 hij (fun W d' => sf12 a1 (.tuple [a2]) W d') (fun W d' => sf13 a1 (.tuple [a2]) (nones ⟨1, 2, c, d, e, [2, 1], f, g⟩) W d')), sp0 := sp34 s7, rest := .inr ⟨_, _, rfl, rfl, (step_of (s := 1) h m9 m10 m8 (sp34 s11) (fun W d' => sf12 a1 (.tuple [a2]) W d') (fun W d' => sf13 a1 (.tuple [a2]) (nones ⟨1, 2, c, d, e, [2, 1], f, g⟩) W d')), win_of h m12⟩, more := .inr ⟨_, _, rfl, fun lab ha => sample1 ((step_of (s := 1) h m14 m15 m13 (sp34 s16) (fun W d' => sf12 a1 (.tuple [a2]) W d') (fun W d' => sf13 a1 (.tuple [a2]) (nones ⟨1, 2, c, d, e, [2, 1], f, g⟩) W d')) lab ha), rfl⟩,
    bad1 := fun i' j' hb => bad_set h hin (k := 7) (b := .tuple [.int i', .int j']) (r := spans f) (isD1_ok (List.all_eq_true.mp (hs10 (.int f) (.int g) a1 a2 l3 (.int u4) (.int v5) p6 p7 p8 (.int i') (.int j') p11 p12 p13 (.int u14) (.int v15) w16 p17 p18 p19 (.int u20) (.int v21)) (c, d, e) hcde)) (pk10 (.int c) (.int d) (.int e) (.int f) (.int g) a1 a2 l3 (.int u4) (.int v5) p6 p7 p8 (.int i') (.int j') p11 p12 p13 (.int u14) (.int v15) w16 p17 p18 p19 (.int u20) (.int v21)) (by rfl) (by rw [rw10]; rfl) (span_bad h hb), bad7 := fun a0 a1 _ ee => by cases ee; exact bad_set h hin (k := 2) (b := tup1 [1]) (r := [tup1 [0], tup1 [0, 1]]) (isD1_ok (List.all_eq_true.mp (hs10 (.int f) (.int g) a1 a2 (tup1 [1]) (.int u4) (.int v5) p6 p7 p8 (.int u9) (.int v10) p11 p12 p13 (.int u14) (.int v15) w16 p17 p18 p19 (.int u20) (.int v21)) (c, d, e) hcde)) (pk10 (.int c) (.int d) (.int e) (.int f) (.int g) a1 a2 (tup1 [1]) (.int u4) (.int v5) p6 p7 p8 (.int u9) (.int v10) p11 p12 p13 (.int u14) (.int v15) w16 p17 p18 p19 (.int u20) (.int v21)) (by rfl) (by rw [rw10]; rfl) (by rfl), bad8 := fun w1 r _ hr => bad_set h hin (k := 12) (b := .int r) (r := (.none :: uptoD (g + 1))) (isD1_ok (List.all_eq_true.mp (hs10 (.int f) (.int g) a1 a2 l3 (.int u4) (.int v5) p6 p7 p8 (.int u9) (.int v10) p11 p12 p13 (.int u14) (.int v15) (.int r) p17 p18 p19 (.int u20) (.int v21)) (c, d, e) hcde)) (pk10 (.int c) (.int d) (.int e) (.int f) (.int g) a1 a2 l3 (.int u4) (.int v5) p6 p7 p8 (.int u9) (.int v10) p11 p12 p13 (.int u14) (.int v15) (.int r) p17 p18 p19 (.int u20) (.int v21)) (by rfl) (by rw [rw10]; rfl) (win_bad h hr) }
  obtain ⟨c1, c2, d1, d2, e1, e2⟩ := PP.bnd
  refine ⟨tkOf (.tuple [a1] :: [.tuple [a2]]) [tup1 [0], l3] [.tuple [p11, p12, p13, .int u14, .int v15]] [.none, w16] [smp [.tuple [p17, p18, p19, .int u20, .int v21]] [.none]] (.int u4) (.int v5) (.int c) (.int d) (.int e) (.tuple [p6, p7, p8, .int u9, .int v10]), tk10 (.int c) (.int d) (.int e) (.int f) (.int g) a1 a2 l3 (.int u4) (.int v5) p6 p7 p8 (.int u9) (.int v10) p11 p12 p13 (.int u14) (.int v15) w16 p17 p18 p19 (.int u20) (.int v21), fun N R W => lt10 (.int c) (.int d) (.int e) (.int f) (.int g) a1 a2 l3 (.int u4) (.int v5) p6 p7 p8 (.int u9) (.int v10) p11 p12 p13 (.int u14) (.int v15) w16 p17 p18 p19 (.int u20) (.int v21) N R W, (pk10 (.int c) (.int d) (.int e) (.int f) (.int g) a1 a2 l3 (.int u4) (.int v5) p6 p7 p8 (.int u9) (.int v10) p11 p12 p13 (.int u14) (.int v15) w16 p17 p18 p19 (.int u20) (.int v21)), (isD1_ok (List.all_eq_true.mp (hs10 (.int f) (.int g) a1 a2 l3 (.int u4) (.int v5) p6 p7 p8 (.int u9) (.int v10) p11 p12 p13 (.int u14) (.int v15) w16 p17 p18 p19 (.int u20) (.int v21)) (c, d, e) hcde)), PP.tasks (adm (.inl rfl) (.inl rfl)) (lab1 PP.mf PP.wf c1 c2 d1 d2 e1 e2) PP.step0, ?_, ?_, ?_, fun k st hs hk => PP.bent hs hk⟩
  all_goals
    have hg5 : g + 1 ≤ 5 := by have := h.g; dsimp only at this; omega
    have q1 := h.c
    have q2 := h.d
    have q3 := h.e
    dsimp only at q1 q2 q3 c1 c2 d1 d2 e1 e2
    have LL : Lv 5 (tkOf (.tuple [a1] :: [.tuple [a2]]) [tup1 [0], l3] [.tuple [p11, p12, p13, .int u14, .int v15]] [.none, w16] [smp [.tuple [p17, p18, p19, .int u20, .int v21]] [.none]] (.int u4) (.int v5) (.int c) (.int d) (.int e) (.tuple [p6, p7, p8, .int u9, .int v10])) := (tupL (n := 4) ⟨(tupL (n := 3) ⟨(tupL (n := 2) ⟨(tupL (n := 1) ⟨(Pl.up (pl_upto (n := 2) (by decide) m0) 1), trivial⟩ (by show 1 ≤ 5; decide)), (tupL (n := 1) ⟨(Pl.up (pl_upN (n := 2) (by decide) m1) 1), trivial⟩ (by show 1 ≤ 5; decide)), trivial⟩ (by show 2 ≤ 5; decide)), (tupL (n := 2) ⟨(tupL (n := 1) ⟨(tupL (n := 0) ⟨(Pl.up (pl_list [tup1 [0]] (by rfl) List.mem_cons_self) 0), (Pl.up (pl_leaf m2) 0), trivial⟩ (by show 2 ≤ 5; decide)), (Pl.up (sp_pl s3).1 1), (Pl.up (sp_pl s3).2 1), trivial⟩ (by show 3 ≤ 5; decide)), trivial⟩ (by show 1 ≤ 5; decide)), (Pl.up (pl_int (n := c) (by omega) (by omega)) 3), (Pl.up (pl_int (n := d) (by omega) (by omega)) 3), (Pl.up (pl_int (n := e) (by omega) (by omega)) 3), trivial⟩ (by show 5 ≤ 5; decide)), (tupL (n := 3) ⟨(tupL (n := 2) ⟨(tupL (n := 1) ⟨(tupL (n := 0) ⟨(Pl.up (pl_upto (n := 1) (by decide) m4) 0), (Pl.up (pl_tools h.c m5) 0), (Pl.up (pl_zones h.e m6) 0), (Pl.up (sp_pl s7).1 0), (Pl.up (sp_pl s7).2 0), trivial⟩ (by show 5 ≤ 5; decide)), (tupL (n := 0) ⟨(Pl.up (pl_upto (n := 1) (by decide) m8) 0), (Pl.up (pl_tools h.c m9) 0), (Pl.up (pl_zones h.e m10) 0), (Pl.up (sp_pl s11).1 0), (Pl.up (sp_pl s11).2 0), trivial⟩ (by show 5 ≤ 5; decide)), trivial⟩ (by show 2 ≤ 5; decide)), (tupL (n := 1) ⟨(Pl.up pl_none 1), (Pl.up (pl_upN (n := g + 1) hg5 m12) 1), trivial⟩ (by show 2 ≤ 5; decide)), trivial⟩ (by show 2 ≤ 5; decide)), (tupL (n := 2) ⟨(tupL (n := 1) ⟨(tupL (n := 0) ⟨(Pl.up (pl_upto (n := 1) (by decide) m13) 0), (Pl.up (pl_tools h.c m14) 0), (Pl.up (pl_zones h.e m15) 0), (Pl.up (sp_pl s16).1 0), (Pl.up (sp_pl s16).2 0), trivial⟩ (by show 5 ≤ 5; decide)), trivial⟩ (by show 1 ≤ 5; decide)), (tupL (n := 1) ⟨(Pl.up pl_none 1), trivial⟩ (by show 1 ≤ 5; decide)), trivial⟩ (by show 2 ≤ 5; decide)), trivial⟩ (by show 2 ≤ 5; decide)), trivial⟩ (by show 2 ≤ 5; decide))
  · exact LL.1
  · exact Nat.le_trans LL.2.1 (by decide)
  · exact Nat.le_trans LL.2.2 (by decide)
theorem rw11 (c d e f g : Int) : rows ⟨1, 2, c, d, e, [2, 2], f, g⟩ = [uptoD 2, (.none :: uptoD 2), [tup1 [0], tup1 [0, 1]], spans f, uptoD 1, toolsR c, zonesR e, spans f, uptoD 1, toolsR c, zonesR e, spans f, (.none :: uptoD (g + 1)), uptoD 1, toolsR c, zonesR e, spans f, uptoD 1, toolsR c, zonesR e, spans f, (.none :: uptoD (g + 1))] := by kernel_rfl
theorem all11 {c d e f g : Int} (h : Shp.Ok ⟨1, 2, c, d, e, [2, 2], f, g⟩) {picks : List D} (hp : In2 picks (rows ⟨1, 2, c, d, e, [2, 2], f, g⟩)) : TurnOk ⟨1, 2, c, d, e, [2, 2], f, g⟩ picks := by
  have hin := hp
  rw [rw11] at hp
  obtain ⟨a1, _, rfl, m0, hp⟩ := hp.uncons
  obtain ⟨a2, _, rfl, m1, hp⟩ := hp.uncons
  obtain ⟨l3, _, rfl, m2, hp⟩ := hp.uncons
  obtain ⟨sp3, _, rfl, m3, hp⟩ := hp.uncons
  obtain ⟨p6, _, rfl, m4, hp⟩ := hp.uncons
  obtain ⟨p7, _, rfl, m5, hp⟩ := hp.uncons
  obtain ⟨p8, _, rfl, m6, hp⟩ := hp.uncons
  obtain ⟨sp7, _, rfl, m7, hp⟩ := hp.uncons
  obtain ⟨p11, _, rfl, m8, hp⟩ := hp.uncons
  obtain ⟨p12, _, rfl, m9, hp⟩ := hp.uncons
  obtain ⟨p13, _, rfl, m10, hp⟩ := hp.uncons
  obtain ⟨sp11, _, rfl, m11, hp⟩ := hp.uncons
  obtain ⟨w16, _, rfl, m12, hp⟩ := hp.uncons
  obtain ⟨p17, _, rfl, m13, hp⟩ := hp.uncons
  obtain ⟨p18, _, rfl, m14, hp⟩ := hp.uncons
  obtain ⟨p19, _, rfl, m15, hp⟩ := hp.uncons
  obtain ⟨sp16, _, rfl, m16, hp⟩ := hp.uncons
  obtain ⟨p22, _, rfl, m17, hp⟩ := hp.uncons
  obtain ⟨p23, _, rfl, m18, hp⟩ := hp.uncons
  obtain ⟨p24, _, rfl, m19, hp⟩ := hp.uncons
  obtain ⟨sp20, _, rfl, m20, hp⟩ := hp.uncons
  obtain ⟨w27, _, rfl, m21, hp⟩ := hp.uncons
  obtain rfl := hp.end
  obtain ⟨u4, v5, rfl, s3⟩ := span_of h m3
  obtain ⟨u9, v10, rfl, s7⟩ := span_of h m7
  obtain ⟨u14, v15, rfl, s11⟩ := span_of h m11
  obtain ⟨u20, v21, rfl, s16⟩ := span_of h m16
  obtain ⟨u25, v26, rfl, s20⟩ := span_of h m20
  have hcde : (c, d, e) ∈ cde := by
    obtain ⟨_, _, k1, k2, k3, _, _, _⟩ := h
    rcases k1 with k1 | k1 <;> rcases k2 with k2 | k2 <;> rcases k3 with k3 | k3 <;> (dsimp only at k1 k2 k3; subst k1 k2 k3; decide)
  have MM : chkM (.tuple [a1] :: [.tuple [a2]]) 1 = true := (List.all_eq_true.mp (List.all_eq_true.mp mf12 a1 m0) a2 m1)
  have ml3 : l3 ∈ [tup1 [0], tup1 [0, 1], tup1 [1]] := by
    rcases List.mem_cons.mp m2 with k | k
    · exact k ▸ List.mem_cons_self
    · exact List.mem_cons_of_mem _ (List.mem_cons.mpr (.inl (List.mem_singleton.mp k)))
  have PP : Parts ⟨1, 2, c, d, e, [2, 2], f, g⟩ [a1] [.tuple [a2]] [tup1 [0], l3] [.tuple [p11, p12, p13, .int u14, .int v15]] [.none, w16] [smp [.tuple [p17, p18, p19, .int u20, .int v21], .tuple [p22, p23, p24, .int u25, .int v26]] [.none, w27]] u4 v5 p6 p7 p8 u9 v10 := {
    ok := h, few := by simp, s := rfl, t := rfl, mf := (meets_get MM).1, mfx := (meets_get MM).2, wf := wash_get (List.all_eq_true.mp (List.all_eq_true.mp wf2 (tup1 [0]) (by simp)) l3 ml3) s3, wfx := wash_get (List.all_eq_true.mp wf3 l3 ml3) s3, wf2 := fun _ => ⟨tup1 [0], l3, rfl, fun l' hl' => wash_get (List.all_eq_true.mp (List.all_eq_true.mp wf2 l' (by rcases List.mem_cons.mp hl' with k | k; exact List.mem_cons_of_mem _ (List.mem_cons.mpr (.inl k)); exact List.mem_cons_of_mem _ (List.mem_cons_of_mem _ k))) l3 ml3) s3, wash_get (List.all_eq_true.mp (List.all_eq_true.mp wf2 (tup1 [0]) (by simp)) (tup1 [1]) (by simp)) s3⟩,
    st0 := fun i' j' hij => (step_of (s := 1) h m5 m6 m4 hij (fun W d' => sf12 a1 (.tuple [a2]) W d') (fun W d' => sf13 a1 (.tuple [a2]) (nones ⟨1, 2, c, d, e, [2, 2], f, g⟩) W d')), sp0 := sp34 s7, rest := .inr ⟨_, _, rfl, rfl, (step_of (s := 1) h m9 m10 m8 (sp34 s11) (fun W d' => sf12 a1 (.tuple [a2]) W d') (fun W d' => sf13 a1 (.tuple [a2]) (nones ⟨1, 2, c, d, e, [2, 2], f, g⟩) W d')), win_of h m12⟩, more := .inr ⟨_, _, rfl, fun lab ha => sample2 ((step_of (s := 1) h m14 m15 m13 (sp34 s16) (fun W d' => sf12 a1 (.tuple [a2]) W d') (fun W d' => sf13 a1 (.tuple [a2]) (nones ⟨1, 2, c, d, e, [2, 2], f, g⟩) W d')) lab ha) ((step_of (s := 1) h m18 m19 m17 (sp34 s20) (fun W d' => sf12 a1 (.tuple [a2]) W d') (fun W d' => sf13 a1 (.tuple [a2]) (nones ⟨1, 2, c, d, e, [2, 2], f, g⟩) W d')) lab ha) (win_of h m21), rfl⟩,
    bad1 := fun i' j' hb => bad_set h hin (k := 7) (b := .tuple [.int i', .int j']) (r := spans f) (isD1_ok (List.all_eq_true.mp (hs11 (.int f) (.int g) a1 a2 l3 (.int u4) (.int v5) p6 p7 p8 (.int i') (.int j') p11 p12 p13 (.int u14) (.int v15) w16 p17 p18 p19 (.int u20) (.int v21) p22 p23 p24 (.int u25) (.int v26) w27) (c, d, e) hcde)) (pk11 (.int c) (.int d) (.int e) (.int f) (.int g) a1 a2 l3 (.int u4) (.int v5) p6 p7 p8 (.int i') (.int j') p11 p12 p13 (.int u14) (.int v15) w16 p17 p18 p19 (.int u20) (.int v21) p22 p23 p24 (.int u25) (.int v26) w27) (by rfl) (by rw [rw11]; rfl) (span_bad h hb), bad7 := fun a0 a1 _ ee => by cases ee; exact bad_set h hin (k := 2) (b := tup1 [1]) (r := [tup1 [0], tup1 [0, 1]]) (isD1_ok (List.all_eq_true.mp (hs11 (.int f) (.int g) a1 a2 (tup1 [1]) (.int u4) (.int v5) p6 p7 p8 (.int u9) (.int v10) p11 p12 p13 (.int u14) (.int v15) w16 p17 p18 p19 (.int u20) (.int v21) p22 p23 p24 (.int u25) (.int v26) w27) (c, d, e) hcde)) (pk11 (.int c) (.int d) (.int e) (.int f) (.int g) a1 a2 (tup1 [1]) (.int u4) (.int v5) p6 p7 p8 (.int u9) (.int v10) p11 p12 p13 (.int u14) (.int v15) w16 p17 p18 p19 (.int u20) (.int v21) p22 p23 p24 (.int u25) (.int v26) w27) (by rfl) (by rw [rw11]; rfl) (by rfl), bad8 := fun w1 r _ hr => bad_set h hin (k := 12) (b := .int r) (r := (.none :: uptoD (g + 1))) (isD1_ok (List.all_eq_true.mp (hs11 (.int f) (.int g) a1 a2 l3 (.int u4) (.int v5) p6 p7 p8 (.int u9) (.int v10) p11 p12 p13 (.int u14) (.int v15) (.int r) p17 p18 p19 (.int u20) (.int v21) p22 p23 p24 (.int u25) (.int v26) w27) (c, d, e) hcde)) (pk11 (.int c) (.int d) (.int e) (.int f) (.int g) a1 a2 l3 (.int u4) (.int v5) p6 p7 p8 (.int u9) (.int v10) p11 p12 p13 (.int u14) (.int v15) (.int r) p17 p18 p19 (.int u20) (.int v21) p22 p23 p24 (.int u25) (.int v26) w27) (by rfl) (by rw [rw11]; rfl) (win_bad h hr) }
  obtain ⟨c1, c2, d1, d2, e1, e2⟩ := PP.bnd
  refine ⟨tkOf (.tuple [a1] :: [.tuple [a2]]) [tup1 [0], l3] [.tuple [p11, p12, p13, .int u14, .int v15]] [.none, w16] [smp [.tuple [p17, p18, p19, .int u20, .int v21], .tuple [p22, p23, p24, .int u25, .int v26]] [.none, w27]] (.int u4) (.int v5) (.int c) (.int d) (.int e) (.tuple [p6, p7, p8, .int u9, .int v10]), tk11 (.int c) (.int d) (.int e) (.int f) (.int g) a1 a2 l3 (.int u4) (.int v5) p6 p7 p8 (.int u9) (.int v10) p11 p12 p13 (.int u14) (.int v15) w16 p17 p18 p19 (.int u20) (.int v21) p22 p23 p24 (.int u25) (.int v26) w27, fun N R W => lt11 (.int c) (.int d) (.int e) (.int f) (.int g) a1 a2 l3 (.int u4) (.int v5) p6 p7 p8 (.int u9) (.int v10) p11 p12 p13 (.int u14) (.int v15) w16 p17 p18 p19 (.int u20) (.int v21) p22 p23 p24 (.int u25) (.int v26) w27 N R W, (pk11 (.int c) (.int d) (.int e) (.int f) (.int g) a1 a2 l3 (.int u4) (.int v5) p6 p7 p8 (.int u9) (.int v10) p11 p12 p13 (.int u14) (.int v15) w16 p17 p18 p19 (.int u20) (.int v21) p22 p23 p24 (.int u25) (.int v26) w27), (isD1_ok (List.all_eq_true.mp (hs11 (.int f) (.int g) a1 a2 l3 (.int u4) (.int v5) p6 p7 p8 (.int u9) (.int v10) p11 p12 p13 (.int u14) (.int v15) w16 p17 p18 p19 (.int u20) (.int v21) p22 p23 p24 (.int u25) (.int v26) w27) (c, d, e) hcde)), PP.tasks (adm (.inl rfl) (.inl rfl)) (lab1 PP.mf PP.wf c1 c2 d1 d2 e1 e2) PP.step0, ?_, ?_, ?_, fun k st hs hk => PP.bent hs hk⟩
  all_goals
    have hg5 : g + 1 ≤ 5 := by have := h.g; dsimp only at this; omega
    have q1 := h.c
    have q2 := h.d
    have q3 := h.e
    dsimp only at q1 q2 q3 c1 c2 d1 d2 e1 e2
    have LL : Lv 5 (tkOf (.tuple [a1] :: [.tuple [a2]]) [tup1 [0], l3] [.tuple [p11, p12, p13, .int u14, .int v15]] [.none, w16] [smp [.tuple [p17, p18, p19, .int u20, .int v21], .tuple [p22, p23, p24, .int u25, .int v26]] [.none, w27]] (.int u4) (.int v5) (.int c) (.int d) (.int e) (.tuple [p6, p7, p8, .int u9, .int v10])) := (tupL (n := 4) ⟨(tupL (n := 3) ⟨(tupL (n := 2) ⟨(tupL (n := 1) ⟨(Pl.up (pl_upto (n := 2) (by decide) m0) 1), trivial⟩ (by show 1 ≤ 5; decide)), (tupL (n := 1) ⟨(Pl.up (pl_upN (n := 2) (by decide) m1) 1), trivial⟩ (by show 1 ≤ 5; decide)), trivial⟩ (by show 2 ≤ 5; decide)), (tupL (n := 2) ⟨(tupL (n := 1) ⟨(tupL (n := 0) ⟨(Pl.up (pl_list [tup1 [0]] (by rfl) List.mem_cons_self) 0), (Pl.up (pl_leaf m2) 0), trivial⟩ (by show 2 ≤ 5; decide)), (Pl.up (sp_pl s3).1 1), (Pl.up (sp_pl s3).2 1), trivial⟩ (by show 3 ≤ 5; decide)), trivial⟩ (by show 1 ≤ 5; decide)), (Pl.up (pl_int (n := c) (by omega) (by omega)) 3), (Pl.up (pl_int (n := d) (by omega) (by omega)) 3), (Pl.up (pl_int (n := e) (by omega) (by omega)) 3), trivial⟩ (by show 5 ≤ 5; decide)), (tupL (n := 3) ⟨(tupL (n := 2) ⟨(tupL (n := 1) ⟨(tupL (n := 0) ⟨(Pl.up (pl_upto (n := 1) (by decide) m4) 0), (Pl.up (pl_tools h.c m5) 0), (Pl.up (pl_zones h.e m6) 0), (Pl.up (sp_pl s7).1 0), (Pl.up (sp_pl s7).2 0), trivial⟩ (by show 5 ≤ 5; decide)), (tupL (n := 0) ⟨(Pl.up (pl_upto (n := 1) (by decide) m8) 0), (Pl.up (pl_tools h.c m9) 0), (Pl.up (pl_zones h.e m10) 0), (Pl.up (sp_pl s11).1 0), (Pl.up (sp_pl s11).2 0), trivial⟩ (by show 5 ≤ 5; decide)), trivial⟩ (by show 2 ≤ 5; decide)), (tupL (n := 1) ⟨(Pl.up pl_none 1), (Pl.up (pl_upN (n := g + 1) hg5 m12) 1), trivial⟩ (by show 2 ≤ 5; decide)), trivial⟩ (by show 2 ≤ 5; decide)), (tupL (n := 2) ⟨(tupL (n := 1) ⟨(tupL (n := 0) ⟨(Pl.up (pl_upto (n := 1) (by decide) m13) 0), (Pl.up (pl_tools h.c m14) 0), (Pl.up (pl_zones h.e m15) 0), (Pl.up (sp_pl s16).1 0), (Pl.up (sp_pl s16).2 0), trivial⟩ (by show 5 ≤ 5; decide)), (tupL (n := 0) ⟨(Pl.up (pl_upto (n := 1) (by decide) m17) 0), (Pl.up (pl_tools h.c m18) 0), (Pl.up (pl_zones h.e m19) 0), (Pl.up (sp_pl s20).1 0), (Pl.up (sp_pl s20).2 0), trivial⟩ (by show 5 ≤ 5; decide)), trivial⟩ (by show 2 ≤ 5; decide)), (tupL (n := 1) ⟨(Pl.up pl_none 1), (Pl.up (pl_upN (n := g + 1) hg5 m21) 1), trivial⟩ (by show 2 ≤ 5; decide)), trivial⟩ (by show 2 ≤ 5; decide)), trivial⟩ (by show 2 ≤ 5; decide)), trivial⟩ (by show 2 ≤ 5; decide))
  · exact LL.1
  · exact Nat.le_trans LL.2.1 (by decide)
  · exact Nat.le_trans LL.2.2 (by decide)
theorem rw12 (c d e f g : Int) : rows ⟨2, 1, c, d, e, [1], f, g⟩ = [uptoD 1, uptoD 1, spans f, uptoD 2, toolsR c, zonesR e, spans f] := by kernel_rfl
theorem all12 {c d e f g : Int} (h : Shp.Ok ⟨2, 1, c, d, e, [1], f, g⟩) {picks : List D} (hp : In2 picks (rows ⟨2, 1, c, d, e, [1], f, g⟩)) : TurnOk ⟨2, 1, c, d, e, [1], f, g⟩ picks := by
  have hin := hp
  rw [rw12] at hp
  obtain ⟨a1, _, rfl, m0, hp⟩ := hp.uncons
  obtain ⟨a2, _, rfl, m1, hp⟩ := hp.uncons
  obtain ⟨sp2, _, rfl, m2, hp⟩ := hp.uncons
  obtain ⟨p5, _, rfl, m3, hp⟩ := hp.uncons
  obtain ⟨p6, _, rfl, m4, hp⟩ := hp.uncons
  obtain ⟨p7, _, rfl, m5, hp⟩ := hp.uncons
  obtain ⟨sp6, _, rfl, m6, hp⟩ := hp.uncons
  obtain rfl := hp.end
  obtain ⟨u3, v4, rfl, s2⟩ := span_of h m2
  obtain ⟨u8, v9, rfl, s6⟩ := span_of h m6
  have hcde : (c, d, e) ∈ cde := by
    obtain ⟨_, _, k1, k2, k3, _, _, _⟩ := h
    rcases k1 with k1 | k1 <;> rcases k2 with k2 | k2 <;> rcases k3 with k3 | k3 <;> (dsimp only at k1 k2 k3; subst k1 k2 k3; decide)
  have MM : chkM (.tuple [a1, a2] :: []) 2 = true := (List.all_eq_true.mp (List.all_eq_true.mp mf21 a1 m0) a2 m1)
  have PP : Parts ⟨2, 1, c, d, e, [1], f, g⟩ [a1, a2] [] [tup1 [0]] [] [.none] [] u3 v4 p5 p6 p7 u8 v9 := {
    ok := h, few := by simp, s := rfl, t := rfl, mf := (meets_get MM).1, mfx := (meets_get MM).2, wf := wash_get wf1 s2, wfx := wash_get wf1b s2, wf2 := fun ht => absurd (show (1 : Int) = 2 from ht) (by decide),
    st0 := fun i' j' hij => (step_of (s := 2) h m4 m5 m3 hij (fun W d' => sf21 a1 a2 W d') (fun W d' => sf22 a1 a2 (nones ⟨2, 1, c, d, e, [1], f, g⟩) W d')), sp0 := sp34 s6, rest := .inl ⟨rfl, rfl⟩, more := .inl ⟨rfl, rfl⟩,
    bad1 := fun i' j' hb => bad_set h hin (k := 6) (b := .tuple [.int i', .int j']) (r := spans f) (isD1_ok (List.all_eq_true.mp (hs12 (.int f) (.int g) a1 a2 (.int u3) (.int v4) p5 p6 p7 (.int i') (.int j')) (c, d, e) hcde)) (pk12 (.int c) (.int d) (.int e) (.int f) (.int g) a1 a2 (.int u3) (.int v4) p5 p6 p7 (.int i') (.int j')) (by rfl) (by rw [rw12]; rfl) (span_bad h hb), bad7 := fun _ _ ht _ => absurd (show (1 : Int) = 2 from ht) (by decide), bad8 := fun w1 r ee => by cases ee }
  obtain ⟨c1, c2, d1, d2, e1, e2⟩ := PP.bnd
  refine ⟨tkOf (.tuple [a1, a2] :: []) [tup1 [0]] [] [.none] [] (.int u3) (.int v4) (.int c) (.int d) (.int e) (.tuple [p5, p6, p7, .int u8, .int v9]), tk12 (.int c) (.int d) (.int e) (.int f) (.int g) a1 a2 (.int u3) (.int v4) p5 p6 p7 (.int u8) (.int v9), fun N R W => lt12 (.int c) (.int d) (.int e) (.int f) (.int g) a1 a2 (.int u3) (.int v4) p5 p6 p7 (.int u8) (.int v9) N R W, (pk12 (.int c) (.int d) (.int e) (.int f) (.int g) a1 a2 (.int u3) (.int v4) p5 p6 p7 (.int u8) (.int v9)), (isD1_ok (List.all_eq_true.mp (hs12 (.int f) (.int g) a1 a2 (.int u3) (.int v4) p5 p6 p7 (.int u8) (.int v9)) (c, d, e) hcde)), PP.tasks (adm (.inl rfl) (.inl rfl)) (lab1 PP.mf PP.wf c1 c2 d1 d2 e1 e2) PP.step0, ?_, ?_, ?_, fun k st hs hk => PP.bent hs hk⟩
  all_goals
    have hg5 : g + 1 ≤ 5 := by have := h.g; dsimp only at this; omega
    have q1 := h.c
    have q2 := h.d
    have q3 := h.e
    dsimp only at q1 q2 q3 c1 c2 d1 d2 e1 e2
    have LL : Lv 5 (tkOf (.tuple [a1, a2] :: []) [tup1 [0]] [] [.none] [] (.int u3) (.int v4) (.int c) (.int d) (.int e) (.tuple [p5, p6, p7, .int u8, .int v9])) := (tupL (n := 4) ⟨(tupL (n := 3) ⟨(tupL (n := 2) ⟨(tupL (n := 1) ⟨(Pl.up (pl_upto (n := 1) (by decide) m0) 1), (Pl.up (pl_upto (n := 1) (by decide) m1) 1), trivial⟩ (by show 2 ≤ 5; decide)), trivial⟩ (by show 1 ≤ 5; decide)), (tupL (n := 2) ⟨(tupL (n := 1) ⟨(tupL (n := 0) ⟨(Pl.up (pl_list [tup1 [0]] (by rfl) List.mem_cons_self) 0), trivial⟩ (by show 1 ≤ 5; decide)), (Pl.up (sp_pl s2).1 1), (Pl.up (sp_pl s2).2 1), trivial⟩ (by show 3 ≤ 5; decide)), trivial⟩ (by show 1 ≤ 5; decide)), (Pl.up (pl_int (n := c) (by omega) (by omega)) 3), (Pl.up (pl_int (n := d) (by omega) (by omega)) 3), (Pl.up (pl_int (n := e) (by omega) (by omega)) 3), trivial⟩ (by show 5 ≤ 5; decide)), (tupL (n := 3) ⟨(tupL (n := 2) ⟨(tupL (n := 1) ⟨(tupL (n := 0) ⟨(Pl.up (pl_upto (n := 2) (by decide) m3) 0), (Pl.up (pl_tools h.c m4) 0), (Pl.up (pl_zones h.e m5) 0), (Pl.up (sp_pl s6).1 0), (Pl.up (sp_pl s6).2 0), trivial⟩ (by show 5 ≤ 5; decide)), trivial⟩ (by show 1 ≤ 5; decide)), (tupL (n := 1) ⟨(Pl.up pl_none 1), trivial⟩ (by show 1 ≤ 5; decide)), trivial⟩ (by show 2 ≤ 5; decide)), trivial⟩ (by show 1 ≤ 5; decide)), trivial⟩ (by show 2 ≤ 5; decide))
  · exact LL.1
  · exact Nat.le_trans LL.2.1 (by decide)
  · exact Nat.le_trans LL.2.2 (by decide)
theorem rw13 (c d e f g : Int) : rows ⟨2, 1, c, d, e, [2], f, g⟩ = [uptoD 1, uptoD 1, spans f, uptoD 2, toolsR c, zonesR e, spans f, uptoD 2, toolsR c, zonesR e, spans f, (.none :: uptoD (g + 1))] := by kernel_rfl
theorem all13 {c d e f g : Int} (h : Shp.Ok ⟨2, 1, c, d, e, [2], f, g⟩) {picks : List D} (hp : In2 picks (rows ⟨2, 1, c, d, e, [2], f, g⟩)) : TurnOk ⟨2, 1, c, d, e, [2], f, g⟩ picks := by
  have hin := hp
  rw [rw13] at hp
  obtain ⟨a1, _, rfl, m0, hp⟩ := hp.uncons
  obtain ⟨a2, _, rfl, m1, hp⟩ := hp.uncons
  obtain ⟨sp2, _, rfl, m2, hp⟩ := hp.uncons
  obtain ⟨p5, _, rfl, m3, hp⟩ := hp.uncons
  obtain ⟨p6, _, rfl, m4, hp⟩ := hp.uncons
  obtain ⟨p7, _, rfl, m5, hp⟩ := hp.uncons
  obtain ⟨sp6, _, rfl, m6, hp⟩ := hp.uncons
  obtain ⟨p10, _, rfl, m7, hp⟩ := hp.uncons
  obtain ⟨p11, _, rfl, m8, hp⟩ := hp.uncons
  obtain ⟨p12, _, rfl, m9, hp⟩ := hp.uncons
  obtain ⟨sp10, _, rfl, m10, hp⟩ := hp.uncons
  obtain ⟨w15, _, rfl, m11, hp⟩ := hp.uncons
  obtain rfl := hp.end
  obtain ⟨u3, v4, rfl, s2⟩ := span_of h m2
  obtain ⟨u8, v9, rfl, s6⟩ := span_of h m6
  obtain ⟨u13, v14, rfl, s10⟩ := span_of h m10
  have hcde : (c, d, e) ∈ cde := by
    obtain ⟨_, _, k1, k2, k3, _, _, _⟩ := h
    rcases k1 with k1 | k1 <;> rcases k2 with k2 | k2 <;> rcases k3 with k3 | k3 <;> (dsimp only at k1 k2 k3; subst k1 k2 k3; decide)
  have MM : chkM (.tuple [a1, a2] :: []) 2 = true := (List.all_eq_true.mp (List.all_eq_true.mp mf21 a1 m0) a2 m1)
  have PP : Parts ⟨2, 1, c, d, e, [2], f, g⟩ [a1, a2] [] [tup1 [0]] [.tuple [p10, p11, p12, .int u13, .int v14]] [.none, w15] [] u3 v4 p5 p6 p7 u8 v9 := {
    ok := h, few := by simp, s := rfl, t := rfl, mf := (meets_get MM).1, mfx := (meets_get MM).2, wf := wash_get wf1 s2, wfx := wash_get wf1b s2, wf2 := fun ht => absurd (show (1 : Int) = 2 from ht) (by decide),
    st0 := fun i' j' hij => (step_of (s := 2) h m4 m5 m3 hij (fun W d' => sf21 a1 a2 W d') (fun W d' => sf22 a1 a2 (nones ⟨2, 1, c, d, e, [2], f, g⟩) W d')), sp0 := sp34 s6, rest := .inr ⟨_, _, rfl, rfl, (step_of (s := 2) h m8 m9 m7 (sp34 s10) (fun W d' => sf21 a1 a2 W d') (fun W d' => sf22 a1 a2 (nones ⟨2, 1, c, d, e, [2], f, g⟩) W d')), win_of h m11⟩, more := .inl ⟨rfl, rfl⟩,
    bad1 := fun i' j' hb => bad_set h hin (k := 6) (b := .tuple [.int i', .int j']) (r := spans f) (isD1_ok (List.all_eq_true.mp (hs13 (.int f) (.int g) a1 a2 (.int u3) (.int v4) p5 p6 p7 (.int i') (.int j') p10 p11 p12 (.int u13) (.int v14) w15) (c, d, e) hcde)) (pk13 (.int c) (.int d) (.int e) (.int f) (.int g) a1 a2 (.int u3) (.int v4) p5 p6 p7 (.int i') (.int j') p10 p11 p12 (.int u13) (.int v14) w15) (by rfl) (by rw [rw13]; rfl) (span_bad h hb), bad7 := fun _ _ ht _ => absurd (show (1 : Int) = 2 from ht) (by decide), bad8 := fun w1 r _ hr => bad_set h hin (k := 11) (b := .int r) (r := (.none :: uptoD (g + 1))) (isD1_ok (List.all_eq_true.mp (hs13 (.int f) (.int g) a1 a2 (.int u3) (.int v4) p5 p6 p7 (.int u8) (.int v9) p10 p11 p12 (.int u13) (.int v14) (.int r)) (c, d, e) hcde)) (pk13 (.int c) (.int d) (.int e) (.int f) (.int g) a1 a2 (.int u3) (.int v4) p5 p6 p7 (.int u8) (.int v9) p10 p11 p12 (.int u13) (.int v14) (.int r)) (by rfl) (by rw [rw13]; rfl) (win_bad h hr) }
  obtain ⟨c1, c2, d1, d2, e1, e2⟩ := PP.bnd
  refine ⟨tkOf (.tuple [a1, a2] :: []) [tup1 [0]] [.tuple [p10, p11, p12, .int u13, .int v14]] [.none, w15] [] (.int u3) (.int v4) (.int c) (.int d) (.int e) (.tuple [p5, p6, p7, .int u8, .int v9]), tk13 (.int c) (.int d) (.int e) (.int f) (.int g) a1 a2 (.int u3) (.int v4) p5 p6 p7 (.int u8) (.int v9) p10 p11 p12 (.int u13) (.int v14) w15, fun N R W => lt13 (.int c) (.int d) (.int e) (.int f) (.int g) a1 a2 (.int u3) (.int v4) p5 p6 p7 (.int u8) (.int v9) p10 p11 p12 (.int u13) (.int v14) w15 N R W, (pk13 (.int c) (.int d) (.int e) (.int f) (.int g) a1 a2 (.int u3) (.int v4) p5 p6 p7 (.int u8) (.int v9) p10 p11 p12 (.int u13) (.int v14) w15), (isD1_ok (List.all_eq_true.mp (hs13 (.int f) (.int g) a1 a2 (.int u3) (.int v4) p5 p6 p7 (.int u8) (.int v9) p10 p11 p12 (.int u13) (.int v14) w15) (c, d, e) hcde)), PP.tasks (adm (.inl rfl) (.inl rfl)) (lab1 PP.mf PP.wf c1 c2 d1 d2 e1 e2) PP.step0, ?_, ?_, ?_, fun k st hs hk => PP.bent hs hk⟩
  all_goals
    have hg5 : g + 1 ≤ 5 := by have := h.g; dsimp only at this; omega
    have q1 := h.c
    have q2 := h.d
    have q3 := h.e
    dsimp only at q1 q2 q3 c1 c2 d1 d2 e1 e2
    have LL : Lv 5 (tkOf (.tuple [a1, a2] :: []) [tup1 [0]] [.tuple [p10, p11, p12, .int u13, .int v14]] [.none, w15] [] (.int u3) (.int v4) (.int c) (.int d) (.int e) (.tuple [p5, p6, p7, .int u8, .int v9])) := (tupL (n := 4) ⟨(tupL (n := 3) ⟨(tupL (n := 2) ⟨(tupL (n := 1) ⟨(Pl.up (pl_upto (n := 1) (by decide) m0) 1), (Pl.up (pl_upto (n := 1) (by decide) m1) 1), trivial⟩ (by show 2 ≤ 5; decide)), trivial⟩ (by show 1 ≤ 5; decide)), (tupL (n := 2) ⟨(tupL (n := 1) ⟨(tupL (n := 0) ⟨(Pl.up (pl_list [tup1 [0]] (by rfl) List.mem_cons_self) 0), trivial⟩ (by show 1 ≤ 5; decide)), (Pl.up (sp_pl s2).1 1), (Pl.up (sp_pl s2).2 1), trivial⟩ (by show 3 ≤ 5; decide)), trivial⟩ (by show 1 ≤ 5; decide)), (Pl.up (pl_int (n := c) (by omega) (by omega)) 3), (Pl.up (pl_int (n := d) (by omega) (by omega)) 3), (Pl.up (pl_int (n := e) (by omega) (by omega)) 3), trivial⟩ (by show 5 ≤ 5; decide)), (tupL (n := 3) ⟨(tupL (n := 2) ⟨(tupL (n := 1) ⟨(tupL (n := 0) ⟨(Pl.up (pl_upto (n := 2) (by decide) m3) 0), (Pl.up (pl_tools h.c m4) 0), (Pl.up (pl_zones h.e m5) 0), (Pl.up (sp_pl s6).1 0), (Pl.up (sp_pl s6).2 0), trivial⟩ (by show 5 ≤ 5; decide)), (tupL (n := 0) ⟨(Pl.up (pl_upto (n := 2) (by decide) m7) 0), (Pl.up (pl_tools h.c m8) 0), (Pl.up (pl_zones h.e m9) 0), (Pl.up (sp_pl s10).1 0), (Pl.up (sp_pl s10).2 0), trivial⟩ (by show 5 ≤ 5; decide)), trivial⟩ (by show 2 ≤ 5; decide)), (tupL (n := 1) ⟨(Pl.up pl_none 1), (Pl.up (pl_upN (n := g + 1) hg5 m11) 1), trivial⟩ (by show 2 ≤ 5; decide)), trivial⟩ (by show 2 ≤ 5; decide)), trivial⟩ (by show 1 ≤ 5; decide)), trivial⟩ (by show 2 ≤ 5; decide))
  · exact LL.1
  · exact Nat.le_trans LL.2.1 (by decide)
  · exact Nat.le_trans LL.2.2 (by decide)
theorem rw14 (c d e f g : Int) : rows ⟨2, 1, c, d, e, [1, 1], f, g⟩ = [uptoD 1, uptoD 1, spans f, uptoD 2, toolsR c, zonesR e, spans f, uptoD 2, toolsR c, zonesR e, spans f] := by kernel_rfl
theorem all14 {c d e f g : Int} (h : Shp.Ok ⟨2, 1, c, d, e, [1, 1], f, g⟩) {picks : List D} (hp : In2 picks (rows ⟨2, 1, c, d, e, [1, 1], f, g⟩)) : TurnOk ⟨2, 1, c, d, e, [1, 1], f, g⟩ picks := by
  have hin := hp
  rw [rw14] at hp
  obtain ⟨a1, _, rfl, m0, hp⟩ := hp.uncons
  obtain ⟨a2, _, rfl, m1, hp⟩ := hp.uncons
  obtain ⟨sp2, _, rfl, m2, hp⟩ := hp.uncons
  obtain ⟨p5, _, rfl, m3, hp⟩ := hp.uncons
  obtain ⟨p6, _, rfl, m4, hp⟩ := hp.uncons
  obtain ⟨p7, _, rfl, m5, hp⟩ := hp.uncons
  obtain ⟨sp6, _, rfl, m6, hp⟩ := hp.uncons
  obtain ⟨p10, _, rfl, m7, hp⟩ := hp.uncons
  obtain ⟨p11, _, rfl, m8, hp⟩ := hp.uncons
  obtain ⟨p12, _, rfl, m9, hp⟩ := hp.uncons
  obtain ⟨sp10, _, rfl, m10, hp⟩ := hp.uncons
  obtain rfl := hp.end
  obtain ⟨u3, v4, rfl, s2⟩ := span_of h m2
  obtain ⟨u8, v9, rfl, s6⟩ := span_of h m6
  obtain ⟨u13, v14, rfl, s10⟩ := span_of h m10
  have hcde : (c, d, e) ∈ cde := by
    obtain ⟨_, _, k1, k2, k3, _, _, _⟩ := h
    rcases k1 with k1 | k1 <;> rcases k2 with k2 | k2 <;> rcases k3 with k3 | k3 <;> (dsimp only at k1 k2 k3; subst k1 k2 k3; decide)
  have MM : chkM (.tuple [a1, a2] :: []) 2 = true := (List.all_eq_true.mp (List.all_eq_true.mp mf21 a1 m0) a2 m1)
  have PP : Parts ⟨2, 1, c, d, e, [1, 1], f, g⟩ [a1, a2] [] [tup1 [0]] [] [.none] [smp [.tuple [p10, p11, p12, .int u13, .int v14]] [.none]] u3 v4 p5 p6 p7 u8 v9 := {
    ok := h, few := by simp, s := rfl, t := rfl, mf := (meets_get MM).1, mfx := (meets_get MM).2, wf := wash_get wf1 s2, wfx := wash_get wf1b s2, wf2 := fun ht => absurd (show (1 : Int) = 2 from ht) (by decide),
    st0 := fun i' j' hij => (step_of (s := 2) h m4 m5 m3 hij (fun W d' => sf21 a1 a2 W d') (fun W d' => sf22 a1 a2 (nones ⟨2, 1, c, d, e, [1, 1], f, g⟩) W d')), sp0 := sp34 s6, rest := .inl ⟨rfl, rfl⟩, more := .inr ⟨_, _, rfl, fun lab ha => sample1 ((step_of (s := 2) h m8 m9 m7 (sp34 s10) (fun W d' => sf21 a1 a2 W d') (fun W d' => sf22 a1 a2 (nones ⟨2, 1, c, d, e, [1, 1], f, g⟩) W d')) lab ha), rfl⟩,
    bad1 := fun i' j' hb => bad_set h hin (k := 6) (b := .tuple [.int i', .int j']) (r := spans f) (isD1_ok (List.all_eq_true.mp (hs14 (.int f) (.int g) a1 a2 (.int u3) (.int v4) p5 p6 p7 (.int i') (.int j') p10 p11 p12 (.int u13) (.int v14)) (c, d, e) hcde)) (pk14 (.int c) (.int d) (.int e) (.int f) (.int g) a1 a2 (.int u3) (.int v4) p5 p6 p7 (.int i') (.int j') p10 p11 p12 (.int u13) (.int v14)) (by rfl) (by rw [rw14]; rfl) (span_bad h hb), bad7 := fun _ _ ht _ => absurd (show (1 : Int) = 2 from ht) (by decide), bad8 := fun w1 r ee => by cases ee }
  obtain ⟨c1, c2, d1, d2, e1, e2⟩ := PP.bnd
  refine ⟨tkOf (.tuple [a1, a2] :: []) [tup1 [0]] [] [.none] [smp [.tuple [p10, p11, p12, .int u13, .int v14]] [.none]] (.int u3) (.int v4) (.int c) (.int d) (.int e) (.tuple [p5, p6, p7, .int u8, .int v9]), tk14 (.int c) (.int d) (.int e) (.int f) (.int g) a1 a2 (.int u3) (.int v4) p5 p6 p7 (.int u8) (.int v9) p10 p11 p12 (.int u13) (.int v14), fun N R W => lt14 (.int c) (.int d) (.int e) (.int f) (.int g) a1 a2 (.int u3) (.int v4) p5 p6 p7 (.int u8) (.int v9) p10 p11 p12 (.int u13) (.int v14) N R W, (pk14 (.int c) (.int d) (.int e) (.int f) (.int g) a1 a2 (.int u3) (.int v4) p5 p6 p7 (.int u8) (.int v9) p10 p11 p12 (.int u13) (.int v14)), (isD1_ok (List.all_eq_true.mp (hs14 (.int f) (.int g) a1 a2 (.int u3) (.int v4) p5 p6 p7 (.int u8) (.int v9) p10 p11 p12 (.int u13) (.int v14)) (c, d, e) hcde)), PP.tasks (adm (.inl rfl) (.inl rfl)) (lab1 PP.mf PP.wf c1 c2 d1 d2 e1 e2) PP.step0, ?_, ?_, ?_, fun k st hs hk => PP.bent hs hk⟩
  all_goals
    have hg5 : g + 1 ≤ 5 := by have := h.g; dsimp only at this; omega
    have q1 := h.c
    have q2 := h.d
    have q3 := h.e
    dsimp only at q1 q2 q3 c1 c2 d1 d2 e1 e2
    have LL : Lv 5 (tkOf (.tuple [a1, a2] :: []) [tup1 [0]] [] [.none] [smp [.tuple [p10, p11, p12, .int u13, .int v14]] [.none]] (.int u3) (.int v4) (.int c) (.int d) (.int e) (.tuple [p5, p6, p7, .int u8, .int v9])) := (tupL (n := 4) ⟨(tupL (n := 3) ⟨(tupL (n := 2) ⟨(tupL (n := 1) ⟨(Pl.up (pl_upto (n := 1) (by decide) m0) 1), (Pl.up (pl_upto (n := 1) (by decide) m1) 1), trivial⟩ (by show 2 ≤ 5; decide)), trivial⟩ (by show 1 ≤ 5; decide)), (tupL (n := 2) ⟨(tupL (n := 1) ⟨(tupL (n := 0) ⟨(Pl.up (pl_list [tup1 [0]] (by rfl) List.mem_cons_self) 0), trivial⟩ (by show 1 ≤ 5; decide)), (Pl.up (sp_pl s2).1 1), (Pl.up (sp_pl s2).2 1), trivial⟩ (by show 3 ≤ 5; decide)), trivial⟩ (by show 1 ≤ 5; decide)), (Pl.up (pl_int (n := c) (by omega) (by omega)) 3), (Pl.up (pl_int (n := d) (by omega) (by omega)) 3), (Pl.up (pl_int (n := e) (by omega) (by omega)) 3), trivial⟩ (by show 5 ≤ 5; decide)), (tupL (n := 3) ⟨(tupL (n := 2) ⟨(tupL (n := 1) ⟨(tupL (n := 0) ⟨(Pl.up (pl_upto (n := 2) (by decide) m3) 0), (Pl.up (pl_tools h.c m4) 0), (Pl.up (pl_zones h.e m5) 0), (Pl.up (sp_pl s6).1 0), (Pl.up (sp_pl s6).2 0), trivial⟩ (by show 5 ≤ 5; decide)), trivial⟩ (by show 1 ≤ 5; decide)), (tupL (n := 1) ⟨(Pl.up pl_none 1), trivial⟩ (by show 1 ≤ 5; decide)), trivial⟩ (by show 2 ≤ 5; decide)), (tupL (n := 2) ⟨(tupL (n := 1) ⟨(tupL (n := 0) ⟨(Pl.up (pl_upto (n := 2) (by decide) m7) 0), (Pl.up (pl_tools h.c m8) 0), (Pl.up (pl_zones h.e m9) 0), (Pl.up (sp_pl s10).1 0), (Pl.up (sp_pl s10).2 0), trivial⟩ (by show 5 ≤ 5; decide)), trivial⟩ (by show 1 ≤ 5; decide)), (tupL (n := 1) ⟨(Pl.up pl_none 1), trivial⟩ (by show 1 ≤ 5; decide)), trivial⟩ (by show 2 ≤ 5; decide)), trivial⟩ (by show 2 ≤ 5; decide)), trivial⟩ (by show 2 ≤ 5; decide))
  · exact LL.1
  · exact Nat.le_trans LL.2.1 (by decide)
  · exact Nat.le_trans LL.2.2 (by decide)
theorem rw15 (c d e f g : Int) : rows ⟨2, 1, c, d, e, [1, 2], f, g⟩ = [uptoD 1, uptoD 1, spans f, uptoD 2, toolsR c, zonesR e, spans f, uptoD 2, toolsR c, zonesR e, spans f, uptoD 2, toolsR c, zonesR e, spans f, (.none :: uptoD (g + 1))] := by kernel_rfl
theorem all15 {c d e f g : Int} (h : Shp.Ok ⟨2, 1, c, d, e, [1, 2], f, g⟩) {picks : List D} (hp : In2 picks (rows ⟨2, 1, c, d, e, [1, 2], f, g⟩)) : TurnOk ⟨2, 1, c, d, e, [1, 2], f, g⟩ picks := by
  have hin := hp
  rw [rw15] at hp
  obtain ⟨a1, _, rfl, m0, hp⟩ := hp.uncons
  obtain ⟨a2, _, rfl, m1, hp⟩ := hp.uncons
  obtain ⟨sp2, _, rfl, m2, hp⟩ := hp.uncons
  obtain ⟨p5, _, rfl, m3, hp⟩ := hp.uncons
  obtain ⟨p6, _, rfl, m4, hp⟩ := hp.uncons
  obtain ⟨p7, _, rfl, m5, hp⟩ := hp.uncons
  obtain ⟨sp6, _, rfl, m6, hp⟩ := hp.uncons
  obtain ⟨p10, _, rfl, m7, hp⟩ := hp.uncons
  obtain ⟨p11, _, rfl, m8, hp⟩ := hp.uncons
  obtain ⟨p12, _, rfl, m9, hp⟩ := hp.uncons
  obtain ⟨sp10, _, rfl, m10, hp⟩ := hp.uncons
  obtain ⟨p15, _, rfl, m11, hp⟩ := hp.uncons
  obtain ⟨p16, _, rfl, m12, hp⟩ := hp.uncons
  obtain ⟨p17, _, rfl, m13, hp⟩ := hp.uncons
  obtain ⟨sp14, _, rfl, m14, hp⟩ := hp.uncons
  obtain ⟨w20, _, rfl, m15, hp⟩ := hp.uncons
  obtain rfl := hp.end
  obtain ⟨u3, v4, rfl, s2⟩ := span_of h m2
  obtain ⟨u8, v9, rfl, s6⟩ := span_of h m6
  obtain ⟨u13, v14, rfl, s10⟩ := span_of h m10
  obtain ⟨u18, v19, rfl, s14⟩ := span_of h m14
  have hcde : (c, d, e) ∈ cde := by
    obtain ⟨_, _, k1, k2, k3, _, _, _⟩ := h
    rcases k1 with k1 | k1 <;> rcases k2 with k2 | k2 <;> rcases k3 with k3 | k3 <;> (dsimp only at k1 k2 k3; subst k1 k2 k3; decide)
  have MM : chkM (.tuple [a1, a2] :: []) 2 = true := (List.all_eq_true.mp (List.all_eq_true.mp mf21 a1 m0) a2 m1)
  have PP : Parts ⟨2, 1, c, d, e, [1, 2], f, g⟩ [a1, a2] [] [tup1 [0]] [] [.none] [smp [.tuple [p10, p11, p12, .int u13, .int v14], .tuple [p15, p16, p17, .int u18, .int v19]] [.none, w20]] u3 v4 p5 p6 p7 u8 v9 := {
    ok := h, few := by simp, s := rfl, t := rfl, mf := (meets_get MM).1, mfx := (meets_get MM).2, wf := wash_get wf1 s2, wfx := wash_get wf1b s2, wf2 := fun ht => absurd (show (1 : Int) = 2 from ht) (by decide),
    st0 := fun i' j' hij => (step_of (s := 2) h m4 m5 m3 hij (fun W d' => sf21 a1 a2 W d') (fun W d' => sf22 a1 a2 (nones ⟨2, 1, c, d, e, [1, 2], f, g⟩) W d')), sp0 := sp34 s6, rest := .inl ⟨rfl, rfl⟩, more := .inr ⟨_, _, rfl, fun lab ha => sample2 ((step_of (s := 2) h m8 m9 m7 (sp34 s10) (fun W d' => sf21 a1 a2 W d') (fun W d' => sf22 a1 a2 (nones ⟨2, 1, c, d, e, [1, 2], f, g⟩) W d')) lab ha) ((step_of (s := 2) h m12 m13 m11 (sp34 s14) (fun W d' => sf21 a1 a2 W d') (fun W d' => sf22 a1 a2 (nones ⟨2, 1, c, d, e, [1, 2], f, g⟩) W d')) lab ha) (win_of h m15), rfl⟩,
    bad1 := fun i' j' hb => bad_set h hin (k := 6) (b := .tuple [.int i', .int j']) (r := spans f) (isD1_ok (List.all_eq_true.mp (hs15 (.int f) (.int g) a1 a2 (.int u3) (.int v4) p5 p6 p7 (.int i') (.int j') p10 p11 p12 (.int u13) (.int v14) p15 p16 p17 (.int u18) (.int v19) w20) (c, d, e) hcde)) (pk15 (.int c) (.int d) (.int e) (.int f) (.int g) a1 a2 (.int u3) (.int v4) p5 p6 p7 (.int i') (.int j') p10 p11 p12 (.int u13) (.int v14) p15 p16 p17 (.int u18) (.int v19) w20) (by rfl) (by rw [rw15]; rfl) (span_bad h hb), bad7 := fun _ _ ht _ => absurd (show (1 : Int) = 2 from ht) (by decide), bad8 := fun w1 r ee => by cases ee }
  obtain ⟨c1, c2, d1, d2, e1, e2⟩ := PP.bnd
  refine ⟨tkOf (.tuple [a1, a2] :: []) [tup1 [0]] [] [.none] [smp [.tuple [p10, p11, p12, .int u13, .int v14], .tuple [p15, p16, p17, .int u18, .int v19]] [.none, w20]] (.int u3) (.int v4) (.int c) (.int d) (.int e) (.tuple [p5, p6, p7, .int u8, .int v9]), tk15 (.int c) (.int d) (.int e) (.int f) (.int g) a1 a2 (.int u3) (.int v4) p5 p6 p7 (.int u8) (.int v9) p10 p11 p12 (.int u13) (.int v14) p15 p16 p17 (.int u18) (.int v19) w20, fun N R W => lt15 (.int c) (.int d) (.int e) (.int f) (.int g) a1 a2 (.int u3) (.int v4) p5 p6 p7 (.int u8) (.int v9) p10 p11 p12 (.int u13) (.int v14) p15 p16 p17 (.int u18) (.int v19) w20 N R W, (pk15 (.int c) (.int d) (.int e) (.int f) (.int g) a1 a2 (.int u3) (.int v4) p5 p6 p7 (.int u8) (.int v9) p10 p11 p12 (.int u13) (.int v14) p15 p16 p17 (.int u18) (.int v19) w20), (isD1_ok (List.all_eq_true.mp (hs15 (.int f) (.int g) a1 a2 (.int u3) (.int v4) p5 p6 p7 (.int u8) (.int v9) p10 p11 p12 (.int u13) (.int v14) p15 p16 p17 (.int u18) (.int v19) w20) (c, d, e) hcde)), PP.tasks (adm (.inl rfl) (.inl rfl)) (lab1 PP.mf PP.wf c1 c2 d1 d2 e1 e2) PP.step0, ?_, ?_, ?_, fun k st hs hk => PP.bent hs hk⟩
  all_goals
    have hg5 : g + 1 ≤ 5 := by have := h.g; dsimp only at this; omega
    have q1 := h.c
    have q2 := h.d
    have q3 := h.e
    dsimp only at q1 q2 q3 c1 c2 d1 d2 e1 e2
    have LL : Lv 5 (tkOf (.tuple [a1, a2] :: []) [tup1 [0]] [] [.none] [smp [.tuple [p10, p11, p12, .int u13, .int v14], .tuple [p15, p16, p17, .int u18, .int v19]] [.none, w20]] (.int u3) (.int v4) (.int c) (.int d) (.int e) (.tuple [p5, p6, p7, .int u8, .int v9])) := (tupL (n := 4) ⟨(tupL (n := 3) ⟨(tupL (n := 2) ⟨(tupL (n := 1) ⟨(Pl.up (pl_upto (n := 1) (by decide) m0) 1), (Pl.up (pl_upto (n := 1) (by decide) m1) 1), trivial⟩ (by show 2 ≤ 5; decide)), trivial⟩ (by show 1 ≤ 5; decide)), (tupL (n := 2) ⟨(tupL (n := 1) ⟨(tupL (n := 0) ⟨(Pl.up (pl_list [tup1 [0]] (by rfl) List.mem_cons_self) 0), trivial⟩ (by show 1 ≤ 5; decide)), (Pl.up (sp_pl s2).1 1), (Pl.up (sp_pl s2).2 1), trivial⟩ (by show 3 ≤ 5; decide)), trivial⟩ (by show 1 ≤ 5; decide)), (Pl.up (pl_int (n := c) (by omega) (by omega)) 3), (Pl.up (pl_int (n := d) (by omega) (by omega)) 3), (Pl.up (pl_int (n := e) (by omega) (by omega)) 3), trivial⟩ (by show 5 ≤ 5; decide)), (tupL (n := 3) ⟨(tupL (n := 2) ⟨(tupL (n := 1) ⟨(tupL (n := 0) ⟨(Pl.up (pl_upto (n := 2) (by decide) m3) 0), (Pl.up (pl_tools h.c m4) 0), (Pl.up (pl_zones h.e m5) 0), (Pl.up (sp_pl s6).1 0), (Pl.up (sp_pl s6).2 0), trivial⟩ (by show 5 ≤ 5; decide)), trivial⟩ (by show 1 ≤ 5; decide)), (tupL (n := 1) ⟨(Pl.up pl_none 1), trivial⟩ (by show 1 ≤ 5; decide)), trivial⟩ (by show 2 ≤ 5; decide)), (tupL (n := 2) ⟨(tupL (n := 1) ⟨(tupL (n := 0) ⟨(Pl.up (pl_upto (n := 2) (by decide) m7) 0), (Pl.up (pl_tools h.c m8) 0), (Pl.up (pl_zones h.e m9) 0), (Pl.up (sp_pl s10).1 0), (Pl.up (sp_pl s10).2 0), trivial⟩ (by show 5 ≤ 5; decide)), (tupL (n := 0) ⟨(Pl.up (pl_upto (n := 2) (by decide) m11) 0), (Pl.up (pl_tools h.c m12) 0), (Pl.up (pl_zones h.e m13) 0), (Pl.up (sp_pl s14).1 0), (Pl.up (sp_pl s14).2 0), trivial⟩ (by show 5 ≤ 5; decide)), trivial⟩ (by show 2 ≤ 5; decide)), (tupL (n := 1) ⟨(Pl.up pl_none 1), (Pl.up (pl_upN (n := g + 1) hg5 m15) 1), trivial⟩ (by show 2 ≤ 5; decide)), trivial⟩ (by show 2 ≤ 5; decide)), trivial⟩ (by show 2 ≤ 5; decide)), trivial⟩ (by show 2 ≤ 5; decide))
  · exact LL.1
  · exact Nat.le_trans LL.2.1 (by decide)
  · exact Nat.le_trans LL.2.2 (by decide)
theorem rw16 (c d e f g : Int) : rows ⟨2, 1, c, d, e, [2, 1], f, g⟩ = [uptoD 1, uptoD 1, spans f, uptoD 2, toolsR c, zonesR e, spans f, uptoD 2, toolsR c, zonesR e, spans f, (.none :: uptoD (g + 1)), uptoD 2, toolsR c, zonesR e, spans f] := by kernel_rfl
theorem all16 {c d e f g : Int} (h : Shp.Ok ⟨2, 1, c, d, e, [2, 1], f, g⟩) {picks : List D} (hp : In2 picks (rows ⟨2, 1, c, d, e, [2, 1], f, g⟩)) : TurnOk ⟨2, 1, c, d, e, [2, 1], f, g⟩ picks := by
  have hin := hp
  rw [rw16] at hp
  obtain ⟨a1, _, rfl, m0, hp⟩ := hp.uncons
  obtain ⟨a2, _, rfl, m1, hp⟩ := hp.uncons
  obtain ⟨sp2, _, rfl, m2, hp⟩ := hp.uncons
  obtain ⟨p5, _, rfl, m3, hp⟩ := hp.uncons
  obtain ⟨p6, _, rfl, m4, hp⟩ := hp.uncons
  obtain ⟨p7, _, rfl, m5, hp⟩ := hp.uncons
  obtain ⟨sp6, _, rfl, m6, hp⟩ := hp.uncons
  obtain ⟨p10, _, rfl, m7, hp⟩ := hp.uncons
  obtain ⟨p11, _, rfl, m8, hp⟩ := hp.uncons
  obtain ⟨p12, _, rfl, m9, hp⟩ := hp.uncons
  obtain ⟨sp10, _, rfl, m10, hp⟩ := hp.uncons
  obtain ⟨w15, _, rfl, m11, hp⟩ := hp.uncons
  obtain ⟨p16, _, rfl, m12, hp⟩ := hp.uncons
  obtain ⟨p17, _, rfl, m13, hp⟩ := hp.uncons
  obtain ⟨p18, _, rfl, m14, hp⟩ := hp.uncons
  obtain ⟨sp15, _, rfl, m15, hp⟩ := hp.uncons
  obtain rfl := hp.end
  obtain ⟨u3, v4, rfl, s2⟩ := span_of h m2
  obtain ⟨u8, v9, rfl, s6⟩ := span_of h m6
  obtain ⟨u13, v14, rfl, s10⟩ := span_of h m10
  obtain ⟨u19, v20, rfl, s15⟩ := span_of h m15
  have hcde : (c, d, e) ∈ cde := by
    obtain ⟨_, _, k1, k2, k3, _, _, _⟩ := h
    rcases k1 with k1 | k1 <;> rcases k2 with k2 | k2 <;> rcases k3 with k3 | k3 <;> (dsimp only at k1 k2 k3; subst k1 k2 k3; decide)
  have MM : chkM (.tuple [a1, a2] :: []) 2 = true := (List.all_eq_true.mp (List.all_eq_true.mp mf21 a1 m0) a2 m1)
  have PP : Parts ⟨2, 1, c, d, e, [2, 1], f, g⟩ [a1, a2] [] [tup1 [0]] [.tuple [p10, p11, p12, .int u13, .int v14]] [.none, w15] [smp [.tuple [p16, p17, p18, .int u19, .int v20]] [.none]] u3 v4 p5 p6 p7 u8 v9 := {
    ok := h, few := by simp, s := rfl, t := rfl, mf := (meets_get MM).1, mfx := (meets_get MM).2, wf := wash_get wf1 s2, wfx := wash_get wf1b s2, wf2 := fun ht => absurd (show (1 : Int) = 2 from ht) (by decide),
    st0 := fun i' j' hij => (step_of (s := 2) h m4 m5 m3 hij (fun W d' => sf21 a1 a2 W d') (fun W d' => sf22 a1 a2 (nones ⟨2, 1, c, d, e, [2, 1], f, g⟩) W d')), sp0 := sp34 s6, rest := .inr ⟨_, _, rfl, rfl, (step_of (s := 2) h m8 m9 m7 (sp34 s10) (fun W d' => sf21 a1 a2 W d') (fun W d' => sf22 a1 a2 (nones ⟨2, 1, c, d, e, [2, 1], f, g⟩) W d')), win_of h m11⟩, more := .inr ⟨_, _, rfl, fun lab ha => sample1 ((step_of (s := 2) h m13 m14 m12 (sp34 s15) (fun W d' => sf21 a1 a2 W d') (fun W d' => sf22 a1 a2 (nones ⟨2, 1, c, d, e, [2, 1], f, g⟩) W d')) lab ha), rfl⟩,
    bad1 := fun i' j' hb => bad_set h hin (k := 6) (b := .tuple [.int i', .int j']) (r := spans f) (isD1_ok (List.all_eq_true.mp (hs16 (.int f) (.int g) a1 a2 (.int u3) (.int v4) p5 p6 p7 (.int i') (.int j') p10 p11 p12 (.int u13) (.int v14) w15 p16 p17 p18 (.int u19) (.int v20)) (c, d, e) hcde)) (pk16 (.int c) (.int d) (.int e) (.int f) (.int g) a1 a2 (.int u3) (.int v4) p5 p6 p7 (.int i') (.int j') p10 p11 p12 (.int u13) (.int v14) w15 p16 p17 p18 (.int u19) (.int v20)) (by rfl) (by rw [rw16]; rfl) (span_bad h hb), bad7 := fun _ _ ht _ => absurd (show (1 : Int) = 2 from ht) (by decide), bad8 := fun w1 r _ hr => bad_set h hin (k := 11) (b := .int r) (r := (.none :: uptoD (g + 1))) (isD1_ok (List.all_eq_true.mp (hs16 (.int f) (.int g) a1 a2 (.int u3) (.int v4) p5 p6 p7 (.int u8) (.int v9) p10 p11 p12 (.int u13) (.int v14) (.int r) p16 p17 p18 (.int u19) (.int v20)) (c, d, e) hcde)) (pk16 (.int c) (.int d) (.int e) (.int f) (.int g) a1 a2 (.int u3) (.int v4) p5 p6 p7 (.int u8) (.int v9) p10 p11 p12 (.int u13) (.int v14) (.int r) p16 p17 p18 (.int u19) (.int v20)) (by rfl) (by rw [rw16]; rfl) (win_bad h hr) }
  obtain ⟨c1, c2, d1, d2, e1, e2⟩ := PP.bnd
  refine ⟨tkOf (.tuple [a1, a2] :: []) [tup1 [0]] [.tuple [p10, p11, p12, .int u13, .int v14]] [.none, w15] [smp [.tuple [p16, p17, p18, .int u19, .int v20]] [.none]] (.int u3) (.int v4) (.int c) (.int d) (.int e) (.tuple [p5, p6, p7, .int u8, .int v9]), tk16 (.int c) (.int d) (.int e) (.int f) (.int g) a1 a2 (.int u3) (.int v4) p5 p6 p7 (.int u8) (.int v9) p10 p11 p12 (.int u13) (.int v14) w15 p16 p17 p18 (.int u19) (.int v20), fun N R W => lt16 (.int c) (.int d) (.int e) (.int f) (.int g) a1 a2 (.int u3) (.int v4) p5 p6 p7 (.int u8) (.int v9) p10 p11 p12 (.int u13) (.int v14) w15 p16 p17 p18 (.int u19) (.int v20) N R W, (pk16 (.int c) (.int d) (.int e) (.int f) (.int g) a1 a2 (.int u3) (.int v4) p5 p6 p7 (.int u8) (.int v9) p10 p11 p12 (.int u13) (.int v14) w15 p16 p17 p18 (.int u19) (.int v20)), (isD1_ok (List.all_eq_true.mp (hs16 (.int f) (.int g) a1 a2 (.int u3) (.int v4) p5 p6 p7 (.int u8) (.int v9) p10 p11 p12 (.int u13) (.int v14) w15 p16 p17 p18 (.int u19) (.int v20)) (c, d, e) hcde)), PP.tasks (adm (.inl rfl) (.inl rfl)) (lab1 PP.mf PP.wf c1 c2 d1 d2 e1 e2) PP.step0, ?_, ?_, ?_, fun k st hs hk => PP.bent hs hk⟩
  all_goals
    have hg5 : g + 1 ≤ 5 := by have := h.g; dsimp only at this; omega
    have q1 := h.c
    have q2 := h.d
    have q3 := h.e
    dsimp only at q1 q2 q3 c1 c2 d1 d2 e1 e2
    have LL : Lv 5 (tkOf (.tuple [a1, a2] :: []) [tup1 [0]] [.tuple [p10, p11, p12, .int u13, .int v14]] [.none, w15] [smp [.tuple [p16, p17, p18, .int u19, .int v20]] [.none]] (.int u3) (.int v4) (.int c) (.int d) (.int e) (.tuple [p5, p6, p7, .int u8, .int v9])) := (tupL (n := 4) ⟨(tupL (n := 3) ⟨(tupL (n := 2) ⟨(tupL (n := 1) ⟨(Pl.up (pl_upto (n := 1) (by decide) m0) 1), (Pl.up (pl_upto (n := 1) (by decide) m1) 1), trivial⟩ (by show 2 ≤ 5; decide)), trivial⟩ (by show 1 ≤ 5; decide)), (tupL (n := 2) ⟨(tupL (n := 1) ⟨(tupL (n := 0) ⟨(Pl.up (pl_list [tup1 [0]] (by rfl) List.mem_cons_self) 0), trivial⟩ (by show 1 ≤ 5; decide)), (Pl.up (sp_pl s2).1 1), (Pl.up (sp_pl s2).2 1), trivial⟩ (by show 3 ≤ 5; decide)), trivial⟩ (by show 1 ≤ 5; decide)), (Pl.up (pl_int (n := c) (by omega) (by omega)) 3), (Pl.up (pl_int (n := d) (by omega) (by omega)) 3), (Pl.up (pl_int (n := e) (by omega) (by omega)) 3), trivial⟩ (by show 5 ≤ 5; decide)), (tupL (n := 3) ⟨(tupL (n := 2) ⟨(tupL (n := 1) ⟨(tupL (n := 0) ⟨(Pl.up (pl_upto (n := 2) (by decide) m3) 0), (Pl.up (pl_tools h.c m4) 0), (Pl.up (pl_zones h.e m5) 0), (Pl.up (sp_pl s6).1 0), (Pl.up (sp_pl s6).2 0), trivial⟩ (by show 5 ≤ 5; decide)), (tupL (n := 0) ⟨(Pl.up (pl_upto (n := 2) (by decide) m7) 0), (Pl.up (pl_tools h.c m8) 0), (Pl.up (pl_zones h.e m9) 0), (Pl.up (sp_pl s10).1 0), (Pl.up (sp_pl s10).2 0), trivial⟩ (by show 5 ≤ 5; decide)), trivial⟩ (by show 2 ≤ 5; decide)), (tupL (n := 1) ⟨(Pl.up pl_none 1), (Pl.up (pl_upN (n := g + 1) hg5 m11) 1), trivial⟩ (by show 2 ≤ 5; decide)), trivial⟩ (by show 2 ≤ 5; decide)), (tupL (n := 2) ⟨(tupL (n := 1) ⟨(tupL (n := 0) ⟨(Pl.up (pl_upto (n := 2) (by decide) m12) 0), (Pl.up (pl_tools h.c m13) 0), (Pl.up (pl_zones h.e m14) 0), (Pl.up (sp_pl s15).1 0), (Pl.up (sp_pl s15).2 0), trivial⟩ (by show 5 ≤ 5; decide)), trivial⟩ (by show 1 ≤ 5; decide)), (tupL (n := 1) ⟨(Pl.up pl_none 1), trivial⟩ (by show 1 ≤ 5; decide)), trivial⟩ (by show 2 ≤ 5; decide)), trivial⟩ (by show 2 ≤ 5; decide)), trivial⟩ (by show 2 ≤ 5; decide))
  · exact LL.1
  · exact Nat.le_trans LL.2.1 (by decide)
  · exact Nat.le_trans LL.2.2 (by decide)
theorem rw17 (c d e f g : Int) : rows ⟨2, 1, c, d, e, [2, 2], f, g⟩ = [uptoD 1, uptoD 1, spans f, uptoD 2, toolsR c, zonesR e, spans f, uptoD 2, toolsR c, zonesR e, spans f, (.none :: uptoD (g + 1)), uptoD 2, toolsR c, zonesR e, spans f, uptoD 2, toolsR c, zonesR e, spans f, (.none :: uptoD (g + 1))] := by kernel_rfl
theorem all17 {c d e f g : Int} (h : Shp.Ok ⟨2, 1, c, d, e, [2, 2], f, g⟩) {picks : List D} (hp : In2 picks (rows ⟨2, 1, c, d, e, [2, 2], f, g⟩)) : TurnOk ⟨2, 1, c, d, e, [2, 2], f, g⟩ picks := by
  have hin := hp
  rw [rw17] at hp
  obtain ⟨a1, _, rfl, m0, hp⟩ := hp.uncons
  obtain ⟨a2, _, rfl, m1, hp⟩ := hp.uncons
  obtain ⟨sp2, _, rfl, m2, hp⟩ := hp.uncons
  obtain ⟨p5, _, rfl, m3, hp⟩ := hp.uncons
  obtain ⟨p6, _, rfl, m4, hp⟩ := hp.uncons
  obtain ⟨p7, _, rfl, m5, hp⟩ := hp.uncons
  obtain ⟨sp6, _, rfl, m6, hp⟩ := hp.uncons
  obtain ⟨p10, _, rfl, m7, hp⟩ := hp.uncons
  obtain ⟨p11, _, rfl, m8, hp⟩ := hp.uncons
  obtain ⟨p12, _, rfl, m9, hp⟩ := hp.uncons
  obtain ⟨sp10, _, rfl, m10, hp⟩ := hp.uncons
  obtain ⟨w15, _, rfl, m11, hp⟩ := hp.uncons
  obtain ⟨p16, _, rfl, m12, hp⟩ := hp.uncons
  obtain ⟨p17, _, rfl, m13, hp⟩ := hp.uncons
  obtain ⟨p18, _, rfl, m14, hp⟩ := hp.uncons
  obtain ⟨sp15, _, rfl, m15, hp⟩ := hp.uncons
  obtain ⟨p21, _, rfl, m16, hp⟩ := hp.uncons
  obtain ⟨p22, _, rfl, m17, hp⟩ := hp.uncons
  obtain ⟨p23, _, rfl, m18, hp⟩ := hp.uncons
  obtain ⟨sp19, _, rfl, m19, hp⟩ := hp.uncons
  obtain ⟨w26, _, rfl, m20, hp⟩ := hp.uncons
  obtain rfl := hp.end
  obtain ⟨u3, v4, rfl, s2⟩ := span_of h m2
  obtain ⟨u8, v9, rfl, s6⟩ := span_of h m6
  obtain ⟨u13, v14, rfl, s10⟩ := span_of h m10
  obtain ⟨u19, v20, rfl, s15⟩ := span_of h m15
  obtain ⟨u24, v25, rfl, s19⟩ := span_of h m19
  have hcde : (c, d, e) ∈ cde := by
    obtain ⟨_, _, k1, k2, k3, _, _, _⟩ := h
    rcases k1 with k1 | k1 <;> rcases k2 with k2 | k2 <;> rcases k3 with k3 | k3 <;> (dsimp only at k1 k2 k3; subst k1 k2 k3; decide)
  have MM : chkM (.tuple [a1, a2] :: []) 2 = true := (List.all_eq_true.mp (List.all_eq_true.mp mf21 a1 m0) a2 m1)
  have PP : Parts ⟨2, 1, c, d, e, [2, 2], f, g⟩ [a1, a2] [] [tup1 [0]] [.tuple [p10, p11, p12, .int u13, .int v14]] [.none, w15] [smp [.tuple [p16, p17, p18, .int u19, .int v20], .tuple [p21, p22, p23, .int u24, .int v25]] [.none, w26]] u3 v4 p5 p6 p7 u8 v9 := {
    ok := h, few := by simp, s := rfl, t := rfl, mf := (meets_get MM).1, mfx := (meets_get MM).2, wf := wash_get wf1 s2, wfx := wash_get wf1b s2, wf2 := fun ht => absurd (show (1 : Int) = 2 from ht) (by decide),
    st0 := fun i' j' hij => (step_of (s := 2) h m4 m5 m3 hij (fun W d' => sf21 a1 a2 W d') (fun W d' => sf22 a1 a2 (nones ⟨2, 1, c, d, e, [2, 2], f, g⟩) W d')), sp0 := sp34 s6, rest := .inr ⟨_, _, rfl, rfl, (step_of (s := 2) h m8 m9 m7 (sp34 s10) (fun W d' => sf21 a1 a2 W d') (fun W d' => sf22 a1 a2 (nones ⟨2, 1, c, d, e, [2, 2], f, g⟩) W d')), win_of h m11⟩, more := .inr ⟨_, _, rfl, fun lab ha => sample2 ((step_of (s := 2) h m13 m14 m12 (sp34 s15) (fun W d' => sf21 a1 a2 W d') (fun W d' => sf22 a1 a2 (nones ⟨2, 1, c, d, e, [2, 2], f, g⟩) W d')) lab ha) ((step_of (s := 2) h m17 m18 m16 (sp34 s19) (fun W d' => sf21 a1 a2 W d') (fun W d' => sf22 a1 a2 (nones ⟨2, 1, c, d, e, [2, 2], f, g⟩) W d')) lab ha) (win_of h m20), rfl⟩,
    bad1 := fun i' j' hb => bad_set h hin (k := 6) (b := .tuple [.int i', .int j']) (r := spans f) (isD1_ok (List.all_eq_true.mp (hs17 (.int f) (.int g) a1 a2 (.int u3) (.int v4) p5 p6 p7 (.int i') (.int j') p10 p11 p12 (.int u13) (.int v14) w15 p16 p17 p18 (.int u19) (.int v20) p21 p22 p23 (.int u24) (.int v25) w26) (c, d, e) hcde)) (pk17 (.int c) (.int d) (.int e) (.int f) (.int g) a1 a2 (.int u3) (.int v4) p5 p6 p7 (.int i') (.int j') p10 p11 p12 (.int u13) (.int v14) w15 p16 p17 p18 (.int u19) (.int v20) p21 p22 p23 (.int u24) (.int v25) w26) (by rfl) (by rw [rw17]; rfl) (span_bad h hb), bad7 := fun _ _ ht _ => absurd (show (1 : Int) = 2 from ht) (by decide), bad8 := fun w1 r _ hr => bad_set h hin (k := 11) (b := .int r) (r := (.none :: uptoD (g + 1))) (isD1_ok (List.all_eq_true.mp (hs17 (.int f) (.int g) a1 a2 (.int u3) (.int v4) p5 p6 p7 (.int u8) (.int v9) p10 p11 p12 (.int u13) (.int v14) (.int r) p16 p17 p18 (.int u19) (.int v20) p21 p22 p23 (.int u24) (.int v25) w26) (c, d, e) hcde)) (pk17 (.int c) (.int d) (.int e) (.int f) (.int g) a1 a2 (.int u3) (.int v4) p5 p6 p7 (.int u8) (.int v9) p10 p11 p12 (.int u13) (.int v14) (.int r) p16 p17 p18 (.int u19) (.int v20) p21 p22 p23 (.int u24) (.int v25) w26) (by rfl) (by rw [rw17]; rfl) (win_bad h hr) }
  obtain ⟨c1, c2, d1, d2, e1, e2⟩ := PP.bnd
  refine ⟨tkOf (.tuple [a1, a2] :: []) [tup1 [0]] [.tuple [p10, p11, p12, .int u13, .int v14]] [.none, w15] [smp [.tuple [p16, p17, p18, .int u19, .int v20], .tuple [p21, p22, p23, .int u24, .int v25]] [.none, w26]] (.int u3) (.int v4) (.int c) (.int d) (.int e) (.tuple [p5, p6, p7, .int u8, .int v9]), tk17 (.int c) (.int d) (.int e) (.int f) (.int g) a1 a2 (.int u3) (.int v4) p5 p6 p7 (.int u8) (.int v9) p10 p11 p12 (.int u13) (.int v14) w15 p16 p17 p18 (.int u19) (.int v20) p21 p22 p23 (.int u24) (.int v25) w26, fun N R W => lt17 (.int c) (.int d) (.int e) (.int f) (.int g) a1 a2 (.int u3) (.int v4) p5 p6 p7 (.int u8) (.int v9) p10 p11 p12 (.int u13) (.int v14) w15 p16 p17 p18 (.int u19) (.int v20) p21 p22 p23 (.int u24) (.int v25) w26 N R W, (pk17 (.int c) (.int d) (.int e) (.int f) (.int g) a1 a2 (.int u3) (.int v4) p5 p6 p7 (.int u8) (.int v9) p10 p11 p12 (.int u13) (.int v14) w15 p16 p17 p18 (.int u19) (.int v20) p21 p22 p23 (.int u24) (.int v25) w26), (isD1_ok (List.all_eq_true.mp (hs17 (.int f) (.int g) a1 a2 (.int u3) (.int v4) p5 p6 p7 (.int u8) (.int v9) p10 p11 p12 (.int u13) (.int v14) w15 p16 p17 p18 (.int u19) (.int v20) p21 p22 p23 (.int u24) (.int v25) w26) (c, d, e) hcde)), PP.tasks (adm (.inl rfl) (.inl rfl)) (lab1 PP.mf PP.wf c1 c2 d1 d2 e1 e2) PP.step0, ?_, ?_, ?_, fun k st hs hk => PP.bent hs hk⟩
  all_goals
    have hg5 : g + 1 ≤ 5 := by have := h.g; dsimp only at this; omega
    have q1 := h.c
    have q2 := h.d
    have q3 := h.e
    dsimp only at q1 q2 q3 c1 c2 d1 d2 e1 e2
    have LL : Lv 5 (tkOf (.tuple [a1, a2] :: []) [tup1 [0]] [.tuple [p10, p11, p12, .int u13, .int v14]] [.none, w15] [smp [.tuple [p16, p17, p18, .int u19, .int v20], .tuple [p21, p22, p23, .int u24, .int v25]] [.none, w26]] (.int u3) (.int v4) (.int c) (.int d) (.int e) (.tuple [p5, p6, p7, .int u8, .int v9])) := (tupL (n := 4) ⟨(tupL (n := 3) ⟨(tupL (n := 2) ⟨(tupL (n := 1) ⟨(Pl.up (pl_upto (n := 1) (by decide) m0) 1), (Pl.up (pl_upto (n := 1) (by decide) m1) 1), trivial⟩ (by show 2 ≤ 5; decide)), trivial⟩ (by show 1 ≤ 5; decide)), (tupL (n := 2) ⟨(tupL (n := 1) ⟨(tupL (n := 0) ⟨(Pl.up (pl_list [tup1 [0]] (by rfl) List.mem_cons_self) 0), trivial⟩ (by show 1 ≤ 5; decide)), (Pl.up (sp_pl s2).1 1), (Pl.up (sp_pl s2).2 1), trivial⟩ (by show 3 ≤ 5; decide)), trivial⟩ (by show 1 ≤ 5; decide)), (Pl.up (pl_int (n := c) (by omega) (by omega)) 3), (Pl.up (pl_int (n := d) (by omega) (by omega)) 3), (Pl.up (pl_int (n := e) (by omega) (by omega)) 3), trivial⟩ (by show 5 ≤ 5; decide)), (tupL (n := 3) ⟨(tupL (n := 2) ⟨(tupL (n := 1) ⟨(tupL (n := 0) ⟨(Pl.up (pl_upto (n := 2) (by decide) m3) 0), (Pl.up (pl_tools h.c m4) 0), (Pl.up (pl_zones h.e m5) 0), (Pl.up (sp_pl s6).1 0), (Pl.up (sp_pl s6).2 0), trivial⟩ (by show 5 ≤ 5; decide)), (tupL (n := 0) ⟨(Pl.up (pl_upto (n := 2) (by decide) m7) 0), (Pl.up (pl_tools h.c m8) 0), (Pl.up (pl_zones h.e m9) 0), (Pl.up (sp_pl s10).1 0), (Pl.up (sp_pl s10).2 0), trivial⟩ (by show 5 ≤ 5; decide)), trivial⟩ (by show 2 ≤ 5; decide)), (tupL (n := 1) ⟨(Pl.up pl_none 1), (Pl.up (pl_upN (n := g + 1) hg5 m11) 1), trivial⟩ (by show 2 ≤ 5; decide)), trivial⟩ (by show 2 ≤ 5; decide)), (tupL (n := 2) ⟨(tupL (n := 1) ⟨(tupL (n := 0) ⟨(Pl.up (pl_upto (n := 2) (by decide) m12) 0), (Pl.up (pl_tools h.c m13) 0), (Pl.up (pl_zones h.e m14) 0), (Pl.up (sp_pl s15).1 0), (Pl.up (sp_pl s15).2 0), trivial⟩ (by show 5 ≤ 5; decide)), (tupL (n := 0) ⟨(Pl.up (pl_upto (n := 2) (by decide) m16) 0), (Pl.up (pl_tools h.c m17) 0), (Pl.up (pl_zones h.e m18) 0), (Pl.up (sp_pl s19).1 0), (Pl.up (sp_pl s19).2 0), trivial⟩ (by show 5 ≤ 5; decide)), trivial⟩ (by show 2 ≤ 5; decide)), (tupL (n := 1) ⟨(Pl.up pl_none 1), (Pl.up (pl_upN (n := g + 1) hg5 m20) 1), trivial⟩ (by show 2 ≤ 5; decide)), trivial⟩ (by show 2 ≤ 5; decide)), trivial⟩ (by show 2 ≤ 5; decide)), trivial⟩ (by show 2 ≤ 5; decide))
  · exact LL.1
  · exact Nat.le_trans LL.2.1 (by decide)
  · exact Nat.le_trans LL.2.2 (by decide)
theorem rw18 (c d e f g : Int) : rows ⟨2, 2, c, d, e, [1], f, g⟩ = [uptoD 2, uptoD 2, (.none :: uptoD 2), (.none :: uptoD 2), [tup1 [0], tup1 [0, 1]], spans f, uptoD 2, toolsR c, zonesR e, spans f] := by kernel_rfl
theorem all18 {c d e f g : Int} (h : Shp.Ok ⟨2, 2, c, d, e, [1], f, g⟩) {picks : List D} (hp : In2 picks (rows ⟨2, 2, c, d, e, [1], f, g⟩)) : TurnOk ⟨2, 2, c, d, e, [1], f, g⟩ picks := by
  have hin := hp
  rw [rw18] at hp
  obtain ⟨a1, _, rfl, m0, hp⟩ := hp.uncons
  obtain ⟨a2, _, rfl, m1, hp⟩ := hp.uncons
  obtain ⟨a3, _, rfl, m2, hp⟩ := hp.uncons
  obtain ⟨a4, _, rfl, m3, hp⟩ := hp.uncons
  obtain ⟨l5, _, rfl, m4, hp⟩ := hp.uncons
  obtain ⟨sp5, _, rfl, m5, hp⟩ := hp.uncons
  obtain ⟨p8, _, rfl, m6, hp⟩ := hp.uncons
  obtain ⟨p9, _, rfl, m7, hp⟩ := hp.uncons
  obtain ⟨p10, _, rfl, m8, hp⟩ := hp.uncons
  obtain ⟨sp9, _, rfl, m9, hp⟩ := hp.uncons
  obtain rfl := hp.end
  obtain ⟨u6, v7, rfl, s5⟩ := span_of h m5
  obtain ⟨u11, v12, rfl, s9⟩ := span_of h m9
  have hcde : (c, d, e) ∈ cde := by
    obtain ⟨_, _, k1, k2, k3, _, _, _⟩ := h
    rcases k1 with k1 | k1 <;> rcases k2 with k2 | k2 <;> rcases k3 with k3 | k3 <;> (dsimp only at k1 k2 k3; subst k1 k2 k3; decide)
  have MM : chkM (.tuple [a1, a2] :: [.tuple [a3, a4]]) 2 = true := (List.all_eq_true.mp (List.all_eq_true.mp (List.all_eq_true.mp (List.all_eq_true.mp mf22 a1 m0) a2 m1) a3 m2) a4 m3)
  have ml3 : l5 ∈ [tup1 [0], tup1 [0, 1], tup1 [1]] := by
    rcases List.mem_cons.mp m4 with k | k
    · exact k ▸ List.mem_cons_self
    · exact List.mem_cons_of_mem _ (List.mem_cons.mpr (.inl (List.mem_singleton.mp k)))
  have PP : Parts ⟨2, 2, c, d, e, [1], f, g⟩ [a1, a2] [.tuple [a3, a4]] [tup1 [0], l5] [] [.none] [] u6 v7 p8 p9 p10 u11 v12 := {
    ok := h, few := by simp, s := rfl, t := rfl, mf := (meets_get MM).1, mfx := (meets_get MM).2, wf := wash_get (List.all_eq_true.mp (List.all_eq_true.mp wf2 (tup1 [0]) (by simp)) l5 ml3) s5, wfx := wash_get (List.all_eq_true.mp wf3 l5 ml3) s5, wf2 := fun _ => ⟨tup1 [0], l5, rfl, fun l' hl' => wash_get (List.all_eq_true.mp (List.all_eq_true.mp wf2 l' (by rcases List.mem_cons.mp hl' with k | k; exact List.mem_cons_of_mem _ (List.mem_cons.mpr (.inl k)); exact List.mem_cons_of_mem _ (List.mem_cons_of_mem _ k))) l5 ml3) s5, wash_get (List.all_eq_true.mp (List.all_eq_true.mp wf2 (tup1 [0]) (by simp)) (tup1 [1]) (by simp)) s5⟩,
    st0 := fun i' j' hij => (step_of (s := 2) h m7 m8 m6 hij (fun W d' => sf22 a1 a2 (.tuple [a3, a4]) W d') (fun W d' => sf23 a1 a2 (.tuple [a3, a4]) (nones ⟨2, 2, c, d, e, [1], f, g⟩) W d')), sp0 := sp34 s9, rest := .inl ⟨rfl, rfl⟩, more := .inl ⟨rfl, rfl⟩,
    bad1 := fun i' j' hb => bad_set h hin (k := 9) (b := .tuple [.int i', .int j']) (r := spans f) (isD1_ok (List.all_eq_true.mp (hs18 (.int f) (.int g) a1 a2 a3 a4 l5 (.int u6) (.int v7) p8 p9 p10 (.int i') (.int j')) (c, d, e) hcde)) (pk18 (.int c) (.int d) (.int e) (.int f) (.int g) a1 a2 a3 a4 l5 (.int u6) (.int v7) p8 p9 p10 (.int i') (.int j')) (by rfl) (by rw [rw18]; rfl) (span_bad h hb), bad7 := fun a0 a1 _ ee => by cases ee; exact bad_set h hin (k := 4) (b := tup1 [1]) (r := [tup1 [0], tup1 [0, 1]]) (isD1_ok (List.all_eq_true.mp (hs18 (.int f) (.int g) a1 a2 a3 a4 (tup1 [1]) (.int u6) (.int v7) p8 p9 p10 (.int u11) (.int v12)) (c, d, e) hcde)) (pk18 (.int c) (.int d) (.int e) (.int f) (.int g) a1 a2 a3 a4 (tup1 [1]) (.int u6) (.int v7) p8 p9 p10 (.int u11) (.int v12)) (by rfl) (by rw [rw18]; rfl) (by rfl), bad8 := fun w1 r ee => by cases ee }
  obtain ⟨c1, c2, d1, d2, e1, e2⟩ := PP.bnd
  refine ⟨tkOf (.tuple [a1, a2] :: [.tuple [a3, a4]]) [tup1 [0], l5] [] [.none] [] (.int u6) (.int v7) (.int c) (.int d) (.int e) (.tuple [p8, p9, p10, .int u11, .int v12]), tk18 (.int c) (.int d) (.int e) (.int f) (.int g) a1 a2 a3 a4 l5 (.int u6) (.int v7) p8 p9 p10 (.int u11) (.int v12), fun N R W => lt18 (.int c) (.int d) (.int e) (.int f) (.int g) a1 a2 a3 a4 l5 (.int u6) (.int v7) p8 p9 p10 (.int u11) (.int v12) N R W, (pk18 (.int c) (.int d) (.int e) (.int f) (.int g) a1 a2 a3 a4 l5 (.int u6) (.int v7) p8 p9 p10 (.int u11) (.int v12)), (isD1_ok (List.all_eq_true.mp (hs18 (.int f) (.int g) a1 a2 a3 a4 l5 (.int u6) (.int v7) p8 p9 p10 (.int u11) (.int v12)) (c, d, e) hcde)), PP.tasks (adm (.inl rfl) (.inl rfl)) (lab1 PP.mf PP.wf c1 c2 d1 d2 e1 e2) PP.step0, ?_, ?_, ?_, fun k st hs hk => PP.bent hs hk⟩
  all_goals
    have hg5 : g + 1 ≤ 5 := by have := h.g; dsimp only at this; omega
    have q1 := h.c
    have q2 := h.d
    have q3 := h.e
    dsimp only at q1 q2 q3 c1 c2 d1 d2 e1 e2
    have LL : Lv 5 (tkOf (.tuple [a1, a2] :: [.tuple [a3, a4]]) [tup1 [0], l5] [] [.none] [] (.int u6) (.int v7) (.int c) (.int d) (.int e) (.tuple [p8, p9, p10, .int u11, .int v12])) := (tupL (n := 4) ⟨(tupL (n := 3) ⟨(tupL (n := 2) ⟨(tupL (n := 1) ⟨(Pl.up (pl_upto (n := 2) (by decide) m0) 1), (Pl.up (pl_upto (n := 2) (by decide) m1) 1), trivial⟩ (by show 2 ≤ 5; decide)), (tupL (n := 1) ⟨(Pl.up (pl_upN (n := 2) (by decide) m2) 1), (Pl.up (pl_upN (n := 2) (by decide) m3) 1), trivial⟩ (by show 2 ≤ 5; decide)), trivial⟩ (by show 2 ≤ 5; decide)), (tupL (n := 2) ⟨(tupL (n := 1) ⟨(tupL (n := 0) ⟨(Pl.up (pl_list [tup1 [0]] (by rfl) List.mem_cons_self) 0), (Pl.up (pl_leaf m4) 0), trivial⟩ (by show 2 ≤ 5; decide)), (Pl.up (sp_pl s5).1 1), (Pl.up (sp_pl s5).2 1), trivial⟩ (by show 3 ≤ 5; decide)), trivial⟩ (by show 1 ≤ 5; decide)), (Pl.up (pl_int (n := c) (by omega) (by omega)) 3), (Pl.up (pl_int (n := d) (by omega) (by omega)) 3), (Pl.up (pl_int (n := e) (by omega) (by omega)) 3), trivial⟩ (by show 5 ≤ 5; decide)), (tupL (n := 3) ⟨(tupL (n := 2) ⟨(tupL (n := 1) ⟨(tupL (n := 0) ⟨(Pl.up (pl_upto (n := 2) (by decide) m6) 0), (Pl.up (pl_tools h.c m7) 0), (Pl.up (pl_zones h.e m8) 0), (Pl.up (sp_pl s9).1 0), (Pl.up (sp_pl s9).2 0), trivial⟩ (by show 5 ≤ 5; decide)), trivial⟩ (by show 1 ≤ 5; decide)), (tupL (n := 1) ⟨(Pl.up pl_none 1), trivial⟩ (by show 1 ≤ 5; decide)), trivial⟩ (by show 2 ≤ 5; decide)), trivial⟩ (by show 1 ≤ 5; decide)), trivial⟩ (by show 2 ≤ 5; decide))
  · exact LL.1
  · exact Nat.le_trans LL.2.1 (by decide)
  · exact Nat.le_trans LL.2.2 (by decide)
theorem rw19 (c d e f g : Int) : rows ⟨2, 2, c, d, e, [2], f, g⟩ = [uptoD 2, uptoD 2, (.none :: uptoD 2), (.none :: uptoD 2), [tup1 [0], tup1 [0, 1]], spans f, uptoD 2, toolsR c, zonesR e, spans f, uptoD 2, toolsR c, zonesR e, spans f, (.none :: uptoD (g + 1))] := by kernel_rfl
theorem all19 {c d e f g : Int} (h : Shp.Ok ⟨2, 2, c, d, e, [2], f, g⟩) {picks : List D} (hp : In2 picks (rows ⟨2, 2, c, d, e, [2], f, g⟩)) : TurnOk ⟨2, 2, c, d, e, [2], f, g⟩ picks := by
  have hin := hp
  rw [rw19] at hp
  obtain ⟨a1, _, rfl, m0, hp⟩ := hp.uncons
  obtain ⟨a2, _, rfl, m1, hp⟩ := hp.uncons
  obtain ⟨a3, _, rfl, m2, hp⟩ := hp.uncons
  obtain ⟨a4, _, rfl, m3, hp⟩ := hp.uncons
  obtain ⟨l5, _, rfl, m4, hp⟩ := hp.uncons
  obtain ⟨sp5, _, rfl, m5, hp⟩ := hp.uncons
  obtain ⟨p8, _, rfl, m6, hp⟩ := hp.uncons
  obtain ⟨p9, _, rfl, m7, hp⟩ := hp.uncons
  obtain ⟨p10, _, rfl, m8, hp⟩ := hp.uncons
  obtain ⟨sp9, _, rfl, m9, hp⟩ := hp.uncons
  obtain ⟨p13, _, rfl, m10, hp⟩ := hp.uncons
  obtain ⟨p14, _, rfl, m11, hp⟩ := hp.uncons
  obtain ⟨p15, _, rfl, m12, hp⟩ := hp.uncons
  obtain ⟨sp13, _, rfl, m13, hp⟩ := hp.uncons
  obtain ⟨w18, _, rfl, m14, hp⟩ := hp.uncons
  obtain rfl := hp.end
  obtain ⟨u6, v7, rfl, s5⟩ := span_of h m5
  obtain ⟨u11, v12, rfl, s9⟩ := span_of h m9
  obtain ⟨u16, v17, rfl, s13⟩ := span_of h m13
  have hcde : (c, d, e) ∈ cde := by
    obtain ⟨_, _, k1, k2, k3, _, _, _⟩ := h
    rcases k1 with k1 | k1 <;> rcases k2 with k2 | k2 <;> rcases k3 with k3 | k3 <;> (dsimp only at k1 k2 k3; subst k1 k2 k3; decide)
  have MM : chkM (.tuple [a1, a2] :: [.tuple [a3, a4]]) 2 = true := (List.all_eq_true.mp (List.all_eq_true.mp (List.all_eq_true.mp (List.all_eq_true.mp mf22 a1 m0) a2 m1) a3 m2) a4 m3)
  have ml3 : l5 ∈ [tup1 [0], tup1 [0, 1], tup1 [1]] := by
    rcases List.mem_cons.mp m4 with k | k
    · exact k ▸ List.mem_cons_self
    · exact List.mem_cons_of_mem _ (List.mem_cons.mpr (.inl (List.mem_singleton.mp k)))
  have PP : Parts ⟨2, 2, c, d, e, [2], f, g⟩ [a1, a2] [.tuple [a3, a4]] [tup1 [0], l5] [.tuple [p13, p14, p15, .int u16, .int v17]] [.none, w18] [] u6 v7 p8 p9 p10 u11 v12 := {
    ok := h, few := by simp, s := rfl, t := rfl, mf := (meets_get MM).1, mfx := (meets_get MM).2, wf := wash_get (List.all_eq_true.mp (List.all_eq_true.mp wf2 (tup1 [0]) (by simp)) l5 ml3) s5, wfx := wash_get (List.all_eq_true.mp wf3 l5 ml3) s5, wf2 := fun _ => ⟨tup1 [0], l5, rfl, fun l' hl' => wash_get (List.all_eq_true.mp (List.all_eq_true.mp wf2 l' (by rcases List.mem_cons.mp hl' with k | k; exact List.mem_cons_of_mem _ (List.mem_cons.mpr (.inl k)); exact List.mem_cons_of_mem _ (List.mem_cons_of_mem _ k))) l5 ml3) s5, wash_get (List.all_eq_true.mp (List.all_eq_true.mp wf2 (tup1 [0]) (by simp)) (tup1 [1]) (by simp)) s5⟩,
    st0 := fun i' j' hij => (step_of (s := 2) h m7 m8 m6 hij (fun W d' => sf22 a1 a2 (.tuple [a3, a4]) W d') (fun W d' => sf23 a1 a2 (.tuple [a3, a4]) (nones ⟨2, 2, c, d, e, [2], f, g⟩) W d')), sp0 := sp34 s9, rest := .inr ⟨_, _, rfl, rfl, (step_of (s := 2) h m11 m12 m10 (sp34 s13) (fun W d' => sf22 a1 a2 (.tuple [a3, a4]) W d') (fun W d' => sf23 a1 a2 (.tuple [a3, a4]) (nones ⟨2, 2, c, d, e, [2], f, g⟩) W d')), win_of h m14⟩, more := .inl ⟨rfl, rfl⟩,
    bad1 := fun i' j' hb => bad_set h hin (k := 9) (b := .tuple [.int i', .int j']) (r := spans f) (isD1_ok (List.all_eq_true.mp (hs19 (.int f) (.int g) a1 a2 a3 a4 l5 (.int u6) (.int v7) p8 p9 p10 (.int i') (.int j') p13 p14 p15 (.int u16) (.int v17) w18) (c, d, e) hcde)) (pk19 (.int c) (.int d) (.int e) (.int f) (.int g) a1 a2 a3 a4 l5 (.int u6) (.int v7) p8 p9 p10 (.int i') (.int j') p13 p14 p15 (.int u16) (.int v17) w18) (by rfl) (by rw [rw19]; rfl) (span_bad h hb), bad7 := fun a0 a1 _ ee => by cases ee; exact bad_set h hin (k := 4) (b := tup1 [1]) (r := [tup1 [0], tup1 [0, 1]]) (isD1_ok (List.all_eq_true.mp (hs19 (.int f) (.int g) a1 a2 a3 a4 (tup1 [1]) (.int u6) (.int v7) p8 p9 p10 (.int u11) (.int v12) p13 p14 p15 (.int u16) (.int v17) w18) (c, d, e) hcde)) (pk19 (.int c) (.int d) (.int e) (.int f) (.int g) a1 a2 a3 a4 (tup1 [1]) (.int u6) (.int v7) p8 p9 p10 (.int u11) (.int v12) p13 p14 p15 (.int u16) (.int v17) w18) (by rfl) (by rw [rw19]; rfl) (by rfl), bad8 := fun w1 r _ hr => bad_set h hin (k := 14) (b := .int r) (r := (.none :: uptoD (g + 1))) (isD1_ok (List.all_eq_true.mp (hs19 (.int f) (.int g) a1 a2 a3 a4 l5 (.int u6) (.int v7) p8 p9 p10 (.int u11) (.int v12) p13 p14 p15 (.int u16) (.int v17) (.int r)) (c, d, e) hcde)) (pk19 (.int c) (.int d) (.int e) (.int f) (.int g) a1 a2 a3 a4 l5 (.int u6) (.int v7) p8 p9 p10 (.int u11) (.int v12) p13 p14 p15 (.int u16) (.int v17) (.int r)) (by rfl) (by rw [rw19]; rfl) (win_bad h hr) }
  obtain ⟨c1, c2, d1, d2, e1, e2⟩ := PP.bnd
  refine ⟨tkOf (.tuple [a1, a2] :: [.tuple [a3, a4]]) [tup1 [0], l5] [.tuple [p13, p14, p15, .int u16, .int v17]] [.none, w18] [] (.int u6) (.int v7) (.int c) (.int d) (.int e) (.tuple [p8, p9, p10, .int u11, .int v12]), tk19 (.int c) (.int d) (.int e) (.int f) (.int g) a1 a2 a3 a4 l5 (.int u6) (.int v7) p8 p9 p10 (.int u11) (.int v12) p13 p14 p15 (.int u16) (.int v17) w18, fun N R W => lt19 (.int c) (.int d) (.int e) (.int f) (.int g) a1 a2 a3 a4 l5 (.int u6) (.int v7) p8 p9 p10 (.int u11) (.int v12) p13 p14 p15 (.int u16) (.int v17) w18 N R W, (pk19 (.int c) (.int d) (.int e) (.int f) (.int g) a1 a2 a3 a4 l5 (.int u6) (.int v7) p8 p9 p10 (.int u11) (.int v12) p13 p14 p15 (.int u16) (.int v17) w18), (isD1_ok (List.all_eq_true.mp (hs19 (.int f) (.int g) a1 a2 a3 a4 l5 (.int u6) (.int v7) p8 p9 p10 (.int u11) (.int v12) p13 p14 p15 (.int u16) (.int v17) w18) (c, d, e) hcde)), PP.tasks (adm (.inl rfl) (.inl rfl)) (lab1 PP.mf PP.wf c1 c2 d1 d2 e1 e2) PP.step0, ?_, ?_, ?_, fun k st hs hk => PP.bent hs hk⟩
  all_goals
    have hg5 : g + 1 ≤ 5 := by have := h.g; dsimp only at this; omega
    have q1 := h.c
    have q2 := h.d
    have q3 := h.e
    dsimp only at q1 q2 q3 c1 c2 d1 d2 e1 e2
    have LL : Lv 5 (tkOf (.tuple [a1, a2] :: [.tuple [a3, a4]]) [tup1 [0], l5] [.tuple [p13, p14, p15, .int u16, .int v17]] [.none, w18] [] (.int u6) (.int v7) (.int c) (.int d) (.int e) (.tuple [p8, p9, p10, .int u11, .int v12])) := (tupL (n := 4) ⟨(tupL (n := 3) ⟨(tupL (n := 2) ⟨(tupL (n := 1) ⟨(Pl.up (pl_upto (n := 2) (by decide) m0) 1), (Pl.up (pl_upto (n := 2) (by decide) m1) 1), trivial⟩ (by show 2 ≤ 5; decide)), (tupL (n := 1) ⟨(Pl.up (pl_upN (n := 2) (by decide) m2) 1), (Pl.up (pl_upN (n := 2) (by decide) m3) 1), trivial⟩ (by show 2 ≤ 5; decide)), trivial⟩ (by show 2 ≤ 5; decide)), (tupL (n := 2) ⟨(tupL (n := 1) ⟨(tupL (n := 0) ⟨(Pl.up (pl_list [tup1 [0]] (by rfl) List.mem_cons_self) 0), (Pl.up (pl_leaf m4) 0), trivial⟩ (by show 2 ≤ 5; decide)), (Pl.up (sp_pl s5).1 1), (Pl.up (sp_pl s5).2 1), trivial⟩ (by show 3 ≤ 5; decide)), trivial⟩ (by show 1 ≤ 5; decide)), (Pl.up (pl_int (n := c) (by omega) (by omega)) 3), (Pl.up (pl_int (n := d) (by omega) (by omega)) 3), (Pl.up (pl_int (n := e) (by omega) (by omega)) 3), trivial⟩ (by show 5 ≤ 5; decide)), (tupL (n := 3) ⟨(tupL (n := 2) ⟨(tupL (n := 1) ⟨(tupL (n := 0) ⟨(Pl.up (pl_upto (n := 2) (by decide) m6) 0), (Pl.up (pl_tools h.c m7) 0), (Pl.up (pl_zones h.e m8) 0), (Pl.up (sp_pl s9).1 0), (Pl.up (sp_pl s9).2 0), trivial⟩ (by show 5 ≤ 5; decide)), (tupL (n := 0) ⟨(Pl.up (pl_upto (n := 2) (by decide) m10) 0), (Pl.up (pl_tools h.c m11) 0), (Pl.up (pl_zones h.e m12) 0), (Pl.up (sp_pl s13).1 0), (Pl.up (sp_pl s13).2 0), trivial⟩ (by show 5 ≤ 5; decide)), trivial⟩ (by show 2 ≤ 5; decide)), (tupL (n := 1) ⟨(Pl.up pl_none 1), (Pl.up (pl_upN (n := g + 1) hg5 m14) 1), trivial⟩ (by show 2 ≤ 5; decide)), trivial⟩ (by show 2 ≤ 5; decide)), trivial⟩ (by show 1 ≤ 5; decide)), trivial⟩ (by show 2 ≤ 5; decide))
  · exact LL.1
  · exact Nat.le_trans LL.2.1 (by decide)
  · exact Nat.le_trans LL.2.2 (by decide)
theorem rw20 (c d e f g : Int) : rows ⟨2, 2, c, d, e, [1, 1], f, g⟩ = [uptoD 2, uptoD 2, (.none :: uptoD 2), (.none :: uptoD 2), [tup1 [0], tup1 [0, 1]], spans f, uptoD 2, toolsR c, zonesR e, spans f, uptoD 2, toolsR c, zonesR e, spans f] := by kernel_rfl
theorem all20 {c d e f g : Int} (h : Shp.Ok ⟨2, 2, c, d, e, [1, 1], f, g⟩) {picks : List D} (hp : In2 picks (rows ⟨2, 2, c, d, e, [1, 1], f, g⟩)) : TurnOk ⟨2, 2, c, d, e, [1, 1], f, g⟩ picks := by
  have hin := hp
  rw [rw20] at hp
  obtain ⟨a1, _, rfl, m0, hp⟩ := hp.uncons
  obtain ⟨a2, _, rfl, m1, hp⟩ := hp.uncons
  obtain ⟨a3, _, rfl, m2, hp⟩ := hp.uncons
  obtain ⟨a4, _, rfl, m3, hp⟩ := hp.uncons
  obtain ⟨l5, _, rfl, m4, hp⟩ := hp.uncons
  obtain ⟨sp5, _, rfl, m5, hp⟩ := hp.uncons
  obtain ⟨p8, _, rfl, m6, hp⟩ := hp.uncons
  obtain ⟨p9, _, rfl, m7, hp⟩ := hp.uncons
  obtain ⟨p10, _, rfl, m8, hp⟩ := hp.uncons
  obtain ⟨sp9, _, rfl, m9, hp⟩ := hp.uncons
  obtain ⟨p13, _, rfl, m10, hp⟩ := hp.uncons
  obtain ⟨p14, _, rfl, m11, hp⟩ := hp.uncons
  obtain ⟨p15, _, rfl, m12, hp⟩ := hp.uncons
  obtain ⟨sp13, _, rfl, m13, hp⟩ := hp.uncons
  obtain rfl := hp.end
  obtain ⟨u6, v7, rfl, s5⟩ := span_of h m5
  obtain ⟨u11, v12, rfl, s9⟩ := span_of h m9
  obtain ⟨u16, v17, rfl, s13⟩ := span_of h m13
  have hcde : (c, d, e) ∈ cde := by
    obtain ⟨_, _, k1, k2, k3, _, _, _⟩ := h
    rcases k1 with k1 | k1 <;> rcases k2 with k2 | k2 <;> rcases k3 with k3 | k3 <;> (dsimp only at k1 k2 k3; subst k1 k2 k3; decide)
  have MM : chkM (.tuple [a1, a2] :: [.tuple [a3, a4]]) 2 = true := (List.all_eq_true.mp (List.all_eq_true.mp (List.all_eq_true.mp (List.all_eq_true.mp mf22 a1 m0) a2 m1) a3 m2) a4 m3)
  have ml3 : l5 ∈ [tup1 [0], tup1 [0, 1], tup1 [1]] := by
    rcases List.mem_cons.mp m4 with k | k
    · exact k ▸ List.mem_cons_self
    · exact List.mem_cons_of_mem _ (List.mem_cons.mpr (.inl (List.mem_singleton.mp k)))
  have PP : Parts ⟨2, 2, c, d, e, [1, 1], f, g⟩ [a1, a2] [.tuple [a3, a4]] [tup1 [0], l5] [] [.none] [smp [.tuple [p13, p14, p15, .int u16, .int v17]] [.none]] u6 v7 p8 p9 p10 u11 v12 := {
    ok := h, few := by simp, s := rfl, t := rfl, mf := (meets_get MM).1, mfx := (meets_get MM).2, wf := wash_get (List.all_eq_true.mp (List.all_eq_true.mp wf2 (tup1 [0]) (by simp)) l5 ml3) s5, wfx := wash_get (List.all_eq_true.mp wf3 l5 ml3) s5, wf2 := fun _ => ⟨tup1 [0], l5, rfl, fun l' hl' => wash_get (List.all_eq_true.mp (List.all_eq_true.mp wf2 l' (by rcases List.mem_cons.mp hl' with k | k; exact List.mem_cons_of_mem _ (List.mem_cons.mpr (.inl k)); exact List.mem_cons_of_mem _ (List.mem_cons_of_mem _ k))) l5 ml3) s5, wash_get (List.all_eq_true.mp (List.all_eq_true.mp wf2 (tup1 [0]) (by simp)) (tup1 [1]) (by simp)) s5⟩,
    st0 := fun i' j' hij => (step_of (s := 2) h m7 m8 m6 hij (fun W d' => sf22 a1 a2 (.tuple [a3, a4]) W d') (fun W d' => sf23 a1 a2 (.tuple [a3, a4]) (nones ⟨2, 2, c, d, e, [1, 1], f, g⟩) W d')), sp0 := sp34 s9, rest := .inl ⟨rfl, rfl⟩, more := .inr ⟨_, _, rfl, fun lab ha => sample1 ((step_of (s := 2) h m11 m12 m10 (sp34 s13) (fun W d' => sf22 a1 a2 (.tuple [a3, a4]) W d') (fun W d' => sf23 a1 a2 (.tuple [a3, a4]) (nones ⟨2, 2, c, d, e, [1, 1], f, g⟩) W d')) lab ha), rfl⟩,
    bad1 := fun i' j' hb => bad_set h hin (k := 9) (b := .tuple [.int i', .int j']) (r := spans f) (isD1_ok (List.all_eq_true.mp (hs20 (.int f) (.int g) a1 a2 a3 a4 l5 (.int u6) (.int v7) p8 p9 p10 (.int i') (.int j') p13 p14 p15 (.int u16) (.int v17)) (c, d, e) hcde)) (pk20 (.int c) (.int d) (.int e) (.int f) (.int g) a1 a2 a3 a4 l5 (.int u6) (.int v7) p8 p9 p10 (.int i') (.int j') p13 p14 p15 (.int u16) (.int v17)) (by rfl) (by rw [rw20]; rfl) (span_bad h hb), bad7 := fun a0 a1 _ ee => by cases ee; exact bad_set h hin (k := 4) (b := tup1 [1]) (r := [tup1 [0], tup1 [0, 1]]) (isD1_ok (List.all_eq_true.mp (hs20 (.int f) (.int g) a1 a2 a3 a4 (tup1 [1]) (.int u6) (.int v7) p8 p9 p10 (.int u11) (.int v12) p13 p14 p15 (.int u16) (.int v17)) (c, d, e) hcde)) (pk20 (.int c) (.int d) (.int e) (.int f) (.int g) a1 a2 a3 a4 (tup1 [1]) (.int u6) (.int v7) p8 p9 p10 (.int u11) (.int v12) p13 p14 p15 (.int u16) (.int v17)) (by rfl) (by rw [rw20]; rfl) (by rfl), bad8 := fun w1 r ee => by cases ee }
  obtain ⟨c1, c2, d1, d2, e1, e2⟩ := PP.bnd
  refine ⟨tkOf (.tuple [a1, a2] :: [.tuple [a3, a4]]) [tup1 [0], l5] [] [.none] [smp [.tuple [p13, p14, p15, .int u16, .int v17]] [.none]] (.int u6) (.int v7) (.int c) (.int d) (.int e) (.tuple [p8, p9, p10, .int u11, .int v12]), tk20 (.int c) (.int d) (.int e) (.int f) (.int g) a1 a2 a3 a4 l5 (.int u6) (.int v7) p8 p9 p10 (.int u11) (.int v12) p13 p14 p15 (.int u16) (.int v17), fun N R W => lt20 (.int c) (.int d) (.int e) (.int f) (.int g) a1 a2 a3 a4 l5 (.int u6) (.int v7) p8 p9 p10 (.int u11) (.int v12) p13 p14 p15 (.int u16) (.int v17) N R W, (pk20 (.int c) (.int d) (.int e) (.int f) (.int g) a1 a2 a3 a4 l5 (.int u6) (.int v7) p8 p9 p10 (.int u11) (.int v12) p13 p14 p15 (.int u16) (.int v17)), (isD1_ok (List.all_eq_true.mp (hs20 (.int f) (.int g) a1 a2 a3 a4 l5 (.int u6) (.int v7) p8 p9 p10 (.int u11) (.int v12) p13 p14 p15 (.int u16) (.int v17)) (c, d, e) hcde)), PP.tasks (adm (.inl rfl) (.inl rfl)) (lab1 PP.mf PP.wf c1 c2 d1 d2 e1 e2) PP.step0, ?_, ?_, ?_, fun k st hs hk => PP.bent hs hk⟩
  all_goals
    have hg5 : g + 1 ≤ 5 := by have := h.g; dsimp only at this; omega
    have q1 := h.c
    have q2 := h.d
    have q3 := h.e
    dsimp only at q1 q2 q3 c1 c2 d1 d2 e1 e2
    have LL : Lv 5 (tkOf (.tuple [a1, a2] :: [.tuple [a3, a4]]) [tup1 [0], l5] [] [.none] [smp [.tuple [p13, p14, p15, .int u16, .int v17]] [.none]] (.int u6) (.int v7) (.int c) (.int d) (.int e) (.tuple [p8, p9, p10, .int u11, .int v12])) := (tupL (n := 4) ⟨(tupL (n := 3) ⟨(tupL (n := 2) ⟨(tupL (n := 1) ⟨(Pl.up (pl_upto (n := 2) (by decide) m0) 1), (Pl.up (pl_upto (n := 2) (by decide) m1) 1), trivial⟩ (by show 2 ≤ 5; decide)), (tupL (n := 1) ⟨(Pl.up (pl_upN (n := 2) (by decide) m2) 1), (Pl.up (pl_upN (n := 2) (by decide) m3) 1), trivial⟩ (by show 2 ≤ 5; decide)), trivial⟩ (by show 2 ≤ 5; decide)), (tupL (n := 2) ⟨(tupL (n := 1) ⟨(tupL (n := 0) ⟨(Pl.up (pl_list [tup1 [0]] (by rfl) List.mem_cons_self) 0), (Pl.up (pl_leaf m4) 0), trivial⟩ (by show 2 ≤ 5; decide)), (Pl.up (sp_pl s5).1 1), (Pl.up (sp_pl s5).2 1), trivial⟩ (by show 3 ≤ 5; decide)), trivial⟩ (by show 1 ≤ 5; decide)), (Pl.up (pl_int (n := c) (by omega) (by omega)) 3), (Pl.up (pl_int (n := d) (by omega) (by omega)) 3), (Pl.up (pl_int (n := e) (by omega) (by omega)) 3), trivial⟩ (by show 5 ≤ 5; decide)), (tupL (n := 3) ⟨(tupL (n := 2) ⟨(tupL (n := 1) ⟨(tupL (n := 0) ⟨(Pl.up (pl_upto (n := 2) (by decide) m6) 0), (Pl.up (pl_tools h.c m7) 0), (Pl.up (pl_zones h.e m8) 0), (Pl.up (sp_pl s9).1 0), (Pl.up (sp_pl s9).2 0), trivial⟩ (by show 5 ≤ 5; decide)), trivial⟩ (by show 1 ≤ 5; decide)), (tupL (n := 1) ⟨(Pl.up pl_none 1), trivial⟩ (by show 1 ≤ 5; decide)), trivial⟩ (by show 2 ≤ 5; decide)), (tupL (n := 2) ⟨(tupL (n := 1) ⟨(tupL (n := 0) ⟨(Pl.up (pl_upto (n := 2) (by decide) m10) 0), (Pl.up (pl_tools h.c m11) 0), (Pl.up (pl_zones h.e m12) 0), (Pl.up (sp_pl s13).1 0), (Pl.up (sp_pl s13).2 0), trivial⟩ (by show 5 ≤ 5; decide)), trivial⟩ (by show 1 ≤ 5; decide)), (tupL (n := 1) ⟨(Pl.up pl_none 1), trivial⟩ (by show 1 ≤ 5; decide)), trivial⟩ (by show 2 ≤ 5; decide)), trivial⟩ (by show 2 ≤ 5; decide)), trivial⟩ (by show 2 ≤ 5; decide))
  · exact LL.1
  · exact Nat.le_trans LL.2.1 (by decide)
  · exact Nat.le_trans LL.2.2 (by decide)
theorem rw21 (c d e f g : Int) : rows ⟨2, 2, c, d, e, [1, 2], f, g⟩ = [uptoD 2, uptoD 2, (.none :: uptoD 2), (.none :: uptoD 2), [tup1 [0], tup1 [0, 1]], spans f, uptoD 2, toolsR c, zonesR e, spans f, uptoD 2, toolsR c, zonesR e, spans f, uptoD 2, toolsR c, zonesR e, spans f, (.none :: uptoD (g + 1))] := by kernel_rfl
theorem all21 {c d e f g : Int} (h : Shp.Ok ⟨2, 2, c, d, e, [1, 2], f, g⟩) {picks : List D} (hp : In2 picks (rows ⟨2, 2, c, d, e, [1, 2], f, g⟩)) : TurnOk ⟨2, 2, c, d, e, [1, 2], f, g⟩ picks := by
  have hin := hp
  rw [rw21] at hp
  obtain ⟨a1, _, rfl, m0, hp⟩ := hp.uncons
  obtain ⟨a2, _, rfl, m1, hp⟩ := hp.uncons
  obtain ⟨a3, _, rfl, m2, hp⟩ := hp.uncons
  obtain ⟨a4, _, rfl, m3, hp⟩ := hp.uncons
  obtain ⟨l5, _, rfl, m4, hp⟩ := hp.uncons
  obtain ⟨sp5, _, rfl, m5, hp⟩ := hp.uncons
  obtain ⟨p8, _, rfl, m6, hp⟩ := hp.uncons
  obtain ⟨p9, _, rfl, m7, hp⟩ := hp.uncons
  obtain ⟨p10, _, rfl, m8, hp⟩ := hp.uncons
  obtain ⟨sp9, _, rfl, m9, hp⟩ := hp.uncons
  obtain ⟨p13, _, rfl, m10, hp⟩ := hp.uncons
  obtain ⟨p14, _, rfl, m11, hp⟩ := hp.uncons
  obtain ⟨p15, _, rfl, m12, hp⟩ := hp.uncons
  obtain ⟨sp13, _, rfl, m13, hp⟩ := hp.uncons
  obtain ⟨p18, _, rfl, m14, hp⟩ := hp.uncons
  obtain ⟨p19, _, rfl, m15, hp⟩ := hp.uncons
  obtain ⟨p20, _, rfl, m16, hp⟩ := hp.uncons
  obtain ⟨sp17, _, rfl, m17, hp⟩ := hp.uncons
  obtain ⟨w23, _, rfl, m18, hp⟩ := hp.uncons
  obtain rfl := hp.end
  obtain ⟨u6, v7, rfl, s5⟩ := span_of h m5
  obtain ⟨u11, v12, rfl, s9⟩ := span_of h m9
  obtain ⟨u16, v17, rfl, s13⟩ := span_of h m13
  obtain ⟨u21, v22, rfl, s17⟩ := span_of h m17
  have hcde : (c, d, e) ∈ cde := by
    obtain ⟨_, _, k1, k2, k3, _, _, _⟩ := h
    rcases k1 with k1 | k1 <;> rcases k2 with k2 | k2 <;> rcases k3 with k3 | k3 <;> (dsimp only at k1 k2 k3; subst k1 k2 k3; decide)
  have MM : chkM (.tuple [a1, a2] :: [.tuple [a3, a4]]) 2 = true := (List.all_eq_true.mp (List.all_eq_true.mp (List.all_eq_true.mp (List.all_eq_true.mp mf22 a1 m0) a2 m1) a3 m2) a4 m3)
  have ml3 : l5 ∈ [tup1 [0], tup1 [0, 1], tup1 [1]] := by
    rcases List.mem_cons.mp m4 with k | k
    · exact k ▸ List.mem_cons_self
    · exact List.mem_cons_of_mem _ (List.mem_cons.mpr (.inl (List.mem_singleton.mp k)))
  have PP : Parts ⟨2, 2, c, d, e, [1, 2], f, g⟩ [a1, a2] [.tuple [a3, a4]] [tup1 [0], l5] [] [.none] [smp [.tuple [p13, p14, p15, .int u16, .int v17], .tuple [p18, p19, p20, .int u21, .int v22]] [.none, w23]] u6 v7 p8 p9 p10 u11 v12 := {
    ok := h, few := by simp, s := rfl, t := rfl, mf := (meets_get MM).1, mfx := (meets_get MM).2, wf := wash_get (List.all_eq_true.mp (List.all_eq_true.mp wf2 (tup1 [0]) (by simp)) l5 ml3) s5, wfx := wash_get (List.all_eq_true.mp wf3 l5 ml3) s5, wf2 := fun _ => ⟨tup1 [0], l5, rfl, fun l' hl' => wash_get (List.all_eq_true.mp (List.all_eq_true.mp wf2 l' (by rcases List.mem_cons.mp hl' with k | k; exact List.mem_cons_of_mem _ (List.mem_cons.mpr (.inl k)); exact List.mem_cons_of_mem _ (List.mem_cons_of_mem _ k))) l5 ml3) s5, wash_get (List.all_eq_true.mp (List.all_eq_true.mp wf2 (tup1 [0]) (by simp)) (tup1 [1]) (by simp)) s5⟩,
    st0 := fun i' j' hij => (step_of (s := 2) h m7 m8 m6 hij (fun W d' => sf22 a1 a2 (.tuple [a3, a4]) W d') (fun W d' => sf23 a1 a2 (.tuple [a3, a4]) (nones ⟨2, 2, c, d, e, [1, 2], f, g⟩) W d')), sp0 := sp34 s9, rest := .inl ⟨rfl, rfl⟩, more := .inr ⟨_, _, rfl, fun lab ha => sample2 ((step_of (s := 2) h m11 m12 m10 (sp34 s13) (fun W d' => sf22 a1 a2 (.tuple [a3, a4]) W d') (fun W d' => sf23 a1 a2 (.tuple [a3, a4]) (nones ⟨2, 2, c, d, e, [1, 2], f, g⟩) W d')) lab ha) ((step_of (s := 2) h m15 m16 m14 (sp34 s17) (fun W d' => sf22 a1 a2 (.tuple [a3, a4]) W d') (fun W d' => sf23 a1 a2 (.tuple [a3, a4]) (nones ⟨2, 2, c, d, e, [1, 2], f, g⟩) W d')) lab ha) (win_of h m18), rfl⟩,
    bad1 := fun i' j' hb => bad_set h hin (k := 9) (b := .tuple [.int i', .int j']) (r := spans f) (isD1_ok (List.all_eq_true.mp (hs21 (.int f) (.int g) a1 a2 a3 a4 l5 (.int u6) (.int v7) p8 p9 p10 (.int i') (.int j') p13 p14 p15 (.int u16) (.int v17) p18 p19 p20 (.int u21) (.int v22) w23) (c, d, e) hcde)) (pk21 (.int c) (.int d) (.int e) (.int f) (.int g) a1 a2 a3 a4 l5 (.int u6) (.int v7) p8 p9 p10 (.int i') (.int j') p13 p14 p15 (.int u16) (.int v17) p18 p19 p20 (.int u21) (.int v22) w23) (by rfl) (by rw [rw21]; rfl) (span_bad h hb), bad7 := fun a0 a1 _ ee => by cases ee; exact bad_set h hin (k := 4) (b := tup1 [1]) (r := [tup1 [0], tup1 [0, 1]]) (isD1_ok (List.all_eq_true.mp (hs21 (.int f) (.int g) a1 a2 a3 a4 (tup1 [1]) (.int u6) (.int v7) p8 p9 p10 (.int u11) (.int v12) p13 p14 p15 (.int u16) (.int v17) p18 p19 p20 (.int u21) (.int v22) w23) (c, d, e) hcde)) (pk21 (.int c) (.int d) (.int e) (.int f) (.int g) a1 a2 a3 a4 (tup1 [1]) (.int u6) (.int v7) p8 p9 p10 (.int u11) (.int v12) p13 p14 p15 (.int u16) (.int v17) p18 p19 p20 (.int u21) (.int v22) w23) (by rfl) (by rw [rw21]; rfl) (by rfl), bad8 := fun w1 r ee => by cases ee }
  obtain ⟨c1, c2, d1, d2, e1, e2⟩ := PP.bnd
  refine ⟨tkOf (.tuple [a1, a2] :: [.tuple [a3, a4]]) [tup1 [0], l5] [] [.none] [smp [.tuple [p13, p14, p15, .int u16, .int v17], .tuple [p18, p19, p20, .int u21, .int v22]] [.none, w23]] (.int u6) (.int v7) (.int c) (.int d) (.int e) (.tuple [p8, p9, p10, .int u11, .int v12]), tk21 (.int c) (.int d) (.int e) (.int f) (.int g) a1 a2 a3 a4 l5 (.int u6) (.int v7) p8 p9 p10 (.int u11) (.int v12) p13 p14 p15 (.int u16) (.int v17) p18 p19 p20 (.int u21) (.int v22) w23, fun N R W => lt21 (.int c) (.int d) (.int e) (.int f) (.int g) a1 a2 a3 a4 l5 (.int u6) (.int v7) p8 p9 p10 (.int u11) (.int v12) p13 p14 p15 (.int u16) (.int v17) p18 p19 p20 (.int u21) (.int v22) w23 N R W, (pk21 (.int c) (.int d) (.int e) (.int f) (.int g) a1 a2 a3 a4 l5 (.int u6) (.int v7) p8 p9 p10 (.int u11) (.int v12) p13 p14 p15 (.int u16) (.int v17) p18 p19 p20 (.int u21) (.int v22) w23), (isD1_ok (List.all_eq_true.mp (hs21 (.int f) (.int g) a1 a2 a3 a4 l5 (.int u6) (.int v7) p8 p9 p10 (.int u11) (.int v12) p13 p14 p15 (.int u16) (.int v17) p18 p19 p20 (.int u21) (.int v22) w23) (c, d, e) hcde)), PP.tasks (adm (.inl rfl) (.inl rfl)) (lab1 PP.mf PP.wf c1 c2 d1 d2 e1 e2) PP.step0, ?_, ?_, ?_, fun k st hs hk => PP.bent hs hk⟩
  all_goals
    have hg5 : g + 1 ≤ 5 := by have := h.g; dsimp only at this; omega
    have q1 := h.c
    have q2 := h.d
    have q3 := h.e
    dsimp only at q1 q2 q3 c1 c2 d1 d2 e1 e2
    have LL : Lv 5 (tkOf (.tuple [a1, a2] :: [.tuple [a3, a4]]) [tup1 [0], l5] [] [.none] [smp [.tuple [p13, p14, p15, .int u16, .int v17], .tuple [p18, p19, p20, .int u21, .int v22]] [.none, w23]] (.int u6) (.int v7) (.int c) (.int d) (.int e) (.tuple [p8, p9, p10, .int u11, .int v12])) := (tupL (n := 4) ⟨(tupL (n := 3) ⟨(tupL (n := 2) ⟨(tupL (n := 1) ⟨(Pl.up (pl_upto (n := 2) (by decide) m0) 1), (Pl.up (pl_upto (n := 2) (by decide) m1) 1), trivial⟩ (by show 2 ≤ 5; decide)), (tupL (n := 1) ⟨(Pl.up (pl_upN (n := 2) (by decide) m2) 1), (Pl.up (pl_upN (n := 2) (by decide) m3) 1), trivial⟩ (by show 2 ≤ 5; decide)), trivial⟩ (by show 2 ≤ 5; decide)), (tupL (n := 2) ⟨(tupL (n := 1) ⟨(tupL (n := 0) ⟨(Pl.up (pl_list [tup1 [0]] (by rfl) List.mem_cons_self) 0), (Pl.up (pl_leaf m4) 0), trivial⟩ (by show 2 ≤ 5; decide)), (Pl.up (sp_pl s5).1 1), (Pl.up (sp_pl s5).2 1), trivial⟩ (by show 3 ≤ 5; decide)), trivial⟩ (by show 1 ≤ 5; decide)), (Pl.up (pl_int (n := c) (by omega) (by omega)) 3), (Pl.up (pl_int (n := d) (by omega) (by omega)) 3), (Pl.up (pl_int (n := e) (by omega) (by omega)) 3), trivial⟩ (by show 5 ≤ 5; decide)), (tupL (n := 3) ⟨(tupL (n := 2) ⟨(tupL (n := 1) ⟨(tupL (n := 0) ⟨(Pl.up (pl_upto (n := 2) (by decide) m6) 0), (Pl.up (pl_tools h.c m7) 0), (Pl.up (pl_zones h.e m8) 0), (Pl.up (sp_pl s9).1 0), (Pl.up (sp_pl s9).2 0), trivial⟩ (by show 5 ≤ 5; decide)), trivial⟩ (by show 1 ≤ 5; decide)), (tupL (n := 1) ⟨(Pl.up pl_none 1), trivial⟩ (by show 1 ≤ 5; decide)), trivial⟩ (by show 2 ≤ 5; decide)), (tupL (n := 2) ⟨(tupL (n := 1) ⟨(tupL (n := 0) ⟨(Pl.up (pl_upto (n := 2) (by decide) m10) 0), (Pl.up (pl_tools h.c m11) 0), (Pl.up (pl_zones h.e m12) 0), (Pl.up (sp_pl s13).1 0), (Pl.up (sp_pl s13).2 0), trivial⟩ (by show 5 ≤ 5; decide)), (tupL (n := 0) ⟨(Pl.up (pl_upto (n := 2) (by decide) m14) 0), (Pl.up (pl_tools h.c m15) 0), (Pl.up (pl_zones h.e m16) 0), (Pl.up (sp_pl s17).1 0), (Pl.up (sp_pl s17).2 0), trivial⟩ (by show 5 ≤ 5; decide)), trivial⟩ (by show 2 ≤ 5; decide)), (tupL (n := 1) ⟨(Pl.up pl_none 1), (Pl.up (pl_upN (n := g + 1) hg5 m18) 1), trivial⟩ (by show 2 ≤ 5; decide)), trivial⟩ (by show 2 ≤ 5; decide)), trivial⟩ (by show 2 ≤ 5; decide)), trivial⟩ (by show 2 ≤ 5; decide))
  · exact LL.1
  · exact Nat.le_trans LL.2.1 (by decide)
  · exact Nat.le_trans LL.2.2 (by decide)
theorem rw22 (c d e f g : Int) : rows ⟨2, 2, c, d, e, [2, 1], f, g⟩ = [uptoD 2, uptoD 2, (.none :: uptoD 2), (.none :: uptoD 2), [tup1 [0], tup1 [0, 1]], spans f, uptoD 2, toolsR c, zonesR e, spans f, uptoD 2, toolsR c, zonesR e, spans f, (.none :: uptoD (g + 1)), uptoD 2, toolsR c, zonesR e, spans f] := by kernel_rfl
theorem all22 {c d e f g : Int} (h : Shp.Ok ⟨2, 2, c, d, e, [2, 1], f, g⟩) {picks : List D} (hp : In2 picks (rows ⟨2, 2, c, d, e, [2, 1], f, g⟩)) : TurnOk ⟨2, 2, c, d, e, [2, 1], f, g⟩ picks := by
  have hin := hp
  rw [rw22] at hp
  obtain ⟨a1, _, rfl, m0, hp⟩ := hp.uncons
  obtain ⟨a2, _, rfl, m1, hp⟩ := hp.uncons
  obtain ⟨a3, _, rfl, m2, hp⟩ := hp.uncons
  obtain ⟨a4, _, rfl, m3, hp⟩ := hp.uncons
  obtain ⟨l5, _, rfl, m4, hp⟩ := hp.uncons
  obtain ⟨sp5, _, rfl, m5, hp⟩ := hp.uncons
  obtain ⟨p8, _, rfl, m6, hp⟩ := hp.uncons
  obtain ⟨p9, _, rfl, m7, hp⟩ := hp.uncons
  obtain ⟨p10, _, rfl, m8, hp⟩ := hp.uncons
  obtain ⟨sp9, _, rfl, m9, hp⟩ := hp.uncons
  obtain ⟨p13, _, rfl, m10, hp⟩ := hp.uncons
  obtain ⟨p14, _, rfl, m11, hp⟩ := hp.uncons
  obtain ⟨p15, _, rfl, m12, hp⟩ := hp.uncons
  obtain ⟨sp13, _, rfl, m13, hp⟩ := hp.uncons
  obtain ⟨w18, _, rfl, m14, hp⟩ := hp.uncons
  obtain ⟨p19, _, rfl, m15, hp⟩ := hp.uncons
  obtain ⟨p20, _, rfl, m16, hp⟩ := hp.uncons
  obtain ⟨p21, _, rfl, m17, hp⟩ := hp.uncons
  obtain ⟨sp18, _, rfl, m18, hp⟩ := hp.uncons
  obtain rfl := hp.end
  obtain ⟨u6, v7, rfl, s5⟩ := span_of h m5
  obtain ⟨u11, v12, rfl, s9⟩ := span_of h m9
  obtain ⟨u16, v17, rfl, s13⟩ := span_of h m13
  obtain ⟨u22, v23, rfl, s18⟩ := span_of h m18
  have hcde : (c, d, e) ∈ cde := by
    obtain ⟨_, _, k1, k2, k3, _, _, _⟩ := h
    rcases k1 with k1 | k1 <;> rcases k2 with k2 | k2 <;> rcases k3 with k3 | k3 <;> (dsimp only at k1 k2 k3; subst k1 k2 k3; decide)
  have MM : chkM (.tuple [a1, a2] :: [.tuple [a3, a4]]) 2 = true := (List.all_eq_true.mp (List.all_eq_true.mp (List.all_eq_true.mp (List.all_eq_true.mp mf22 a1 m0) a2 m1) a3 m2) a4 m3)
  have ml3 : l5 ∈ [tup1 [0], tup1 [0, 1], tup1 [1]] := by
    rcases List.mem_cons.mp m4 with k | k
    · exact k ▸ List.mem_cons_self
    · exact List.mem_cons_of_mem _ (List.mem_cons.mpr (.inl (List.mem_singleton.mp k)))
  have PP : Parts ⟨2, 2, c, d, e, [2, 1], f, g⟩ [a1, a2] [.tuple [a3, a4]] [tup1 [0], l5] [.tuple [p13, p14, p15, .int u16, .int v17]] [.none, w18] [smp [.tuple [p19, p20, p21, .int u22, .int v23]] [.none]] u6 v7 p8 p9 p10 u11 v12 := {
    ok := h, few := by simp, s := rfl, t := rfl, mf := (meets_get MM).1, mfx := (meets_get MM).2, wf := wash_get (List.all_eq_true.mp (List.all_eq_true.mp wf2 (tup1 [0]) (by simp)) l5 ml3) s5, wfx := wash_get (List.all_eq_true.mp wf3 l5 ml3) s5, wf2 := fun _ => ⟨tup1 [0], l5, rfl, fun l' hl' => wash_get (List.all_eq_true.mp (List.all_eq_true.mp wf2 l' (by rcases List.mem_cons.mp hl' with k | k; exact List.mem_cons_of_mem _ (List.mem_cons.mpr (.inl k)); exact List.mem_cons_of_mem _ (List.mem_cons_of_mem _ k))) l5 ml3) s5, wash_get (List.all_eq_true.mp (List.all_eq_true.mp wf2 (tup1 [0]) (by simp)) (tup1 [1]) (by simp)) s5⟩,
    st0 := fun i' j' hij => (step_of (s := 2) h m7 m8 m6 hij (fun W d' => sf22 a1 a2 (.tuple [a3, a4]) W d') (fun W d' => sf23 a1 a2 (.tuple [a3, a4]) (nones ⟨2, 2, c, d, e, [2, 1], f, g⟩) W d')), sp0 := sp34 s9, rest := .inr ⟨_, _, rfl, rfl, (step_of (s := 2) h m11 m12 m10 (sp34 s13) (fun W d' => sf22 a1 a2 (.tuple [a3, a4]) W d') (fun W d' => sf23 a1 a2 (.tuple [a3, a4]) (nones ⟨2, 2, c, d, e, [2, 1], f, g⟩) W d')), win_of h m14⟩, more := .inr ⟨_, _, rfl, fun lab ha => sample1 ((step_of (s := 2) h m16 m17 m15 (sp34 s18) (fun W d' => sf22 a1 a2 (.tuple [a3, a4]) W d') (fun W d' => sf23 a1 a2 (.tuple [a3, a4]) (nones ⟨2, 2, c, d, e, [2, 1], f, g⟩) W d')) lab ha), rfl⟩,
    bad1 := fun i' j' hb => bad_set h hin (k := 9) (b := .tuple [.int i', .int j']) (r := spans f) (isD1_ok (List.all_eq_true.mp (hs22 (.int f) (.int g) a1 a2 a3 a4 l5 (.int u6) (.int v7) p8 p9 p10 (.int i') (.int j') p13 p14 p15 (.int u16) (.int v17) w18 p19 p20 p21 (.int u22) (.int v23)) (c, d, e) hcde)) (pk22 (.int c) (.int d) (.int e) (.int f) (.int g) a1 a2 a3 a4 l5 (.int u6) (.int v7) p8 p9 p10 (.int i') (.int j') p13 p14 p15 (.int u16) (.int v17) w18 p19 p20 p21 (.int u22) (.int v23)) (by rfl) (by rw [rw22]; rfl) (span_bad h hb), bad7 := fun a0 a1 _ ee => by cases ee; exact bad_set h hin (k := 4) (b := tup1 [1]) (r := [tup1 [0], tup1 [0, 1]]) (isD1_ok (List.all_eq_true.mp (hs22 (.int f) (.int g) a1 a2 a3 a4 (tup1 [1]) (.int u6) (.int v7) p8 p9 p10 (.int u11) (.int v12) p13 p14 p15 (.int u16) (.int v17) w18 p19 p20 p21 (.int u22) (.int v23)) (c, d, e) hcde)) (pk22 (.int c) (.int d) (.int e) (.int f) (.int g) a1 a2 a3 a4 (tup1 [1]) (.int u6) (.int v7) p8 p9 p10 (.int u11) (.int v12) p13 p14 p15 (.int u16) (.int v17) w18 p19 p20 p21 (.int u22) (.int v23)) (by rfl) (by rw [rw22]; rfl) (by rfl), bad8 := fun w1 r _ hr => bad_set h hin (k := 14) (b := .int r) (r := (.none :: uptoD (g + 1))) (isD1_ok (List.all_eq_true.mp (hs22 (.int f) (.int g) a1 a2 a3 a4 l5 (.int u6) (.int v7) p8 p9 p10 (.int u11) (.int v12) p13 p14 p15 (.int u16) (.int v17) (.int r) p19 p20 p21 (.int u22) (.int v23)) (c, d, e) hcde)) (pk22 (.int c) (.int d) (.int e) (.int f) (.int g) a1 a2 a3 a4 l5 (.int u6) (.int v7) p8 p9 p10 (.int u11) (.int v12) p13 p14 p15 (.int u16) (.int v17) (.int r) p19 p20 p21 (.int u22) (.int v23)) (by rfl) (by rw [rw22]; rfl) (win_bad h hr) }
  obtain ⟨c1, c2, d1, d2, e1, e2⟩ := PP.bnd
  refine ⟨tkOf (.tuple [a1, a2] :: [.tuple [a3, a4]]) [tup1 [0], l5] [.tuple [p13, p14, p15, .int u16, .int v17]] [.none, w18] [smp [.tuple [p19, p20, p21, .int u22, .int v23]] [.none]] (.int u6) (.int v7) (.int c) (.int d) (.int e) (.tuple [p8, p9, p10, .int u11, .int v12]), tk22 (.int c) (.int d) (.int e) (.int f) (.int g) a1 a2 a3 a4 l5 (.int u6) (.int v7) p8 p9 p10 (.int u11) (.int v12) p13 p14 p15 (.int u16) (.int v17) w18 p19 p20 p21 (.int u22) (.int v23), fun N R W => lt22 (.int c) (.int d) (.int e) (.int f) (.int g) a1 a2 a3 a4 l5 (.int u6) (.int v7) p8 p9 p10 (.int u11) (.int v12) p13 p14 p15 (.int u16) (.int v17) w18 p19 p20 p21 (.int u22) (.int v23) N R W, (pk22 (.int c) (.int d) (.int e) (.int f) (.int g) a1 a2 a3 a4 l5 (.int u6) (.int v7) p8 p9 p10 (.int u11) (.int v12) p13 p14 p15 (.int u16) (.int v17) w18 p19 p20 p21 (.int u22) (.int v23)), (isD1_ok (List.all_eq_true.mp (hs22 (.int f) (.int g) a1 a2 a3 a4 l5 (.int u6) (.int v7) p8 p9 p10 (.int u11) (.int v12) p13 p14 p15 (.int u16) (.int v17) w18 p19 p20 p21 (.int u22) (.int v23)) (c, d, e) hcde)), PP.tasks (adm (.inl rfl) (.inl rfl)) (lab1 PP.mf PP.wf c1 c2 d1 d2 e1 e2) PP.step0, ?_, ?_, ?_, fun k st hs hk => PP.bent hs hk⟩
  all_goals
    have hg5 : g + 1 ≤ 5 := by have := h.g; dsimp only at this; omega
    have q1 := h.c
    have q2 := h.d
    have q3 := h.e
    dsimp only at q1 q2 q3 c1 c2 d1 d2 e1 e2
    have LL : Lv 5 (tkOf (.tuple [a1, a2] :: [.tuple [a3, a4]]) [tup1 [0], l5] [.tuple [p13, p14, p15, .int u16, .int v17]] [.none, w18] [smp [.tuple [p19, p20, p21, .int u22, .int v23]] [.none]] (.int u6) (.int v7) (.int c) (.int d) (.int e) (.tuple [p8, p9, p10, .int u11, .int v12])) := (tupL (n := 4) ⟨(tupL (n := 3) ⟨(tupL (n := 2) ⟨(tupL (n := 1) ⟨(Pl.up (pl_upto (n := 2) (by decide) m0) 1), (Pl.up (pl_upto (n := 2) (by decide) m1) 1), trivial⟩ (by show 2 ≤ 5; decide)), (tupL (n := 1) ⟨(Pl.up (pl_upN (n := 2) (by decide) m2) 1), (Pl.up (pl_upN (n := 2) (by decide) m3) 1), trivial⟩ (by show 2 ≤ 5; decide)), trivial⟩ (by show 2 ≤ 5; decide)), (tupL (n := 2) ⟨(tupL (n := 1) ⟨(tupL (n := 0) ⟨(Pl.up (pl_list [tup1 [0]] (by rfl) List.mem_cons_self) 0), (Pl.up (pl_leaf m4) 0), trivial⟩ (by show 2 ≤ 5; decide)), (Pl.up (sp_pl s5).1 1), (Pl.up (sp_pl s5).2 1), trivial⟩ (by show 3 ≤ 5; decide)), trivial⟩ (by show 1 ≤ 5; decide)), (Pl.up (pl_int (n := c) (by omega) (by omega)) 3), (Pl.up (pl_int (n := d) (by omega) (by omega)) 3), (Pl.up (pl_int (n := e) (by omega) (by omega)) 3), trivial⟩ (by show 5 ≤ 5; decide)), (tupL (n := 3) ⟨(tupL (n := 2) ⟨(tupL (n := 1) ⟨(tupL (n := 0) ⟨(Pl.up (pl_upto (n := 2) (by decide) m6) 0), (Pl.up (pl_tools h.c m7) 0), (Pl.up (pl_zones h.e m8) 0), (Pl.up (sp_pl s9).1 0), (Pl.up (sp_pl s9).2 0), trivial⟩ (by show 5 ≤ 5; decide)), (tupL (n := 0) ⟨(Pl.up (pl_upto (n := 2) (by decide) m10) 0), (Pl.up (pl_tools h.c m11) 0), (Pl.up (pl_zones h.e m12) 0), (Pl.up (sp_pl s13).1 0), (Pl.up (sp_pl s13).2 0), trivial⟩ (by show 5 ≤ 5; decide)), trivial⟩ (by show 2 ≤ 5; decide)), (tupL (n := 1) ⟨(Pl.up pl_none 1), (Pl.up (pl_upN (n := g + 1) hg5 m14) 1), trivial⟩ (by show 2 ≤ 5; decide)), trivial⟩ (by show 2 ≤ 5; decide)), (tupL (n := 2) ⟨(tupL (n := 1) ⟨(tupL (n := 0) ⟨(Pl.up (pl_upto (n := 2) (by decide) m15) 0), (Pl.up (pl_tools h.c m16) 0), (Pl.up (pl_zones h.e m17) 0), (Pl.up (sp_pl s18).1 0), (Pl.up (sp_pl s18).2 0), trivial⟩ (by show 5 ≤ 5; decide)), trivial⟩ (by show 1 ≤ 5; decide)), (tupL (n := 1) ⟨(Pl.up pl_none 1), trivial⟩ (by show 1 ≤ 5; decide)), trivial⟩ (by show 2 ≤ 5; decide)), trivial⟩ (by show 2 ≤ 5; decide)), trivial⟩ (by show 2 ≤ 5; decide))
  · exact LL.1
  · exact Nat.le_trans LL.2.1 (by decide)
  · exact Nat.le_trans LL.2.2 (by decide)
theorem rw23 (c d e f g : Int) : rows ⟨2, 2, c, d, e, [2, 2], f, g⟩ = [uptoD 2, uptoD 2, (.none :: uptoD 2), (.none :: uptoD 2), [tup1 [0], tup1 [0, 1]], spans f, uptoD 2, toolsR c, zonesR e, spans f, uptoD 2, toolsR c, zonesR e, spans f, (.none :: uptoD (g + 1)), uptoD 2, toolsR c, zonesR e, spans f, uptoD 2, toolsR c, zonesR e, spans f, (.none :: uptoD (g + 1))] := by kernel_rfl
theorem all23 {c d e f g : Int} (h : Shp.Ok ⟨2, 2, c, d, e, [2, 2], f, g⟩) {picks : List D} (hp : In2 picks (rows ⟨2, 2, c, d, e, [2, 2], f, g⟩)) : TurnOk ⟨2, 2, c, d, e, [2, 2], f, g⟩ picks := by
  have hin := hp
  rw [rw23] at hp
  obtain ⟨a1, _, rfl, m0, hp⟩ := hp.uncons
  obtain ⟨a2, _, rfl, m1, hp⟩ := hp.uncons
  obtain ⟨a3, _, rfl, m2, hp⟩ := hp.uncons
  obtain ⟨a4, _, rfl, m3, hp⟩ := hp.uncons
  obtain ⟨l5, _, rfl, m4, hp⟩ := hp.uncons
  obtain ⟨sp5, _, rfl, m5, hp⟩ := hp.uncons
  obtain ⟨p8, _, rfl, m6, hp⟩ := hp.uncons
  obtain ⟨p9, _, rfl, m7, hp⟩ := hp.uncons
  obtain ⟨p10, _, rfl, m8, hp⟩ := hp.uncons
  obtain ⟨sp9, _, rfl, m9, hp⟩ := hp.uncons
  obtain ⟨p13, _, rfl, m10, hp⟩ := hp.uncons
  obtain ⟨p14, _, rfl, m11, hp⟩ := hp.uncons
  obtain ⟨p15, _, rfl, m12, hp⟩ := hp.uncons
  obtain ⟨sp13, _, rfl, m13, hp⟩ := hp.uncons
  obtain ⟨w18, _, rfl, m14, hp⟩ := hp.uncons
  obtain ⟨p19, _, rfl, m15, hp⟩ := hp.uncons
  obtain ⟨p20, _, rfl, m16, hp⟩ := hp.uncons
  obtain ⟨p21, _, rfl, m17, hp⟩ := hp.uncons
  obtain ⟨sp18, _, rfl, m18, hp⟩ := hp.uncons
  obtain ⟨p24, _, rfl, m19, hp⟩ := hp.uncons
  obtain ⟨p25, _, rfl, m20, hp⟩ := hp.uncons
  obtain ⟨p26, _, rfl, m21, hp⟩ := hp.uncons
  obtain ⟨sp22, _, rfl, m22, hp⟩ := hp.uncons
  obtain ⟨w29, _, rfl, m23, hp⟩ := hp.uncons
  obtain rfl := hp.end
  obtain ⟨u6, v7, rfl, s5⟩ := span_of h m5
  obtain ⟨u11, v12, rfl, s9⟩ := span_of h m9
  obtain ⟨u16, v17, rfl, s13⟩ := span_of h m13
  obtain ⟨u22, v23, rfl, s18⟩ := span_of h m18
  obtain ⟨u27, v28, rfl, s22⟩ := span_of h m22
  have hcde : (c, d, e) ∈ cde := by
    obtain ⟨_, _, k1, k2, k3, _, _, _⟩ := h
    rcases k1 with k1 | k1 <;> rcases k2 with k2 | k2 <;> rcases k3 with k3 | k3 <;> (dsimp only at k1 k2 k3; subst k1 k2 k3; decide)
  have MM : chkM (.tuple [a1, a2] :: [.tuple [a3, a4]]) 2 = true := (List.all_eq_true.mp (List.all_eq_true.mp (List.all_eq_true.mp (List.all_eq_true.mp mf22 a1 m0) a2 m1) a3 m2) a4 m3)
  have ml3 : l5 ∈ [tup1 [0], tup1 [0, 1], tup1 [1]] := by
    rcases List.mem_cons.mp m4 with k | k
    · exact k ▸ List.mem_cons_self
    · exact List.mem_cons_of_mem _ (List.mem_cons.mpr (.inl (List.mem_singleton.mp k)))
  have PP : Parts ⟨2, 2, c, d, e, [2, 2], f, g⟩ [a1, a2] [.tuple [a3, a4]] [tup1 [0], l5] [.tuple [p13, p14, p15, .int u16, .int v17]] [.none, w18] [smp [.tuple [p19, p20, p21, .int u22, .int v23], .tuple [p24, p25, p26, .int u27, .int v28]] [.none, w29]] u6 v7 p8 p9 p10 u11 v12 := {
    ok := h, few := by simp, s := rfl, t := rfl, mf := (meets_get MM).1, mfx := (meets_get MM).2, wf := wash_get (List.all_eq_true.mp (List.all_eq_true.mp wf2 (tup1 [0]) (by simp)) l5 ml3) s5, wfx := wash_get (List.all_eq_true.mp wf3 l5 ml3) s5, wf2 := fun _ => ⟨tup1 [0], l5, rfl, fun l' hl' => wash_get (List.all_eq_true.mp (List.all_eq_true.mp wf2 l' (by rcases List.mem_cons.mp hl' with k | k; exact List.mem_cons_of_mem _ (List.mem_cons.mpr (.inl k)); exact List.mem_cons_of_mem _ (List.mem_cons_of_mem _ k))) l5 ml3) s5, wash_get (List.all_eq_true.mp (List.all_eq_true.mp wf2 (tup1 [0]) (by simp)) (tup1 [1]) (by simp)) s5⟩,
    st0 := fun i' j' hij => (step_of (s := 2) h m7 m8 m6 hij (fun W d' => sf22 a1 a2 (.tuple [a3, a4]) W d') (fun W d' => sf23 a1 a2 (.tuple [a3, a4]) (nones ⟨2, 2, c, d, e, [2, 2], f, g⟩) W d')), sp0 := sp34 s9, rest := .inr ⟨_, _, rfl, rfl, (step_of (s := 2) h m11 m12 m10 (sp34 s13) (fun W d' => sf22 a1 a2 (.tuple [a3, a4]) W d') (fun W d' => sf23 a1 a2 (.tuple [a3, a4]) (nones ⟨2, 2, c, d, e, [2, 2], f, g⟩) W d')), win_of h m14⟩, more := .inr ⟨_, _, rfl, fun lab ha => sample2 ((step_of (s := 2) h m16 m17 m15 (sp34 s18) (fun W d' => sf22 a1 a2 (.tuple [a3, a4]) W d') (fun W d' => sf23 a1 a2 (.tuple [a3, a4]) (nones ⟨2, 2, c, d, e, [2, 2], f, g⟩) W d')) lab ha) ((step_of (s := 2) h m20 m21 m19 (sp34 s22) (fun W d' => sf22 a1 a2 (.tuple [a3, a4]) W d') (fun W d' => sf23 a1 a2 (.tuple [a3, a4]) (nones ⟨2, 2, c, d, e, [2, 2], f, g⟩) W d')) lab ha) (win_of h m23), rfl⟩,
    bad1 := fun i' j' hb => bad_set h hin (k := 9) (b := .tuple [.int i', .int j']) (r := spans f) (isD1_ok (List.all_eq_true.mp (hs23 (.int f) (.int g) a1 a2 a3 a4 l5 (.int u6) (.int v7) p8 p9 p10 (.int i') (.int j') p13 p14 p15 (.int u16) (.int v17) w18 p19 p20 p21 (.int u22) (.int v23) p24 p25 p26 (.int u27) (.int v28) w29) (c, d, e) hcde)) (pk23 (.int c) (.int d) (.int e) (.int f) (.int g) a1 a2 a3 a4 l5 (.int u6) (.int v7) p8 p9 p10 (.int i') (.int j') p13 p14 p15 (.int u16) (.int v17) w18 p19 p20 p21 (.int u22) (.int v23) p24 p25 p26 (.int u27) (.int v28) w29) (by rfl) (by rw [rw23]; rfl) (span_bad h hb), bad7 := fun a0 a1 _ ee => by cases ee; exact bad_set h hin (k := 4) (b := tup1 [1]) (r := [tup1 [0], tup1 [0, 1]]) (isD1_ok (List.all_eq_true.mp (hs23 (.int f) (.int g) a1 a2 a3 a4 (tup1 [1]) (.int u6) (.int v7) p8 p9 p10 (.int u11) (.int v12) p13 p14 p15 (.int u16) (.int v17) w18 p19 p20 p21 (.int u22) (.int v23) p24 p25 p26 (.int u27) (.int v28) w29) (c, d, e) hcde)) (pk23 (.int c) (.int d) (.int e) (.int f) (.int g) a1 a2 a3 a4 (tup1 [1]) (.int u6) (.int v7) p8 p9 p10 (.int u11) (.int v12) p13 p14 p15 (.int u16) (.int v17) w18 p19 p20 p21 (.int u22) (.int v23) p24 p25 p26 (.int u27) (.int v28) w29) (by rfl) (by rw [rw23]; rfl) (by rfl), bad8 := fun w1 r _ hr => bad_set h hin (k := 14) (b := .int r) (r := (.none :: uptoD (g + 1))) (isD1_ok (List.all_eq_true.mp (hs23 (.int f) (.int g) a1 a2 a3 a4 l5 (.int u6) (.int v7) p8 p9 p10 (.int u11) (.int v12) p13 p14 p15 (.int u16) (.int v17) (.int r) p19 p20 p21 (.int u22) (.int v23) p24 p25 p26 (.int u27) (.int v28) w29) (c, d, e) hcde)) (pk23 (.int c) (.int d) (.int e) (.int f) (.int g) a1 a2 a3 a4 l5 (.int u6) (.int v7) p8 p9 p10 (.int u11) (.int v12) p13 p14 p15 (.int u16) (.int v17) (.int r) p19 p20 p21 (.int u22) (.int v23) p24 p25 p26 (.int u27) (.int v28) w29) (by rfl) (by rw [rw23]; rfl) (win_bad h hr) }
  obtain ⟨c1, c2, d1, d2, e1, e2⟩ := PP.bnd
  refine ⟨tkOf (.tuple [a1, a2] :: [.tuple [a3, a4]]) [tup1 [0], l5] [.tuple [p13, p14, p15, .int u16, .int v17]] [.none, w18] [smp [.tuple [p19, p20, p21, .int u22, .int v23], .tuple [p24, p25, p26, .int u27, .int v28]] [.none, w29]] (.int u6) (.int v7) (.int c) (.int d) (.int e) (.tuple [p8, p9, p10, .int u11, .int v12]), tk23 (.int c) (.int d) (.int e) (.int f) (.int g) a1 a2 a3 a4 l5 (.int u6) (.int v7) p8 p9 p10 (.int u11) (.int v12) p13 p14 p15 (.int u16) (.int v17) w18 p19 p20 p21 (.int u22) (.int v23) p24 p25 p26 (.int u27) (.int v28) w29, fun N R W => lt23 (.int c) (.int d) (.int e) (.int f) (.int g) a1 a2 a3 a4 l5 (.int u6) (.int v7) p8 p9 p10 (.int u11) (.int v12) p13 p14 p15 (.int u16) (.int v17) w18 p19 p20 p21 (.int u22) (.int v23) p24 p25 p26 (.int u27) (.int v28) w29 N R W, (pk23 (.int c) (.int d) (.int e) (.int f) (.int g) a1 a2 a3 a4 l5 (.int u6) (.int v7) p8 p9 p10 (.int u11) (.int v12) p13 p14 p15 (.int u16) (.int v17) w18 p19 p20 p21 (.int u22) (.int v23) p24 p25 p26 (.int u27) (.int v28) w29), (isD1_ok (List.all_eq_true.mp (hs23 (.int f) (.int g) a1 a2 a3 a4 l5 (.int u6) (.int v7) p8 p9 p10 (.int u11) (.int v12) p13 p14 p15 (.int u16) (.int v17) w18 p19 p20 p21 (.int u22) (.int v23) p24 p25 p26 (.int u27) (.int v28) w29) (c, d, e) hcde)), PP.tasks (adm (.inl rfl) (.inl rfl)) (lab1 PP.mf PP.wf c1 c2 d1 d2 e1 e2) PP.step0, ?_, ?_, ?_, fun k st hs hk => PP.bent hs hk⟩
  all_goals
    have hg5 : g + 1 ≤ 5 := by have := h.g; dsimp only at this; omega
    have q1 := h.c
    have q2 := h.d
    have q3 := h.e
    dsimp only at q1 q2 q3 c1 c2 d1 d2 e1 e2
    have LL : Lv 5 (tkOf (.tuple [a1, a2] :: [.tuple [a3, a4]]) [tup1 [0], l5] [.tuple [p13, p14, p15, .int u16, .int v17]] [.none, w18] [smp [.tuple [p19, p20, p21, .int u22, .int v23], .tuple [p24, p25, p26, .int u27, .int v28]] [.none, w29]] (.int u6) (.int v7) (.int c) (.int d) (.int e) (.tuple [p8, p9, p10, .int u11, .int v12])) := (tupL (n := 4) ⟨(tupL (n := 3) ⟨(tupL (n := 2) ⟨(tupL (n := 1) ⟨(Pl.up (pl_upto (n := 2) (by decide) m0) 1), (Pl.up (pl_upto (n := 2) (by decide) m1) 1), trivial⟩ (by show 2 ≤ 5; decide)), (tupL (n := 1) ⟨(Pl.up (pl_upN (n := 2) (by decide) m2) 1), (Pl.up (pl_upN (n := 2) (by decide) m3) 1), trivial⟩ (by show 2 ≤ 5; decide)), trivial⟩ (by show 2 ≤ 5; decide)), (tupL (n := 2) ⟨(tupL (n := 1) ⟨(tupL (n := 0) ⟨(Pl.up (pl_list [tup1 [0]] (by rfl) List.mem_cons_self) 0), (Pl.up (pl_leaf m4) 0), trivial⟩ (by show 2 ≤ 5; decide)), (Pl.up (sp_pl s5).1 1), (Pl.up (sp_pl s5).2 1), trivial⟩ (by show 3 ≤ 5; decide)), trivial⟩ (by show 1 ≤ 5; decide)), (Pl.up (pl_int (n := c) (by omega) (by omega)) 3), (Pl.up (pl_int (n := d) (by omega) (by omega)) 3), (Pl.up (pl_int (n := e) (by omega) (by omega)) 3), trivial⟩ (by show 5 ≤ 5; decide)), (tupL (n := 3) ⟨(tupL (n := 2) ⟨(tupL (n := 1) ⟨(tupL (n := 0) ⟨(Pl.up (pl_upto (n := 2) (by decide) m6) 0), (Pl.up (pl_tools h.c m7) 0), (Pl.up (pl_zones h.e m8) 0), (Pl.up (sp_pl s9).1 0), (Pl.up (sp_pl s9).2 0), trivial⟩ (by show 5 ≤ 5; decide)), (tupL (n := 0) ⟨(Pl.up (pl_upto (n := 2) (by decide) m10) 0), (Pl.up (pl_tools h.c m11) 0), (Pl.up (pl_zones h.e m12) 0), (Pl.up (sp_pl s13).1 0), (Pl.up (sp_pl s13).2 0), trivial⟩ (by show 5 ≤ 5; decide)), trivial⟩ (by show 2 ≤ 5; decide)), (tupL (n := 1) ⟨(Pl.up pl_none 1), (Pl.up (pl_upN (n := g + 1) hg5 m14) 1), trivial⟩ (by show 2 ≤ 5; decide)), trivial⟩ (by show 2 ≤ 5; decide)), (tupL (n := 2) ⟨(tupL (n := 1) ⟨(tupL (n := 0) ⟨(Pl.up (pl_upto (n := 2) (by decide) m15) 0), (Pl.up (pl_tools h.c m16) 0), (Pl.up (pl_zones h.e m17) 0), (Pl.up (sp_pl s18).1 0), (Pl.up (sp_pl s18).2 0), trivial⟩ (by show 5 ≤ 5; decide)), (tupL (n := 0) ⟨(Pl.up (pl_upto (n := 2) (by decide) m19) 0), (Pl.up (pl_tools h.c m20) 0), (Pl.up (pl_zones h.e m21) 0), (Pl.up (sp_pl s22).1 0), (Pl.up (sp_pl s22).2 0), trivial⟩ (by show 5 ≤ 5; decide)), trivial⟩ (by show 2 ≤ 5; decide)), (tupL (n := 1) ⟨(Pl.up pl_none 1), (Pl.up (pl_upN (n := g + 1) hg5 m23) 1), trivial⟩ (by show 2 ≤ 5; decide)), trivial⟩ (by show 2 ≤ 5; decide)), trivial⟩ (by show 2 ≤ 5; decide)), trivial⟩ (by show 2 ≤ 5; decide))
  · exact LL.1
  · exact Nat.le_trans LL.2.1 (by decide)
  · exact Nat.le_trans LL.2.2 (by decide)
end LW
end

section
set_option Elab.async false
set_option linter.all false
set_option maxRecDepth 100000
set_option maxHeartbeats 999999
set_option exponentiation.threshold 5001
open DL
open PySem (PyData Str)
namespace LW
/-! ### the law's turns -/
theorem turn_ok {x : Shp} (h : x.Ok) {picks : List D} (hp : In2 picks (rows x)) : TurnOk x picks := by
  have hz := h.z
  have hs := h.s
  have ht := h.t
  obtain ⟨s, t, c, d, e, z, f, g⟩ := x
  dsimp only at hz hs ht
  simp only [szs, List.mem_cons, List.not_mem_nil, or_false] at hz
  rcases hs with rfl | rfl <;> rcases ht with rfl | rfl <;> rcases hz with rfl | rfl | rfl | rfl | rfl | rfl
  · exact all0 h hp
  · exact all1 h hp
  · exact all2 h hp
  · exact all3 h hp
  · exact all4 h hp
  · exact all5 h hp
  · exact all6 h hp
  · exact all7 h hp
  · exact all8 h hp
  · exact all9 h hp
  · exact all10 h hp
  · exact all11 h hp
  · exact all12 h hp
  · exact all13 h hp
  · exact all14 h hp
  · exact all15 h hp
  · exact all16 h hp
  · exact all17 h hp
  · exact all18 h hp
  · exact all19 h hp
  · exact all20 h hp
  · exact all21 h hp
  · exact all22 h hp
  · exact all23 h hp
/-- one number: its task, the task's number -/
theorem one_ok {x : Shp} (h : x.Ok) {n : Int} (h0 : 0 ≤ n) (h1 : n < prod (rows x)) : ∃ tk, m_tiny_task [x.D, .int n] = some tk ∧ m__law_tiny_task [x.D, .int n] = some tk ∧ m_tiny_number [x.D, tk] = some (.int n) ∧ m__law_like [.list [tk, .int n], .list [tk, .int n]] = some (.bool true) ∧
    ∀ (k : Nat) (st : DrawSt), StOk k st → k ≤ 100000 → ∃ b st' k', m__law_bent [x.D, tk] st = some (b, st') ∧ StOk k' st' ∧ k' ≤ k + 5 ∧ m_tiny_number [x.D, b] = some .none := by
  obtain ⟨tk, a1, a2, a3, a4, a5, a6, a7, a8, a9⟩ := (turn_ok h (picks_in n (all_rows h))).ex
  have hb : n < 10 ^ 150 := by
    have q1 := prod_small (rows x) (all_rows h)
    have q2 := rows_few h
    have q4 : ((10 ^ (rows x).length : Nat) : Int) ≤ ((10 ^ 24 : Nat) : Int) := Int.ofNat_le.mpr (Nat.pow_le_pow_right (by decide) q2)
    rw [Int.natCast_pow, Int.natCast_pow] at q4
    have q5 : (10 : Int) ^ (rows x).length ≤ 10 ^ 24 := q4
    omega
  refine ⟨tk, tiny_task_ok h h0 h1 a1, law_task_ok h n fun n' R w => a2 n' R w, tiny_number_ok h h0 h1 a5 a4 a3, like_ok ?_ ?_ ?_, a9⟩
  · unfold plainB plainB.plains
    rw [a6]
    unfold plainB.plains
    have : plainB (.int n) = true := by
      unfold plainB
      rw [decide_eq_true h0, decide_eq_true hb]
      rfl
    rw [this]
    rfl
  · show max tk.depth (max 0 0) + 1 ≤ 64
    omega
  · show (big tk + 2 + (150 + 2 + 0)) + 6 ≤ 16777216
    omega
theorem count_like {x : Shp} (h : x.Ok) : m__law_like [.int (prod (rows x)), .int (prod (rows x))] = some (.bool true) := by
  have q1 := prod_small (rows x) (all_rows h)
  have q0 := prod_pos (rows x) (all_rows h)
  have q2 := rows_few h
  have q4 : ((10 ^ (rows x).length : Nat) : Int) ≤ ((10 ^ 24 : Nat) : Int) := Int.ofNat_le.mpr (Nat.pow_le_pow_right (by decide) q2)
  rw [Int.natCast_pow, Int.natCast_pow] at q4
  have q5 : (10 : Int) ^ (rows x).length ≤ 10 ^ 24 := q4
  refine like_ok ?_ (by show 0 ≤ 64; decide) (by show 150 ≤ 16777216; decide)
  unfold plainB
  rw [decide_eq_true (by omega), decide_eq_true (by omega)]
  rfl
def lawI : M DrawSt Out := (seqM (asgM 7 (callP m_tiny_task (consD (nameM 3) (consD (nameM 6) nilM)))) (ifM (notT (bnd (callP m__law_like (consD (lstM (consD (nameM 7) (consD (callP m_tiny_number (consD (nameM 3) (consD (nameM 7) nilM))) nilM))) (consD (lstM (consD (callP m__law_tiny_task (consD (nameM 3) (consD (nameM 6) nilM))) (consD (nameM 6) nilM))) nilM))) boolO)) (retM (ret (.val (PyData.bool false)))) (ret .nx)))
def lawIt : M DrawSt (List D) := (iterM (lstM (consD (ret (.val (PyData.int 0))) (consD (op2 subD (nameM 4) (ret (.val (PyData.int 1)))) (consD (nameM 5) (consD (op2 modD (callM intD (consO (op2 addD (nameM 5) (ret (.val (PyData.int 1)))) nilM)) (nameM 4)) nilM))))))
def lawB : M DrawSt Out := (seqM (asgM 3 (DL.callD 1 m__law_shape nilM)) (seqM (asgM 4 (callP m__law_tiny_count (consD (nameM 3) nilM))) (seqM (ifM (notT (bnd (callP m__law_like (consD (callP m_tiny_count (consD (nameM 3) nilM)) (consD (nameM 4) nilM))) boolO)) (retM (ret (.val (PyData.bool false)))) (ret .nx)) (seqM (asgM 5 (DL.callD 1 m__law_draw (consD (nameM 4) nilM))) (seqM (loopM (iterM (lstM (consD (ret (.val (PyData.int 0))) (consD (op2 subD (nameM 4) (ret (.val (PyData.int 1)))) (consD (nameM 5) (consD (op2 modD (callM intD (consO (op2 addD (nameM 5) (ret (.val (PyData.int 1)))) nilM)) (nameM 4)) nilM)))))) (setM 6) (seqM (asgM 7 (callP m_tiny_task (consD (nameM 3) (consD (nameM 6) nilM)))) (ifM (notT (bnd (callP m__law_like (consD (lstM (consD (nameM 7) (consD (callP m_tiny_number (consD (nameM 3) (consD (nameM 7) nilM))) nilM))) (consD (lstM (consD (callP m__law_tiny_task (consD (nameM 3) (consD (nameM 6) nilM))) (consD (nameM 6) nilM))) nilM))) boolO)) (retM (ret (.val (PyData.bool false)))) (ret .nx)))) (ifM (bnd (op2 isNotD (callP m_tiny_number (consD (nameM 3) (consD (DL.callD 1 m__law_bent (consD (nameM 3) (consD (callP m__law_tiny_task (consD (nameM 3) (consD (nameM 5) nilM))) nilM))) nilM))) (ret (.val PyData.none))) boolO) (retM (ret (.val (PyData.bool false)))) (ret .nx)))))))
def lawTail : M DrawSt Out := (seqM (asgM 7 (tupM (consD (tupM (consD (tupM (consD (tupM (consD (ret (.val (PyData.int 1))) nilM)) (consD (tupM (consD (ret (.val PyData.none)) nilM)) nilM))) (consD (tupM (consD (tupM (consD (tupM (consD (tupM (consD (ret (.val (PyData.int 0))) nilM)) (consD (tupM (consD (ret (.val (PyData.int 0))) (consD (ret (.val (PyData.int 1))) nilM))) nilM))) (consD (ret (.val (PyData.int 1))) (consD (ret (.val (PyData.int 1))) nilM)))) nilM)) (consD (ret (.val (PyData.int 1))) (consD (ret (.val (PyData.int 1))) (consD (ret (.val (PyData.int 0))) nilM)))))) (consD (tupM (consD (tupM (consD (tupM (consD (tupM (consD (ret (.val (PyData.int 0))) (consD (tupM (consD (ret (.val (PyData.int 0))) nilM)) (consD (tupM nilM) (consD (ret (.val (PyData.int 1))) (consD (ret (.val (PyData.int 1))) nilM)))))) nilM)) (consD (tupM (consD (ret (.val PyData.none)) nilM)) nilM))) nilM)) nilM)))) (retM (callP m__law_like (consD (lstM (consD (callP m_tiny_count (consD (tupM (consD (ret (.val (PyData.int 1))) (consD (ret (.val (PyData.int 2))) (consD (ret (.val (PyData.int 1))) (consD (ret (.val (PyData.int 1))) (consD (ret (.val (PyData.int 0))) (consD (tupM (consD (ret (.val (PyData.int 1))) nilM)) (consD (ret (.val (PyData.int 1))) (consD (negM (ret (.val (PyData.int 1)))) nilM))))))))) nilM)) (consD (callP m_tiny_number (consD (tupM (consD (ret (.val (PyData.int 1))) (consD (ret (.val (PyData.int 2))) (consD (ret (.val (PyData.int 1))) (consD (ret (.val (PyData.int 1))) (consD (ret (.val (PyData.int 0))) (consD (tupM (consD (ret (.val (PyData.int 1))) nilM)) (consD (ret (.val (PyData.int 1))) (consD (negM (ret (.val (PyData.int 1)))) nilM))))))))) (consD (nameM 7) nilM))) nilM))) (consD (lstM (consD (ret (.val (PyData.int 12))) (consD (ret (.val (PyData.int 7))) nilM))) nilM)))))
theorem lawFF : F_law = seqM (loopM (rangeM (consO (op2 addD (ret (.val (PyData.int 3))) (callM minD (consO (lenScr 0) (consO (ret (.val (PyData.int 9))) nilM)))) nilM)) (setM 2) lawB) lawTail := rfl
abbrev envW (ns : List Int) (w2 w3 w4 w5 w6 w7 : Option Sl) (st : DrawSt) : Stt DrawSt := ⟨[some (.s ns), some .h, w2, w3, w4, w5, w6, w7], st⟩
theorem inner_ok {x : Shp} (h : x.Ok) {ns : List Int} {w2 w4 w5 w7 : Option Sl} {one : Int} {st : DrawSt} (h0 : 0 ≤ one) (h1 : one < prod (rows x)) : ∃ w7', lawI (envW ns w2 (some (.d x.D)) w4 w5 (some (.d (.int one))) w7 st) = some (.nx, envW ns w2 (some (.d x.D)) w4 w5 (some (.d (.int one))) w7' st) := by
  obtain ⟨tk, a1, a2, a3, a4, _⟩ := one_ok h h0 h1
  refine ⟨some (.d tk), ?_⟩
  simp [lawI, envW, seqM, ifM, notT, asgM, putM, setM, retM, valM, bnd, boolO, op2, lateM, nameM, getO, toD, lift, ret, callP, consD, nilM, lstM, fitsL, DL.callD, hAt, isNotD, isNoneB, PySem.sizeLine_eq, a1, a2, a3, a4]
theorem inners_ok {x : Shp} (h : x.Ok) {ns : List Int} {w2 w4 w5 : Option Sl} {st : DrawSt} : ∀ (os : List Int) (w6 w7 : Option Sl), (∀ o ∈ os, 0 ≤ o ∧ o < prod (rows x)) → ∃ w6' w7', Steps (setM 6) lawI (os.map .int) (envW ns w2 (some (.d x.D)) w4 w5 w6 w7 st) (envW ns w2 (some (.d x.D)) w4 w5 w6' w7' st)
  | [], w6, w7, _ => ⟨w6, w7, rfl⟩
  | o :: os, w6, w7, ho => by
    obtain ⟨o1, o2⟩ := ho o (by simp)
    obtain ⟨w7', e1⟩ := inner_ok h (ns := ns) (w2 := w2) (w4 := w4) (w5 := w5) (w7 := w7) (st := st) o1 o2
    obtain ⟨u6, u7, e2⟩ := inners_ok h (ns := ns) (w2 := w2) (w4 := w4) (w5 := w5) (st := st) os (some (.d (.int o))) w7' (fun z hz => ho z (by simp [hz]))
    exact ⟨u6, u7, _, _, rfl, e1, e2⟩
theorem lawB_ok {ns : List Int} {w2 w3 w4 w5 w6 w7 : Option Sl} {k : Nat} {st : DrawSt} (hs : StOk k st) (hk : k ≤ 10000) : ∃ u3 u4 u5 u6 u7 k' st', lawB (envW ns w2 w3 w4 w5 w6 w7 st) = some (.nx, envW ns w2 u3 u4 u5 u6 u7 st') ∧ StOk k' st' ∧ k' ≤ k + 20 := by
  obtain ⟨x, s1, e1, hx, o1⟩ := shape_ok hs (by omega)
  have hp := prod_pos (rows x) (all_rows hx)
  have hb : prod (rows x) < 2 ^ 4000 := by
    have q1 := prod_small (rows x) (all_rows hx)
    have q2 := rows_few hx
    have q4 : ((10 ^ (rows x).length : Nat) : Int) ≤ ((10 ^ 24 : Nat) : Int) := Int.ofNat_le.mpr (Nat.pow_le_pow_right (by decide) q2)
    rw [Int.natCast_pow, Int.natCast_pow] at q4
    have q5 : (10 : Int) ^ (rows x).length ≤ 10 ^ 24 := q4
    omega
  obtain ⟨n, s2, e2, n0, n1, o2⟩ := draw_ok o1 (by omega) hp hb
  have hm0 : 0 ≤ (n + 1) % prod (rows x) := Int.emod_nonneg _ (by omega)
  have hm1 : (n + 1) % prod (rows x) < prod (rows x) := Int.emod_lt_of_pos _ hp
  obtain ⟨v6, v7, e3⟩ := inners_ok hx (ns := ns) (w2 := w2) (w4 := some (.d (.int (prod (rows x))))) (w5 := some (.d (.int n))) (st := s2) [0, prod (rows x) - 1, n, (n + 1) % prod (rows x)] w6 w7 (fun o ho => by
    simp only [List.mem_cons, List.not_mem_nil, or_false] at ho
    rcases ho with rfl | rfl | rfl | rfl <;> omega)
  have e3 := e3.run
  simp only [List.map_cons, List.map_nil] at e3
  obtain ⟨tk, b1, b2, b3, b4, b5⟩ := one_ok hx n0 n1
  obtain ⟨b, s3, k3, e4, o3, l3, e5⟩ := b5 _ _ o2 (by omega)
  have i1 : lawIt (envW ns w2 (some (.d x.D)) (some (.d (.int (prod (rows x))))) (some (.d (.int n))) w6 w7 s2) = some ([.int 0, .int (prod (rows x) - 1), .int n, .int ((n + 1) % prod (rows x))], envW ns w2 (some (.d x.D)) (some (.d (.int (prod (rows x))))) (some (.d (.int n))) w6 w7 s2) := by
    simp [lawIt, envW, iterM, seqO, seqM, ifM, notT, asgM, putM, setM, retM, valM, bnd, boolO, op2, lateM, nameM, getO, toD, lift, ret, callP, consD, nilM, lstM, fitsL, DL.callD, hAt, isNotD, isNoneB, PySem.sizeLine_eq, subD, addD, orO, modD, modOk, DL.opI, callM, DL.intD, consO, getL, hp]
  have i2 : (loopM lawIt (setM 6) lawI) (envW ns w2 (some (.d x.D)) (some (.d (.int (prod (rows x))))) (some (.d (.int n))) w6 w7 s2) = some (.nx, envW ns w2 (some (.d x.D)) (some (.d (.int (prod (rows x))))) (some (.d (.int n))) v6 v7 s2) := by
    unfold loopM
    simp only [bnd, i1]
    exact e3
  have i3 := i2
  refine ⟨some (.d x.D), some (.d (.int (prod (rows x)))), some (.d (.int n)), v6, v7, k3, s3, ?_, o3, by omega⟩
  have hB : lawB = seqM (asgM 3 (DL.callD 1 m__law_shape nilM)) (seqM (asgM 4 (callP m__law_tiny_count (consD (nameM 3) nilM))) (seqM (ifM (notT (bnd (callP m__law_like (consD (callP m_tiny_count (consD (nameM 3) nilM)) (consD (nameM 4) nilM))) boolO)) (retM (ret (.val (PyData.bool false)))) (ret .nx)) (seqM (asgM 5 (DL.callD 1 m__law_draw (consD (nameM 4) nilM))) (seqM (loopM lawIt (setM 6) lawI) (ifM (bnd (op2 isNotD (callP m_tiny_number (consD (nameM 3) (consD (DL.callD 1 m__law_bent (consD (nameM 3) (consD (callP m__law_tiny_task (consD (nameM 3) (consD (nameM 5) nilM))) nilM))) nilM))) (ret (.val PyData.none))) boolO) (retM (ret (.val (PyData.bool false)))) (ret .nx)))))) := rfl
  rw [hB]
  have j1 : asgM 3 (DL.callD 1 m__law_shape nilM) (envW ns w2 w3 w4 w5 w6 w7 st) = some (.nx, envW ns w2 (some (.d x.D)) w4 w5 w6 w7 s1) := by simp [envW, seqM, ifM, notT, asgM, putM, setM, retM, valM, bnd, boolO, op2, lateM, nameM, getO, toD, lift, ret, callP, consD, nilM, lstM, fitsL, DL.callD, hAt, isNotD, isNoneB, PySem.sizeLine_eq, e1]
  have j2 : asgM 4 (callP m__law_tiny_count (consD (nameM 3) nilM)) (envW ns w2 (some (.d x.D)) w4 w5 w6 w7 s1) = some (.nx, envW ns w2 (some (.d x.D)) (some (.d (.int (prod (rows x))))) w5 w6 w7 s1) := by simp [envW, seqM, ifM, notT, asgM, putM, setM, retM, valM, bnd, boolO, op2, lateM, nameM, getO, toD, lift, ret, callP, consD, nilM, lstM, fitsL, DL.callD, hAt, isNotD, isNoneB, PySem.sizeLine_eq, law_count_ok hx]
  have j3 : (ifM (notT (bnd (callP m__law_like (consD (callP m_tiny_count (consD (nameM 3) nilM)) (consD (nameM 4) nilM))) boolO)) (retM (ret (.val (PyData.bool false)))) (ret .nx)) (envW ns w2 (some (.d x.D)) (some (.d (.int (prod (rows x))))) w5 w6 w7 s1) = some (.nx, envW ns w2 (some (.d x.D)) (some (.d (.int (prod (rows x))))) w5 w6 w7 s1) := by simp [envW, seqM, ifM, notT, asgM, putM, setM, retM, valM, bnd, boolO, op2, lateM, nameM, getO, toD, lift, ret, callP, consD, nilM, lstM, fitsL, DL.callD, hAt, isNotD, isNoneB, PySem.sizeLine_eq, tiny_count_ok hx, count_like hx]
  have j4 : asgM 5 (DL.callD 1 m__law_draw (consD (nameM 4) nilM)) (envW ns w2 (some (.d x.D)) (some (.d (.int (prod (rows x))))) w5 w6 w7 s1) = some (.nx, envW ns w2 (some (.d x.D)) (some (.d (.int (prod (rows x))))) (some (.d (.int n))) w6 w7 s2) := by simp [envW, seqM, ifM, notT, asgM, putM, setM, retM, valM, bnd, boolO, op2, lateM, nameM, getO, toD, lift, ret, callP, consD, nilM, lstM, fitsL, DL.callD, hAt, isNotD, isNoneB, PySem.sizeLine_eq, e2]
  have j6 : (ifM (bnd (op2 isNotD (callP m_tiny_number (consD (nameM 3) (consD (DL.callD 1 m__law_bent (consD (nameM 3) (consD (callP m__law_tiny_task (consD (nameM 3) (consD (nameM 5) nilM))) nilM))) nilM))) (ret (.val PyData.none))) boolO) (retM (ret (.val (PyData.bool false)))) (ret .nx)) (envW ns w2 (some (.d x.D)) (some (.d (.int (prod (rows x))))) (some (.d (.int n))) v6 v7 s2) = some (.nx, envW ns w2 (some (.d x.D)) (some (.d (.int (prod (rows x))))) (some (.d (.int n))) v6 v7 s3) := by simp [envW, seqM, ifM, notT, asgM, putM, setM, retM, valM, bnd, boolO, op2, lateM, nameM, getO, toD, lift, ret, callP, consD, nilM, lstM, fitsL, DL.callD, hAt, isNotD, isNoneB, PySem.sizeLine_eq, b2, e4, e5]
  unfold seqM
  simp only [bnd, j1, j2, j3, j4, i2, j6]
theorem turns_ok {ns : List Int} : ∀ (ts : List D) (k : Nat) (w2 w3 w4 w5 w6 w7 : Option Sl) (st : DrawSt), StOk k st → k + 20 * ts.length ≤ 10000 → ∃ u2 u3 u4 u5 u6 u7 st', Steps (setM 2) lawB ts (envW ns w2 w3 w4 w5 w6 w7 st) (envW ns u2 u3 u4 u5 u6 u7 st')
  | [], k, w2, w3, w4, w5, w6, w7, st, _, _ => ⟨w2, w3, w4, w5, w6, w7, st, rfl⟩
  | y :: ts, k, w2, w3, w4, w5, w6, w7, st, hs, hk => by
    rw [List.length_cons] at hk
    obtain ⟨u3, u4, u5, u6, u7, k', st', e1, o1, l1⟩ := lawB_ok (ns := ns) (w2 := some (.d y)) (w3 := w3) (w4 := w4) (w5 := w5) (w6 := w6) (w7 := w7) hs (by omega)
    obtain ⟨v2, v3, v4, v5, v6, v7, st2, e2⟩ := turns_ok (ns := ns) ts k' (some (.d y)) u3 u4 u5 u6 u7 st' o1 (by omega)
    exact ⟨v2, v3, v4, v5, v6, v7, st2, _, _, rfl, e1, e2⟩
def shE : D := .tuple [.int 1, .int 2, .int 1, .int 1, .int 0, .tuple [.int 1], .int 1, .int (-1)]
def tkE : D := .tuple [.tuple [.tuple [.tuple [.int 1], .tuple [.none]], .tuple [.tuple [.tuple [.tuple [.int 0], .tuple [.int 0, .int 1]], .int 1, .int 1]], .int 1, .int 1, .int 0], .tuple [.tuple [.tuple [.tuple [.int 0, .tuple [.int 0], .tuple [], .int 1, .int 1]], .tuple [.none]]]]
theorem end1 : m_tiny_count [shE] = some (.int 12) := by kernel_rfl
theorem end2 : m_tiny_number [shE, tkE] = some (.int 7) := by kernel_rfl
theorem end3 : m__law_like [.list [.int 12, .int 7], .list [.int 12, .int 7]] = some (.bool true) := like_ok (by rfl) (by decide) (by decide)
theorem tail_ok {ns : List Int} {w2 w3 w4 w5 w6 w7 : Option Sl} {st : DrawSt} : ∃ s', lawTail (envW ns w2 w3 w4 w5 w6 w7 st) = some (.rt (.bool true), s') := by
  have e1 := end1
  have e2 := end2
  have e3 := end3
  unfold shE at e1 e2
  unfold tkE at e2
  exact ⟨_, by simp [lawTail, envW, seqM, ifM, notT, asgM, putM, setM, retM, valM, bnd, boolO, op2, lateM, nameM, getO, toD, lift, ret, callP, consD, nilM, lstM, fitsL, DL.callD, hAt, isNotD, isNoneB, PySem.sizeLine_eq, tupM, negM, e1, e2, e3]; rfl⟩
theorem law_math : RunsTrue 6 m__law_folded F_law := by
  intro ns hl
  obtain ⟨cs, e1, hc⟩ := folded_ok ns
  refine ⟨cs, ?_⟩
  have o0 : StOk 0 ⟨cs, greatOf ns, 0⟩ := ⟨hc.1, hc.2, Int.le_refl _, Int.le_refl _⟩
  have hm : ∃ m : Int, 3 ≤ m ∧ m ≤ 12 ∧ rangeM (consO (op2 addD (ret (.val (PyData.int 3))) (callM minD (consO (lenScr 0) (consO (ret (.val (PyData.int 9))) nilM)))) nilM) (envW ns none none none none none none ⟨cs, greatOf ns, 0⟩) = some (rgD 0 m, envW ns none none none none none none ⟨cs, greatOf ns, 0⟩) := by
    refine ⟨3 + (if (9 : Int) < ((ns.length : Nat) : Int) then (9 : Int) else ((ns.length : Nat) : Int)), ?_, ?_, ?_⟩
    · split <;> omega
    · split <;> omega
    · have hr : rgOk 0 (3 + (if (9 : Int) < ((ns.length : Nat) : Int) then (9 : Int) else ((ns.length : Nat) : Int))) = true := by
        unfold rgOk
        split <;> simp <;> omega
      simp [rangeM, intsM, rng2, envW, seqM, ifM, notT, asgM, putM, setM, retM, valM, bnd, boolO, op2, lateM, nameM, getO, toD, lift, ret, callP, consD, nilM, lstM, fitsL, DL.callD, hAt, isNotD, isNoneB, PySem.sizeLine_eq, consO, getL, callM, minD, lenScr, scrAt, addD, orO, DL.opI, hr]
  obtain ⟨m, m1, m2, em⟩ := hm
  have hlen : (rgD 0 m).length ≤ 12 := by
    unfold rgD
    rw [List.length_map, List.length_range]
    omega
  obtain ⟨u2, u3, u4, u5, u6, u7, st', e2⟩ := turns_ok (ns := ns) (rgD 0 m) 0 none none none none none none _ o0 (by omega)
  obtain ⟨s', e3⟩ := tail_ok (ns := ns) (w2 := u2) (w3 := u3) (w4 := u4) (w5 := u5) (w6 := u6) (w7 := u7) (st := st')
  refine ⟨s', e1, ?_⟩
  rw [lawFF]
  show seqM _ _ (envW ns none none none none none none ⟨cs, greatOf ns, 0⟩) = _
  unfold seqM loopM
  simp only [bnd, em, e2.run, e3]
end LW
end

section
set_option Elab.async false
set_option linter.all false
set_option maxRecDepth 100000
set_option maxHeartbeats 3999999
open DL L2 PySem PyProof.Rows PySem.Spec
namespace LW
def fns : List He.DefD := [⟨("is_whole", none), "is_whole", "is_whole", defArgs s_is_whole, defBody s_is_whole, defScope s_is_whole, [], []⟩, ⟨("is_within", none), "is_within", "is_within", defArgs s_is_within, defBody s_is_within, defScope s_is_within, [], []⟩, ⟨("is_tuple_of", none), "is_tuple_of", "is_tuple_of", defArgs s_is_tuple_of, defBody s_is_tuple_of, defScope s_is_tuple_of, [], []⟩, ⟨("is_shape", none), "is_shape", "is_shape", defArgs s_is_shape, defBody s_is_shape, defScope s_is_shape, [], []⟩, ⟨("need_shape", none), "need_shape", "need_shape", defArgs s_need_shape, defBody s_need_shape, defScope s_need_shape, [], []⟩, ⟨("lab_choices", none), "lab_choices", "lab_choices", defArgs s_lab_choices, defBody s_lab_choices, defScope s_lab_choices, [], []⟩, ⟨("spans_of", none), "spans_of", "spans_of", defArgs s_spans_of, defBody s_spans_of, defScope s_spans_of, [], []⟩, ⟨("step_choices", none), "step_choices", "step_choices", defArgs s_step_choices, defBody s_step_choices, defScope s_step_choices, [], []⟩, ⟨("choices_of", none), "choices_of", "choices_of", defArgs s_choices_of, defBody s_choices_of, defScope s_choices_of, [], []⟩, ⟨("free_count", none), "free_count", "free_count", defArgs s_free_count, defBody s_free_count, defScope s_free_count, [], []⟩, ⟨("tiny_count", none), "tiny_count", "tiny_count", defArgs s_tiny_count, defBody s_tiny_count, defScope s_tiny_count, [], []⟩, ⟨("lab_of", none), "lab_of", "lab_of", defArgs s_lab_of, defBody s_lab_of, defScope s_lab_of, [], []⟩, ⟨("sample_of", none), "sample_of", "sample_of", defArgs s_sample_of, defBody s_sample_of, defScope s_sample_of, [], []⟩, ⟨("task_of", none), "task_of", "task_of", defArgs s_task_of, defBody s_task_of, defScope s_task_of, [], []⟩, ⟨("free_task", none), "free_task", "free_task", defArgs s_free_task, defBody s_free_task, defScope s_free_task, [], []⟩, ⟨("tiny_task", none), "tiny_task", "tiny_task", defArgs s_tiny_task, defBody s_tiny_task, defScope s_tiny_task, [], []⟩, ⟨("picks_of", none), "picks_of", "picks_of", defArgs s_picks_of, defBody s_picks_of, defScope s_picks_of, [], []⟩, ⟨("has_sizes", none), "has_sizes", "has_sizes", defArgs s_has_sizes, defBody s_has_sizes, defScope s_has_sizes, [], []⟩, ⟨("free_number", none), "free_number", "free_number", defArgs s_free_number, defBody s_free_number, defScope s_free_number, [], []⟩, ⟨("is_tuple_to", none), "is_tuple_to", "is_tuple_to", defArgs s_is_tuple_to, defBody s_is_tuple_to, defScope s_is_tuple_to, [], []⟩, ⟨("first_descent", none), "first_descent", "first_descent", defArgs s_first_descent, defBody s_first_descent, defScope s_first_descent, [], []⟩, ⟨("meets_fault", none), "meets_fault", "meets_fault", defArgs s_meets_fault, defBody s_meets_fault, defScope s_meets_fault, [], []⟩, ⟨("wash_fault", none), "wash_fault", "wash_fault", defArgs s_wash_fault, defBody s_wash_fault, defScope s_wash_fault, [], []⟩, ⟨("lab_fault", none), "lab_fault", "lab_fault", defArgs s_lab_fault, defBody s_lab_fault, defScope s_lab_fault, [], []⟩, ⟨("step_fault", none), "step_fault", "step_fault", defArgs s_step_fault, defBody s_step_fault, defScope s_step_fault, [], []⟩, ⟨("sample_fault", none), "sample_fault", "sample_fault", defArgs s_sample_fault, defBody s_sample_fault, defScope s_sample_fault, [], []⟩, ⟨("task_fault", none), "task_fault", "task_fault", defArgs s_task_fault, defBody s_task_fault, defScope s_task_fault, [], []⟩, ⟨("need_task", none), "need_task", "need_task", defArgs s_need_task, defBody s_need_task, defScope s_need_task, [], []⟩, ⟨("tiny_number", none), "tiny_number", "tiny_number", defArgs s_tiny_number, defBody s_tiny_number, defScope s_tiny_number, [], []⟩, ⟨("_law_mixed", none), "_law_mixed", "_law_mixed", defArgs s__law_mixed, defBody s__law_mixed, defScope s__law_mixed, [], []⟩, ⟨("_law_folded", none), "_law_folded", "_law_folded", defArgs s__law_folded, defBody s__law_folded, defScope s__law_folded, [], []⟩, ⟨("_law_draw", none), "_law_draw", "_law_draw", defArgs s__law_draw, defBody s__law_draw, defScope s__law_draw, [], []⟩, ⟨("_law_begun", none), "_law_begun", "_law_begun", defArgs s__law_begun, defBody s__law_begun, defScope s__law_begun, [], []⟩, ⟨("_law_like", none), "_law_like", "_law_like", defArgs s__law_like, defBody s__law_like, defScope s__law_like, [], []⟩, ⟨("_law_of", none), "_law_of", "_law_of", defArgs s__law_of, defBody s__law_of, defScope s__law_of, [], []⟩, ⟨("_law_tiny_spans", none), "_law_tiny_spans", "_law_tiny_spans", defArgs s__law_tiny_spans, defBody s__law_tiny_spans, defScope s__law_tiny_spans, [], []⟩, ⟨("_law_tiny_rows", none), "_law_tiny_rows", "_law_tiny_rows", defArgs s__law_tiny_rows, defBody s__law_tiny_rows, defScope s__law_tiny_rows, [], []⟩, ⟨("_law_tiny_count", none), "_law_tiny_count", "_law_tiny_count", defArgs s__law_tiny_count, defBody s__law_tiny_count, defScope s__law_tiny_count, [], []⟩, ⟨("_law_tiny_task", none), "_law_tiny_task", "_law_tiny_task", defArgs s__law_tiny_task, defBody s__law_tiny_task, defScope s__law_tiny_task, [], []⟩, ⟨("_law_shape", none), "_law_shape", "_law_shape", defArgs s__law_shape, defBody s__law_shape, defScope s__law_shape, [], []⟩, ⟨("_law_item", none), "_law_item", "_law_item", defArgs s__law_item, defBody s__law_item, defScope s__law_item, [], []⟩, ⟨("_law_step_with", none), "_law_step_with", "_law_step_with", defArgs s__law_step_with, defBody s__law_step_with, defScope s__law_step_with, [], []⟩, ⟨("_law_window_with", none), "_law_window_with", "_law_window_with", defArgs s__law_window_with, defBody s__law_window_with, defScope s__law_window_with, [], []⟩, ⟨("_law_wash_with", none), "_law_wash_with", "_law_wash_with", defArgs s__law_wash_with, defBody s__law_wash_with, defScope s__law_wash_with, [], []⟩, ⟨("_law_arms", none), "_law_arms", "_law_arms", defArgs s__law_arms, defBody s__law_arms, defScope s__law_arms, [], []⟩, ⟨("_law_bent_more", none), "_law_bent_more", "_law_bent_more", defArgs s__law_bent_more, defBody s__law_bent_more, defScope s__law_bent_more, [], []⟩, ⟨("_law_bent", none), "_law_bent", "_law_bent", defArgs s__law_bent, defBody s__law_bent, defScope s__law_bent, [], []⟩, ⟨("law", none), "law", "law", defArgs s_law, defBody s_law, defScope s_law, [], []⟩]
def fas : List He.Fa := [.glo "is_whole", .glo "is_within", .glo "is_tuple_of", .glo "is_shape", .glo "need_shape", .glo "lab_choices", .glo "spans_of", .glo "step_choices", .glo "choices_of", .glo "free_count", .glo "tiny_count", .glo "lab_of", .glo "sample_of", .glo "task_of", .glo "free_task", .glo "tiny_task", .glo "picks_of", .glo "has_sizes", .glo "free_number", .glo "is_tuple_to", .glo "first_descent", .glo "meets_fault", .glo "wash_fault", .glo "lab_fault", .glo "step_fault", .glo "sample_fault", .glo "task_fault", .glo "need_task", .glo "tiny_number", .glo "_law_mixed", .glo "_law_folded", .glo "_law_draw", .glo "_law_begun", .glo "_law_like", .glo "_law_of", .glo "_law_tiny_spans", .glo "_law_tiny_rows", .glo "_law_tiny_count", .glo "_law_tiny_task", .glo "_law_shape", .glo "_law_item", .glo "_law_step_with", .glo "_law_window_with", .glo "_law_wash_with", .glo "_law_arms", .glo "_law_bent_more", .glo "_law_bent", .glo "law", .free "all", .free "bool", .free "enumerate", .free "int", .free "isinstance", .free "len", .free "list", .free "min", .free "range", .free "repr", .free "tuple", .free "zip", .int "MOST_ARMS" (3), .int "MOST_RESULTS" (3), .int "MOST_SAMPLES" (4), .int "MOST_STATES" (8), .int "MOST_STEPS" (4), .int "MOST_STUFFS" (8), .int "MOST_TICKS" (6), .int "MOST_TOOLS" (3), .int "MOST_WASHES" (3), .int "MOST_WINDOW" (6), .int "MOST_ZONES" (4)]
def css : List (Str × D) := [("BOUNDS", (PyData.tuple [(PyData.tuple [(PyData.int 1), (PyData.int 2)]), (PyData.tuple [(PyData.int 1), (PyData.int 2)]), (PyData.tuple [(PyData.int 1), (PyData.int 2)]), (PyData.tuple [(PyData.int 1), (PyData.int 2)]), (PyData.tuple [(PyData.int 0), (PyData.int 1)])])), ("SPANS", (PyData.tuple [(PyData.tuple [(PyData.int 1), (PyData.int 1)]), (PyData.tuple [(PyData.int 1), (PyData.int 2)]), (PyData.tuple [(PyData.int 2), (PyData.int 2)])]))]
theorem top_ok {K : Frag} {h : Heap} {mg : Str → Option Value} (X : K.In h) (G : h.Ns mainGlobals mg) (c : SaysX fas css fns K) : Top K mg where
  h_is_whole := c.has X G 0 0 rfl rfl fun _ _ _ _ _ _ us hl => match us, hl with | [_], _ => rfl
  h_is_within := c.has X G 1 1 rfl rfl fun _ _ _ _ _ _ us hl => match us, hl with | [_, _, _], _ => rfl
  h_is_tuple_of := c.has X G 2 2 rfl rfl fun _ _ _ _ _ _ us hl => match us, hl with | [_, _], _ => rfl
  h_is_shape := c.has X G 3 3 rfl rfl fun _ _ _ _ _ _ us hl => match us, hl with | [_], _ => rfl
  h_need_shape := c.has X G 4 4 rfl rfl fun _ _ _ _ _ _ us hl => match us, hl with | [_], _ => rfl
  h_lab_choices := c.has X G 5 5 rfl rfl fun _ _ _ _ _ _ us hl => match us, hl with | [_], _ => rfl
  h_spans_of := c.has X G 6 6 rfl rfl fun _ _ _ _ _ _ us hl => match us, hl with | [_], _ => rfl
  h_step_choices := c.has X G 7 7 rfl rfl fun _ _ _ _ _ _ us hl => match us, hl with | [_, _], _ => rfl
  h_choices_of := c.has X G 8 8 rfl rfl fun _ _ _ _ _ _ us hl => match us, hl with | [_], _ => rfl
  h_free_count := c.has X G 9 9 rfl rfl fun _ _ _ _ _ _ us hl => match us, hl with | [_], _ => rfl
  h_tiny_count := c.has X G 10 10 rfl rfl fun _ _ _ _ _ _ us hl => match us, hl with | [_], _ => rfl
  h_lab_of := c.has X G 11 11 rfl rfl fun _ _ _ _ _ _ us hl => match us, hl with | [_, _], _ => rfl
  h_sample_of := c.has X G 12 12 rfl rfl fun _ _ _ _ _ _ us hl => match us, hl with | [_, _], _ => rfl
  h_task_of := c.has X G 13 13 rfl rfl fun _ _ _ _ _ _ us hl => match us, hl with | [_, _], _ => rfl
  h_free_task := c.has X G 14 14 rfl rfl fun _ _ _ _ _ _ us hl => match us, hl with | [_, _], _ => rfl
  h_tiny_task := c.has X G 15 15 rfl rfl fun _ _ _ _ _ _ us hl => match us, hl with | [_, _], _ => rfl
  h_picks_of := c.has X G 16 16 rfl rfl fun _ _ _ _ _ _ us hl => match us, hl with | [_, _], _ => rfl
  h_has_sizes := c.has X G 17 17 rfl rfl fun _ _ _ _ _ _ us hl => match us, hl with | [_, _], _ => rfl
  h_free_number := c.has X G 18 18 rfl rfl fun _ _ _ _ _ _ us hl => match us, hl with | [_, _], _ => rfl
  h_is_tuple_to := c.has X G 19 19 rfl rfl fun _ _ _ _ _ _ us hl => match us, hl with | [_, _, _], _ => rfl
  h_first_descent := c.has X G 20 20 rfl rfl fun _ _ _ _ _ _ us hl => match us, hl with | [_, _], _ => rfl
  h_meets_fault := c.has X G 21 21 rfl rfl fun _ _ _ _ _ _ us hl => match us, hl with | [_], _ => rfl
  h_wash_fault := c.has X G 22 22 rfl rfl fun _ _ _ _ _ _ us hl => match us, hl with | [_, _], _ => rfl
  h_lab_fault := c.has X G 23 23 rfl rfl fun _ _ _ _ _ _ us hl => match us, hl with | [_], _ => rfl
  h_step_fault := c.has X G 24 24 rfl rfl fun _ _ _ _ _ _ us hl => match us, hl with | [_, _], _ => rfl
  h_sample_fault := c.has X G 25 25 rfl rfl fun _ _ _ _ _ _ us hl => match us, hl with | [_, _], _ => rfl
  h_task_fault := c.has X G 26 26 rfl rfl fun _ _ _ _ _ _ us hl => match us, hl with | [_], _ => rfl
  h_need_task := c.has X G 27 27 rfl rfl fun _ _ _ _ _ _ us hl => match us, hl with | [_], _ => rfl
  h_tiny_number := c.has X G 28 28 rfl rfl fun _ _ _ _ _ _ us hl => match us, hl with | [_, _], _ => rfl
  h__law_mixed := c.has X G 29 29 rfl rfl fun _ _ _ _ _ _ us hl => match us, hl with | [_, _], _ => rfl
  h__law_folded := c.has X G 30 30 rfl rfl fun _ _ _ _ _ _ us hl => match us, hl with | [_], _ => rfl
  h__law_draw := c.has X G 31 31 rfl rfl fun _ _ _ _ _ _ us hl => match us, hl with | [_, _], _ => rfl
  h__law_begun := c.has X G 32 32 rfl rfl fun _ _ _ _ _ _ us hl => match us, hl with | [_], _ => rfl
  h__law_like := c.has X G 33 33 rfl rfl fun _ _ _ _ _ _ us hl => match us, hl with | [_, _], _ => rfl
  h__law_of := c.has X G 34 34 rfl rfl fun _ _ _ _ _ _ us hl => match us, hl with | [_, _], _ => rfl
  h__law_tiny_spans := c.has X G 35 35 rfl rfl fun _ _ _ _ _ _ us hl => match us, hl with | [_], _ => rfl
  h__law_tiny_rows := c.has X G 36 36 rfl rfl fun _ _ _ _ _ _ us hl => match us, hl with | [_], _ => rfl
  h__law_tiny_count := c.has X G 37 37 rfl rfl fun _ _ _ _ _ _ us hl => match us, hl with | [_], _ => rfl
  h__law_tiny_task := c.has X G 38 38 rfl rfl fun _ _ _ _ _ _ us hl => match us, hl with | [_, _], _ => rfl
  h__law_shape := c.has X G 39 39 rfl rfl fun _ _ _ _ _ _ us hl => match us, hl with | [_], _ => rfl
  h__law_item := c.has X G 40 40 rfl rfl fun _ _ _ _ _ _ us hl => match us, hl with | [_, _, _], _ => rfl
  h__law_step_with := c.has X G 41 41 rfl rfl fun _ _ _ _ _ _ us hl => match us, hl with | [_, _, _, _], _ => rfl
  h__law_window_with := c.has X G 42 42 rfl rfl fun _ _ _ _ _ _ us hl => match us, hl with | [_, _, _, _], _ => rfl
  h__law_wash_with := c.has X G 43 43 rfl rfl fun _ _ _ _ _ _ us hl => match us, hl with | [_, _, _], _ => rfl
  h__law_arms := c.has X G 44 44 rfl rfl fun _ _ _ _ _ _ us hl => match us, hl with | [_, _], _ => rfl
  h__law_bent_more := c.has X G 45 45 rfl rfl fun _ _ _ _ _ _ us hl => match us, hl with | [_, _, _, _], _ => rfl
  h__law_bent := c.has X G 46 46 rfl rfl fun _ _ _ _ _ _ us hl => match us, hl with | [_, _, _], _ => rfl
  h_law := c.has X G 47 47 rfl rfl fun _ _ _ _ _ _ us hl => match us, hl with | [_], _ => rfl
  n_all := c.free X G 48 rfl
  n_bool := c.free X G 49 rfl
  n_enumerate := c.free X G 50 rfl
  n_int := c.free X G 51 rfl
  n_isinstance := c.free X G 52 rfl
  n_len := c.free X G 53 rfl
  n_list := c.free X G 54 rfl
  n_min := c.free X G 55 rfl
  n_range := c.free X G 56 rfl
  n_repr := c.free X G 57 rfl
  n_tuple := c.free X G 58 rfl
  n_zip := c.free X G 59 rfl
  g_BOUNDS := c.con X G 0 rfl
  g_MOST_ARMS := c.int X G 60 rfl
  g_MOST_RESULTS := c.int X G 61 rfl
  g_MOST_SAMPLES := c.int X G 62 rfl
  g_MOST_STATES := c.int X G 63 rfl
  g_MOST_STEPS := c.int X G 64 rfl
  g_MOST_STUFFS := c.int X G 65 rfl
  g_MOST_TICKS := c.int X G 66 rfl
  g_MOST_TOOLS := c.int X G 67 rfl
  g_MOST_WASHES := c.int X G 68 rfl
  g_MOST_WINDOW := c.int X G 69 rfl
  g_MOST_ZONES := c.int X G 70 rfl
  g_SPANS := c.con X G 1 rfl
def names0 : List Str := ["__name__", "LabError", "BadNumber", "BadTask", "BadShape", "is_whole", "is_within", "is_tuple_of", "SPANS", "BOUNDS", "is_shape", "need_shape", "lab_choices", "spans_of", "step_choices", "choices_of", "free_count", "tiny_count", "lab_of", "sample_of", "task_of", "free_task", "tiny_task", "picks_of"]
def names1 : List Str := ["has_sizes", "free_number", "MOST_STATES", "MOST_STUFFS", "MOST_WASHES", "MOST_RESULTS", "MOST_TICKS", "MOST_TOOLS", "MOST_ARMS", "MOST_ZONES", "is_tuple_to", "first_descent", "meets_fault", "wash_fault", "lab_fault", "MOST_SAMPLES", "MOST_STEPS", "MOST_WINDOW", "step_fault", "sample_fault", "task_fault", "need_task", "tiny_number", "_law_mixed"]
def names2 : List Str := ["_law_folded", "_law_draw", "_law_begun", "_law_like", "_law_of", "_law_tiny_spans", "_law_tiny_rows", "_law_tiny_count", "_law_tiny_task", "_law_shape", "_law_item", "_law_step_with", "_law_window_with", "_law_wash_with", "_law_arms", "_law_bent_more", "_law_bent"]
def names : List Str := names0 ++ names1 ++ names2
abbrev RR : PySem.W.OpenRow := PySem.W.OpenLaw.row PySem.Challenge.rw_washedarms_k72_whole_tiny_tasks_by_numbe
abbrev hkx : PySem.W.Hook := hookX 4 fas css fns
def obx (s : PySem.W.SharedT) : He.AlD := obsXG 4 fas css fns (HandSHeadRun.getT s)
theorem obx_eq (s : PySem.W.SharedT) : obx s = hkx.obs s.abs := obsXG_eq (HandSHeadRun.getT_eq s)
set_option maxHeartbeats 0 in
theorem run_top (w : World) : HandSHeadRun.RunEq RR (PySem.W.view RR.prog [71]) hkx obx 20000 names w := by
  intro os
  kernel_rfl
end LW
open PyProof.Rows PySem PySem.Calls PySem.W
set_option maxHeartbeats 0 in
theorem PySem.Challenge.cw_washedarms_k72_whole_tiny_tasks_by_numbe_holds : PySem.Challenge.rw_washedarms_k72_whole_tiny_tasks_by_numbe.Holds := by
  w_on; o_law
  refine HandSHeadRun.head_any (r := LW.RR) (q := view LW.RR.prog [71]) (H := LW.hkx) (ob := LW.obx) (M := 20000) (loose := LW.names) (d := HandSHeadRun.topDef LW.RR.prog 71) (kwd := []) LW.obx_eq (by kernel_rfl) (fun s => by kernel_rfl) LW.run_top (by kernel_rfl) (by kernel_rfl) (by kernel_rfl) (by rfl) (by first | assumption | decide +kernel) (by decide +kernel) ⟨rfl, rfl, rfl, rfl, rfl, by decide +kernel⟩ ?hw ?hc
  case hw => w_witness2
  case hc =>
    exact DL.walkX (l := PySem.Challenge.rw_washedarms_k72_whole_tiny_tasks_by_numbe) (k := 9) rfl (by kernel_rfl) ⟨rfl, by decide, by decide⟩ (by kernel_rfl) fun P w K mg h X G c base => LW.d_law (LW.top_ok X G c) LW.law_math
#print axioms PySem.Challenge.cw_washedarms_k72_whole_tiny_tasks_by_numbe_holds
end
