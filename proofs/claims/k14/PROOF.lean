import PyProof.Rows.All
import Wide.All
import OpenK.AllK
import Wide.FinOn
import HandS.ForMost
import HandS.Style
import HandS.Conv
import HandS.Walk
import HandS.TupAny
import HandS.TupMul
import HandS.Deep
import HandS.IsInst
import HandS.Wide
import HandS.WideMore
import HandS.Zip
import PyProof.ReprRoads
import KE.GoesNew
import KE.GoesMore
import KE.KStateDown
import HandS.Head0
import HandS.Head1
import HandS.Head2
import HandS.HeadEnd
import HandS.HeadHook1
import HandS.HeadHook2
import HandS.SortInts
import HandS.SetFor
import HandS.Strs
import KE.KExcSuper
import HandS.Exc
import HandS.ExcInit
import HandS.ExcOwn
import HandS.TryMany
import HandS.ExcField
import PySem.Challenge.RW_washedarms_k14_whole_free_rows_numbered
section
set_option Elab.async false
set_option linter.all false
set_option maxRecDepth 100000
set_option maxHeartbeats 3999999
/-! WEng1: values as data, slots, states, the relations between them and the abstract heap -/
namespace L2
open PySem PySem.Spec PyProof.Rows
theorem Same.upd {H : Hp} {p : Addr} {o : HO} (n : H p = none) : Same H (upd H p o) := fun b u e => by rw [upd_ne (ne_of_none e n)]; exact e
end L2
namespace DL
open L2 PySem PyProof.Rows PySem.Spec

abbrev D := PyData
abbrev Frag := PySem.W.Frag

/-- what a slot holds: a datum, a list of its own (no one else knows it), the handle of the drawn numbers -/
inductive Sl where
  | d (x : D) | own (xs : List D) | h | s (ns : List Int) | r (lo hi : Int)
/-- what an expression hands on: a datum, the list that a slot owns, a new list -/
inductive Opd where
  | val (x : D) | slot (i : Nat) | new (xs : List D)
/-- where a statement goes on -/
inductive Out where
  | nx | bk | ct | rt (x : D) | rn (xs : List D)
structure Stt (τ : Type) where
  env : List (Option Sl)
  dr : τ
abbrev M (τ α : Type) := Stt τ → Option (α × Stt τ)
variable {τ α β : Type}
def ret (a : α) : M τ α := fun s => some (a, s)
def stuck : M τ α := fun _ => none
def bnd (m : M τ α) (f : α → M τ β) : M τ β := fun s => match m s with
  | none => none
  | some (a, s') => f a s'
def lift (o : Option α) : M τ α := fun s => match o with
  | none => none
  | some a => some (a, s)
/-- the datum of an operand, as it stands -/
def getO (o : Opd) : M τ D := fun s => match o with
  | .val x => some (x, s)
  | .new xs => some (.list xs, s)
  | .slot i => match s.env[i]? with
    | some (some (.d x)) => some (x, s)
    | some (some (.own xs)) => some (.list xs, s)
    | _ => none
/-- the datum of an operand, shared from now on -/
def toD (o : Opd) : M τ D := fun s => match o with
  | .val x => some (x, s)
  | .new xs => some (.list xs, s)
  | .slot i => match s.env[i]? with
    | some (some (.d x)) => some (x, s)
    | some (some (.own xs)) => some (.list xs, { s with env := s.env.set i (some (.d (.list xs))) })
    | _ => none
def valM (F : M τ Opd) : M τ D := bnd F toD
/-- a new list is shared, a slot stays a slot -/
def lateM (F : M τ Opd) : M τ Opd := bnd F fun o => match o with
  | .new xs => ret (.val (.list xs))
  | .val x => ret (.val x)
  | .slot i => ret (.slot i)

/-- the drawn numbers' state: its handle, the objects that change, how it stands in the heap -/
structure Dr (τ : Type) where
  hv : V
  R : Addr → Prop
  At : τ → Hp → Prop
  stay : ∀ st H H', At st H → (∀ b o, R b → H b = some o → H' b = some o) → At st H'
  live : ∀ st H b, At st H → R b → H b ≠ none
def dr0 : Dr Unit := ⟨.non, fun _ => False, fun _ _ => True, fun _ _ _ _ _ => trivial, fun _ _ _ _ h => h.elim⟩

structure Bd (τ : Type) where
  dr : Dr τ
  H0 : Hp
  S0 : Hp

/-- the heap grows: all stands, what is shared grows by new objects alone -/
structure Grow (H S H' S' : Hp) : Prop where
  h : Same H H'
  s : Same S S'
  sub : Same S' H'
  new : ∀ b o, S' b = some o → S b = none → H b = none
theorem Grow.refl {H S : Hp} (h : Same S H) : Grow H S H S := ⟨Same.refl _, Same.refl _, h, fun b o e n => by rw [n] at e; cases e⟩
theorem Grow.trans {H S H1 S1 H2 S2 : Hp} (a : Grow H S H1 S1) (b : Grow H1 S1 H2 S2) : Grow H S H2 S2 :=
  ⟨a.h.trans b.h, a.s.trans b.s, b.sub, fun c o e n => by
    cases q : S1 c with
    | some u => exact a.new c u q n
    | none => exact a.h.free (b.new c o e q)⟩
theorem Grow.alloc {H S : Hp} {p : Addr} {o : HO} (h : Same S H) (n : H p = none) : Grow H S (upd H p o) (upd S p o) := by
  have ns : S p = none := h.free n
  refine ⟨Same.upd n, Same.upd ns, fun b u e => ?_, fun b u e n' => ?_⟩
  · by_cases hb : b = p
    · subst hb; rw [upd_same] at e ⊢; exact e
    · rw [upd_ne hb] at e ⊢; exact h b u e
  · by_cases hb : b = p
    · subst hb; exact n
    · rw [upd_ne hb, n'] at e; cases e
theorem Grow.fresh {H S : Hp} {p : Addr} {o : HO} (h : Same S H) (n : H p = none) : Grow H S (upd H p o) S :=
  ⟨Same.upd n, Same.refl _, h.trans (Same.upd n), fun b u e n' => by rw [n'] at e; cases e⟩

end DL
namespace L2
open PySem PySem.Spec PyProof.Rows

/-! a value is a datum: what is shared and never changed again -/
mutual
inductive Dq (K : PySem.W.Frag) (H : Hp) : V → PyData → Prop
  | non : Dq K H .non .none
  | bl (b : Bool) : Dq K H (.bl b) (.bool b)
  | int (i : Int) : Dq K H (.int i) (.int i)
  | str (x : Str) : Dq K H (.str x) (.str x)
  | lst {a : Addr} {xs : List V} {ds : List PyData} : H a = some (.lst xs) → DqAll K H xs ds → Dq K H (.ref a) (.list ds)
  | tup {a : Addr} {xs : List V} {ds : List PyData} : SqT K H a xs → DqAll K H xs ds → Dq K H (.ref a) (.tuple ds)
inductive DqAll (K : PySem.W.Frag) (H : Hp) : List V → List PyData → Prop
  | nil : DqAll K H [] []
  | cons {v : V} {vs : List V} {d : PyData} {ds : List PyData} : Dq K H v d → DqAll K H vs ds → DqAll K H (v :: vs) (d :: ds)
end
theorem seqT_mono {K : PySem.W.Frag} {S S' : Hp} (e : Same S S') {a : Addr} {xs : List V} (h : SqT K S a xs) : SqT K S' a xs := by
  rcases h with (h | ⟨o, h⟩) | h
  · exact .inl (.inl (e _ _ h))
  · exact .inl (.inr ⟨o, e _ _ h⟩)
  · exact .inr h
mutual
theorem Dq.mono {K : PySem.W.Frag} {S S' : Hp} (e : Same S S') : ∀ {v : V} {d : PyData}, Dq K S v d → Dq K S' v d
  | _, _, .non => .non
  | _, _, .bl b => .bl b
  | _, _, .int i => .int i
  | _, _, .str x => .str x
  | _, _, .lst h a => .lst (e _ _ h) (DqAll.mono e a)
  | _, _, .tup h a => .tup (seqT_mono e h) (DqAll.mono e a)
theorem DqAll.mono {K : PySem.W.Frag} {S S' : Hp} (e : Same S S') : ∀ {vs : List V} {ds : List PyData}, DqAll K S vs ds → DqAll K S' vs ds
  | _, _, .nil => .nil
  | _, _, .cons h t => .cons (Dq.mono e h) (DqAll.mono e t)
end
mutual
theorem Dq.dp {K : PySem.W.Frag} {H : Hp} : ∀ {v : V} {d : PyData}, Dq K H v d → Dp K H v d
  | _, _, .non => .non
  | _, _, .bl b => .bl b
  | _, _, .int i => .int i
  | _, _, .str x => .str x
  | _, _, .lst h a => .lst (SqL.of h) a.dp
  | _, _, .tup h a => .tup h a.dp
theorem DqAll.dp {K : PySem.W.Frag} {H : Hp} : ∀ {vs : List V} {ds : List PyData}, DqAll K H vs ds → DpAll K H vs ds
  | _, _, .nil => .nil
  | _, _, .cons h t => .cons h.dp t.dp
end
theorem DqAll.len {K : PySem.W.Frag} {S : Hp} : ∀ {vs : List V} {ds : List PyData}, DqAll K S vs ds → vs.length = ds.length
  | _, _, .nil => rfl
  | _, _, .cons _ t => by rw [List.length_cons, List.length_cons, t.len]
theorem DqAll.get {K : PySem.W.Frag} {S : Hp} : ∀ {vs : List V} {ds : List PyData} {i : Nat} {v : V}, DqAll K S vs ds → vs[i]? = some v → ∃ d, ds[i]? = some d ∧ Dq K S v d
  | _, _, _, _, .nil, h => by simp at h
  | _, _, 0, _, .cons h _, e => by simp at e; subst e; exact ⟨_, rfl, h⟩
  | _, _, i + 1, v, .cons _ t, e => by
    obtain ⟨d, h1, h2⟩ := DqAll.get (i := i) (v := v) t (by simpa using e)
    exact ⟨d, by simpa using h1, h2⟩
theorem DqAll.getD {K : PySem.W.Frag} {S : Hp} : ∀ {vs : List V} {ds : List PyData} {i : Nat} {d : PyData}, DqAll K S vs ds → ds[i]? = some d → ∃ v, vs[i]? = some v ∧ Dq K S v d
  | _, _, _, _, .nil, h => by simp at h
  | _, _, 0, _, .cons h _, e => by simp at e; subst e; exact ⟨_, rfl, h⟩
  | _, _, i + 1, d, .cons _ t, e => by
    obtain ⟨v, h1, h2⟩ := DqAll.getD (i := i) (d := d) t (by simpa using e)
    exact ⟨v, by simpa using h1, h2⟩
theorem DqAll.app {K : PySem.W.Frag} {S : Hp} : ∀ {vs ws : List V} {ds es : List PyData}, DqAll K S vs ds → DqAll K S ws es → DqAll K S (vs ++ ws) (ds ++ es)
  | _, _, _, _, .nil, t => t
  | _, _, _, _, .cons h r, t => .cons h (DqAll.app r t)
theorem DqAll.drop {K : PySem.W.Frag} {S : Hp} : ∀ (n : Nat) {vs : List V} {ds : List PyData}, DqAll K S vs ds → DqAll K S (vs.drop n) (ds.drop n)
  | 0, _, _, h => h
  | _ + 1, _, _, .nil => .nil
  | n + 1, _, _, .cons _ t => DqAll.drop n t
theorem DqAll.take {K : PySem.W.Frag} {S : Hp} : ∀ (n : Nat) {vs : List V} {ds : List PyData}, DqAll K S vs ds → DqAll K S (vs.take n) (ds.take n)
  | 0, _, _, _ => .nil
  | _ + 1, _, _, .nil => .nil
  | n + 1, _, _, .cons h t => .cons h (DqAll.take n t)
theorem DqAll.rev {K : PySem.W.Frag} {S : Hp} : ∀ {vs : List V} {ds : List PyData}, DqAll K S vs ds → DqAll K S vs.reverse ds.reverse
  | _, _, .nil => .nil
  | _, _, .cons h t => by
    rw [List.reverse_cons, List.reverse_cons]
    exact t.rev.app (.cons h .nil)
theorem DqAll.set {K : PySem.W.Frag} {S : Hp} {v : V} {d : PyData} (h : Dq K S v d) : ∀ (n : Nat) {vs : List V} {ds : List PyData}, DqAll K S vs ds → DqAll K S (vs.set n v) (ds.set n d)
  | _, _, _, .nil => .nil
  | 0, _, _, .cons _ t => .cons h t
  | n + 1, _, _, .cons g t => .cons g (DqAll.set h n t)
theorem DqAll.ints {K : PySem.W.Frag} {S : Hp} : ∀ ns : List Int, DqAll K S (ns.map V.int) (ns.map PyData.int)
  | [] => .nil
  | n :: ns => .cons (.int n) (DqAll.ints ns)
theorem DqAll.rep {K : PySem.W.Frag} {S : Hp} {vs : List V} {ds : List PyData} (h : DqAll K S vs ds) : ∀ n : Nat, DqAll K S (List.replicate n vs).flatten (List.replicate n ds).flatten
  | 0 => .nil
  | n + 1 => by
    rw [List.replicate_succ, List.replicate_succ, List.flatten_cons, List.flatten_cons]
    exact h.app (h.rep n)
theorem DqAll.nil_iff {K : PySem.W.Frag} {S : Hp} {vs : List V} {ds : List PyData} (h : DqAll K S vs ds) : vs = [] ↔ ds = [] := by
  cases h <;> simp

end L2
namespace DL
open L2 PySem PyProof.Rows PySem.Spec
variable {τ α β : Type}
def SlAt (K : Frag) (dr : Dr τ) (H0 H S : Hp) (v : V) : Sl → Prop
  | .d x => Dq K S v x
  | .own xs => ∃ p vs, v = .ref p ∧ H p = some (.lst vs) ∧ DqAll K S vs xs ∧ S p = none ∧ H0 p = none ∧ ¬ dr.R p
  | .h => v = dr.hv
  | .s ns => ∃ p, v = .ref p ∧ SqL K S p (ns.map V.int)
  | .r lo hi => ∃ p, v = .ref p ∧ S p = some (.rng lo hi)
structure Fr (dr : Dr τ) (H0 S0 H S : Hp) : Prop where
  keep : ∀ b o, H0 b = some o → ¬ dr.R b → H b = some o
  s : Same S0 S
  sub : Same S H
  new : ∀ b o, S b = some o → S0 b = none → H0 b = none
  nor : ∀ b, dr.R b → S b = none
structure Good (K : Frag) (B : Bd τ) (s : Stt τ) (σ : List (Option V)) (H S : Hp) : Prop where
  fr : Fr B.dr B.H0 B.S0 H S
  at_ : B.dr.At s.dr H
  len : s.env.length = σ.length
  slot : ∀ (i : Nat) (z : Sl), s.env[i]? = some (some z) → ∃ v, σ[i]? = some (some v) ∧ SlAt K B.dr B.H0 H S v z
  disj : ∀ (i j : Nat) (xs ys : List D), i ≠ j → s.env[i]? = some (some (.own xs)) → s.env[j]? = some (some (.own ys)) → σ[i]? ≠ σ[j]?

section
variable {K : Frag} {B : Bd τ} {s : Stt τ} {σ : List (Option V)} {H S H' S' : Hp}
theorem Good.live (g : Good K B s σ H S) {b : Addr} (h : B.dr.R b) : H b ≠ none := B.dr.live s.dr H b g.at_ h
theorem Good.grow (g : Good K B s σ H S) (w : Grow H S H' S') : Good K B s σ H' S' := by
  have nb : ∀ b o, S' b = some o → S b = none → ¬ B.dr.R b := fun b o e n r => g.live r (w.new b o e n)
  refine ⟨⟨fun b o e r => w.h b o (g.fr.keep b o e r), g.fr.s.trans w.s, w.sub, fun b o e n => ?_, fun b r => ?_⟩, ?_, g.len, fun i z e => ?_, g.disj⟩
  · cases q : S b with
    | some u => exact g.fr.new b u q n
    | none =>
      have hn := w.new b o e q
      cases q0 : B.H0 b with
      | none => rfl
      | some u => rw [g.fr.keep b u q0 (nb b o e q)] at hn; cases hn
  · cases q : S' b with
    | none => rfl
    | some u => exact absurd r (nb b u q (g.fr.nor b r))
  · exact B.dr.stay _ _ _ g.at_ fun b o _ e => w.h b o e
  · obtain ⟨v, h1, h2⟩ := g.slot i z e
    refine ⟨v, h1, ?_⟩
    cases z with
    | d x => exact Dq.mono w.s h2
    | own xs =>
      obtain ⟨p, vs, e1, e2, e3, e4, e5, e6⟩ := h2
      refine ⟨p, vs, e1, w.h p _ e2, DqAll.mono w.s e3, ?_, e5, e6⟩
      cases q : S' p with
      | none => rfl
      | some u => have := w.new p u q e4; rw [e2] at this; cases this
    | h => exact h2
    | s ns =>
      obtain ⟨p, e1, e2⟩ := h2
      exact ⟨p, e1, w.s.seq e2⟩
    | r lo hi =>
      obtain ⟨p, e1, e2⟩ := h2
      exact ⟨p, e1, w.s p _ e2⟩
theorem Good.get (g : Good K B s σ H S) {i : Nat} {x : D} (e : s.env[i]? = some (some (.d x))) : ∃ v, σ[i]? = some (some v) ∧ Dq K S v x := g.slot i _ e
theorem Good.getOwn (g : Good K B s σ H S) {i : Nat} {xs : List D} (e : s.env[i]? = some (some (.own xs))) :
    ∃ p vs, σ[i]? = some (some (.ref p)) ∧ H p = some (.lst vs) ∧ DqAll K S vs xs ∧ S p = none ∧ B.H0 p = none ∧ ¬ B.dr.R p := by
  obtain ⟨v, h1, p, vs, rfl, h2⟩ := g.slot i _ e
  exact ⟨p, vs, h1, h2⟩
theorem set_get {α : Type} {l : List α} {i j : Nat} {a b : α} (h : (l.set i a)[j]? = some b) : (i = j ∧ a = b) ∨ (i ≠ j ∧ l[j]? = some b) := by
  by_cases e : i = j
  · subst e
    by_cases hl : i < l.length
    · rw [List.getElem?_set_self hl] at h
      exact .inl ⟨rfl, Option.some.inj h⟩
    · rw [List.getElem?_eq_none (by rw [List.length_set]; omega)] at h
      cases h
  · rw [List.getElem?_set_ne e] at h
    exact .inr ⟨e, h⟩
theorem set_at {α : Type} {l : List α} {i : Nat} {a b : α} (h : (l.set i a)[i]? = some b) : i < l.length := by
  by_cases hl : i < l.length
  · exact hl
  · rw [List.getElem?_eq_none (by rw [List.length_set]; omega)] at h
    cases h
/-- a datum goes into a slot -/
theorem Good.set (g : Good K B s σ H S) {i : Nat} {v : V} {x : D} (h : Dq K S v x) : Good K B { s with env := s.env.set i (some (.d x)) } (σ.set i (some v)) H S := by
  refine ⟨g.fr, g.at_, by simp [g.len], fun j z e => ?_, fun j k xs ys n e1 e2 => ?_⟩
  · have hl : i = j → j < σ.length := fun q => by
      subst q
      have := set_at (l := s.env) e
      rw [← g.len]; exact this
    rcases set_get e with ⟨rfl, e'⟩ | ⟨n, e'⟩
    · cases e'
      exact ⟨v, List.getElem?_set_self (hl rfl), h⟩
    · rw [List.getElem?_set_ne n]
      exact g.slot j z e'
  · rcases set_get e1 with ⟨_, q⟩ | ⟨n1, e1'⟩
    · cases q
    rcases set_get e2 with ⟨_, q⟩ | ⟨n2, e2'⟩
    · cases q
    rw [List.getElem?_set_ne n1, List.getElem?_set_ne n2]
    exact g.disj j k xs ys n e1' e2'
/-- a list that nobody else knows -/
structure Free (K : Frag) (B : Bd τ) (s : Stt τ) (σ : List (Option V)) (H S : Hp) (p : Addr) (xs : List D) : Prop where
  at_ : ∃ vs, H p = some (.lst vs) ∧ DqAll K S vs xs
  ns : S p = none
  n0 : B.H0 p = none
  nr : ¬ B.dr.R p
  no : ∀ (j : Nat) (ys : List D), s.env[j]? = some (some (.own ys)) → σ[j]? ≠ some (some (V.ref p))
theorem Good.setOwn (g : Good K B s σ H S) {i : Nat} {p : Addr} {xs : List D} (f : Free K B s σ H S p xs) : Good K B { s with env := s.env.set i (some (.own xs)) } (σ.set i (some (.ref p))) H S := by
  obtain ⟨⟨vs, hp, ha⟩, ns, n0, nr, no⟩ := f
  refine ⟨g.fr, g.at_, by simp [g.len], fun j z e => ?_, fun j k xs ys n e1 e2 => ?_⟩
  · have hl : i = j → j < σ.length := fun q => by
      subst q
      have := set_at (l := s.env) e
      rw [← g.len]; exact this
    rcases set_get e with ⟨rfl, e'⟩ | ⟨n, e'⟩
    · cases e'
      exact ⟨_, List.getElem?_set_self (hl rfl), p, vs, rfl, hp, ha, ns, n0, nr⟩
    · rw [List.getElem?_set_ne n]
      exact g.slot j z e'
  · have hl1 := fun (q : i = j) => (by subst q; have := set_at (l := s.env) e1; rw [← g.len]; exact this : j < σ.length)
    have hl2 := fun (q : i = k) => (by subst q; have := set_at (l := s.env) e2; rw [← g.len]; exact this : k < σ.length)
    rcases set_get e1 with ⟨rfl, q⟩ | ⟨n1, e1'⟩
    · rcases set_get e2 with ⟨q2, _⟩ | ⟨n2, e2'⟩
      · exact absurd q2 n
      · rw [List.getElem?_set_self (hl1 rfl), List.getElem?_set_ne n2]
        exact fun q => no k _ e2' q.symm
    · rcases set_get e2 with ⟨rfl, q⟩ | ⟨n2, e2'⟩
      · rw [List.getElem?_set_self (hl2 rfl), List.getElem?_set_ne n1]
        exact no j _ e1'
      · rw [List.getElem?_set_ne n1, List.getElem?_set_ne n2]
        exact g.disj j k xs ys n e1' e2'
/-- a list object joins what is shared -/
theorem Good.share (g : Good K B s σ H S) {p : Addr} {vs : List V} (hp : H p = some (.lst vs)) (ns : S p = none) (n0 : B.H0 p = none) (nr : ¬ B.dr.R p)
    (no : ∀ (j : Nat) (ys : List D), s.env[j]? = some (some (.own ys)) → σ[j]? ≠ some (some (V.ref p))) : Good K B s σ H (upd S p (.lst vs)) := by
  have ss : Same S (upd S p (.lst vs)) := Same.upd ns
  refine ⟨⟨g.fr.keep, g.fr.s.trans ss, fun b o e => ?_, fun b o e n => ?_, fun b r => ?_⟩, g.at_, g.len, fun i z e => ?_, g.disj⟩
  · by_cases hb : b = p
    · subst hb; rw [upd_same] at e; cases e; exact hp
    · rw [upd_ne hb] at e; exact g.fr.sub b o e
  · by_cases hb : b = p
    · subst hb; exact n0
    · rw [upd_ne hb] at e; exact g.fr.new b o e n
  · rw [upd_ne (fun e => nr (by rw [← e]; exact r))]
    exact g.fr.nor b r
  · obtain ⟨v, h1, h2⟩ := g.slot i z e
    refine ⟨v, h1, ?_⟩
    cases z with
    | d x => exact Dq.mono ss h2
    | own xs =>
      obtain ⟨q, ws, e1, e2, e3, e4, e5, e6⟩ := h2
      subst e1
      exact ⟨q, ws, rfl, e2, DqAll.mono ss e3, by rw [upd_ne (fun z => no i xs e (by rw [h1, z]))]; exact e4, e5, e6⟩
    | h => exact h2
    | s ns =>
      obtain ⟨p, e1, e2⟩ := h2
      exact ⟨p, e1, ss.seq e2⟩
    | r lo hi =>
      obtain ⟨p, e1, e2⟩ := h2
      exact ⟨p, e1, ss p _ e2⟩
/-- the list that slot i owns is shared -/
theorem Good.freeze (g : Good K B s σ H S) {i : Nat} {xs : List D} (e : s.env[i]? = some (some (.own xs))) :
    ∃ p S', σ[i]? = some (some (.ref p)) ∧ Same S S' ∧ Dq K S' (.ref p) (.list xs) ∧ Good K B { s with env := s.env.set i (some (.d (.list xs))) } σ H S' ∧ ∃ ws, S' = upd S p (.lst ws) := by
  obtain ⟨p, vs, h1, hp, ha, ns, n0, nr⟩ := g.getOwn e
  have ss : Same S (upd S p (.lst vs)) := Same.upd ns
  have hd : Dq K (upd S p (.lst vs)) (.ref p) (.list xs) := .lst upd_same (DqAll.mono ss ha)
  have g1 : Good K B { s with env := s.env.set i none } σ H S := by
    refine ⟨g.fr, g.at_, by simp [g.len], fun j z e' => ?_, fun j k as bs n e1 e2 => ?_⟩
    · rcases set_get e' with ⟨_, q⟩ | ⟨_, q⟩
      · cases q
      · exact g.slot j z q
    · rcases set_get e1 with ⟨_, q⟩ | ⟨_, q1⟩
      · cases q
      rcases set_get e2 with ⟨_, q⟩ | ⟨_, q2⟩
      · cases q
      exact g.disj j k as bs n q1 q2
  have g2 := g1.share hp ns n0 nr fun j ys e' => by
    rcases set_get e' with ⟨_, q⟩ | ⟨n, q⟩
    · cases q
    · intro z
      exact g.disj i j xs ys n e q (by rw [h1, z])
  refine ⟨p, _, h1, ss, hd, ⟨g2.fr, g2.at_, by simp [g.len], fun j z e' => ?_, fun j k as bs n e1 e2 => ?_⟩, vs, rfl⟩
  · rcases set_get e' with ⟨rfl, q⟩ | ⟨n, q⟩
    · cases q
      exact ⟨_, h1, hd⟩
    · exact g2.slot j z (by show (s.env.set i none)[j]? = _; rw [List.getElem?_set_ne n]; exact q)
  · rcases set_get e1 with ⟨_, q⟩ | ⟨_, q1⟩
    · cases q
    rcases set_get e2 with ⟨_, q⟩ | ⟨_, q2⟩
    · cases q
    exact g.disj j k as bs n q1 q2
/-- the list that slot i owns is changed -/
theorem Good.change (g : Good K B s σ H S) {i : Nat} {xs ys : List D} {p : Addr} {ws : List V} (e : s.env[i]? = some (some (.own xs))) (h1 : σ[i]? = some (some (.ref p))) (hw : DqAll K S ws ys) :
    Good K B { s with env := s.env.set i (some (.own ys)) } σ (upd H p (.lst ws)) S := by
  obtain ⟨p', vs, h1', hp, ha, ns, n0, nr⟩ := g.getOwn e
  rw [h1] at h1'
  cases h1'
  refine ⟨⟨fun b o e' r => ?_, g.fr.s, fun b o e' => ?_, g.fr.new, g.fr.nor⟩, ?_, by simp [g.len], fun j z e' => ?_, fun j k as bs n e1 e2 => ?_⟩
  · rw [upd_ne (fun q => by rw [q, n0] at e'; cases e')]
    exact g.fr.keep b o e' r
  · rw [upd_ne (fun q => by rw [q, ns] at e'; cases e')]
    exact g.fr.sub b o e'
  · exact B.dr.stay _ _ _ g.at_ fun b o r e' => by rw [upd_ne (fun q => nr (by rw [← q]; exact r))]; exact e'
  · rcases set_get e' with ⟨rfl, q⟩ | ⟨n, q⟩
    · cases q
      exact ⟨_, h1, p, ws, rfl, upd_same, hw, ns, n0, nr⟩
    · obtain ⟨v, g1, g2⟩ := g.slot j z q
      refine ⟨v, g1, ?_⟩
      cases z with
      | d x => exact g2
      | own as =>
        obtain ⟨q', us, e1, e2, e3, e4, e5, e6⟩ := g2
        subst e1
        refine ⟨q', us, rfl, ?_, e3, e4, e5, e6⟩
        rw [upd_ne (fun z => g.disj i j xs as n e q (by rw [h1, g1, z]))]
        exact e2
      | h => exact g2
      | s ns => exact g2
      | r lo hi => exact g2
  · have own_of : ∀ {j : Nat} {as : List D}, (s.env.set i (some (.own ys)))[j]? = some (some (.own as)) → ∃ as', s.env[j]? = some (some (.own as')) := fun {j as} e' => by
      rcases set_get e' with ⟨rfl, _⟩ | ⟨_, q⟩
      · exact ⟨_, e⟩
      · exact ⟨_, q⟩
    obtain ⟨as', q1⟩ := own_of e1
    obtain ⟨bs', q2⟩ := own_of e2
    exact g.disj j k as' bs' n q1 q2
end


/-- what a piece of code leaves: what is shared stays, no place is given back, a list that nobody knows stays so -/
structure Step (K : Frag) (B : Bd τ) (σ : List (Option V)) (s : Stt τ) (H S : Hp) (s' : Stt τ) (H' S' : Hp) : Prop where
  same : Same S S'
  dom : ∀ p, H' p = none → H p = none
  free : ∀ (p : Addr) (xs : List D), Free K B s σ H S p xs → Free K B s' σ H' S' p xs
section
variable {K : Frag} {B : Bd τ} {σ : List (Option V)} {s s1 s2 : Stt τ} {H S H1 S1 H2 S2 : Hp}
theorem Step.refl : Step K B σ s H S s H S := ⟨Same.refl _, fun _ h => h, fun _ _ h => h⟩
theorem Step.trans (a : Step K B σ s H S s1 H1 S1) (b : Step K B σ s1 H1 S1 s2 H2 S2) : Step K B σ s H S s2 H2 S2 :=
  ⟨a.same.trans b.same, fun p h => a.dom p (b.dom p h), fun p xs f => b.free p xs (a.free p xs f)⟩
theorem Free.grow {p : Addr} {xs : List D} (f : Free K B s σ H S p xs) (w : Grow H S H1 S1) : Free K B s σ H1 S1 p xs := by
  obtain ⟨⟨vs, h1, h2⟩, ns, n0, nr, no⟩ := f
  refine ⟨⟨vs, w.h p _ h1, DqAll.mono w.s h2⟩, ?_, n0, nr, no⟩
  cases q : S1 p with
  | none => rfl
  | some u => have := w.new p u q ns; rw [h1] at this; cases this
theorem Grow.step (w : Grow H S H1 S1) : Step K B σ s H S s H1 S1 := ⟨w.s, fun _ h => w.h.free h, fun _ _ f => f.grow w⟩
end
/-- how an operand stands for a value -/
def RelO (K : Frag) (B : Bd τ) (s : Stt τ) (σ : List (Option V)) (H S : Hp) (v : V) : Opd → Prop
  | .val x => Dq K S v x
  | .slot i => σ[i]? = some (some v)
  | .new xs => ∃ p, v = .ref p ∧ Free K B s σ H S p xs
/-- a datum that is looked at: its items are shared, its own list may not be -/
def View (K : Frag) (H S : Hp) (v : V) (d : D) : Prop := Dq K S v d ∨ ∃ p vs xs, v = .ref p ∧ H p = some (.lst vs) ∧ DqAll K S vs xs ∧ d = .list xs
theorem View.full {K : Frag} {H S : Hp} {v : V} {d : D} (h : View K H S v d) (e : Same S H) : Dq K H v d := by
  rcases h with h | ⟨p, vs, xs, rfl, h1, h2, rfl⟩
  · exact Dq.mono e h
  · exact .lst h1 (DqAll.mono e h2)
theorem View.lst {K : Frag} {H S : Hp} {v : V} {xs : List D} (h : View K H S v (.list xs)) (e : Same S H) : ∃ p vs, v = .ref p ∧ H p = some (.lst vs) ∧ DqAll K S vs xs := by
  rcases h with h | ⟨p, vs, ys, rfl, h1, h2, q⟩
  · cases h with
    | lst h1 h2 => exact ⟨_, _, rfl, e _ _ h1, h2⟩
  · cases q
    exact ⟨p, vs, rfl, h1, h2⟩
theorem View.tup {K : Frag} {H S : Hp} {v : V} {xs : List D} (h : View K H S v (.tuple xs)) : ∃ p vs, v = .ref p ∧ SqT K S p vs ∧ DqAll K S vs xs := by
  rcases h with h | ⟨p, vs, ys, rfl, h1, h2, q⟩
  · cases h with
    | tup h1 h2 => exact ⟨_, _, rfl, h1, h2⟩
  · cases q
theorem View.int {K : Frag} {H S : Hp} {v : V} {i : Int} (h : View K H S v (.int i)) : v = .int i := by
  rcases h with h | ⟨p, vs, ys, rfl, h1, h2, q⟩
  · cases h; rfl
  · cases q
theorem View.bl {K : Frag} {H S : Hp} {v : V} {i : Bool} (h : View K H S v (.bool i)) : v = .bl i := by
  rcases h with h | ⟨p, vs, ys, rfl, h1, h2, q⟩
  · cases h; rfl
  · cases q
theorem View.str {K : Frag} {H S : Hp} {v : V} {i : Str} (h : View K H S v (.str i)) : v = .str i := by
  rcases h with h | ⟨p, vs, ys, rfl, h1, h2, q⟩
  · cases h; rfl
  · cases q
theorem View.non {K : Frag} {H S : Hp} {v : V} (h : View K H S v .none) : v = .non := by
  rcases h with h | ⟨p, vs, ys, rfl, h1, h2, q⟩
  · cases h; rfl
  · cases q
/-- a new list was not there ahead -/
def FreshO (H : Hp) (v : V) : Opd → Prop
  | .new _ => ∃ p, v = .ref p ∧ H p = none
  | _ => True
theorem view_of {K : Frag} {B : Bd τ} {s s' : Stt τ} {σ : List (Option V)} {H S : Hp} {v : V} {o : Opd} {d : D} (g : Good K B s σ H S) (r : RelO K B s σ H S v o) (e : getO o s = some (d, s')) : s' = s ∧ View K H S v d := by
  cases o with
  | val x => cases e; exact ⟨rfl, .inl r⟩
  | new xs =>
    cases e
    obtain ⟨p, rfl, ⟨vs, h1, h2⟩, _⟩ := r
    exact ⟨rfl, .inr ⟨p, vs, xs, rfl, h1, h2, rfl⟩⟩
  | slot i =>
    unfold getO at e
    dsimp only at e
    split at e
    · rename_i x q
      cases e
      obtain ⟨w, h1, h2⟩ := g.get q
      rw [show σ[i]? = some (some v) from r] at h1
      cases h1
      exact ⟨rfl, .inl h2⟩
    · rename_i xs q
      cases e
      obtain ⟨p, vs, h1, hp, ha, _⟩ := g.getOwn q
      rw [show σ[i]? = some (some v) from r] at h1
      cases h1
      exact ⟨rfl, .inr ⟨p, vs, xs, rfl, hp, ha, rfl⟩⟩
    · cases e
theorem toD_of {K : Frag} {B : Bd τ} {s s' : Stt τ} {σ : List (Option V)} {H S : Hp} {v : V} {o : Opd} {d : D} (g : Good K B s σ H S) (r : RelO K B s σ H S v o) (e : toD o s = some (d, s')) :
    ∃ S', Same S S' ∧ Good K B s' σ H S' ∧ Dq K S' v d ∧ ∀ (p : Addr) (xs : List D), (∀ ys, o = .new ys → v ≠ .ref p) → Free K B s σ H S p xs → Free K B s' σ H S' p xs := by
  cases o with
  | val x => cases e; exact ⟨S, Same.refl _, g, r, fun _ _ _ f => f⟩
  | new xs =>
    cases e
    obtain ⟨p, rfl, ⟨vs, h1, h2⟩, ns, n0, nr, no⟩ := r
    refine ⟨_, Same.upd ns, g.share h1 ns n0 nr no, .lst upd_same (DqAll.mono (Same.upd ns) h2), fun q ys hq f => ?_⟩
    have hne : q ≠ p := fun z => hq xs rfl (by rw [z])
    obtain ⟨⟨us, f1, f2⟩, f3, f4, f5, f6⟩ := f
    exact ⟨⟨us, f1, DqAll.mono (Same.upd ns) f2⟩, by rw [upd_ne hne]; exact f3, f4, f5, f6⟩
  | slot i =>
    unfold toD at e
    dsimp only at e
    split at e
    · rename_i x q
      cases e
      obtain ⟨w, h1, h2⟩ := g.get q
      rw [show σ[i]? = some (some v) from r] at h1
      cases h1
      exact ⟨S, Same.refl _, g, h2, fun _ _ _ f => f⟩
    · rename_i xs q
      cases e
      obtain ⟨p, S', h1, ss, hd, g', ws, hS⟩ := g.freeze q
      have h1' := h1
      rw [show σ[i]? = some (some v) from r] at h1
      cases h1
      refine ⟨S', ss, g', hd, fun a ys _ f => ?_⟩
      obtain ⟨⟨us, f1, f2⟩, f3, f4, f5, f6⟩ := f
      have hne : a ≠ p := fun z => f6 i xs q (by rw [z]; exact h1')
      refine ⟨⟨us, f1, DqAll.mono ss f2⟩, by rw [hS, upd_ne hne]; exact f3, f4, f5, fun j zs e' => ?_⟩
      rcases set_get e' with ⟨_, z⟩ | ⟨_, z⟩
      · cases z
      · exact f6 j zs z
    · cases e
/-- a new list at a free place -/
theorem Good.free {K : Frag} {B : Bd τ} {s : Stt τ} {σ : List (Option V)} {H S : Hp} {p : Addr} {vs : List V} {xs : List D} (g : Good K B s σ H S) (n : H p = none) (h : DqAll K S vs xs) :
    Good K B s σ (upd H p (.lst vs)) S ∧ Free K B s σ (upd H p (.lst vs)) S p xs := by
  have nr : ¬ B.dr.R p := fun r => g.live r n
  refine ⟨g.grow (Grow.fresh g.fr.sub n), ⟨vs, upd_same, h⟩, g.fr.sub.free n, ?_, nr, fun j ys e q => ?_⟩
  · cases z : B.H0 p with
    | none => rfl
    | some o => rw [g.fr.keep p o z nr] at n; cases n
  · obtain ⟨p', ws, h1, hp, _⟩ := g.getOwn e
    rw [q] at h1
    cases h1
    rw [n] at hp; cases hp
end DL
end

section
set_option Elab.async false
set_option linter.all false
set_option maxRecDepth 100000
set_option maxHeartbeats 3999999
/-! WEng2: what an expression means: the judgement, names, constants, operators, tests, subscripts, calls -/
namespace DL
open L2 PySem PyProof.Rows PySem.Spec
variable {τ α β : Type}

/-- what all contexts of a def's body (and of its comprehensions) share -/
structure Gam where
  P : Program
  w : World
  K : Frag
  mg : Str → Option Value
  base : Heap
  A : Around
  N : List Str
  sc : Scope
  fn : Str → Bool
structure Gam.Has (Γ : Gam) (X : Cx) : Prop where
  P : X.prog = Γ.P
  w : X.w = Γ.w
  K : X.K = Γ.K
  mg : X.mg = Γ.mg
  base : X.base = Γ.base
  A : X.A = Γ.A
  N : X.N = Γ.N
  sc : X.env.scope = Γ.sc
  calm : X.calm = true
  fn : ∀ x, Γ.fn x = true → X.fn x = true ∨ X.env.scope.names.lookup x = some .local
  pass : PassesOwn (model X.prog X.w) X.A X.env X.xe
/-- what a def's body may lean on -/
structure Gam.Ok (Γ : Gam) (k : Nat) : Prop where
  nd : Γ.N.Nodup
  room : Room k Γ.A
  gd : Γ.A.guards = some []
theorem Gam.Ok.hu {Γ : Gam} {k : Nat} (h : Γ.Ok k) : Γ.A.units + 65 < cLine := by have := h.room.un; omega
theorem Gam.Ok.mono {Γ : Gam} {j k : Nat} (h : Γ.Ok k) (l : j ≤ k) : Γ.Ok j := ⟨h.nd, h.room.mono l, h.gd⟩

def Mean (K : Frag) (B : Bd τ) (t : TE) (F : M τ Opd) : Prop := ∀ s σ H S, Good K B s σ H S → ∀ o s', F s = some (o, s') →
  ∀ Q : VK, (∀ v H' S', Good K B s' σ H' S' → Step K B σ s H S s' H' S' → RelO K B s' σ H' S' v o → FreshO H v o → Q v H') → t σ H Q
def DO (Γ : Gam) (B : Bd τ) (e : Expr) (F : M τ Opd) : Prop := ∃ t, (∀ X, Γ.Has X → PE X e t) ∧ Mean Γ.K B t F
def MeanT (K : Frag) (B : Bd τ) (t : TT) (F : M τ Bool) : Prop := ∀ s σ H S, Good K B s σ H S → ∀ b s', F s = some (b, s') →
  ∀ Q : Bool → Hp → Prop, (∀ H' S', Good K B s' σ H' S' → Step K B σ s H S s' H' S' → Q b H') → t σ H Q
def DT (Γ : Gam) (B : Bd τ) (e : Expr) (F : M τ Bool) : Prop := ∃ t, (∀ X, Γ.Has X → PT X e t) ∧ MeanT Γ.K B t F
def DW (Γ : Gam) (B : Bd τ) (e : Expr) (F : M τ Bool) : Prop := ∃ t, (∀ X, Γ.Has X → PW X e t) ∧ MeanT Γ.K B t F
/-- a datum or a slot: what stays while more is reckoned -/
def RelS (K : Frag) (S : Hp) (σ : List (Option V)) (v : V) : Opd → Prop
  | .val x => Dq K S v x
  | .slot i => σ[i]? = some (some v)
  | .new _ => False
def RelL (K : Frag) (S : Hp) (σ : List (Option V)) : List V → List Opd → Prop
  | [], [] => True
  | v :: vs, o :: os => RelS K S σ v o ∧ RelL K S σ vs os
  | _, _ => False
def MeanA (K : Frag) (B : Bd τ) (t : TA) (F : M τ (List Opd)) : Prop := ∀ s σ H S, Good K B s σ H S → ∀ os s', F s = some (os, s') →
  ∀ Q : List V → Hp → Prop, (∀ vs H' S', Good K B s' σ H' S' → Step K B σ s H S s' H' S' → RelL K S' σ vs os → Q vs H') → t σ H Q
def DA (Γ : Gam) (B : Bd τ) (es : List Expr) (F : M τ (List Opd)) : Prop := ∃ t, (∀ X, Γ.Has X → PA X es t) ∧ MeanA Γ.K B t F
/-- .. all of them data -/
def MeanV (K : Frag) (B : Bd τ) (t : TA) (F : M τ (List D)) : Prop := ∀ s σ H S, Good K B s σ H S → ∀ os s', F s = some (os, s') →
  ∀ Q : List V → Hp → Prop, (∀ vs H' S', Good K B s' σ H' S' → Step K B σ s H S s' H' S' → DqAll K S' vs os → Q vs H') → t σ H Q
def DV (Γ : Gam) (B : Bd τ) (es : List Expr) (F : M τ (List D)) : Prop := ∃ t, (∀ X, Γ.Has X → PA X es t) ∧ MeanV Γ.K B t F

theorem bnd_some {m : M τ α} {f : α → M τ β} {s s'' : Stt τ} {b : β} (h : bnd m f s = some (b, s'')) : ∃ a s', m s = some (a, s') ∧ f a s' = some (b, s'') := by
  unfold bnd at h
  split at h
  · cases h
  · rename_i a s' e
    exact ⟨a, s', e, h⟩
theorem lift_some {o : Option α} {s s' : Stt τ} {a : α} (h : lift o s = some (a, s')) : o = some a ∧ s' = s := by
  unfold lift at h
  split at h
  · cases h
  · cases h; exact ⟨rfl, rfl⟩
theorem ret_some {a b : α} {s s' : Stt τ} (h : ret a s = some (b, s')) : b = a ∧ s' = s := by cases h; exact ⟨rfl, rfl⟩

section
variable {K : Frag} {B : Bd τ} {s s' : Stt τ} {σ : List (Option V)} {H S : Hp}
/-- a value that has come, as a datum -/
theorem Mean.val {t : TE} {F : M τ Opd} (m : Mean K B t F) (g : Good K B s σ H S) {d : D} (e : valM F s = some (d, s')) {Q : VK}
    (h : ∀ v H' S', Good K B s' σ H' S' → Step K B σ s H S s' H' S' → Dq K S' v d → Q v H') : t σ H Q := by
  obtain ⟨o, s1, e1, e2⟩ := bnd_some e
  refine m s σ H S g o s1 e1 Q fun v H1 S1 g1 w1 r1 f1 => ?_
  obtain ⟨S2, w2, g2, r2, f2⟩ := toD_of g1 r1 e2
  refine h v H1 S2 g2 ⟨w1.same.trans w2, w1.dom, fun p xs f => f2 p xs (fun ys q z => ?_) (w1.free p xs f)⟩ r2
  subst q
  obtain ⟨p', z', n⟩ := f1
  rw [z] at z'
  cases z'
  obtain ⟨vs, q, _⟩ := f.at_
  rw [n] at q
  cases q
/-- .. as an operand that stays -/
theorem Mean.late {t : TE} {F : M τ Opd} (m : Mean K B t F) (g : Good K B s σ H S) {o : Opd} (e : lateM F s = some (o, s')) {Q : VK}
    (h : ∀ v H' S', Good K B s' σ H' S' → Step K B σ s H S s' H' S' → RelS K S' σ v o → Q v H') : t σ H Q := by
  obtain ⟨o1, s1, e1, e2⟩ := bnd_some e
  cases o1 with
  | val x => cases e2; exact m s σ H S g _ _ e1 Q fun v H1 S1 g1 w1 r1 _ => h v H1 S1 g1 w1 r1
  | slot i => cases e2; exact m s σ H S g _ _ e1 Q fun v H1 S1 g1 w1 r1 _ => h v H1 S1 g1 w1 r1
  | new xs =>
    cases e2
    exact m.val g (d := .list xs) (s' := s') (by unfold valM bnd; rw [e1]; rfl) fun v H1 S1 g1 w1 r1 => h v H1 S1 g1 w1 r1
theorem RelS.mono {K : Frag} {S S' : Hp} {σ : List (Option V)} {v : V} {o : Opd} (w : Same S S') (r : RelS K S σ v o) : RelS K S' σ v o := by
  cases o with
  | val x => exact Dq.mono w r
  | slot i => exact r
  | new xs => exact r
theorem RelS.rel {v : V} {o : Opd} (r : RelS K S σ v o) : RelO K B s σ H S v o := by
  cases o with
  | val x => exact r
  | slot i => exact r
  | new xs => exact r.elim
theorem RelL.mono {K : Frag} {S S' : Hp} {σ : List (Option V)} (w : Same S S') : ∀ {vs : List V} {os : List Opd}, RelL K S σ vs os → RelL K S' σ vs os
  | [], [], _ => trivial
  | _ :: _, _ :: _, h => ⟨h.1.mono w, RelL.mono w h.2⟩
end

/-! ### names, constants -/
def nameM (i : Nat) : M τ Opd := fun s => match s.env[i]? with
  | some (some (.d _)) => some (.slot i, s)
  | some (some (.own _)) => some (.slot i, s)
  | _ => none
section
variable {Γ : Gam} {B : Bd τ} {pos : Pos}
theorem DO.name {i : Nat} {x : Str} (hN : Γ.N[i]? = some x) (hv : Vis Γ.sc x) (hd : (x == ("__debug__" : Str)) = false := by decide) (hcd : (x == ("__classdict__" : Str)) = false := by decide) : DO Γ B (.Name x pos) (nameM i) := by
  refine ⟨tVar i, fun X h => pe_var (by rw [h.N]; exact hN) (by rw [h.sc]; exact hv) hd hcd, fun s σ H S g o s' e Q q => ?_⟩
  have fin : ∀ z, s.env[i]? = some (some z) → o = .slot i → s' = s → tVar i σ H Q := fun z q1 q2 q3 => by
    subst q2; subst q3
    obtain ⟨v, h1, _⟩ := g.slot i z q1
    exact ⟨v, h1, q v H S g Step.refl h1 trivial⟩
  unfold nameM at e
  split at e
  · rename_i q1; cases e; exact fin _ q1 rfl rfl
  · rename_i q1; cases e; exact fin _ q1 rfl rfl
  · cases e
theorem mean_c {v : V} {d : D} (h : ∀ S, Dq Γ.K S v d) : Mean Γ.K B (tC v) (ret (.val d)) := fun s σ H S g o s' e Q q => by
  obtain ⟨rfl, rfl⟩ := ret_some e
  exact q v H S g Step.refl (h S) trivial
theorem DO.int {i : Int} {j} : DO Γ B (.Constant (.int i) j pos) (ret (.val (.int i))) := ⟨_, fun X h => pe_int, mean_c fun _ => .int i⟩
theorem DO.bl {b : Bool} {j} : DO Γ B (.Constant (.bool b) j pos) (ret (.val (.bool b))) := ⟨_, fun X h => pe_bl, mean_c fun _ => .bl b⟩
theorem DO.non {j} : DO Γ B (.Constant .none j pos) (ret (.val .none)) := ⟨_, fun X h => pe_non, mean_c fun _ => .non⟩
theorem DO.str {x : Str} {j} : DO Γ B (.Constant (.str x) j pos) (ret (.val (.str x))) := ⟨_, fun X h => pe_str, mean_c fun _ => .str x⟩
theorem gl_of {X : Cx} (h : Γ.Has X) {x : Str} (hg : Γ.sc.names.lookup x = some .globalImplicit) : Gl X x := by
  show X.env.scope.names.lookup x = _
  rw [h.sc]; exact hg
/-- a constant of the module -/
theorem DO.glob {x : Str} {u : Value} {v : V} {d : D} (hg : Γ.sc.names.lookup x = some .globalImplicit) (hm : Γ.mg x = some u) (r : RelV v u) (hd : ∀ S, Dq Γ.K S v d) (hdb : (x == ("__debug__" : Str)) = false := by decide) :
    DO Γ B (.Name x pos) (ret (.val d)) := ⟨tC v, fun X h => pe_glob (gl_of h hg) (by rw [h.mg]; exact hm) r hdb, mean_c hd⟩
end

/-! ### what an operation hands on -/
inductive ResR (K : Frag) (H S : Hp) : V → Hp → Hp → Opd → Prop
  | val {z : V} {H' S' : Hp} {d : D} : Grow H S H' S' → Dq K S' z d → ResR K H S z H' S' (.val d)
  | new {p : Addr} {vs : List V} {xs : List D} : H p = none → DqAll K S vs xs → ResR K H S (.ref p) (upd H p (.lst vs)) S (.new xs)
theorem ResR.good {K : Frag} {B : Bd τ} {s : Stt τ} {σ : List (Option V)} {H S H' S' : Hp} {z : V} {o : Opd} (g : Good K B s σ H S) (r : ResR K H S z H' S' o) :
    Good K B s σ H' S' ∧ Step K B σ s H S s H' S' ∧ RelO K B s σ H' S' z o ∧ FreshO H z o := by
  cases r with
  | val w h => exact ⟨g.grow w, w.step, h, trivial⟩
  | new n h =>
    obtain ⟨g', f⟩ := Good.free g n h
    exact ⟨g', (Grow.fresh g.fr.sub n).step, ⟨_, rfl, f⟩, _, rfl, n⟩
theorem FreshO.dom {K : Frag} {B : Bd τ} {σ : List (Option V)} {s s1 : Stt τ} {H S H1 S1 : Hp} {v : V} {o : Opd} (f : FreshO H1 v o) (w : Step K B σ s H S s1 H1 S1) : FreshO H v o := by
  cases o with
  | new xs =>
    obtain ⟨p, e, n⟩ := f
    exact ⟨p, e, w.dom p n⟩
  | _ => trivial
def OpM (K : Frag) (r : R2) (op : D → D → Option Opd) : Prop := ∀ H S v u x y o, Same S H → View K H S v x → View K H S u y → op x y = some o →
  ∀ Q : VK, (∀ z H' S', ResR K H S z H' S' o → Q z H') → r v u H Q
def OpD (Γ : Gam) (f : Value → Value → Sem Value) (op : D → D → Option Opd) : Prop := ∃ r, (∀ X, Γ.Has X → OpR X f r) ∧ OpM Γ.K r op
def op2 (op : D → D → Option Opd) (Fa Fb : M τ Opd) : M τ Opd := bnd (lateM Fa) fun o1 => bnd Fb fun o2 => bnd (getO o1) fun x => bnd (getO o2) fun y => lift (op x y)
/-- one operation or another -/
def orO (f g : D → D → Option Opd) : D → D → Option Opd := fun x y => match f x y with
  | some o => some o
  | none => g x y
theorem OpD.or {Γ : Gam} {f : Value → Value → Sem Value} {g1 g2 : D → D → Option Opd} (h1 : OpD Γ f g1) (h2 : OpD Γ f g2) : OpD Γ f (orO g1 g2) := by
  obtain ⟨r1, a1, b1⟩ := h1
  obtain ⟨r2, a2, b2⟩ := h2
  refine ⟨_, fun X h => OpR.or (a1 X h) (a2 X h), fun H S v u x y o w vx vy e Q q => ?_⟩
  unfold orO at e
  split at e
  · rename_i o' e'
    cases e
    exact .inl (b1 H S v u x y _ w vx vy e' Q q)
  · exact .inr (b2 H S v u x y o w vx vy e Q q)
section
variable {Γ : Gam} {B : Bd τ} {pos : Pos} {a b c : Expr} {Fa Fb Fc : M τ Opd}
theorem mean_op {ta tb : TE} {r : R2} {op : D → D → Option Opd} (ha : Mean Γ.K B ta Fa) (hb : Mean Γ.K B tb Fb) (ho : OpM Γ.K r op) : Mean Γ.K B (tOp r ta tb) (op2 op Fa Fb) := fun s σ H S g o s' e Q q => by
  obtain ⟨o1, s1, e1, e⟩ := bnd_some e
  obtain ⟨o2, s2, e2, e⟩ := bnd_some e
  obtain ⟨x, s3, e3, e⟩ := bnd_some e
  obtain ⟨y, s4, e4, e⟩ := bnd_some e
  obtain ⟨ez, rfl⟩ := lift_some e
  refine ha.late g e1 fun v H1 S1 g1 w1 r1 => ?_
  refine hb s1 σ H1 S1 g1 o2 s2 e2 _ fun u H2 S2 g2 w2 r2 _ => ?_
  obtain ⟨rfl, vx⟩ := view_of g2 ((r1.mono w2.same).rel) e3
  obtain ⟨rfl, vy⟩ := view_of g2 r2 e4
  refine ho H2 S2 v u x y o g2.fr.sub vx vy ez Q fun z H3 S3 rr => ?_
  obtain ⟨g3, w3, r3, f3⟩ := rr.good g2
  exact q z H3 S3 g3 ((w1.trans w2).trans w3) r3 (f3.dom (w1.trans w2))
theorem DO.bin {op : Operator} {f : D → D → Option Opd} (ho : OpD Γ (binaryOp op) f) (ha : DO Γ B a Fa) (hb : DO Γ B b Fb) : DO Γ B (.BinOp a op b pos) (op2 f Fa Fb) := by
  obtain ⟨ta, pa, ma⟩ := ha
  obtain ⟨tb, pb, mb⟩ := hb
  obtain ⟨r, ro, mo⟩ := ho
  exact ⟨_, fun X h => pe_op (ro X h) (pa X h) (pb X h), mean_op ma mb mo⟩
theorem DO.cmp {op : CmpOp} {f : D → D → Option Opd} (ho : OpD Γ (compareOp op) f) (ha : DO Γ B a Fa) (hb : DO Γ B b Fb) (hm : behindInMarks op b = false) : DO Γ B (.Compare a [op] [b] pos) (op2 f Fa Fb) := by
  obtain ⟨ta, pa, ma⟩ := ha
  obtain ⟨tb, pb, mb⟩ := hb
  obtain ⟨r, ro, mo⟩ := ho
  exact ⟨_, fun X h => pe_cmpR (ro X h) (pa X h) (pb X h) hm, mean_op ma mb mo⟩
/-- the truth of a value that is True or False -/
def boolO (o : Opd) : M τ Bool := bnd (getO o) fun x => match x with
  | .bool b => ret b
  | _ => stuck
theorem mean_test {t : TE} {F : M τ Opd} (h : Mean Γ.K B t F) : MeanT Γ.K B (tTest t) (bnd F boolO) := fun s σ H S g k s' e Q q => by
  obtain ⟨o, s1, e1, e⟩ := bnd_some e
  obtain ⟨x, s2, e2, e⟩ := bnd_some e
  refine h s σ H S g o s1 e1 _ fun v H1 S1 g1 w1 r1 _ => ?_
  obtain ⟨rfl, vx⟩ := view_of g1 r1 e2
  cases x with
  | bool c =>
    obtain ⟨rfl, rfl⟩ := ret_some e
    obtain rfl := vx.bl
    exact ⟨k, rfl, q H1 S1 g1 w1⟩
  | _ => cases e
theorem DT.cmp {op : CmpOp} {f : D → D → Option Opd} (ho : OpD Γ (compareOp op) f) (ha : DO Γ B a Fa) (hb : DO Γ B b Fb) (hm : behindInMarks op b = false) : DT Γ B (.Compare a [op] [b] pos) (bnd (op2 f Fa Fb) boolO) := by
  obtain ⟨ta, pa, ma⟩ := ha
  obtain ⟨tb, pb, mb⟩ := hb
  obtain ⟨r, ro, mo⟩ := ho
  exact ⟨_, fun X h => pt_cmpR (ro X h) (pa X h) (pb X h) hm, mean_test (mean_op ma mb mo)⟩
/-- a value as a test: calls, names, subscripts -/
theorem DT.val {F : M τ Opd} (ha : DO Γ B a F) (he : ∀ X : Cx, ∀ whole, isTrue a X.env whole = (do let v ← whole; standAt a.pos; holding [v] (truthy v)) := by intro _ _; rfl) : DT Γ B a (bnd F boolO) := by
  obtain ⟨ta, pa, ma⟩ := ha
  exact ⟨_, fun X h => pt_val (pa X h) (he X), mean_test ma⟩
/-- a op b op' c -/
def chainM (f f' : D → D → Option Opd) (Fa Fb Fc : M τ Opd) : M τ Opd := bnd (lateM Fa) fun o1 => bnd (lateM Fb) fun o2 => bnd (getO o1) fun x => bnd (getO o2) fun y => bnd (lift (f x y)) fun o => bnd (boolO o) fun k =>
  if k then bnd Fc fun o3 => bnd (getO o2) fun y => bnd (getO o3) fun z => lift (f' y z) else ret (.val (.bool false))
theorem mean_chain {ta tb tc : TE} {r r' : R2} {f f' : D → D → Option Opd} (ha : Mean Γ.K B ta Fa) (hb : Mean Γ.K B tb Fb) (hc : Mean Γ.K B tc Fc) (ho : OpM Γ.K r f) (ho' : OpM Γ.K r' f') :
    Mean Γ.K B (tChain r r' ta tb tc) (chainM f f' Fa Fb Fc) := fun s σ H S g o s' e Q q => by
  obtain ⟨o1, s1, e1, e⟩ := bnd_some e
  obtain ⟨o2, s2, e2, e⟩ := bnd_some e
  obtain ⟨x, s3, e3, e⟩ := bnd_some e
  obtain ⟨y, s4, e4, e⟩ := bnd_some e
  obtain ⟨ok, s5, e5, eA⟩ := bnd_some e
  obtain ⟨k, s6, e6, eB⟩ := bnd_some eA
  obtain ⟨ez5, rfl⟩ := lift_some e5
  refine ha.late g e1 fun v H1 S1 g1 w1 r1 => ?_
  refine hb.late g1 e2 fun u H2 S2 g2 w2 r2 => ?_
  obtain ⟨rfl, vx⟩ := view_of g2 ((r1.mono w2.same).rel) e3
  obtain ⟨rfl, vy⟩ := view_of g2 r2.rel e4
  refine ho H2 S2 v u x y ok g2.fr.sub vx vy ez5 _ fun z H3 S3 rr => ?_
  obtain ⟨g3, w3, r3, _⟩ := rr.good g2
  obtain ⟨bx, s7, e7, e8⟩ := bnd_some e6
  obtain ⟨rfl, vz⟩ := view_of g3 r3 e7
  cases bx with
  | bool c =>
    obtain ⟨rfl, rfl⟩ := ret_some e8
    obtain rfl := vz.bl
    refine ⟨k, rfl, ?_⟩
    cases k with
    | false =>
      obtain ⟨rfl, rfl⟩ := ret_some eB
      exact q _ H3 S3 g3 ((w1.trans w2).trans w3) (.bl false) trivial
    | true =>
      obtain ⟨o3, s8, e8, e⟩ := bnd_some (show (bnd Fc fun o3 => bnd (getO o2) fun y => bnd (getO o3) fun z => lift (f' y z)) _ = some (o, s') from eB)
      obtain ⟨y', s9, e9, e⟩ := bnd_some e
      obtain ⟨z', s10, e10, e⟩ := bnd_some e
      obtain ⟨ez, rfl⟩ := lift_some e
      refine hc _ σ H3 S3 g3 o3 s8 e8 _ fun w H4 S4 g4 w4 r4 _ => ?_
      obtain ⟨rfl, vy'⟩ := view_of g4 ((r2.mono (w3.trans w4).same).rel) e9
      obtain ⟨rfl, vz'⟩ := view_of g4 r4 e10
      refine ho' H4 S4 u w y' z' o g4.fr.sub vy' vz' ez Q fun z5 H5 S5 rr5 => ?_
      obtain ⟨g5, w5, r5, f5⟩ := rr5.good g4
      exact q z5 H5 S5 g5 ((((w1.trans w2).trans w3).trans w4).trans w5) r5 (f5.dom (((w1.trans w2).trans w3).trans w4))
  | _ => cases e8
theorem DO.chain {op op' : CmpOp} {f f' : D → D → Option Opd} (ho : OpD Γ (compareOp op) f) (ho' : OpD Γ (compareOp op') f') (ha : DO Γ B a Fa) (hb : DO Γ B b Fb) (hc : DO Γ B c Fc)
    (hm : lastMarks [op, op'] [b, c] = false := by with_unfolding_all rfl) : DO Γ B (.Compare a [op, op'] [b, c] pos) (chainM f f' Fa Fb Fc) := by
  obtain ⟨ta, pa, ma⟩ := ha
  obtain ⟨tb, pb, mb⟩ := hb
  obtain ⟨tc, pc, mc⟩ := hc
  obtain ⟨r, ro, mo⟩ := ho
  obtain ⟨r', ro', mo'⟩ := ho'
  exact ⟨_, fun X h => pe_chain (ro X h) (ro' X h) (pa X h) (pb X h) (pc X h) hm, mean_chain ma mb mc mo mo'⟩
theorem DT.chain {op op' : CmpOp} {f f' : D → D → Option Opd} (ho : OpD Γ (compareOp op) f) (ho' : OpD Γ (compareOp op') f') (ha : DO Γ B a Fa) (hb : DO Γ B b Fb) (hc : DO Γ B c Fc)
    (hm : lastMarks [op, op'] [b, c] = false := by with_unfolding_all rfl) : DT Γ B (.Compare a [op, op'] [b, c] pos) (bnd (chainM f f' Fa Fb Fc) boolO) := by
  obtain ⟨ta, pa, ma⟩ := ha
  obtain ⟨tb, pb, mb⟩ := hb
  obtain ⟨tc, pc, mc⟩ := hc
  obtain ⟨r, ro, mo⟩ := ho
  obtain ⟨r', ro', mo'⟩ := ho'
  exact ⟨_, fun X h => pt_chain (ro X h) (ro' X h) (pa X h) (pb X h) (pc X h) hm, mean_test (mean_chain ma mb mc mo mo')⟩
end

/-! ### and, or, not, if else -/
section
variable {Γ : Gam} {B : Bd τ} {pos : Pos} {a b c : Expr} {rest : List Expr} {Ta Tb : M τ Bool} {Fa Fb : M τ Opd}
def andT (F G : M τ Bool) : M τ Bool := bnd F fun k => if k then G else ret false
def orT (F G : M τ Bool) : M τ Bool := bnd F fun k => if k then ret true else G
def notT (F : M τ Bool) : M τ Bool := bnd F fun k => ret (!k)
theorem meanT_and {ta tb : TT} (ha : MeanT Γ.K B ta Ta) (hb : MeanT Γ.K B tb Tb) : MeanT Γ.K B (tAnd ta tb) (andT Ta Tb) := fun s σ H S g k s' e Q q => by
  obtain ⟨c, s1, e1, e⟩ := bnd_some e
  refine ha s σ H S g c s1 e1 _ fun H1 S1 g1 w1 => ?_
  cases c with
  | true => exact iteT (hb s1 σ H1 S1 g1 k s' e Q fun H2 S2 g2 w2 => q H2 S2 g2 (w1.trans w2))
  | false =>
    obtain ⟨rfl, rfl⟩ := ret_some e
    exact iteF (q H1 S1 g1 w1)
theorem meanT_or {ta tb : TT} (ha : MeanT Γ.K B ta Ta) (hb : MeanT Γ.K B tb Tb) : MeanT Γ.K B (tOr ta tb) (orT Ta Tb) := fun s σ H S g k s' e Q q => by
  obtain ⟨c, s1, e1, e⟩ := bnd_some e
  refine ha s σ H S g c s1 e1 _ fun H1 S1 g1 w1 => ?_
  cases c with
  | false => exact iteF (hb s1 σ H1 S1 g1 k s' e Q fun H2 S2 g2 w2 => q H2 S2 g2 (w1.trans w2))
  | true =>
    obtain ⟨rfl, rfl⟩ := ret_some e
    exact iteT (q H1 S1 g1 w1)
theorem DW.pt (h : DW Γ B a Ta) : DT Γ B a Ta := by
  obtain ⟨t, p, m⟩ := h
  exact ⟨t, fun X h => (p X h).pt, m⟩
theorem DW.and1 (ha : DT Γ B a Ta) : DW Γ B (.BoolOp .And [a] pos) Ta := by
  obtain ⟨t, p, m⟩ := ha
  exact ⟨t, fun X h => pw_and1 (p X h), m⟩
theorem DW.or1 (ha : DT Γ B a Ta) : DW Γ B (.BoolOp .Or [a] pos) Ta := by
  obtain ⟨t, p, m⟩ := ha
  exact ⟨t, fun X h => pw_or1 (p X h), m⟩
theorem DW.and (ha : DT Γ B a Ta) (hb : DW Γ B (.BoolOp .And (b :: rest) pos) Tb) : DW Γ B (.BoolOp .And (a :: b :: rest) pos) (andT Ta Tb) := by
  obtain ⟨ta, pa, ma⟩ := ha
  obtain ⟨tb, pb, mb⟩ := hb
  exact ⟨_, fun X h => pw_and (pa X h) (pb X h), meanT_and ma mb⟩
theorem DW.or (ha : DT Γ B a Ta) (hb : DW Γ B (.BoolOp .Or (b :: rest) pos) Tb) : DW Γ B (.BoolOp .Or (a :: b :: rest) pos) (orT Ta Tb) := by
  obtain ⟨ta, pa, ma⟩ := ha
  obtain ⟨tb, pb, mb⟩ := hb
  exact ⟨_, fun X h => pw_or (pa X h) (pb X h), meanT_or ma mb⟩
theorem DT.not (ha : DT Γ B a Ta) : DT Γ B (.UnaryOp .Not a pos) (notT Ta) := by
  obtain ⟨ta, pa, ma⟩ := ha
  refine ⟨_, fun X h => pt_not (pa X h), fun s σ H S g k s' e Q q => ?_⟩
  obtain ⟨c, s1, e1, e⟩ := bnd_some e
  obtain ⟨rfl, rfl⟩ := ret_some e
  exact ma s σ H S g c _ e1 _ q
/-- .. as values -/
def andV (F : M τ Opd) (G : M τ Opd) : M τ Opd := bnd (bnd F boolO) fun k => if k then G else ret (.val (.bool false))
def orV (F : M τ Opd) (G : M τ Opd) : M τ Opd := bnd (bnd F boolO) fun k => if k then ret (.val (.bool true)) else G
def notV (F : M τ Opd) : M τ Opd := bnd (bnd F boolO) fun k => ret (.val (.bool (!k)))
theorem DO.one {op} (ha : DO Γ B a Fa) : DO Γ B (.BoolOp op [a] pos) Fa := by
  obtain ⟨t, p, m⟩ := ha
  exact ⟨t, fun X h => pe_one (p X h), m⟩
theorem DO.and (ha : DO Γ B a Fa) (hb : DO Γ B (.BoolOp .And (b :: rest) pos) Fb) : DO Γ B (.BoolOp .And (a :: b :: rest) pos) (andV Fa Fb) := by
  obtain ⟨ta, pa, ma⟩ := ha
  obtain ⟨tb, pb, mb⟩ := hb
  refine ⟨_, fun X h => pe_and (pa X h) (pb X h), fun s σ H S g o s' e Q q => ?_⟩
  obtain ⟨k, s1, e1, e⟩ := bnd_some e
  refine mean_test ma s σ H S g k s1 e1 (fun k H1 => if k = true then tb σ H1 Q else Q (.bl false) H1) fun H1 S1 g1 w1 => ?_
  cases k with
  | true => exact iteT (mb s1 σ H1 S1 g1 o s' e Q fun v H2 S2 g2 w2 r2 f2 => q v H2 S2 g2 (w1.trans w2) r2 (f2.dom w1))
  | false =>
    obtain ⟨rfl, rfl⟩ := ret_some e
    exact iteF (q _ H1 S1 g1 w1 (.bl false) trivial)
theorem DO.or (ha : DO Γ B a Fa) (hb : DO Γ B (.BoolOp .Or (b :: rest) pos) Fb) : DO Γ B (.BoolOp .Or (a :: b :: rest) pos) (orV Fa Fb) := by
  obtain ⟨ta, pa, ma⟩ := ha
  obtain ⟨tb, pb, mb⟩ := hb
  refine ⟨_, fun X h => pe_or (pa X h) (pb X h), fun s σ H S g o s' e Q q => ?_⟩
  obtain ⟨k, s1, e1, e⟩ := bnd_some e
  refine mean_test ma s σ H S g k s1 e1 (fun k H1 => if k = true then Q (.bl true) H1 else tb σ H1 Q) fun H1 S1 g1 w1 => ?_
  cases k with
  | false => exact iteF (mb s1 σ H1 S1 g1 o s' e Q fun v H2 S2 g2 w2 r2 f2 => q v H2 S2 g2 (w1.trans w2) r2 (f2.dom w1))
  | true =>
    obtain ⟨rfl, rfl⟩ := ret_some e
    exact iteT (q _ H1 S1 g1 w1 (.bl true) trivial)
theorem DO.not (ha : DO Γ B a Fa) : DO Γ B (.UnaryOp .Not a pos) (notV Fa) := by
  obtain ⟨ta, pa, ma⟩ := ha
  refine ⟨_, fun X h => pe_not (pa X h), fun s σ H S g o s' e Q q => ?_⟩
  obtain ⟨k, s1, e1, e⟩ := bnd_some e
  obtain ⟨rfl, rfl⟩ := ret_some e
  exact mean_test ma s σ H S g k _ e1 (fun k H1 => Q (.bl (!k)) H1) fun H1 S1 g1 w1 => q _ H1 S1 g1 w1 (.bl _) trivial
def iteM (T : M τ Bool) (F G : M τ Opd) : M τ Opd := bnd T fun k => if k then F else G
theorem DO.ite {Tc : M τ Bool} (hc : DT Γ B c Tc) (ha : DO Γ B a Fa) (hb : DO Γ B b Fb) : DO Γ B (.IfExp c a b pos) (iteM Tc Fa Fb) := by
  obtain ⟨tc, pc, mc⟩ := hc
  obtain ⟨ta, pa, ma⟩ := ha
  obtain ⟨tb, pb, mb⟩ := hb
  refine ⟨_, fun X h => pe_ifExp (pc X h) (pa X h) (pb X h), fun s σ H S g o s' e Q q => ?_⟩
  obtain ⟨k, s1, e1, e⟩ := bnd_some e
  refine mc s σ H S g k s1 e1 _ fun H1 S1 g1 w1 => ?_
  cases k with
  | true => exact iteT (ma s1 σ H1 S1 g1 o s' e Q fun v H2 S2 g2 w2 r2 f2 => q v H2 S2 g2 (w1.trans w2) r2 (f2.dom w1))
  | false => exact iteF (mb s1 σ H1 S1 g1 o s' e Q fun v H2 S2 g2 w2 r2 f2 => q v H2 S2 g2 (w1.trans w2) r2 (f2.dom w1))
end

/-! ### arguments, displays -/
section
variable {Γ : Gam} {B : Bd τ} {pos : Pos} {e : Expr} {es : List Expr}
def nilM : M τ (List α) := ret []
def consO (F : M τ Opd) (G : M τ (List Opd)) : M τ (List Opd) := bnd (lateM F) fun o => bnd G fun os => ret (o :: os)
def consD (F : M τ Opd) (G : M τ (List D)) : M τ (List D) := bnd (valM F) fun d => bnd G fun ds => ret (d :: ds)
theorem DA.nil : DA Γ B [] nilM := ⟨_, fun X h => pa_nil, fun s σ H S g os s' e Q q => by
  obtain ⟨rfl, rfl⟩ := ret_some e
  exact q [] H S g Step.refl trivial⟩
theorem DA.cons {F : M τ Opd} {G : M τ (List Opd)} (h : DO Γ B e F) (hs : DA Γ B es G) (hst : ∀ X : Cx, starEach (e :: es) X.env = (false, eval e X.env) :: starEach es X.env := by intro _; rfl) : DA Γ B (e :: es) (consO F G) := by
  obtain ⟨t, p, m⟩ := h
  obtain ⟨u, pu, mu⟩ := hs
  refine ⟨_, fun X h => pa_cons (p X h) (pu X h) (hst X), fun s σ H S g os s' e Q q => ?_⟩
  obtain ⟨o, s1, e1, e⟩ := bnd_some e
  obtain ⟨os', s2, e2, e⟩ := bnd_some e
  obtain ⟨rfl, rfl⟩ := ret_some e
  refine m.late g e1 fun v H1 S1 g1 w1 r1 => ?_
  exact mu s1 σ H1 S1 g1 os' _ e2 _ fun vs H2 S2 g2 w2 r2 => q _ H2 S2 g2 (w1.trans w2) ⟨r1.mono w2.same, r2⟩
theorem DV.nil : DV Γ B [] nilM := ⟨_, fun X h => pa_nil, fun s σ H S g os s' e Q q => by
  obtain ⟨rfl, rfl⟩ := ret_some e
  exact q [] H S g Step.refl .nil⟩
theorem DV.cons {F : M τ Opd} {G : M τ (List D)} (h : DO Γ B e F) (hs : DV Γ B es G) (hst : ∀ X : Cx, starEach (e :: es) X.env = (false, eval e X.env) :: starEach es X.env := by intro _; rfl) : DV Γ B (e :: es) (consD F G) := by
  obtain ⟨t, p, m⟩ := h
  obtain ⟨u, pu, mu⟩ := hs
  refine ⟨_, fun X h => pa_cons (p X h) (pu X h) (hst X), fun s σ H S g os s' e Q q => ?_⟩
  obtain ⟨o, s1, e1, e⟩ := bnd_some e
  obtain ⟨os', s2, e2, e⟩ := bnd_some e
  obtain ⟨rfl, rfl⟩ := ret_some e
  refine m.val g e1 fun v H1 S1 g1 w1 r1 => ?_
  exact mu s1 σ H1 S1 g1 os' _ e2 _ fun vs H2 S2 g2 w2 r2 => q _ H2 S2 g2 (w1.trans w2) (.cons (Dq.mono w2.same r1) r2)
def fitsL (ds : List D) : Bool := decide (ds.length ≤ sizeLine)
def tupM (G : M τ (List D)) : M τ Opd := bnd G fun ds => if fitsL ds then ret (.val (.tuple ds)) else stuck
def lstM (G : M τ (List D)) : M τ Opd := bnd G fun ds => if fitsL ds then ret (.new ds) else stuck
theorem DO.tup {x1} {G : M τ (List D)} (h : DV Γ B es G) : DO Γ B (.Tuple es x1 pos) (tupM G) := by
  obtain ⟨t, p, m⟩ := h
  refine ⟨_, fun X h => pe_tup (p X h), fun s σ H S g o s' e Q q => ?_⟩
  obtain ⟨ds, s1, e1, e⟩ := bnd_some e
  by_cases hf : fitsL ds = true
  · rw [if_pos hf] at e
    obtain ⟨rfl, rfl⟩ := ret_some e
    refine m s σ H S g ds _ e1 _ fun vs H1 S1 g1 w1 r1 => ⟨by rw [r1.len]; exact of_decide_eq_true hf, fun p n => ?_⟩
    have w := Grow.alloc (o := .tup vs) g1.fr.sub n
    exact q _ _ _ (g1.grow w) (w1.trans w.step) (.tup (SqT.of upd_same) (DqAll.mono w.s r1)) trivial
  · rw [if_neg hf] at e
    cases e
theorem DO.lst {G : M τ (List D)} (h : DV Γ B es G) : DO Γ B (.List es pos) (lstM G) := by
  obtain ⟨t, p, m⟩ := h
  refine ⟨_, fun X h => pe_lst (p X h), fun s σ H S g o s' e Q q => ?_⟩
  obtain ⟨ds, s1, e1, e⟩ := bnd_some e
  by_cases hf : fitsL ds = true
  · rw [if_pos hf] at e
    obtain ⟨rfl, rfl⟩ := ret_some e
    refine m s σ H S g ds _ e1 _ fun vs H1 S1 g1 w1 r1 => ⟨by rw [r1.len]; exact of_decide_eq_true hf, fun p n => ?_⟩
    obtain ⟨g2, f⟩ := Good.free g1 n r1
    exact q _ _ _ g2 (w1.trans (Grow.fresh g1.fr.sub n).step) ⟨p, rfl, f⟩ ⟨p, rfl, w1.dom p n⟩
  · rw [if_neg hf] at e
    cases e
end

/-! ### subscripts, slices, calls -/
section
variable {Γ : Gam} {B : Bd τ} {pos : Pos} {a b e : Expr} {es : List Expr} {Fa Fb : M τ Opd}
theorem DO.ix {f : D → D → Option Opd} (ho : ∃ r, (∀ X, Γ.Has X → IxR X r) ∧ OpM Γ.K r f) (ha : DO Γ B a Fa) (hb : DO Γ B b Fb) (hs : PlainIx b := by intro _ _; rfl) : DO Γ B (.Subscript a b pos) (op2 f Fa Fb) := by
  obtain ⟨ta, pa, ma⟩ := ha
  obtain ⟨tb, pb, mb⟩ := hb
  obtain ⟨r, ro, mo⟩ := ho
  exact ⟨_, fun X h => pe_ix (ro X h) (pa X h) (pb X h) hs, mean_op ma mb mo⟩
/-- a part of a slice -/
def MeanP (K : Frag) (B : Bd τ) (t : TO) (F : M τ (Option Int)) : Prop := ∀ s σ H S, Good K B s σ H S → ∀ o s', F s = some (o, s') →
  ∀ Q : Option Int → Hp → Prop, (∀ H' S', Good K B s' σ H' S' → Step K B σ s H S s' H' S' → Q o H') → t σ H Q
def DP (Γ : Gam) (B : Bd τ) (e : Option Expr) (F : M τ (Option Int)) : Prop := ∃ t, (∀ X, Γ.Has X → PO X e t) ∧ MeanP Γ.K B t F
theorem DP.none : DP Γ B none (ret none) := ⟨_, fun X h => po_none, fun s σ H S g o s' e Q q => by
  obtain ⟨rfl, rfl⟩ := ret_some e
  exact q H S g Step.refl⟩
def intO (o : Opd) : M τ (Option Int) := bnd (getO o) fun x => match x with
  | .int i => ret (some i)
  | _ => stuck
theorem DP.some (ha : DO Γ B a Fa) : DP Γ B (some a) (bnd Fa intO) := by
  obtain ⟨ta, pa, ma⟩ := ha
  refine ⟨_, fun X h => po_some (pa X h), fun s σ H S g o s' e Q q => ?_⟩
  obtain ⟨o1, s1, e1, e⟩ := bnd_some e
  obtain ⟨x, s2, e2, e⟩ := bnd_some e
  refine ma s σ H S g o1 s1 e1 _ fun v H1 S1 g1 w1 r1 _ => ?_
  obtain ⟨rfl, vx⟩ := view_of g1 r1 e2
  cases x with
  | int i =>
    obtain ⟨rfl, rfl⟩ := ret_some e
    obtain rfl := vx.int
    exact ⟨i, rfl, q H1 S1 g1 w1⟩
  | _ => cases e
def SlM (K : Frag) (r : V → Option Int → Option Int → Hp → VK → Prop) (f : D → Option Int → Option Int → Option Opd) : Prop := ∀ H S v x lo hi o, Same S H → View K H S v x → f x lo hi = some o →
  ∀ Q : VK, (∀ z H' S', ResR K H S z H' S' o → Q z H') → r v lo hi H Q
def sliceM (f : D → Option Int → Option Int → Option Opd) (F : M τ Opd) (L U : M τ (Option Int)) : M τ Opd := bnd (lateM F) fun o => bnd L fun l => bnd U fun u => bnd (getO o) fun x => lift (f x l u)
theorem DO.slice {f : D → Option Int → Option Int → Option Opd} {lo hi : Option Expr} {L U : M τ (Option Int)} {p2 : Pos} (ho : ∃ r, (∀ X, Γ.Has X → SlR X r) ∧ SlM Γ.K r f) (ha : DO Γ B a Fa) (hl : DP Γ B lo L) (hh : DP Γ B hi U) :
    DO Γ B (.Subscript a (.Slice lo hi none p2) pos) (sliceM f Fa L U) := by
  obtain ⟨ta, pa, ma⟩ := ha
  obtain ⟨tl, pl, ml⟩ := hl
  obtain ⟨tu, pu, mu⟩ := hh
  obtain ⟨r, ro, mo⟩ := ho
  refine ⟨_, fun X h => pe_slice (ro X h) (pa X h) (pl X h) (pu X h), fun s σ H S g o s' e Q q => ?_⟩
  obtain ⟨o1, s1, e1, e⟩ := bnd_some e
  obtain ⟨l, s2, e2, e⟩ := bnd_some e
  obtain ⟨u, s3, e3, e⟩ := bnd_some e
  obtain ⟨x, s4, e4, e⟩ := bnd_some e
  obtain ⟨ez, rfl⟩ := lift_some e
  refine ma.late g e1 fun v H1 S1 g1 w1 r1 => ?_
  refine ml s1 σ H1 S1 g1 l s2 e2 _ fun H2 S2 g2 w2 => ?_
  refine mu s2 σ H2 S2 g2 u s3 e3 _ fun H3 S3 g3 w3 => ?_
  obtain ⟨rfl, vx⟩ := view_of g3 ((r1.mono (w2.trans w3).same).rel) e4
  refine mo H3 S3 v x l u o g3.fr.sub vx ez Q fun z H4 S4 rr => ?_
  obtain ⟨g4, w4, r4, f4⟩ := rr.good g3
  exact q z H4 S4 g4 (((w1.trans w2).trans w3).trans w4) r4 (f4.dom ((w1.trans w2).trans w3))
/-- operands, looked at -/
def getL : List Opd → M τ (List D)
  | [] => ret []
  | o :: os => bnd (getO o) fun x => bnd (getL os) fun xs => ret (x :: xs)
def ViewL (K : Frag) (H S : Hp) : List V → List D → Prop
  | [], [] => True
  | v :: vs, x :: xs => View K H S v x ∧ ViewL K H S vs xs
  | _, _ => False
theorem viewL_of {K : Frag} {B : Bd τ} {s s' : Stt τ} {σ : List (Option V)} {H S : Hp} (g : Good K B s σ H S) : ∀ {vs : List V} {os : List Opd} {ds : List D}, RelL K S σ vs os → getL os s = some (ds, s') → s' = s ∧ ViewL K H S vs ds
  | [], [], ds, _, e => by
    obtain ⟨rfl, rfl⟩ := ret_some e
    exact ⟨rfl, trivial⟩
  | v :: vs, o :: os, ds, r, e => by
    obtain ⟨x, s1, e1, eA⟩ := bnd_some e
    obtain ⟨xs, s2, e2, eB⟩ := bnd_some eA
    obtain ⟨rfl, rfl⟩ := ret_some eB
    obtain ⟨rfl, vx⟩ := view_of g r.1.rel e1
    obtain ⟨q, vl⟩ := viewL_of g r.2 e2
    exact ⟨q, vx, vl⟩
  | [], _ :: _, _, r, _ => r.elim
  | _ :: _, [], _, r, _ => r.elim
def CallM (K : Frag) (r : List V → Hp → VK → Prop) (f : List D → Option Opd) : Prop := ∀ H S vs xs o, Same S H → ViewL K H S vs xs → f xs = some o →
  ∀ Q : VK, (∀ z H' S', ResR K H S z H' S' o → Q z H') → r vs H Q
def callM (f : List D → Option Opd) (G : M τ (List Opd)) : M τ Opd := bnd G fun os => bnd (getL os) fun xs => lift (f xs)
theorem mean_call {t : TA} {r : List V → Hp → VK → Prop} {f : List D → Option Opd} {G : M τ (List Opd)} (m : MeanA Γ.K B t G) (mo : CallM Γ.K r f) : Mean Γ.K B (tCB r t) (callM f G) := fun s σ H S g o s' e Q q => by
  obtain ⟨os, s1, e1, e⟩ := bnd_some e
  obtain ⟨xs, s2, e2, e⟩ := bnd_some e
  obtain ⟨ez, rfl⟩ := lift_some e
  refine m s σ H S g os s1 e1 _ fun vs H1 S1 g1 w1 r1 => ?_
  obtain ⟨rfl, vl⟩ := viewL_of g1 r1 e2
  refine mo H1 S1 vs xs o g1.fr.sub vl ez Q fun z H2 S2 rr => ?_
  obtain ⟨g2, w2, r2, f2⟩ := rr.good g1
  exact q z H2 S2 g2 (w1.trans w2) r2 (f2.dom w1)
def CallD (Γ : Gam) (fv : Value) (f : List D → Option Opd) : Prop := ∃ r, (∀ X, Γ.Has X → CallR X fv r) ∧ CallM Γ.K r f
theorem DO.callB {x : Str} {id : String} {f : List D → Option Opd} {G : M τ (List Opd)} {p : Pos} (hc : CallD Γ (.builtin id) f) (hg : Γ.sc.names.lookup x = some .globalImplicit) (hm : Γ.mg x = none) (hv : bootBuiltins x = some (.builtin id)) (ha : DA Γ B (e :: es) G)
    (hn : x ≠ "__name__" := by decide) (hdb : (x == ("__debug__" : Str)) = false := by decide) (he : ∀ X : Cx, starEach (e :: es) X.env = (false, eval e X.env) :: starEach es X.env := by intro _; rfl) (hpl : ∀ X : Cx, (backTo pos (starEach es X.env)).any (·.1) = false := by intro _; rfl) :
    DO Γ B (.Call (.Name x p) (e :: es) [] pos) (callM f G) := by
  obtain ⟨t, pa, m⟩ := ha
  obtain ⟨r, ro, mo⟩ := hc
  exact ⟨_, fun X h => pe_callB (ro X h) (gl_of h hg) (by rw [h.mg]; exact hm) hv (pa X h) hn hdb (he X) (hpl X), mean_call m mo⟩
theorem DO.callTy {x : Str} {T : String} {f : List D → Option Opd} {G : M τ (List Opd)} {p : Pos} (hc : CallD Γ (.type T) f) (hg : Γ.sc.names.lookup x = some .globalImplicit) (hm : Γ.mg x = none) (hv : bootBuiltins x = some (.type T)) (ha : DA Γ B (e :: es) G)
    (hn : x ≠ "__name__" := by decide) (hdb : (x == ("__debug__" : Str)) = false := by decide) (he : ∀ X : Cx, starEach (e :: es) X.env = (false, eval e X.env) :: starEach es X.env := by intro _; rfl) (hpl : ∀ X : Cx, (backTo pos (starEach es X.env)).any (·.1) = false := by intro _; rfl) :
    DO Γ B (.Call (.Name x p) (e :: es) [] pos) (callM f G) := by
  obtain ⟨t, pa, m⟩ := ha
  obtain ⟨r, ro, mo⟩ := hc
  exact ⟨_, fun X h => pe_callTy (ro X h) (gl_of h hg) (by rw [h.mg]; exact hm) hv (pa X h) hn hdb (he X) (hpl X), mean_call m mo⟩
end
end DL
end

section
set_option Elab.async false
set_option linter.all false
set_option maxRecDepth 100000
set_option maxHeartbeats 3999999
/-! WEng3: the operations on data -/
namespace DL
open L2 PySem PyProof.Rows PySem.Spec
variable {τ α β : Type}

/-! ### whole numbers -/
def opI (C : Int → Int → Bool) (f : Int → Int → D) : D → D → Option Opd := fun x y => match x, y with
  | .int i, .int j => if C i j then some (.val (f i j)) else none
  | _, _ => none
theorem opM_int {K : Frag} {S H : Hp} {v : V} {d : D} (w : Same S H) (h : Dq K S v d) {Q : VK} (q : ∀ z H' S', ResR K H S z H' S' (.val d) → Q z H') : Q v H := q v H S (.val (Grow.refl w) h)
theorem opI_of {Γ : Gam} {f : Value → Value → Sem Value} {C : Int → Int → Bool} {C' : Int → Int → Prop} {g : Int → Int → V} {d : Int → Int → D} (ho : ∀ X, Γ.Has X → OpR X f (rI C' g)) (hc : ∀ i j, C i j = true → C' i j)
    (hd : ∀ S i j, Dq Γ.K S (g i j) (d i j)) : OpD Γ f (opI C d) := ⟨_, ho, fun H S v u x y o w vx vy e Q q => by
  unfold opI at e
  split at e
  · rename_i i j
    by_cases hC : C i j = true
    · rw [if_pos hC] at e
      cases e
      exact ⟨i, j, vx.int, vy.int, hc i j hC, opM_int w (hd S i j) q⟩
    · rw [if_neg hC] at e
      cases e
  · cases e⟩
theorem opI0_of {Γ : Gam} {f : Value → Value → Sem Value} {g : Int → Int → V} {d : Int → Int → D} (ho : ∀ X, Γ.Has X → OpR X f (rI0 g))
    (hd : ∀ S i j, Dq Γ.K S (g i j) (d i j)) : OpD Γ f (opI (fun _ _ => true) d) := ⟨_, ho, fun H S v u x y o w vx vy e Q q => by
  unfold opI at e
  split at e
  · rename_i i j
    cases e
    exact ⟨i, j, vx.int, vy.int, opM_int w (hd S i j) q⟩
  · cases e⟩
def mulOk (i j : Int) : Bool := decide (i.natAbs.log2 + j.natAbs.log2 < 1000000)
def divOk (_ j : Int) : Bool := decide (0 < j) && decide (j.natAbs.log2 < 9000)
def modOk (_ j : Int) : Bool := decide (0 < j)
def powOk (i j : Int) : Bool := decide (0 ≤ j) && decide (j ≤ 1000000) && decide (i.natAbs < 2 ^ 64)
def subD : D → D → Option Opd := opI (fun _ _ => true) fun i j => .int (i - j)
def fdivD : D → D → Option Opd := opI divOk fun i j => .int (i / j)
def modD : D → D → Option Opd := opI modOk fun i j => .int (i % j)
def powD : D → D → Option Opd := opI powOk fun i j => .int (i ^ j.toNat)
def ltD : D → D → Option Opd := opI (fun _ _ => true) fun i j => .bool (decide (i < j))
def leD : D → D → Option Opd := opI (fun _ _ => true) fun i j => .bool (decide (i ≤ j))
def gtD : D → D → Option Opd := opI (fun _ _ => true) fun i j => .bool (decide (j < i))
def geD : D → D → Option Opd := opI (fun _ _ => true) fun i j => .bool (decide (j ≤ i))
section
variable {Γ : Gam}
theorem od_sub : OpD Γ (binaryOp .Sub) subD := opI0_of (fun _ _ => op_sub) fun _ _ _ => .int _
theorem od_fdiv : OpD Γ (binaryOp .FloorDiv) fdivD := opI_of (fun _ _ => op_fdivW) (fun i j h => by
  have h' := Bool.and_eq_true_iff.mp h
  exact ⟨of_decide_eq_true h'.1, of_decide_eq_true h'.2⟩) fun _ _ _ => .int _
theorem od_mod : OpD Γ (binaryOp .Mod) modD := opI_of (fun _ _ => op_mod) (fun i j h => of_decide_eq_true h) fun _ _ _ => .int _
theorem od_pow : OpD Γ (binaryOp .Pow) powD := opI_of (fun _ _ => op_pow) (fun i j h => by
  have h' := Bool.and_eq_true_iff.mp h
  have h2 := Bool.and_eq_true_iff.mp h'.1
  exact ⟨of_decide_eq_true h2.1, of_decide_eq_true h2.2, of_decide_eq_true h'.2⟩) fun _ _ _ => .int _
theorem od_lt : OpD Γ (compareOp .Lt) ltD := opI0_of (fun _ _ => op_lt) fun _ _ _ => .bl _
theorem od_le : OpD Γ (compareOp .LtE) leD := opI0_of (fun _ _ => op_le) fun _ _ _ => .bl _
theorem od_gt : OpD Γ (compareOp .Gt) gtD := opI0_of (fun _ _ => op_gt) fun _ _ _ => .bl _
theorem od_ge : OpD Γ (compareOp .GtE) geD := opI0_of (fun _ _ => op_ge) fun _ _ _ => .bl _
theorem od_addI : OpD Γ (binaryOp .Add) (opI (fun _ _ => true) fun i j => .int (i + j)) := opI0_of (fun _ _ => op_add) fun _ _ _ => .int _
theorem od_mulI : OpD Γ (binaryOp .Mult) (opI mulOk fun i j => .int (i * j)) := opI_of (fun _ _ => op_mulW) (fun i j h => (of_decide_eq_true h : i.natAbs.log2 + j.natAbs.log2 < 1000000)) fun _ _ _ => .int _

/-! ### sequences added, repeated -/
def catL : D → D → Option Opd := fun x y => match x, y with
  | .list xs, .list ys => if xs.length + ys.length ≤ sizeLine then some (.new (xs ++ ys)) else none
  | _, _ => none
theorem od_catL : OpD Γ (binaryOp .Add) catL := ⟨_, fun _ _ => op_cat, fun H S v u x y o w vx vy e Q q => by
  unfold catL at e
  split at e
  · rename_i xs ys
    obtain ⟨p, vs, rfl, hp, ha⟩ := vx.lst w
    obtain ⟨b, us, rfl, hb, hu⟩ := vy.lst w
    by_cases hz : xs.length + ys.length ≤ sizeLine
    · rw [if_pos hz] at e
      cases e
      exact ⟨p, b, vs, us, rfl, rfl, hp, hb, by rw [ha.len, hu.len]; exact hz, fun p' n => q _ _ _ (.new n (ha.app hu))⟩
    · rw [if_neg hz] at e
      cases e
  · cases e⟩
def catT : D → D → Option Opd := fun x y => match x, y with
  | .tuple xs, .tuple ys => if xs.length + ys.length ≤ sizeLine then some (.val (.tuple (xs ++ ys))) else none
  | _, _ => none
theorem od_catT : OpD Γ (binaryOp .Add) catT := by
  refine ⟨rCatA Γ.K, fun X h => by have := @op_catA X; rw [h.K] at this; exact this, fun H S v u x y o w vx vy e Q q => ?_⟩
  unfold catT at e
  split at e
  · rename_i xs ys
    obtain ⟨p, vs, rfl, hp, ha⟩ := vx.tup
    obtain ⟨b, us, rfl, hb, hu⟩ := vy.tup
    by_cases hz : xs.length + ys.length ≤ sizeLine
    · rw [if_pos hz] at e
      cases e
      refine ⟨p, b, vs, us, rfl, rfl, seqT_mono w hp, seqT_mono w hb, by rw [ha.len, hu.len]; exact hz, fun e1 => ?_, fun e1 e2 => ?_, fun e1 e2 p' n => ?_⟩
      · obtain rfl := ha.nil_iff.mp e1
        exact q _ H S (.val (Grow.refl w) (.tup hb hu))
      · obtain rfl := hu.nil_iff.mp e2
        rw [List.append_nil] at q
        exact q _ H S (.val (Grow.refl w) (.tup hp ha))
      · have g := Grow.alloc (o := .tup (vs ++ us)) w n
        exact q _ _ _ (.val g (.tup (SqT.of upd_same) (DqAll.mono g.s (ha.app hu))))
    · rw [if_neg hz] at e
      cases e
  · cases e
def catS : D → D → Option Opd := fun x y => match x, y with
  | .str a, .str b => if a.length + b.length ≤ sizeLine then some (.val (.str (a ++ b))) else none
  | _, _ => none
theorem od_catS : OpD Γ (binaryOp .Add) catS := ⟨_, fun _ _ => op_add_str, fun H S v u x y o w vx vy e Q q => by
  unfold catS at e
  split at e
  · rename_i a b
    by_cases hz : a.length + b.length ≤ sizeLine
    · rw [if_pos hz] at e
      cases e
      exact ⟨a, b, vx.str, vy.str, hz, opM_int w (.str _) q⟩
    · rw [if_neg hz] at e
      cases e
  · cases e⟩
def addD : D → D → Option Opd := orO (opI (fun _ _ => true) fun i j => .int (i + j)) (orO catT (orO catL catS))
theorem od_add : OpD Γ (binaryOp .Add) addD := od_addI.or (od_catT.or (od_catL.or od_catS))
def repT : D → D → Option Opd := fun x y => match x, y with
  | .tuple xs, .int k => if xs ≠ [] ∧ 2 ≤ k ∧ k ≤ 1000 ∧ xs.length ≤ 1000 then some (.val (.tuple (List.replicate k.toNat xs).flatten)) else none
  | _, _ => none
theorem od_repT : OpD Γ (binaryOp .Mult) repT := by
  refine ⟨rRepT Γ.K, fun X h => by have := @op_repT X; rw [h.K] at this; exact this, fun H S v u x y o w vx vy e Q q => ?_⟩
  unfold repT at e
  split at e
  · rename_i xs k
    obtain ⟨p, vs, rfl, hp, ha⟩ := vx.tup
    by_cases hz : xs ≠ [] ∧ 2 ≤ k ∧ k ≤ 1000 ∧ xs.length ≤ 1000
    · rw [if_pos hz] at e
      cases e
      obtain ⟨h1, h2, h3, h4⟩ := hz
      refine ⟨p, k, vs, rfl, vy.int, seqT_mono w hp, fun z => h1 (ha.nil_iff.mp z), h2, h3, by rw [ha.len]; exact h4, fun p' n => ?_⟩
      have g := Grow.alloc (o := .tup (List.replicate k.toNat vs).flatten) w n
      exact q _ _ _ (.val g (.tup (SqT.of upd_same) (DqAll.mono g.s (ha.rep _))))
    · rw [if_neg hz] at e
      cases e
  · cases e
theorem tuple_mul1 (l : Addr) (its : Array Value) (n : Nat) (dd : Option Addr) (sl : Array (Option Value)) (u : Tok) :
    Meets (Builtin.«tuple.__mul__» ⟨[.ref l, .int 1 u], []⟩) (fun _ R s => s.heap.get? l = some { cls := .type "tuple", dict := dd, data := .seq its n, slots := sl } ∧ R (.ok (.ret (.ref l))) s) :=
  .of_wp fun prog w A R s h => by
    obtain ⟨hp, g, d, tk, os⟩ := s
    obtain ⟨hl, h⟩ := h
    have f1 := AutoSeq1.idx_int
    wp_walk using wpAny_loadPart' hl
    exact ⟨_, rfl, h⟩
/-- a tuple times one is that tuple -/
def rRep1 (K : Frag) : R2 := fun x y H Q => ∃ l xs, x = .ref l ∧ y = .int 1 ∧ SqT K H l xs ∧ Q (.ref l) H
theorem op_rep1 {X : Cx} : OpR X (binaryOp .Mult) (rRep1 X.K) := by
  intro pins s σ H x y v u Q I rx ry h
  obtain ⟨l, xs, rfl, rfl, hT, q⟩ := h
  cases rx
  obtain ⟨t, rfl⟩ := ry
  obtain ⟨its, r, ⟨⟨cls, dd, data, sl⟩, ho, hc, n, hd⟩, hs⟩ := I.tuple hT
  simp only at hc hd
  subst hc hd
  refine wpAny_binaryOp_repeat_ref (T := "tuple") (U := "int") (by decide) ⟨_, ho, rfl⟩ (fun s' => typeIs_int s' 1 t) noFill_tuple_mul F.fills_int_mul F.slot_int_rmul repeat_tuple F.slot_int_index.lookup
    (call_meets F.slot_int_rmul (typeIs_int s 1 t) F.entry_int_rmul (F.args_int_rmul_2 _ _) (int_rmul_tuple 1 t l its.toArray n dd sl)
      ⟨ho, rfl, ⟨_, ho, rfl⟩, call_meets F.slot_tuple_mul ⟨_, ho, rfl⟩ F.entry_tuple_mul (F.args_tuple_mul_2 _ _) (tuple_mul1 l its.toArray n dd sl t) ⟨ho, ?_⟩⟩)
  exact ⟨.ref l, H, I, rfl, q⟩
def rep1 : D → D → Option Opd := fun x y => match x, y with
  | .tuple xs, .int k => if k = 1 then some (.val (.tuple xs)) else none
  | _, _ => none
theorem od_rep1 : OpD Γ (binaryOp .Mult) rep1 := by
  refine ⟨rRep1 Γ.K, fun X h => by have := @op_rep1 X; rw [h.K] at this; exact this, fun H S v u x y o w vx vy e Q q => ?_⟩
  unfold rep1 at e
  split at e
  · rename_i xs k
    split at e
    · rename_i hk
      cases e
      subst hk
      obtain ⟨p, vs, rfl, hp, ha⟩ := vx.tup
      obtain rfl := vy.int
      exact ⟨p, vs, rfl, rfl, seqT_mono w hp, q _ H S (.val (Grow.refl w) (.tup hp ha))⟩
    · cases e
  · cases e
def repL : D → D → Option Opd := fun x y => match x, y with
  | .list xs, .int k => if -(2 ^ 63) ≤ k ∧ k < 2 ^ 63 ∧ xs.length * k.toNat ≤ sizeLine then some (.new (List.replicate k.toNat xs).flatten) else none
  | _, _ => none
theorem od_repL : OpD Γ (binaryOp .Mult) repL := ⟨_, fun _ _ => op_rep, fun H S v u x y o w vx vy e Q q => by
  unfold repL at e
  split at e
  · rename_i xs k
    obtain ⟨p, vs, rfl, hp, ha⟩ := vx.lst w
    by_cases hz : -(2 ^ 63) ≤ k ∧ k < 2 ^ 63 ∧ xs.length * k.toNat ≤ sizeLine
    · rw [if_pos hz] at e
      cases e
      obtain ⟨h1, h2, h3⟩ := hz
      exact ⟨p, k, vs, rfl, vy.int, hp, h1, h2, by rw [ha.len]; exact h3, fun p' n => q _ _ _ (.new n (ha.rep _))⟩
    · rw [if_neg hz] at e
      cases e
  · cases e⟩
def mulD : D → D → Option Opd := orO (opI mulOk fun i j => .int (i * j)) (orO repT (orO rep1 repL))
theorem od_mul : OpD Γ (binaryOp .Mult) mulD := od_mulI.or (od_repT.or (od_rep1.or od_repL))

/-! ### comparisons -/
def eqD : D → D → Option Opd := fun x y => if SeqAt.shaped x && SeqAt.shaped y then some (.val (.bool (PyData.eqv x y))) else none
def neD : D → D → Option Opd := fun x y => if SeqAt.shaped x && SeqAt.shaped y then some (.val (.bool (!PyData.eqv x y))) else none
theorem od_eq {k : Nat} (ok : Γ.Ok k) : OpD Γ (compareOp .Eq) eqD := by
  refine ⟨rEqD Γ.K, fun X h => by have := @op_eqD X (by rw [h.A]; exact ok.room.units); rw [h.K] at this; exact this, fun H S v u x y o w vx vy e Q q => ?_⟩
  unfold eqD at e
  by_cases hz : (SeqAt.shaped x && SeqAt.shaped y) = true
  · rw [if_pos hz] at e
    cases e
    obtain ⟨h1, h2⟩ := Bool.and_eq_true_iff.mp hz
    exact ⟨x, y, (vx.full w).dp, (vy.full w).dp, h1, h2, opM_int w (.bl _) q⟩
  · rw [if_neg hz] at e
    cases e
theorem od_ne {k : Nat} (ok : Γ.Ok k) : OpD Γ (compareOp .NotEq) neD := by
  refine ⟨rNeD Γ.K, fun X h => by have := @op_neD X (by rw [h.A]; exact ok.room.units); rw [h.K] at this; exact this, fun H S v u x y o w vx vy e Q q => ?_⟩
  unfold neD at e
  by_cases hz : (SeqAt.shaped x && SeqAt.shaped y) = true
  · rw [if_pos hz] at e
    cases e
    obtain ⟨h1, h2⟩ := Bool.and_eq_true_iff.mp hz
    exact ⟨x, y, (vx.full w).dp, (vy.full w).dp, h1, h2, opM_int w (.bl _) q⟩
  · rw [if_neg hz] at e
    cases e
def isNoneB : D → Bool
  | .none => true
  | _ => false
theorem View.isN {K : Frag} {H S : Hp} {v : V} {d : D} (h : View K H S v d) : decide (v = .non) = isNoneB d := by
  rcases h with h | ⟨p, vs, xs, rfl, _, _, rfl⟩
  · cases h <;> rfl
  · rfl
def isD : D → D → Option Opd := fun x y => match y with
  | .none => some (.val (.bool (isNoneB x)))
  | _ => none
def isNotD : D → D → Option Opd := fun x y => match y with
  | .none => some (.val (.bool (!isNoneB x)))
  | _ => none
theorem od_is : OpD Γ (compareOp .Is) isD := ⟨_, fun _ _ => op_isN, fun H S v u x y o w vx vy e Q q => by
  unfold isD at e
  split at e
  · cases e
    exact ⟨vy.non, by rw [vx.isN]; exact opM_int w (.bl _) q⟩
  · cases e⟩
theorem od_isNot : OpD Γ (compareOp .IsNot) isNotD := ⟨_, fun _ _ => op_notN, fun H S v u x y o w vx vy e Q q => by
  unfold isNotD at e
  split at e
  · cases e
    exact ⟨vy.non, by rw [vx.isN]; exact opM_int w (.bl _) q⟩
  · cases e⟩
def flatD : D → Bool
  | .none => true
  | .bool _ => true
  | .int _ => true
  | .str _ => true
  | _ => false
theorem flat_of {K : Frag} {S : Hp} {v : V} {d : D} (h : Dq K S v d) : flatV v = flatD d := by cases h <;> rfl
theorem flats_of {K : Frag} {S : Hp} : ∀ {vs : List V} {ds : List D}, DqAll K S vs ds → vs.all flatV = ds.all flatD
  | _, _, .nil => rfl
  | _, _, .cons h t => by rw [List.all_cons, List.all_cons, flat_of h, flats_of t]
theorem eqV_of {K : Frag} {S : Hp} {v u : V} {x y : D} (h : Dq K S v x) (h' : Dq K S u y) (fx : flatD x = true) (fy : flatD y = true) : eqV v u = PyData.eqv x y := by
  cases h <;> first | (cases fx; done) | (cases h' <;> first | (cases fy; done) | rfl | simp [eqV, PyData.eqv])
theorem inV_of {K : Frag} {S : Hp} {u : V} {y : D} (h' : Dq K S u y) (fy : flatD y = true) : ∀ {vs : List V} {ds : List D}, DqAll K S vs ds → ds.all flatD = true → inV u vs = ds.any fun z => PyData.eqv z y
  | _, _, .nil, _ => rfl
  | _, _, .cons h t, f => by
    rw [List.all_cons, Bool.and_eq_true] at f
    show List.any _ _ = _
    rw [List.any_cons, List.any_cons, eqV_of h h' f.1 fy]
    exact congrArg _ (inV_of h' fy t f.2)
def inT (neg : Bool) : D → D → Option Opd := fun x y => match y with
  | .tuple ys => if flatD x && ys.all flatD then some (.val (.bool (if neg then !(ys.any fun z => PyData.eqv z x) else ys.any fun z => PyData.eqv z x))) else none
  | _ => none
theorem opM_inT (neg : Bool) : OpM Γ.K (rIn Γ.K neg) (inT neg) := fun H S v u x y o w vx vy e Q q => by
  unfold inT at e
  split at e
  · rename_i ys
    obtain ⟨p, vs, rfl, hp, ha⟩ := vy.tup
    by_cases hz : (flatD x && ys.all flatD) = true
    · rw [if_pos hz] at e
      cases e
      obtain ⟨h1, h2⟩ := Bool.and_eq_true_iff.mp hz
      have hx : Dq Γ.K S v x := by
        rcases vx with h | ⟨_, _, xs, _, _, _, rfl⟩
        · exact h
        · cases h1
      exact ⟨p, vs, rfl, .inr (seqT_mono w hp), by rw [flat_of hx]; exact h1, by rw [flats_of ha]; exact h2, by rw [inV_of hx h1 ha h2]; exact opM_int w (.bl _) q⟩
    · rw [if_neg hz] at e
      cases e
  · cases e
def inL (neg : Bool) : D → D → Option Opd := fun x y => match y with
  | .list ys => if SeqAt.shaped x && SeqAt.shaped (.list ys) then some (.val (.bool (if neg then !(ys.any fun z => PyData.eqv z x) else ys.any fun z => PyData.eqv z x))) else none
  | _ => none
theorem od_inT : OpD Γ (compareOp .In) (inT false) := ⟨rIn Γ.K false, fun X h => by have := @op_in_seq X; rw [h.K] at this; exact this, opM_inT false⟩
theorem od_notInT : OpD Γ (compareOp .NotIn) (inT true) := ⟨rIn Γ.K true, fun X h => by have := @op_notIn_seq X; rw [h.K] at this; exact this, opM_inT true⟩
theorem od_inL {k : Nat} (ok : Γ.Ok k) : OpD Γ (compareOp .In) (inL false) := by
  refine ⟨rInD Γ.K, fun X h => by have := @op_inD X (by rw [h.A]; exact ok.hu); rw [h.K] at this; exact this, fun H S v u x y o w vx vy e Q q => ?_⟩
  unfold inL at e
  split at e
  · rename_i ys
    by_cases hz : (SeqAt.shaped x && SeqAt.shaped (.list ys)) = true
    · rw [if_pos hz] at e
      cases e
      obtain ⟨h1, h2⟩ := Bool.and_eq_true_iff.mp hz
      exact ⟨x, ys, (vx.full w).dp, (vy.full w).dp, h1, h2, opM_int w (.bl _) q⟩
    · rw [if_neg hz] at e
      cases e
  · cases e
theorem od_notInL {k : Nat} (ok : Γ.Ok k) : OpD Γ (compareOp .NotIn) (inL true) := by
  refine ⟨rNotInD Γ.K, fun X h => by have := @op_notInD X (by rw [h.A]; exact ok.hu); rw [h.K] at this; exact this, fun H S v u x y o w vx vy e Q q => ?_⟩
  unfold inL at e
  split at e
  · rename_i ys
    by_cases hz : (SeqAt.shaped x && SeqAt.shaped (.list ys)) = true
    · rw [if_pos hz] at e
      cases e
      obtain ⟨h1, h2⟩ := Bool.and_eq_true_iff.mp hz
      exact ⟨x, ys, (vx.full w).dp, (vy.full w).dp, h1, h2, opM_int w (.bl _) q⟩
    · rw [if_neg hz] at e
      cases e
  · cases e
def inD : D → D → Option Opd := orO (inT false) (inL false)
def notInD : D → D → Option Opd := orO (inT true) (inL true)
theorem od_in {k : Nat} (ok : Γ.Ok k) : OpD Γ (compareOp .In) inD := od_inT.or (od_inL ok)
theorem od_notIn {k : Nat} (ok : Γ.Ok k) : OpD Γ (compareOp .NotIn) notInD := od_notInT.or (od_notInL ok)

/-! ### items, slices -/
def ixD : D → D → Option Opd := fun x y => match x, y with
  | .list xs, .int i => (atI xs i).map .val
  | .tuple xs, .int i => (atI xs i).map .val
  | _, _ => none
theorem atI_of {K : Frag} {S : Hp} {vs : List V} {ds : List D} {i : Int} {d : D} (h : DqAll K S vs ds) (e : atI ds i = some d) : ∃ v, atI vs i = some v ∧ Dq K S v d := by
  unfold atI at e ⊢
  rw [h.len]
  cases q : ixN ds.length i with
  | none => rw [q] at e; cases e
  | some j =>
    rw [q] at e
    exact h.getD (i := j) e
theorem od_ix : ∃ r, (∀ X, Γ.Has X → IxR X r) ∧ OpM Γ.K r ixD := by
  refine ⟨_, fun X h => IxR.or (by have := @ix_list X; rw [h.K] at this; exact this) (by have := @ix_tup X; rw [h.K] at this; exact this), fun H S v u x y o w vx vy e Q q => ?_⟩
  unfold ixD at e
  split at e
  · rename_i xs i
    obtain ⟨p, vs, rfl, hp, ha⟩ := vx.lst w
    cases q1 : atI xs i with
    | none => rw [q1] at e; cases e
    | some d =>
      rw [q1] at e
      cases e
      obtain ⟨z, hz, hd⟩ := atI_of ha q1
      exact .inl ⟨p, vs, i, z, rfl, vy.int, SqL.of hp, hz, opM_int w hd q⟩
  · rename_i xs i
    obtain ⟨p, vs, rfl, hp, ha⟩ := vx.tup
    cases q1 : atI xs i with
    | none => rw [q1] at e; cases e
    | some d =>
      rw [q1] at e
      cases e
      obtain ⟨z, hz, hd⟩ := atI_of ha q1
      exact .inr ⟨p, vs, i, z, rfl, vy.int, seqT_mono w hp, hz, opM_int w hd q⟩
  · cases e
def cutD (xs : List D) (lo hi : Option Int) : List D := (xs.drop (HT.sIx xs.length 0 lo)).take (HT.sIx xs.length xs.length hi - HT.sIx xs.length 0 lo)
theorem cut_of {K : Frag} {S : Hp} {vs : List V} {ds : List D} (h : DqAll K S vs ds) (lo hi : Option Int) : DqAll K S (cutV vs lo hi) (cutD ds lo hi) := by
  unfold cutV cutD
  rw [h.len]
  exact (h.drop _).take _
def slD : D → Option Int → Option Int → Option Opd := fun x lo hi => match x with
  | .list xs => some (.new (cutD xs lo hi))
  | .tuple xs => some (.val (.tuple (cutD xs lo hi)))
  | _ => none
theorem od_sl : ∃ r, (∀ X, Γ.Has X → SlR X r) ∧ SlM Γ.K r slD := by
  refine ⟨_, fun X h => SlR.or (by have := @sl_list X; rw [h.K] at this; exact this) (by have := @sl_tupA X; rw [h.K] at this; exact this), fun H S v x lo hi o w vx e Q q => ?_⟩
  unfold slD at e
  split at e
  · rename_i xs
    obtain ⟨p, vs, rfl, hp, ha⟩ := vx.lst w
    cases e
    exact .inl ⟨p, vs, rfl, SqL.of hp, fun p' n => q _ _ _ (.new n (cut_of ha lo hi))⟩
  · rename_i xs
    obtain ⟨p, vs, rfl, hp, ha⟩ := vx.tup
    cases e
    refine .inr ⟨p, vs, rfl, seqT_mono w hp, fun ⟨e1, e2⟩ => ?_, fun _ p' n => ?_⟩
    · have ec : cutD xs lo hi = xs := by
        unfold cutD
        rw [ha.len] at e1 e2
        rw [e1, e2]
        simp
      rw [ec] at q
      exact q _ H S (.val (Grow.refl w) (.tup hp ha))
    · have g := Grow.alloc (o := .tup (cutV vs lo hi)) w n
      exact q _ _ _ (.val g (.tup (SqT.of upd_same) (DqAll.mono g.s (cut_of ha lo hi))))
  · cases e
def revM (F : M τ Opd) : M τ Opd := bnd F fun o => bnd (getO o) fun x => match x with
  | .list xs => ret (.new xs.reverse)
  | _ => stuck
theorem DO.rev {B : Bd τ} {e : Expr} {F : M τ Opd} {k p1 p2 p3} (h : DO Γ B e F) {pos : Pos} : DO Γ B (.Subscript e (.Slice none none (some (.UnaryOp .USub (.Constant (.int 1) k p1) p2)) p3) pos) (revM F) := by
  obtain ⟨t, pe, m⟩ := h
  refine ⟨tRevL Γ.K t, fun X h => by have := pe_revL (k := k) (p1 := p1) (p2 := p2) (p3 := p3) (pos := pos) (pe X h); rw [h.K] at this; exact this, fun s σ H S g o s' e Q q => ?_⟩
  obtain ⟨o1, s1, e1, eA⟩ := bnd_some e
  obtain ⟨x, s2, e2, eB⟩ := bnd_some eA
  refine m s σ H S g o1 s1 e1 _ fun v H1 S1 g1 w1 r1 _ => ?_
  obtain ⟨rfl, vx⟩ := view_of g1 r1 e2
  cases x with
  | list xs =>
    obtain ⟨rfl, rfl⟩ := ret_some eB
    obtain ⟨p, vs, rfl, hp, ha⟩ := vx.lst g1.fr.sub
    refine ⟨p, vs, rfl, SqL.of hp, fun p' n => ?_⟩
    obtain ⟨g2, f⟩ := Good.free g1 n ha.rev
    exact q _ _ _ g2 (w1.trans (Grow.fresh g1.fr.sub n).step) ⟨p', rfl, f⟩ ⟨p', rfl, w1.dom p' n⟩
  | _ => cases eB

/-! ### built-ins -/
def lenD : List D → Option Opd := fun xs => match xs with
  | [.list ys] => some (.val (.int ys.length))
  | [.tuple ys] => some (.val (.int ys.length))
  | [.str y] => if y.length ≤ sizeLine then some (.val (.int y.length)) else none
  | _ => none
theorem viewL1 {K : Frag} {H S : Hp} {vs : List V} {x : D} (h : ViewL K H S vs [x]) : ∃ v, vs = [v] ∧ View K H S v x := by
  match vs, h with
  | [v], h => exact ⟨v, rfl, h.1⟩
  | [], h => exact h.elim
  | _ :: _ :: _, h => exact h.2.elim
theorem viewL2 {K : Frag} {H S : Hp} {vs : List V} {x y : D} (h : ViewL K H S vs [x, y]) : ∃ v u, vs = [v, u] ∧ View K H S v x ∧ View K H S u y := by
  match vs, h with
  | [v, u], h => exact ⟨v, u, rfl, h.1, h.2.1⟩
  | [], h => exact h.elim
  | [_], h => exact h.2.elim
  | _ :: _ :: _ :: _, h => exact h.2.2.elim
theorem cd_len : CallD Γ (.builtin "len") lenD := by
  refine ⟨fun xs H Q => ∃ x n, xs = [x] ∧ LenV Γ.K x H n ∧ Q (.int n) H, fun X h => by have := @call_len X; rw [h.K] at this; exact this, fun H S vs xs o w vl e Q q => ?_⟩
  unfold lenD at e
  split at e
  · rename_i ys
    obtain ⟨v, rfl, vx⟩ := viewL1 vl
    obtain ⟨p, us, rfl, hp, ha⟩ := vx.lst w
    cases e
    exact ⟨_, ys.length, rfl, .inl ⟨us, SqL.of hp, ha.len.symm⟩, opM_int w (.int _) q⟩
  · rename_i ys
    obtain ⟨v, rfl, vx⟩ := viewL1 vl
    obtain ⟨p, us, rfl, hp, ha⟩ := vx.tup
    cases e
    exact ⟨_, ys.length, rfl, .inr ⟨us, seqT_mono w hp, ha.len.symm⟩, opM_int w (.int _) q⟩
  · rename_i y
    obtain ⟨v, rfl, vx⟩ := viewL1 vl
    obtain rfl := vx.str
    by_cases hz : y.length ≤ sizeLine
    · rw [if_pos hz] at e
      cases e
      exact ⟨_, y.length, rfl, ⟨hz, rfl⟩, opM_int w (.int _) q⟩
    · rw [if_neg hz] at e
      cases e
  · cases e
def listD : List D → Option Opd := fun xs => match xs with
  | [.list ys] => some (.new ys)
  | [.tuple ys] => some (.new ys)
  | _ => none
theorem cd_list : CallD Γ (.type "list") listD := by
  refine ⟨_, fun X h => by have := @call_list_of X; rw [h.K] at this; exact this, fun H S vs xs o w vl e Q q => ?_⟩
  unfold listD at e
  split at e
  · rename_i ys
    obtain ⟨v, rfl, vx⟩ := viewL1 vl
    obtain ⟨p, us, rfl, hp, ha⟩ := vx.lst w
    cases e
    exact ⟨p, us, rfl, .inl (SqL.of hp), fun l n => q _ _ _ (.new n ha)⟩
  · rename_i ys
    obtain ⟨v, rfl, vx⟩ := viewL1 vl
    obtain ⟨p, us, rfl, hp, ha⟩ := vx.tup
    cases e
    exact ⟨p, us, rfl, .inr (seqT_mono w hp), fun l n => q _ _ _ (.new n ha)⟩
  · cases e
def tupleD : List D → Option Opd := fun xs => match xs with
  | [.list ys] => some (.val (.tuple ys))
  | [.tuple ys] => some (.val (.tuple ys))
  | _ => none
theorem cd_tuple : CallD Γ (.type "tuple") tupleD := by
  refine ⟨_, fun X h => by have := @call_tuple_of X; rw [h.K] at this; exact this, fun H S vs xs o w vl e Q q => ?_⟩
  unfold tupleD at e
  split at e
  · rename_i ys
    obtain ⟨v, rfl, vx⟩ := viewL1 vl
    obtain ⟨p, us, rfl, hp, ha⟩ := vx.lst w
    cases e
    refine ⟨p, us, rfl, .inl ⟨SqL.of hp, fun l n => ?_⟩⟩
    have g := Grow.alloc (o := .tup us) w n
    exact q _ _ _ (.val g (.tup (SqT.of upd_same) (DqAll.mono g.s ha)))
  · rename_i ys
    obtain ⟨v, rfl, vx⟩ := viewL1 vl
    obtain ⟨p, us, rfl, hp, ha⟩ := vx.tup
    cases e
    exact ⟨p, us, rfl, .inr ⟨seqT_mono w hp, q _ H S (.val (Grow.refl w) (.tup hp ha))⟩⟩
  · cases e
def intD : List D → Option Opd := fun xs => match xs with
  | [.int i] => some (.val (.int i))
  | [.bool b] => some (.val (.int (if b then 1 else 0)))
  | _ => none
theorem cd_int : CallD Γ (.type "int") intD := ⟨_, fun _ _ => call_int1, fun H S vs xs o w vl e Q q => by
  unfold intD at e
  split at e
  · rename_i i
    obtain ⟨v, rfl, vx⟩ := viewL1 vl
    obtain rfl := vx.int
    cases e
    exact .inl ⟨i, rfl, opM_int w (.int _) q⟩
  · rename_i b
    obtain ⟨v, rfl, vx⟩ := viewL1 vl
    obtain rfl := vx.bl
    cases e
    exact .inr ⟨b, rfl, opM_int w (.int _) q⟩
  · cases e⟩
def minD : List D → Option Opd := fun xs => match xs with
  | [.int i, .int j] => some (.val (.int (if j < i then j else i)))
  | _ => none
def maxD : List D → Option Opd := fun xs => match xs with
  | [.int i, .int j] => some (.val (.int (if j > i then j else i)))
  | _ => none
theorem cd_min : CallD Γ (.builtin "min") minD := ⟨_, fun X h => call_min2 h.calm, fun H S vs xs o w vl e Q q => by
  unfold minD at e
  split at e
  · rename_i i j
    obtain ⟨v, u, rfl, vx, vy⟩ := viewL2 vl
    obtain rfl := vx.int
    obtain rfl := vy.int
    cases e
    exact ⟨i, j, rfl, opM_int w (.int _) q⟩
  · cases e⟩
theorem cd_max : CallD Γ (.builtin "max") maxD := ⟨_, fun X h => call_max2 h.calm, fun H S vs xs o w vl e Q q => by
  unfold maxD at e
  split at e
  · rename_i i j
    obtain ⟨v, u, rfl, vx, vy⟩ := viewL2 vl
    obtain rfl := vx.int
    obtain rfl := vy.int
    cases e
    exact ⟨i, j, rfl, opM_int w (.int _) q⟩
  · cases e⟩
def boolsOf : List D → Option (List Bool)
  | [] => some []
  | .bool b :: r => (boolsOf r).map (b :: ·)
  | _ :: _ => none
theorem bools_of {K : Frag} {S : Hp} : ∀ {vs : List V} {ds : List D} {bs : List Bool}, DqAll K S vs ds → boolsOf ds = some bs → vs = bs.map V.bl
  | _, _, _, .nil, e => by cases e; rfl
  | _, _, _, .cons h t, e => by
    cases h with
    | bl b =>
      unfold boolsOf at e
      obtain ⟨r, e1, e2⟩ := Option.map_eq_some_iff.mp e
      subst e2
      rw [List.map_cons, bools_of t e1]
    | _ => cases e
def intsOf : List D → Option (List Int)
  | [] => some []
  | .int b :: r => (intsOf r).map (b :: ·)
  | _ :: _ => none
theorem ints_of {K : Frag} {S : Hp} : ∀ {vs : List V} {ds : List D} {bs : List Int}, DqAll K S vs ds → intsOf ds = some bs → vs = bs.map V.int
  | _, _, _, .nil, e => by cases e; rfl
  | _, _, _, .cons h t, e => by
    cases h with
    | int b =>
      unfold intsOf at e
      obtain ⟨r, e1, e2⟩ := Option.map_eq_some_iff.mp e
      subst e2
      rw [List.map_cons, ints_of t e1]
    | _ => cases e
def allD : List D → Option Opd := fun xs => match xs with
  | [.list ys] => (boolsOf ys).map fun bs => .val (.bool (bs.all id))
  | _ => none
def anyD : List D → Option Opd := fun xs => match xs with
  | [.list ys] => (boolsOf ys).map fun bs => .val (.bool (bs.any id))
  | _ => none
def sumD : List D → Option Opd := fun xs => match xs with
  | [.list ys] => (intsOf ys).map fun bs => .val (.int bs.sum)
  | _ => none
theorem cd_all : CallD Γ (.builtin "all") allD := by
  refine ⟨rAll Γ.K, fun X h => by have := @cr_all X h.calm; rw [h.K] at this; exact this, fun H S vs xs o w vl e Q q => ?_⟩
  unfold allD at e
  split at e
  · rename_i ys
    obtain ⟨v, rfl, vx⟩ := viewL1 vl
    obtain ⟨p, us, rfl, hp, ha⟩ := vx.lst w
    obtain ⟨bs, e1, rfl⟩ := Option.map_eq_some_iff.mp e
    obtain rfl := bools_of ha e1
    exact ⟨p, bs, rfl, SqL.of hp, opM_int w (.bl _) q⟩
  · cases e
theorem cd_any : CallD Γ (.builtin "any") anyD := by
  refine ⟨rAny Γ.K, fun X h => by have := @cr_any X h.calm; rw [h.K] at this; exact this, fun H S vs xs o w vl e Q q => ?_⟩
  unfold anyD at e
  split at e
  · rename_i ys
    obtain ⟨v, rfl, vx⟩ := viewL1 vl
    obtain ⟨p, us, rfl, hp, ha⟩ := vx.lst w
    obtain ⟨bs, e1, rfl⟩ := Option.map_eq_some_iff.mp e
    obtain rfl := bools_of ha e1
    exact ⟨p, bs, rfl, SqL.of hp, opM_int w (.bl _) q⟩
  · cases e
theorem cd_sum : CallD Γ (.builtin "sum") sumD := by
  refine ⟨rSum Γ.K, fun X h => by have := @cr_sum X h.calm; rw [h.K] at this; exact this, fun H S vs xs o w vl e Q q => ?_⟩
  unfold sumD at e
  split at e
  · rename_i ys
    obtain ⟨v, rfl, vx⟩ := viewL1 vl
    obtain ⟨p, us, rfl, hp, ha⟩ := vx.lst w
    obtain ⟨bs, e1, rfl⟩ := Option.map_eq_some_iff.mp e
    obtain rfl := ints_of ha e1
    exact ⟨p, bs, rfl, SqL.of hp, opM_int w (.int _) q⟩
  · cases e
/-- repr of data -/
theorem call_reprD {X : Cx} (hg : X.A.guards = some []) (hu : X.A.units + 70 < cLine) : CallR X (.builtin "repr") (fun xs H Q => ∃ x d, xs = [x] ∧ Dp X.K H x d ∧ d.showable = true ∧ d.hasDict = false ∧ d.depth ≤ 64 ∧ d.shown.length ≤ sizeLine ∧ Q (.str d.shown) H) := by
  intro pins s σ H xs us Q I r h
  obtain ⟨x, d, rfl, hd, h1, h2, h3, h4, q⟩ := h
  obtain ⟨u, rfl, rx⟩ := vals1 r
  have fin : ∀ (d : D) (t : Tok), Q (.str d.shown) H → EP X pins σ Q (.str d.shown t) { s with toks := s.toks + 1 } := fun d t q => ⟨.str d.shown, H, I.tok _, ⟨t, rfl⟩, q⟩
  obtain ⟨as, rd⟩ := Dp.reads I d x u hd rx
  cases hd with
  | non => cases rx; exact PySem.P.repr_of_none (fin .none _ q)
  | bl b => cases rx; exact PySem.P.repr_of_bool (fin (.bool b) _ q)
  | int i =>
    obtain ⟨t, rfl⟩ := rx
    exact PySem.P.repr_of_int (of_decide_eq_true h1) (fin (.int i) _ q)
  | str y =>
    obtain ⟨t, rfl⟩ := rx
    exact PySem.P.repr_of_str (fin (.str y) _ q) h4
  | lst a b =>
    cases rx
    exact repr_of_reads' rd h1 (PyData.noDict_hsm h2) hg (by omega) (fun _ _ e => e) (fun h' t tk hk => ⟨.str _, H, I.kept hk, ⟨t, rfl⟩, q⟩) h4
  | tup a b =>
    cases rx
    exact repr_of_reads' rd h1 (PyData.noDict_hsm h2) hg (by omega) (fun _ _ e => e) (fun h' t tk hk => ⟨.str _, H, I.kept hk, ⟨t, rfl⟩, q⟩) h4
def reprOk (x : D) : Bool := x.showable && !x.hasDict && decide (x.depth ≤ 64) && decide (x.shown.length ≤ sizeLine)
def reprD : List D → Option Opd := fun xs => match xs with
  | [x] => if reprOk x then some (.val (.str x.shown)) else none
  | _ => none
theorem cd_repr {k : Nat} (ok : Γ.Ok k) : CallD Γ (.builtin "repr") reprD := by
  refine ⟨_, fun X h => by have := @call_reprD X (by rw [h.A]; exact ok.gd) (by rw [h.A]; have := ok.room.un; omega); rw [h.K] at this; exact this, fun H S vs xs o w vl e Q q => ?_⟩
  unfold reprD at e
  split at e
  · rename_i x
    obtain ⟨v, rfl, vx⟩ := viewL1 vl
    by_cases hz : reprOk x = true
    · rw [if_pos hz] at e
      cases e
      unfold reprOk at hz
      simp only [Bool.and_eq_true, Bool.not_eq_true', decide_eq_true_eq] at hz
      obtain ⟨⟨⟨h1, h2⟩, h3⟩, h4⟩ := hz
      exact ⟨v, x, rfl, (vx.full w).dp, h1, h2, h3, h4, opM_int w (.str _) q⟩
    · rw [if_neg hz] at e
      cases e
  · cases e
end
end DL
end

section
set_option Elab.async false
set_option linter.all false
set_option maxRecDepth 100000
set_option maxHeartbeats 3999999
/-! WEng4: enumerate of a tuple (the layer has lists and texts alone); isinstance; list of a range; what is walked; comprehensions -/
namespace PySem
open Sem (wp)
open AutoSeq1 (wpAny_loadPart')
theorem dl_enum_new (t : Addr) (items : Array Value) (n : Nat) (dct : Option Addr) (sl : Array (Option Value)) :
    Meets (Builtin.«enumerate.__new__» ⟨[.type "enumerate", .ref t], []⟩) (fun _ R s =>
      s.heap.get? t = some { cls := .type "tuple", dict := dct, data := .seq items n, slots := sl } ∧
      R (.ok (.ret (.ref (s.heap.push { cls := .type "tuple_iterator", data := .fields #[.ref t, .int 0 0] }).objs.size)))
        ⟨(s.heap.push { cls := .type "tuple_iterator", data := .fields #[.ref t, .int 0 0] }).push { cls := .type "enumerate", data := .fields #[.none, .bool false, .ref s.heap.objs.size, rawInt 0, .none, .none] }, s.gens, s.drawn, s.toks, s.os⟩) :=
  .of_wp fun prog w A R s hh => by
    obtain ⟨hp, g, d, tk, os⟩ := s
    obtain ⟨ht, hr⟩ := hh
    have hsub := sub_enumerate
    have hT : Heap.IsTuple (Shared.heap ⟨hp, g, d, tk, os⟩) t items := ⟨_, ht, rfl, n, rfl⟩
    wp_walk using wpAny_loadPart' ht
    refine wpAny_stack_any fun st => wpAny_pure ?_
    split
    · rename_i c _ _ _ _ _
      cases (c == Value.type "enumerate") <;>
      · wp_walk using wpAny_loadPart' ht, wpAny_pyIter_tuple hT
        exact ⟨_, rfl, hr⟩
    · wp_walk using wpAny_loadPart' ht, wpAny_pyIter_tuple hT
      exact ⟨_, rfl, hr⟩
section
variable {prog : Program} {w : World} {A : Around} {E : Value → Shared → Prop} {s : Shared}
theorem dl_call_enum {t : Addr} {items : Array Value} {Q : Value → Shared → Prop} (hT : s.heap.IsTuple t items)
    (k : ∀ h', IsEnum h' (s.heap.objs.size + 1) s.heap.objs.size 0 .none → h'.IsTupleIter s.heap.objs.size t 0 →
      (∀ b o, s.heap.get? b = some o → h'.get? b = some o) → Q (.ref (s.heap.objs.size + 1)) { s with heap := h' }) :
    wpAny (model prog w) A (call (.type "enumerate") [.ref t]) Q E s := by
  obtain ⟨⟨c, dct, dt, sl⟩, ht, hc, n, hd⟩ := hT
  simp only at hc hd
  subst hc hd
  refine callType_new F.called_enumerate (by decide) (F.typeCall_enumerate_1 _) (F.newCall_enumerate_1 _)
    (fun obj => F.args_object_init_2 obj _) F.entry_enumerate_new (dl_enum_new t items n dct sl) ⟨ht, ?_⟩
  generalize hit : ({ cls := .type "tuple_iterator", data := .fields #[.ref t, .int 0 0] } : Obj) = oi
  have hz : (s.heap.push oi).objs.size = s.heap.objs.size + 1 := Heap.size_push ..
  have hf : oi.isFreed = false := by subst hit; rfl
  show _ ∧ _
  rw [hz]
  have he := Heap.get?_push_size (s.heap.push oi) (o := { cls := .type "enumerate", data := .fields #[.none, .bool false, .ref s.heap.objs.size, rawInt 0, .none, .none] }) rfl
  rw [hz] at he
  refine ⟨⟨_, he, rfl⟩, k _ he ⟨oi, Heap.get?_push_of_some _ (Heap.get?_push_size _ hf), ?_, ?_⟩ fun b o x => Heap.get?_push_of_some _ (Heap.get?_push_of_some _ x)⟩
  · subst hit; rfl
  · subst hit; rfl
end
end PySem
namespace DL
open L2 PySem PyProof.Rows PySem.Spec
/-- the tuple at a, its items numbered, in new pairs -/
def IteT (K : Frag) (a : Addr) : It where
  go := fun i H => ∃ (xs : List V) (x : V), SqT K H a xs ∧ xs[i]? = some x
  yld := fun i H v H' => ∃ T x, v = .ref T ∧ H T = none ∧ H' = upd H T (.tup [.int (i : Nat), x]) ∧ ∀ xs, SqT K H a xs → xs[i]? = some x
  stop := fun i H => ∃ xs : List V, SqT K H a xs ∧ xs.length = i
theorem turn_enumT {P : Program} {w : World} {K : Frag} {elts : List Expr} {kk : Nat} {tpos : Pos} (a e it : Addr) :
    Turn P w K (.Tuple elts kk tpos) (IteT K a) [e, it] e (fun i h => (∃ old, IsEnum h e it ((i : Nat) : Int) old) ∧ h.IsTupleIter it a i ∧ e ≠ it ∧ a ≠ it ∧ a ≠ e) where
  mem := by simp
  obj := fun i h st b hb => by
    obtain ⟨⟨old, he⟩, ⟨o, ho, hc, hd⟩, _⟩ := st
    have e' : b = e ∨ b = it := by simpa using hb
    rcases e' with rfl | rfl
    · exact ⟨_, he, fun v q => nomatch q⟩
    · exact ⟨o, ho, fun v q => by rw [hd] at q; cases q⟩
  keep := fun i h h' st k => ⟨st.1.elim fun old he => ⟨old, k e (by simp) _ he⟩, st.2.1.at fun o q => k it (by simp) o q, st.2.2⟩
  item := by
    intro X hP hw hK hc i pins s σ H E I hf st hg
    subst hP hw hK
    obtain ⟨hen, hit, hne, hai, hae⟩ := st
    obtain ⟨xs, x, hq, hx⟩ := hg
    obtain ⟨its, rv, p, hz⟩ := I.tuple hq
    obtain ⟨u, hu, ru⟩ := rv.get hx
    have hi : i < its.toArray.size := by
      obtain ⟨hlt, _⟩ := List.getElem?_eq_some_iff.mp hu
      simpa using hlt
    have G := GoesN.enumFrom (elts := elts) (x1 := kk) (pos := tpos) 0 (Draws.tuple (prog := X.prog) (w := X.w) (A := X.A.in1) (I.ok.hd hc) it a hai its.toArray) e hne (by simp [hne, Ne.symm hae]) (by simp)
    obtain ⟨old, he⟩ := hen
    refine wpAny_mono (G.goes i s (fun v s2 => ∃ x' H', Inv X pins σ H' s2 ∧ RelV x' v ∧ (IteT X.K a).yld i H x' H' ∧ (((∃ old, IsEnum s2.heap e it (((i + 1 : Nat) : Nat) : Int) old) ∧ s2.heap.IsTupleIter it a (i + 1) ∧ e ≠ it ∧ a ≠ it ∧ a ≠ e) ∧ ∀ b ∈ [e, it], H' b = none)) E hi
      ⟨⟨old, by rw [Int.zero_add]; exact he⟩, hit, p⟩ fun v h' tk hY st' hk htk => ?_) (fun r s1 h1 => ?_) fun _ _ z => z
    · obtain ⟨T, t, y, rfl, hT, hy, hTup⟩ := hY
      obtain ⟨⟨old', he'⟩, hit', _⟩ := st'
      have hy' : its[i]? = some y := by simpa using hy
      rw [hu] at hy'
      cases hy'
      rw [Int.zero_add] at hTup
      have hn : H T = none := I.hok.fresh hT
      have new : ObjOk X.prog X.w (upd H T (.tup [.int (i : Nat), x])) h' T (.tup [.int (i : Nat), x]) :=
        ⟨by show 2 ≤ sizeLine; decide, [.int (i : Nat) t, u], .cons ⟨_, rfl⟩ (.cons ru .nil), hTup⟩
      have I1 : Inv X pins σ (upd H T (.tup [.int (i : Nat), x])) { s with heap := h', toks := tk } := I.turnedNew (ch := [e, it]) hk hf hT new
      refine ⟨.ref T, _, I1, rfl, ⟨T, x, rfl, hn, rfl, fun ys hy => by rw [I.tuple_inj hy hq]; exact hx⟩, ⟨⟨old', ?_⟩, hit', hne, hai, hae⟩, fun b hb => ?_⟩
      · have e1 : ((i + 1 : Nat) : Int) = 0 + ((i + 1 : Nat) : Int) := by omega
        rw [e1]; exact he'
      · have hbl : b < s.heap.objs.size := by
          have e' : b = e ∨ b = it := by simpa using hb
          rcases e' with rfl | rfl
          · exact Heap.lt_size he
          · obtain ⟨_, q, _⟩ := hit; exact Heap.lt_size q
        rw [upd_ne (Nat.ne_of_lt (Nat.lt_of_lt_of_le hbl hT))]
        exact (hf b hb).1
    · obtain ⟨v, hr, h2⟩ := h1
      exact ⟨v, hr, h2⟩
  done := by
    intro X hP hw hK hc i pins s σ H E I hf st hg
    subst hP hw hK
    obtain ⟨⟨old, he⟩, hit, hne, hai, hae⟩ := st
    obtain ⟨xs, hq, hx⟩ := hg
    obtain ⟨its, rv, p, hz⟩ := I.tuple hq
    have hl := rv.length
    obtain ⟨f0, f1, f2, f3, f4, f5⟩ := hf it (by simp)
    have hn : its.toArray.size = i := by simp; omega
    refine wpAny_pyNext_enum_endD (Draws.tuple (prog := X.prog) (w := X.w) (A := X.A.in1) (I.ok.hd hc) it a hai its.toArray) he ⟨by rw [hn]; exact hit, p⟩ fun h' hx' => ?_
    exact ⟨rfl, I.turned (t' := s.toks) (fun b o hb q => hx' b o hb q) f0 f1 f3 f4 f5⟩
  self := fun A i s Q E st h => let ⟨⟨_, he⟩, _⟩ := st; wpAny_pyIter_enum he h
end DL
end

section
set_option Elab.async false
set_option linter.all false
set_option maxRecDepth 100000
set_option maxHeartbeats 3999999
/-! WEng5: isinstance, list of a range, what is walked, targets, comprehensions -/
namespace DL
open L2 PySem PyProof.Rows PySem.Spec
variable {τ α β : Type}
section
variable {Γ : Gam} {B : Bd τ} {pos : Pos} {e a b : Expr} {F Fa Fb : M τ Opd}
/-! ### isinstance with a built-in class -/
def tyD : D → String
  | .none => "NoneType"
  | .bool _ => "bool"
  | .int _ => "int"
  | .str _ => "str"
  | .list _ => "list"
  | .tuple _ => "tuple"
  | .dict _ => "dict"
def isiB (t T : String) : Bool := t == T || (t == "bool" && T == "int")
theorem kit_isi : ∀ t ∈ ["NoneType", "bool", "int", "str", "list", "tuple"], ∀ T ∈ ["bool", "int", "str", "list", "tuple", "dict"], kitB t T = some (isiB t T) := by decide +kernel
theorem tyD_mem {K : Frag} {S : Hp} {v : V} {d : D} (h : Dq K S v d) : tyD d ∈ ["NoneType", "bool", "int", "str", "list", "tuple"] := by cases h <;> simp [tyD]
theorem View.ty {K : Frag} {H S : Hp} {v : V} {d : D} (h : View K H S v d) (w : Same S H) : TyX K H v (.type (tyD d)) ∧ tyD d ∈ ["NoneType", "bool", "int", "str", "list", "tuple"] := by
  have go : ∀ {v : V} {d : D}, Dq K H v d → TyX K H v (.type (tyD d)) := fun {v d} h => by
    cases h with
    | non => exact .base .non
    | bl b => exact .base (.bl b)
    | int i => exact .base (.int i)
    | str x => exact .base (.str x)
    | lst h1 h2 => exact .base (.lst h1)
    | tup h1 h2 =>
      rcases h1 with (h1 | ⟨o, h1⟩) | ⟨o, its, n, h1, h2, _⟩
      · exact .base (.tup h1)
      · exact .fTuple h1
      · exact .kTuple h1 h2
  rcases h with h | ⟨p, vs, xs, rfl, h1, h2, rfl⟩
  · exact ⟨go (Dq.mono w h), tyD_mem h⟩
  · exact ⟨.base (.lst h1), by show "list" ∈ _; decide⟩
def isiM (T : String) (F : M τ Opd) : M τ Opd := bnd F fun o => bnd (getO o) fun x => ret (.val (.bool (isiB (tyD x) T)))
theorem DO.isi {T : String} {Tn : Str} {p q : Pos} (hT : T ∈ ["bool", "int", "str", "list", "tuple", "dict"]) (h : DO Γ B e F) (hg : Γ.sc.names.lookup ("isinstance" : Str) = some .globalImplicit) (hm : Γ.mg "isinstance" = none)
    (hg2 : Γ.sc.names.lookup Tn = some .globalImplicit) (hm2 : Γ.mg Tn = none) (hv : bootBuiltins Tn = some (.type T)) (hn : Tn ≠ "__name__" := by decide) (hd : (Tn == ("__debug__" : Str)) = false := by decide)
    (hst : ∀ X : Cx, starEach [e, .Name Tn q] X.env = (false, eval e X.env) :: starEach [.Name Tn q] X.env := by intro _; rfl) (hpl : ∀ X : Cx, (backTo pos (starEach [.Name Tn q] X.env)).any (·.1) = false := by intro _; rfl) :
    DO Γ B (.Call (.Name "isinstance" p) [e, .Name Tn q] [] pos) (isiM T F) := by
  obtain ⟨t, pe, m⟩ := h
  refine ⟨_, fun X h => pe_callB (r := rIsi Γ.K) (by have := @call_isi X; rw [h.K] at this; exact this) (gl_of h hg) (by rw [h.mg]; exact hm) (by decide +kernel)
    (pa_cons (pe X h) (pa_cons (pe_bltn (v := .ty T) (gl_of h hg2) (by rw [h.mg]; exact hm2) hv rfl hn hd) pa_nil) (hst X)) (by decide) (by decide) (hst X) (hpl X), fun s σ H S g o s' e Q q => ?_⟩
  obtain ⟨o1, s1, e1, eA⟩ := bnd_some e
  obtain ⟨x, s2, e2, eB⟩ := bnd_some eA
  obtain ⟨rfl, rfl⟩ := ret_some eB
  refine m s σ H S g o1 s1 e1 _ fun v H1 S1 g1 w1 r1 _ => ?_
  obtain ⟨rfl, vx⟩ := view_of g1 r1 e2
  obtain ⟨t1, t2⟩ := vx.ty g1.fr.sub
  exact ⟨v, .ty T, _, _, isiB (tyD x) T, rfl, .ty T, t1, kit_ty (kit_isi _ t2 T hT), q _ H1 S1 g1 w1 (.bl _) trivial⟩

/-! ### list(range(..)) -/
def rgD (a b : Int) : List D := (List.range (b - a).toNat).map fun i => .int (a + (i : Nat))
theorem rg_of {K : Frag} {S : Hp} (a b : Int) : DqAll K S (rgV a b) (rgD a b) := by
  have h := DqAll.ints (K := K) (S := S) ((List.range (b - a).toNat).map fun i => a + (i : Nat))
  rw [List.map_map, List.map_map] at h
  exact h
def rgOk (a b : Int) : Bool := decide (-(2 ^ 62) ≤ a) && decide (a < 2 ^ 62) && decide (-(2 ^ 62) ≤ b) && decide (b < 2 ^ 62) && decide ((b - a).toNat ≤ 2 ^ 24)
theorem rgOk_of {a b : Int} (h : rgOk a b = true) : RgOk a b := by
  unfold rgOk at h
  simp only [Bool.and_eq_true, decide_eq_true_eq] at h
  obtain ⟨⟨⟨⟨h1, h2⟩, h3⟩, h4⟩, h5⟩ := h
  exact ⟨h1, h2, h3, h4, h5⟩
def intsM (G : M τ (List Opd)) : M τ (List D) := bnd G fun os => getL os
def rng2 : List D → Option (Int × Int)
  | [.int n] => some (0, n)
  | [.int a, .int b] => some (a, b)
  | _ => none
def listRgM (G : M τ (List Opd)) : M τ Opd := bnd (intsM G) fun ds => bnd (lift (rng2 ds)) fun ab => if rgOk ab.1 ab.2 then ret (.new (rgD ab.1 ab.2)) else stuck
theorem viewL_fin {K : Frag} {B : Bd τ} {s s' : Stt τ} {σ : List (Option V)} {H S : Hp} {ds : List D} {os : List Opd} {vs : List V} (g : Good K B s σ H S) (r : RelL K S σ vs os) (e : getL os s = some (ds, s')) : s' = s ∧ ViewL K H S vs ds := viewL_of g r e
theorem DO.listRg1 {p pos p2 pos2 : Pos} (ha : DO Γ B a Fa) (hg : Γ.sc.names.lookup ("list" : Str) = some .globalImplicit) (hm : Γ.mg "list" = none) (hg2 : Γ.sc.names.lookup ("range" : Str) = some .globalImplicit) (hm2 : Γ.mg "range" = none)
    (na : ∀ X : Cx, starEach [a] X.env = (false, eval a X.env) :: starEach [] X.env := by intro _; rfl) (nb : ∀ X : Cx, starEach [.Call (.Name "range" p2) [a] [] pos2] X.env = (false, eval (.Call (.Name "range" p2) [a] [] pos2) X.env) :: starEach [] X.env := by intro _; rfl) :
    DO Γ B (.Call (.Name "list" p) [.Call (.Name "range" p2) [a] [] pos2] [] pos) (listRgM (consO Fa nilM)) := by
  obtain ⟨t, pe, m⟩ := ha
  refine ⟨_, fun X h => pe_listRg h.calm (gl_of h hg) (by rw [h.mg]; exact hm) (prg_1 (gl_of h hg2) (by rw [h.mg]; exact hm2) (pe X h) (na X)) (nb X), fun s σ H S g o s' e Q q => ?_⟩
  obtain ⟨ds, s1, e1, eA⟩ := bnd_some e
  obtain ⟨os, s2, e2, e3⟩ := bnd_some e1
  obtain ⟨o1, s3, e4, e5⟩ := bnd_some e2
  obtain ⟨os', s4, e6, e7⟩ := bnd_some e5
  obtain ⟨rfl, rfl⟩ := ret_some e6
  obtain ⟨rfl, rfl⟩ := ret_some e7
  obtain ⟨ab, s5, e8, e9⟩ := bnd_some eA
  obtain ⟨ez, rfl⟩ := lift_some e8
  refine m.late g e4 fun v H1 S1 g1 w1 r1 => ?_
  obtain ⟨rfl, vl⟩ := viewL_fin (vs := [v]) (os := [_]) g1 ⟨r1, trivial⟩ e3
  match ds, vl, ez with
  | [.int n], vl, ez =>
    cases ez
    obtain rfl := vl.1.int
    by_cases hz : rgOk 0 n = true
    · rw [if_pos hz] at e9
      obtain ⟨rfl, rfl⟩ := ret_some e9
      refine ⟨n, rfl, rgOk_of hz, fun p' np => ?_⟩
      obtain ⟨g2, f⟩ := Good.free g1 np (rg_of 0 n)
      exact q _ _ _ g2 (w1.trans (Grow.fresh g1.fr.sub np).step) ⟨p', rfl, f⟩ ⟨p', rfl, w1.dom p' np⟩
    · rw [if_neg hz] at e9
      cases e9
  | [.int a, .int b], vl, ez => exact vl.2.elim
theorem DO.listRg2 {p pos p2 pos2 : Pos} (ha : DO Γ B a Fa) (hb : DO Γ B b Fb) (hg : Γ.sc.names.lookup ("list" : Str) = some .globalImplicit) (hm : Γ.mg "list" = none) (hg2 : Γ.sc.names.lookup ("range" : Str) = some .globalImplicit) (hm2 : Γ.mg "range" = none)
    (na : ∀ X : Cx, starEach [a, b] X.env = (false, eval a X.env) :: starEach [b] X.env := by intro _; rfl) (nc : ∀ X : Cx, starEach [b] X.env = (false, eval b X.env) :: starEach [] X.env := by intro _; rfl) (np : ∀ X : Cx, (backTo pos2 (starEach [b] X.env)).any (·.1) = false := by intro _; rfl)
    (nb : ∀ X : Cx, starEach [.Call (.Name "range" p2) [a, b] [] pos2] X.env = (false, eval (.Call (.Name "range" p2) [a, b] [] pos2) X.env) :: starEach [] X.env := by intro _; rfl) :
    DO Γ B (.Call (.Name "list" p) [.Call (.Name "range" p2) [a, b] [] pos2] [] pos) (listRgM (consO Fa (consO Fb nilM))) := by
  obtain ⟨t, pe, m⟩ := ha
  obtain ⟨tb, peb, mb⟩ := hb
  refine ⟨_, fun X h => pe_listRg h.calm (gl_of h hg) (by rw [h.mg]; exact hm) (prg_2 (gl_of h hg2) (by rw [h.mg]; exact hm2) (pe X h) (peb X h) (na X) (nc X) (np X)) (nb X), fun s σ H S g o s' e Q q => ?_⟩
  obtain ⟨ds, s1, e1, eA⟩ := bnd_some e
  obtain ⟨os, s2, e2, e3⟩ := bnd_some e1
  obtain ⟨o1, s3, e4, e5⟩ := bnd_some e2
  obtain ⟨os', s4, e6, e7⟩ := bnd_some e5
  obtain ⟨o2, s6, e10, e11⟩ := bnd_some e6
  obtain ⟨os2, s7, e12, e13⟩ := bnd_some e11
  obtain ⟨rfl, rfl⟩ := ret_some e12
  obtain ⟨rfl, rfl⟩ := ret_some e13
  obtain ⟨rfl, rfl⟩ := ret_some e7
  obtain ⟨ab, s5, e8, e9⟩ := bnd_some eA
  obtain ⟨ez, rfl⟩ := lift_some e8
  refine m.late g e4 fun v H1 S1 g1 w1 r1 => ?_
  refine mb.late g1 e10 fun u H2 S2 g2 w2 r2 => ?_
  obtain ⟨rfl, vl⟩ := viewL_fin (vs := [v, u]) (os := [_, _]) g2 ⟨r1.mono w2.same, r2, trivial⟩ e3
  match ds, vl, ez with
  | [.int n], vl, ez => exact vl.2.elim
  | [.int i, .int j], vl, ez =>
    cases ez
    obtain rfl := vl.1.int
    obtain rfl := vl.2.1.int
    by_cases hz : rgOk i j = true
    · rw [if_pos hz] at e9
      obtain ⟨rfl, rfl⟩ := ret_some e9
      refine ⟨i, j, rfl, rfl, rgOk_of hz, fun p' np => ?_⟩
      obtain ⟨g3, f⟩ := Good.free g2 np (rg_of i j)
      exact q _ _ _ g3 ((w1.trans w2).trans (Grow.fresh g2.fr.sub np).step) ⟨p', rfl, f⟩ ⟨p', rfl, (w1.trans w2).dom p' np⟩
    · rw [if_neg hz] at e9
      cases e9

/-! ### what is walked -/
structure DWalk (K : Frag) (S : Hp) (J : It) (xs : List D) : Prop where
  go : ∀ i H, i < xs.length → Same S H → J.go i H
  stop : ∀ H, Same S H → J.stop xs.length H
  yld : ∀ i H x H' S1 d, xs[i]? = some d → Same S S1 → Same S1 H → J.yld i H x H' → ∃ S2, Grow H S1 H' S2 ∧ Dq K S2 x d
def MeanI (K : Frag) (B : Bd τ) (wi : TI) (F : M τ (List D)) : Prop := ∀ s σ H S, Good K B s σ H S → ∀ xs s', F s = some (xs, s') →
  ∀ R : It → Hp → Prop, (∀ J H' S', Good K B s' σ H' S' → Step K B σ s H S s' H' S' → DWalk K S' J xs → R J H') → wi σ H R
def DI (Γ : Gam) (B : Bd τ) (tg iter : Expr) (F : M τ (List D)) : Prop := ∃ wi, (∀ X, Γ.Has X → PI X tg iter wi) ∧ MeanI Γ.K B wi F
def iOr (w1 w2 : TI) : TI := fun σ H R => w1 σ H R ∨ w2 σ H R
theorem pi_or {X : Cx} {tg iter : Expr} {w1 w2 : TI} (h1 : PI X tg iter w1) (h2 : PI X tg iter w2) : PI X tg iter (iOr w1 w2) :=
  ⟨fun pins s σ H R I h => h.elim (fun h => h1.run pins s σ H R I h) fun h => h2.run pins s σ H R I h⟩
theorem lt_get {α : Type} {l : List α} {i : Nat} (h : i < l.length) : ∃ a, l[i]? = some a := ⟨l[i], List.getElem?_eq_getElem h⟩
theorem walkL {K : Frag} {S : Hp} {a : Addr} {vs : List V} {xs : List D} (h : S a = some (.lst vs)) (q : DqAll K S vs xs) : DWalk K S (Itl K a) xs where
  go := fun i H hi w => by
    obtain ⟨x, hx⟩ := lt_get hi
    obtain ⟨v, hv, _⟩ := q.getD hx
    exact ⟨vs, v, SqL.of (w _ _ h), hv⟩
  stop := fun H w => ⟨vs, SqL.of (w _ _ h), by rw [q.len]; exact Nat.le_refl _⟩
  yld := fun i H x H' S1 d hd w w1 y => by
    obtain ⟨rfl, y⟩ := y
    have hx := y vs (SqL.of (w1 _ _ (w _ _ h)))
    obtain ⟨v, hv, hq⟩ := q.getD hd
    rw [hx] at hv
    cases hv
    exact ⟨S1, Grow.refl w1, Dq.mono w hq⟩
theorem walkT {K : Frag} {S : Hp} {a : Addr} {vs : List V} {xs : List D} (h : SqT K S a vs) (q : DqAll K S vs xs) : DWalk K S (Itt K a) xs where
  go := fun i H hi w => by
    obtain ⟨x, hx⟩ := lt_get hi
    obtain ⟨v, hv, _⟩ := q.getD hx
    exact ⟨vs, v, seqT_mono w h, hv⟩
  stop := fun H w => ⟨vs, seqT_mono w h, by rw [q.len]; exact Nat.le_refl _⟩
  yld := fun i H x H' S1 d hd w w1 y => by
    obtain ⟨rfl, y⟩ := y
    have hx := y vs (seqT_mono w1 (seqT_mono w h))
    obtain ⟨v, hv, hq⟩ := q.getD hd
    rw [hx] at hv
    cases hv
    exact ⟨S1, Grow.refl w1, Dq.mono w hq⟩
def seqO (d : D) : M τ (List D) := match d with
  | .list xs => ret xs
  | .tuple xs => ret xs
  | _ => stuck
def iterM (F : M τ Opd) : M τ (List D) := bnd (valM F) seqO
theorem DI.seq {tg : Expr} (h : DO Γ B e F) : DI Γ B tg e (iterM F) := by
  obtain ⟨t, pe, m⟩ := h
  refine ⟨iOr (iList Γ.K t) (iTup Γ.K t), fun X h => pi_or (by have := @pi_list X tg e t (pe X h); rw [h.K] at this; exact this) (by have := @pi_tup X tg e t (pe X h); rw [h.K] at this; exact this), fun s σ H S g xs s' e R q => ?_⟩
  obtain ⟨d, s1, e1, e2⟩ := bnd_some e
  cases d with
  | list ys =>
    obtain ⟨rfl, rfl⟩ := ret_some e2
    refine .inl (m.val g e1 fun v H1 S1 g1 w1 r1 => ?_)
    cases r1 with
    | lst h1 h2 => exact ⟨_, rfl, ⟨_, SqL.of (g1.fr.sub _ _ h1)⟩, q _ H1 S1 g1 w1 (walkL h1 h2)⟩
  | tuple ys =>
    obtain ⟨rfl, rfl⟩ := ret_some e2
    refine .inr (m.val g e1 fun v H1 S1 g1 w1 r1 => ?_)
    cases r1 with
    | tup h1 h2 => exact ⟨_, rfl, ⟨_, seqT_mono g1.fr.sub h1⟩, q _ H1 S1 g1 w1 (walkT h1 h2)⟩
  | _ => cases e2
theorem walkR {K : Frag} {S : Hp} (a b : Int) : DWalk K S (Itr a (b - a).toNat) (rgD a b) where
  go := fun i H hi w => by
    show i < (b - a).toNat
    unfold rgD at hi
    rw [List.length_map, List.length_range] at hi
    exact hi
  stop := fun H w => by
    show (b - a).toNat ≤ (rgD a b).length
    unfold rgD
    simp
  yld := fun i H x H' S1 d hd w w1 y => by
    obtain ⟨rfl, rfl⟩ := y
    unfold rgD at hd
    rw [List.getElem?_map] at hd
    obtain ⟨j, h1, h2⟩ := Option.map_eq_some_iff.mp hd
    have hj : j = i := by
      have := List.getElem?_eq_some_iff.mp h1
      obtain ⟨hl, h3⟩ := this
      rw [List.getElem_range] at h3
      exact h3.symm
    subst hj
    subst h2
    exact ⟨S1, Grow.refl w1, .int _⟩
def rangeM (G : M τ (List Opd)) : M τ (List D) := bnd (intsM G) fun ds => bnd (lift (rng2 ds)) fun ab => if rgOk ab.1 ab.2 then ret (rgD ab.1 ab.2) else stuck
theorem DI.range1 {tg : Expr} {p : Pos} (ha : DA Γ B [a] (consO Fa nilM)) (hg : Γ.sc.names.lookup ("range" : Str) = some .globalImplicit) (hm : Γ.mg "range" = none) (hs : ∀ X : Cx, starEach [a] X.env = [(false, eval a X.env)] := by intro _; rfl) :
    DI Γ B tg (.Call (.Name "range" p) [a] [] pos) (rangeM (consO Fa nilM)) := by
  obtain ⟨t, pa, m⟩ := ha
  refine ⟨_, fun X h => pi_range1 (gl_of h hg) (by rw [h.mg]; exact hm) (pa X h) (hs X), fun s σ H S g xs s' e R q => ?_⟩
  obtain ⟨ds, s1, e1, eA⟩ := bnd_some e
  obtain ⟨os, s2, e2, e3⟩ := bnd_some e1
  obtain ⟨ab, s5, e8, e9⟩ := bnd_some eA
  obtain ⟨ez, rfl⟩ := lift_some e8
  have hos : ∃ o1, os = [o1] := by
    obtain ⟨o1, s3, e4, e5⟩ := bnd_some e2
    obtain ⟨os', s4, e6, e7⟩ := bnd_some e5
    obtain ⟨rfl, rfl⟩ := ret_some e6
    obtain ⟨rfl, rfl⟩ := ret_some e7
    exact ⟨_, rfl⟩
  obtain ⟨o1, rfl⟩ := hos
  refine m s σ H S g _ s2 e2 _ fun vs H1 S1 g1 w1 r1 => ?_
  obtain ⟨rfl, vl⟩ := viewL_fin g1 r1 e3
  match vs, r1, ds, vl, ez with
  | [v], r1, [.int n], vl, ez =>
    cases ez
    obtain rfl := vl.1.int
    by_cases hz : rgOk 0 n = true
    · rw [if_pos hz] at e9
      obtain ⟨rfl, rfl⟩ := ret_some e9
      obtain ⟨b1, b2, b3, b4, b5⟩ := rgOk_of hz
      have wk := walkR (K := Γ.K) (S := S1) 0 n
      rw [Int.sub_zero] at wk
      exact ⟨n, rfl, b3, b4, q _ H1 S1 g1 w1 wk⟩
    · rw [if_neg hz] at e9
      cases e9
  | [v], r1, [.int i, .int j], vl, ez => exact vl.2.elim
theorem DI.range2 {tg : Expr} {p : Pos} (ha : DA Γ B [a, b] (consO Fa (consO Fb nilM))) (hg : Γ.sc.names.lookup ("range" : Str) = some .globalImplicit) (hm : Γ.mg "range" = none) (hs : ∀ X : Cx, starEach [a, b] X.env = [(false, eval a X.env), (false, eval b X.env)] := by intro _; rfl)
    (hs2 : ∀ X : Cx, starEach [b] X.env = [(false, eval b X.env)] := by intro _; rfl) : DI Γ B tg (.Call (.Name "range" p) [a, b] [] pos) (rangeM (consO Fa (consO Fb nilM))) := by
  obtain ⟨t, pa, m⟩ := ha
  refine ⟨_, fun X h => pi_range2 (gl_of h hg) (by rw [h.mg]; exact hm) (pa X h) (hs X) (hs2 X), fun s σ H S g xs s' e R q => ?_⟩
  obtain ⟨ds, s1, e1, eA⟩ := bnd_some e
  obtain ⟨os, s2, e2, e3⟩ := bnd_some e1
  obtain ⟨ab, s5, e8, e9⟩ := bnd_some eA
  obtain ⟨ez, rfl⟩ := lift_some e8
  have hos : ∃ o1 o2, os = [o1, o2] := by
    obtain ⟨o1, s3, e4, e5⟩ := bnd_some e2
    obtain ⟨os', s4, e6, e7⟩ := bnd_some e5
    obtain ⟨o2, s6, e10, e11⟩ := bnd_some e6
    obtain ⟨os2, s7, e12, e13⟩ := bnd_some e11
    obtain ⟨rfl, rfl⟩ := ret_some e12
    obtain ⟨rfl, rfl⟩ := ret_some e13
    obtain ⟨rfl, rfl⟩ := ret_some e7
    exact ⟨_, _, rfl⟩
  obtain ⟨o1, o2, rfl⟩ := hos
  refine m s σ H S g _ s2 e2 _ fun vs H1 S1 g1 w1 r1 => ?_
  obtain ⟨rfl, vl⟩ := viewL_fin g1 r1 e3
  match vs, r1, ds, vl, ez with
  | [v, u], r1, [.int i, .int j], vl, ez =>
    cases ez
    obtain rfl := vl.1.int
    obtain rfl := vl.2.1.int
    by_cases hz : rgOk i j = true
    · rw [if_pos hz] at e9
      obtain ⟨rfl, rfl⟩ := ret_some e9
      obtain ⟨b1, b2, b3, b4, b5⟩ := rgOk_of hz
      exact ⟨i, j, rfl, ⟨b1, b2, b3, b4⟩, q _ H1 S1 g1 w1 (walkR i j)⟩
    · rw [if_neg hz] at e9
      cases e9
  | [v, u], r1, [.int i], vl, ez => exact vl.2.elim
/-! enumerate -/
def enumL : Nat → List D → List D
  | _, [] => []
  | k, x :: xs => .tuple [.int (k : Nat), x] :: enumL (k + 1) xs
theorem enumL_len : ∀ (k : Nat) (xs : List D), (enumL k xs).length = xs.length
  | _, [] => rfl
  | k, x :: xs => by rw [enumL, List.length_cons, List.length_cons, enumL_len]
theorem enumL_get : ∀ (k : Nat) (xs : List D) (i : Nat) (d : D), (enumL k xs)[i]? = some d → ∃ x, xs[i]? = some x ∧ d = .tuple [.int ((k + i : Nat)), x]
  | _, [], _, _, h => by simp [enumL] at h
  | k, x :: xs, 0, d, h => by
    simp [enumL] at h
    exact ⟨x, rfl, h.symm⟩
  | k, x :: xs, i + 1, d, h => by
    have h' : (enumL (k + 1) xs)[i]? = some d := by simpa [enumL] using h
    obtain ⟨y, h1, h2⟩ := enumL_get (k + 1) xs i d h'
    exact ⟨y, by simpa using h1, by rw [h2, show k + 1 + i = k + (i + 1) by omega]⟩
theorem new_pair {K : Frag} {H S1 : Hp} {T : Addr} {v u : V} {x y : D} (w : Same S1 H) (n : H T = none) (h1 : Dq K S1 v x) (h2 : Dq K S1 u y) :
    ∃ S2, Grow H S1 (upd H T (.tup [v, u])) S2 ∧ Dq K S2 (.ref T) (.tuple [x, y]) := by
  have g := Grow.alloc (o := .tup [v, u]) w n
  exact ⟨_, g, .tup (SqT.of upd_same) (.cons (Dq.mono g.s h1) (.cons (Dq.mono g.s h2) .nil))⟩
theorem walkEL {K : Frag} {S : Hp} {a : Addr} {vs : List V} {xs : List D} (h : S a = some (.lst vs)) (q : DqAll K S vs xs) : DWalk K S (Ite K a) (enumL 0 xs) where
  go := fun i H hi w => by
    rw [enumL_len] at hi
    obtain ⟨x, hx⟩ := lt_get hi
    obtain ⟨v, hv, _⟩ := q.getD hx
    exact ⟨vs, v, SqL.of (w _ _ h), hv⟩
  stop := fun H w => ⟨vs, SqL.of (w _ _ h), by rw [q.len, enumL_len]; exact Nat.le_refl _⟩
  yld := fun i H x H' S1 d hd w w1 y => by
    obtain ⟨T, v, rfl, n, rfl, y⟩ := y
    have hx := y vs (SqL.of (w1 _ _ (w _ _ h)))
    obtain ⟨z, hz, rfl⟩ := enumL_get _ _ _ _ hd
    obtain ⟨v', hv, hq⟩ := q.getD hz
    rw [hx] at hv
    cases hv
    rw [Nat.zero_add]
    exact new_pair w1 n (.int _) (Dq.mono w hq)
theorem walkET {K : Frag} {S : Hp} {a : Addr} {vs : List V} {xs : List D} (h : SqT K S a vs) (q : DqAll K S vs xs) : DWalk K S (IteT K a) (enumL 0 xs) where
  go := fun i H hi w => by
    rw [enumL_len] at hi
    obtain ⟨x, hx⟩ := lt_get hi
    obtain ⟨v, hv, _⟩ := q.getD hx
    exact ⟨vs, v, seqT_mono w h, hv⟩
  stop := fun H w => ⟨vs, seqT_mono w h, by rw [q.len, enumL_len]⟩
  yld := fun i H x H' S1 d hd w w1 y => by
    obtain ⟨T, v, rfl, n, rfl, y⟩ := y
    have hx := y vs (seqT_mono w1 (seqT_mono w h))
    obtain ⟨z, hz, rfl⟩ := enumL_get _ _ _ _ hd
    obtain ⟨v', hv, hq⟩ := q.getD hz
    rw [hx] at hv
    cases hv
    rw [Nat.zero_add]
    exact new_pair w1 n (.int _) (Dq.mono w hq)
def iEnumT (K : Frag) (ta : TA) : TI := fun σ H R => ta σ H fun vs H1 => ∃ a xs, vs = [.ref a] ∧ SqT K H1 a xs ∧ R (IteT K a) H1
theorem pi_enumT {X : Cx} {e : Expr} {ta : TA} {p pos tpos : Pos} {elts : List Expr} {kk : Nat} (hg : Gl X "enumerate") (hm : X.mg "enumerate" = none) (ha : PA X [e] ta) (hs : starEach [e] X.env = [(false, eval e X.env)]) :
    PI X (.Tuple elts kk tpos) (.Call (.Name "enumerate" p) [e] [] pos) (iEnumT X.K ta) := by
  refine ⟨fun pins s σ H R I h => ?_⟩
  refine Call_ (ld_blt I hg hm PyProof.Rows.boot_enumerate (PyProof.Rows.callWith_type1 (thn (ha.run pos pins s σ H _ I h) fun us s1 ⟨vs, H1, I1, r1, q1⟩ => ?_) hs rfl))
  obtain ⟨a, xs, ex, hq, q⟩ := q1
  subst ex
  obtain ⟨u, rfl, ru⟩ := vals1 r1
  cases ru
  obtain ⟨its, rv, p', hz⟩ := I1.tuple hq
  have hal : a < s1.heap.objs.size := p'.lt
  refine dl_call_enum (show s1.heap.IsTuple a its.toArray from p') fun h' he hit hk => wpAny_pyIter_enum he ?_
  have I2 : Inv X pins σ H1 { s1 with heap := h' } := I1.kept (t' := s1.toks) hk
  refine ⟨s1.heap.objs.size + 1, [s1.heap.objs.size + 1, s1.heap.objs.size], _, _, H1, rfl, I2, turn_enumT a (s1.heap.objs.size + 1) s1.heap.objs.size, ⟨⟨.none, he⟩, hit, Nat.succ_ne_self _, Nat.ne_of_lt hal, Nat.ne_of_lt (Nat.lt_succ_of_lt hal)⟩, fun b hb => ?_, q⟩
  have hle : s1.heap.objs.size ≤ b := by
    have e' : b = s1.heap.objs.size + 1 ∨ b = s1.heap.objs.size := by simpa using hb
    rcases e' with z | z
    · rw [z]; exact Nat.le_succ _
    · rw [z]; exact Nat.le_refl _
  exact I1.fpOk hle (I1.hok.fresh hle)
def enumM (F : M τ Opd) : M τ (List D) := bnd (iterM F) fun xs => ret (enumL 0 xs)
theorem DI.enum {p tpos : Pos} {elts : List Expr} {kk : Nat} (h : DO Γ B e F) (hg : Γ.sc.names.lookup ("enumerate" : Str) = some .globalImplicit) (hm : Γ.mg "enumerate" = none) (hs : ∀ X : Cx, starEach [e] X.env = [(false, eval e X.env)] := by intro _; rfl) :
    DI Γ B (.Tuple elts kk tpos) (.Call (.Name "enumerate" p) [e] [] pos) (enumM F) := by
  obtain ⟨t, pe, m⟩ := h
  have hs' : ∀ X : Cx, starEach [e] X.env = (false, eval e X.env) :: starEach [] X.env := fun X => hs X
  refine ⟨iOr (iEnum Γ.K (tCons t tNil)) (iEnumT Γ.K (tCons t tNil)), fun X h => pi_or (by have := @pi_enum X e _ p pos tpos elts kk (gl_of h hg) (by rw [h.mg]; exact hm) (pa_cons (pe X h) pa_nil (hs' X)) (hs X); rw [h.K] at this; exact this)
    (by have := @pi_enumT X e _ p pos tpos elts kk (gl_of h hg) (by rw [h.mg]; exact hm) (pa_cons (pe X h) pa_nil (hs' X)) (hs X); rw [h.K] at this; exact this), fun s σ H S g xs s' e R q => ?_⟩
  obtain ⟨ys, s1, e1, e2⟩ := bnd_some e
  obtain ⟨rfl, rfl⟩ := ret_some e2
  obtain ⟨d, s2, e3, e4⟩ := bnd_some e1
  cases d with
  | list zs =>
    obtain ⟨rfl, rfl⟩ := ret_some e4
    refine .inl (m.val g e3 fun v H1 S1 g1 w1 r1 => ?_)
    cases r1 with
    | lst h1 h2 => exact ⟨_, _, rfl, SqL.of (g1.fr.sub _ _ h1), q _ H1 S1 g1 w1 (walkEL h1 h2)⟩
  | tuple zs =>
    obtain ⟨rfl, rfl⟩ := ret_some e4
    refine .inr (m.val g e3 fun v H1 S1 g1 w1 r1 => ?_)
    cases r1 with
    | tup h1 h2 => exact ⟨_, _, rfl, seqT_mono g1.fr.sub h1, q _ H1 S1 g1 w1 (walkET h1 h2)⟩
  | _ => cases e4
/-! zip of two lists or of two tuples -/
def zipL : List D → List D → List D
  | x :: xs, y :: ys => .tuple [x, y] :: zipL xs ys
  | _, _ => []
theorem zipL_len : ∀ (xs ys : List D), (zipL xs ys).length = min xs.length ys.length
  | [], _ => by simp [zipL]
  | _ :: _, [] => by simp [zipL]
  | x :: xs, y :: ys => by rw [zipL, List.length_cons, zipL_len, List.length_cons, List.length_cons]; omega
theorem zipL_get : ∀ (xs ys : List D) (i : Nat) (d : D), (zipL xs ys)[i]? = some d → ∃ x y, xs[i]? = some x ∧ ys[i]? = some y ∧ d = .tuple [x, y]
  | [], _, _, _, h => by simp [zipL] at h
  | _ :: _, [], _, _, h => by simp [zipL] at h
  | x :: xs, y :: ys, 0, d, h => by
    simp [zipL] at h
    exact ⟨x, y, rfl, rfl, h.symm⟩
  | x :: xs, y :: ys, i + 1, d, h => by
    have h' : (zipL xs ys)[i]? = some d := by simpa [zipL] using h
    obtain ⟨a, b, h1, h2, h3⟩ := zipL_get xs ys i d h'
    exact ⟨a, b, by simpa using h1, by simpa using h2, h3⟩
theorem walkZ {K : Frag} {S : Hp} {a b : Addr} {vs us : List V} {xs ys : List D} (h : S a = some (.lst vs)) (h' : S b = some (.lst us)) (q : DqAll K S vs xs) (q' : DqAll K S us ys) : DWalk K S (Itz K a b) (zipL xs ys) where
  go := fun i H hi w => by
    rw [zipL_len] at hi
    obtain ⟨x, hx⟩ := lt_get (show i < xs.length by omega)
    obtain ⟨y, hy⟩ := lt_get (show i < ys.length by omega)
    obtain ⟨v, hv, _⟩ := q.getD hx
    obtain ⟨u, hu, _⟩ := q'.getD hy
    exact ⟨vs, us, v, u, SqL.of (w _ _ h), SqL.of (w _ _ h'), hv, hu⟩
  stop := fun H w => ⟨vs, us, SqL.of (w _ _ h), SqL.of (w _ _ h'), by rw [q.len, q'.len, zipL_len]; omega⟩
  yld := fun i H x H' S1 d hd w w1 y => by
    obtain ⟨T, v, u, rfl, n, rfl, y1, y2⟩ := y
    have hx := y1 vs (SqL.of (w1 _ _ (w _ _ h)))
    have hy := y2 us (SqL.of (w1 _ _ (w _ _ h')))
    obtain ⟨z, z', hz, hz', rfl⟩ := zipL_get _ _ _ _ hd
    obtain ⟨v', hv, hq⟩ := q.getD hz
    obtain ⟨u', hu, hq'⟩ := q'.getD hz'
    rw [hx] at hv
    rw [hy] at hu
    cases hv
    cases hu
    exact new_pair w1 n (Dq.mono w hq) (Dq.mono w hq')
theorem walkZT {K : Frag} {S : Hp} {a b : Addr} {vs us : List V} {xs ys : List D} (h : SqT K S a vs) (h' : SqT K S b us) (q : DqAll K S vs xs) (q' : DqAll K S us ys) : DWalk K S (RZ.ItzT K a b) (zipL xs ys) where
  go := fun i H hi w => by
    rw [zipL_len] at hi
    obtain ⟨x, hx⟩ := lt_get (show i < xs.length by omega)
    obtain ⟨y, hy⟩ := lt_get (show i < ys.length by omega)
    obtain ⟨v, hv, _⟩ := q.getD hx
    obtain ⟨u, hu, _⟩ := q'.getD hy
    exact ⟨vs, us, v, u, seqT_mono w h, seqT_mono w h', hv, hu⟩
  stop := fun H w => ⟨vs, us, seqT_mono w h, seqT_mono w h', by rw [q.len, q'.len, zipL_len]; omega⟩
  yld := fun i H x H' S1 d hd w w1 y => by
    obtain ⟨T, v, u, rfl, n, rfl, y1, y2⟩ := y
    have hx := y1 vs (seqT_mono w1 (seqT_mono w h))
    have hy := y2 us (seqT_mono w1 (seqT_mono w h'))
    obtain ⟨z, z', hz, hz', rfl⟩ := zipL_get _ _ _ _ hd
    obtain ⟨v', hv, hq⟩ := q.getD hz
    obtain ⟨u', hu, hq'⟩ := q'.getD hz'
    rw [hx] at hv
    rw [hy] at hu
    cases hv
    cases hu
    exact new_pair w1 n (Dq.mono w hq) (Dq.mono w hq')
def zipD : List D → Option (List D)
  | [.list xs, .list ys] => some (zipL xs ys)
  | [.tuple xs, .tuple ys] => some (zipL xs ys)
  | _ => none
def zipM (G : M τ (List D)) : M τ (List D) := bnd G fun ds => lift (zipD ds)
theorem DI.zip {p tpos : Pos} {elts : List Expr} {kk : Nat} {G : M τ (List D)} (h : DV Γ B [a, b] G) (hg : Γ.sc.names.lookup ("zip" : Str) = some .globalImplicit) (hm : Γ.mg "zip" = none) (hz : ∀ X : Cx, starEach [a, b] X.env = (false, eval a X.env) :: starEach [b] X.env := by intro _; rfl)
    (hz2 : ∀ X : Cx, (backTo pos (starEach [b] X.env)).any (·.1) = false := by intro _; rfl) :
    DI Γ B (.Tuple elts kk tpos) (.Call (.Name "zip" p) [a, b] [] pos) (zipM G) := by
  obtain ⟨t, pa, m⟩ := h
  refine ⟨RZ.iZipA Γ.K t, fun X h => by have := RZ.pi_zipA (X := X) (elts := elts) (kk := kk) (tpos := tpos) (p := p) (pos := pos) (gl_of h hg) (by rw [h.mg]; exact hm) (pa X h) (hz X) (hz2 X); rw [h.K] at this; exact this, fun s σ H S g xs s' e R q => ?_⟩
  obtain ⟨ds, s1, e1, e2⟩ := bnd_some e
  obtain ⟨ez, rfl⟩ := lift_some e2
  refine m s σ H S g ds _ e1 _ fun vs H1 S1 g1 w1 r1 => ?_
  match ds, r1, ez with
  | [.list xs, .list ys], .cons (.lst h1 h2) (.cons (.lst h3 h4) .nil), ez =>
    cases ez
    exact ⟨_, _, _, _, rfl, .inl ⟨SqL.of (g1.fr.sub _ _ h1), SqL.of (g1.fr.sub _ _ h3), q _ H1 S1 g1 w1 (walkZ h1 h3 h2 h4)⟩⟩
  | [.tuple xs, .tuple ys], .cons (.tup h1 h2) (.cons (.tup h3 h4) .nil), ez =>
    cases ez
    exact ⟨_, _, _, _, rfl, .inr ⟨seqT_mono g1.fr.sub h1, seqT_mono g1.fr.sub h3, q _ H1 S1 g1 w1 (walkZT h1 h3 h2 h4)⟩⟩
end
end DL
end

section
set_option Elab.async false
set_option linter.all false
set_option maxRecDepth 100000
set_option maxHeartbeats 3999999
/-! WEng6: targets, comprehensions -/
namespace DL
open L2 PySem PyProof.Rows PySem.Spec
variable {τ α β : Type}

/-! ### slots forgotten -/
def wipeE (env : List (Option Sl)) : List Nat → List (Option Sl)
  | [] => env
  | v :: vs => (wipeE env vs).set v none
theorem wipeE_len (env : List (Option Sl)) : ∀ vs, (wipeE env vs).length = env.length
  | [] => rfl
  | v :: vs => by unfold wipeE; rw [List.length_set, wipeE_len]
theorem wipeE_some {env : List (Option Sl)} {i : Nat} {z : Sl} : ∀ {vs : List Nat}, (wipeE env vs)[i]? = some (some z) → env[i]? = some (some z) ∧ i ∉ vs
  | [], h => ⟨h, by simp⟩
  | v :: vs, h => by
    unfold wipeE at h
    rcases set_get h with ⟨_, q⟩ | ⟨n, q⟩
    · cases q
    · obtain ⟨h1, h2⟩ := wipeE_some q
      exact ⟨h1, fun m => (List.mem_cons.mp m).elim (fun e => n e.symm) h2⟩
theorem wipe_get (σ : List (Option V)) (j : Nat) : ∀ vs : List Nat, (wipe σ vs)[j]? = if j ∈ vs then σ[j]?.map (fun _ => none) else σ[j]?
  | [] => by simp [wipe]
  | v :: vs => by
    unfold wipe
    by_cases e : v = j
    · subst e
      rw [if_pos List.mem_cons_self]
      by_cases hl : v < (wipe σ vs).length
      · rw [List.getElem?_set_self hl]
        rw [wipe_length] at hl
        rw [List.getElem?_eq_getElem hl]
        rfl
      · rw [List.getElem?_eq_none (by rw [List.length_set]; omega)]
        rw [wipe_length] at hl
        rw [List.getElem?_eq_none (by omega)]
        rfl
    · rw [List.getElem?_set_ne e, wipe_get]
      by_cases m : j ∈ vs
      · rw [if_pos m, if_pos (List.mem_cons_of_mem _ m)]
      · rw [if_neg m, if_neg (fun q => (List.mem_cons.mp q).elim (fun z => e z.symm) m)]
theorem wipe_set {σ : List (Option V)} {i : Nat} {x : Option V} {vs : List Nat} (h : i ∈ vs) : wipe (σ.set i x) vs = wipe σ vs := by
  apply List.ext_getElem?
  intro j
  rw [wipe_get, wipe_get]
  by_cases e : i = j
  · subst e
    rw [if_pos h, if_pos h]
    by_cases hl : i < σ.length
    · rw [List.getElem?_set_self hl, List.getElem?_eq_getElem hl]; rfl
    · rw [List.getElem?_eq_none (by rw [List.length_set]; omega), List.getElem?_eq_none (by omega)]
  · rw [List.getElem?_set_ne e]
theorem wipe_wipe {σ : List (Option V)} {us vs : List Nat} (h : ∀ i ∈ us, i ∈ vs) : wipe (wipe σ us) vs = wipe σ vs := by
  apply List.ext_getElem?
  intro j
  rw [wipe_get, wipe_get, wipe_get]
  by_cases m : j ∈ vs
  · rw [if_pos m, if_pos m]
    by_cases m' : j ∈ us
    · rw [if_pos m']; cases σ[j]? <;> rfl
    · rw [if_neg m']
  · rw [if_neg m, if_neg m, if_neg (fun q => m (h j q))]
section
variable {K : Frag} {B : Bd τ} {s s' s1 : Stt τ} {σ : List (Option V)} {H S H' S' : Hp} {ws : List Nat}
theorem Good.wipe (g : Good K B s σ H S) (ws : List Nat) : Good K B { s with env := wipeE s.env ws } (L2.wipe σ ws) H S := by
  refine ⟨g.fr, g.at_, by rw [wipeE_len, wipe_length]; exact g.len, fun i z e => ?_, fun i j xs ys n e1 e2 => ?_⟩
  · obtain ⟨e', hn⟩ := wipeE_some e
    rw [wipe_out hn]
    exact g.slot i z e'
  · obtain ⟨q1, n1⟩ := wipeE_some e1
    obtain ⟨q2, n2⟩ := wipeE_some e2
    rw [wipe_out n1, wipe_out n2]
    exact g.disj i j xs ys n q1 q2
theorem Free.wipe {p : Addr} {xs : List D} (f : Free K B s σ H S p xs) (ws : List Nat) : Free K B { s with env := wipeE s.env ws } (L2.wipe σ ws) H S p xs :=
  ⟨f.at_, f.ns, f.n0, f.nr, fun j ys e => by
    obtain ⟨e', hn⟩ := wipeE_some e
    rw [wipe_out hn]
    exact f.no j ys e'⟩
def keepD : Option (Option Sl) → Option Sl
  | some (some (.d x)) => some (.d x)
  | _ => none
def restE (env0 : List (Option Sl)) : List Nat → List (Option Sl) → List (Option Sl)
  | [], env => env
  | v :: vs, env => (restE env0 vs env).set v (keepD env0[v]?)
theorem restE_len (env0 env : List (Option Sl)) : ∀ vs, (restE env0 vs env).length = env.length
  | [] => rfl
  | v :: vs => by unfold restE; rw [List.length_set, restE_len]
theorem restE_some {env0 env : List (Option Sl)} {i : Nat} {z : Sl} : ∀ {vs : List Nat}, (restE env0 vs env)[i]? = some (some z) → (i ∈ vs ∧ ∃ x, z = .d x ∧ env0[i]? = some (some (.d x))) ∨ (i ∉ vs ∧ env[i]? = some (some z))
  | [], h => .inr ⟨by simp, h⟩
  | v :: vs, h => by
    unfold restE at h
    rcases set_get h with ⟨rfl, q⟩ | ⟨n, q⟩
    · refine .inl ⟨List.mem_cons_self, ?_⟩
      unfold keepD at q
      split at q
      · rename_i x e
        cases q
        exact ⟨x, rfl, e⟩
      · cases q
    · rcases restE_some q with ⟨m, r⟩ | ⟨m, r⟩
      · exact .inl ⟨List.mem_cons_of_mem _ m, r⟩
      · exact .inr ⟨fun k => (List.mem_cons.mp k).elim (fun e => n e.symm) m, r⟩
theorem Good.unwipe (g1 : Good K B s1 σ H S) (g : Good K B s' (L2.wipe σ ws) H' S') (w : Same S S') : Good K B { s' with env := restE s1.env ws s'.env } σ H' S' := by
  refine ⟨g.fr, g.at_, by rw [restE_len, g.len, wipe_length], fun i z e => ?_, fun i j xs ys n e1 e2 => ?_⟩
  · rcases restE_some e with ⟨_, x, rfl, q⟩ | ⟨m, q⟩
    · obtain ⟨v, h1, h2⟩ := g1.get q
      exact ⟨v, h1, Dq.mono w h2⟩
    · obtain ⟨v, h1, h2⟩ := g.slot i z q
      exact ⟨v, (wipe_some h1).1, h2⟩
  · rcases restE_some e1 with ⟨_, x, q, _⟩ | ⟨m1, q1⟩
    · cases q
    rcases restE_some e2 with ⟨_, x, q, _⟩ | ⟨m2, q2⟩
    · cases q
    have := g.disj i j xs ys n q1 q2
    rw [wipe_out m1, wipe_out m2] at this
    exact this
theorem Free.unwipe {p : Addr} {xs : List D} {env0 : List (Option Sl)} (f : Free K B s' (L2.wipe σ ws) H' S' p xs) : Free K B { s' with env := restE env0 ws s'.env } σ H' S' p xs :=
  ⟨f.at_, f.ns, f.n0, f.nr, fun j ys e => by
    rcases restE_some e with ⟨_, x, q, _⟩ | ⟨m, q⟩
    · cases q
    · have := f.no j ys q
      rw [wipe_out m] at this
      exact this⟩
/-- the contents of a list that nobody knows are changed -/
theorem Good.changeFree {p : Addr} {xs : List D} {us : List V} (g : Good K B s σ H S) (f : Free K B s σ H S p xs) : Good K B s σ (upd H p (.lst us)) S := by
  obtain ⟨⟨vs, hp, _⟩, ns, n0, nr, no⟩ := f
  refine ⟨⟨fun b o e r => ?_, g.fr.s, fun b o e => ?_, g.fr.new, g.fr.nor⟩, ?_, g.len, fun j z e => ?_, g.disj⟩
  · rw [upd_ne (fun q => by rw [q, n0] at e; cases e)]
    exact g.fr.keep b o e r
  · rw [upd_ne (fun q => by rw [q, ns] at e; cases e)]
    exact g.fr.sub b o e
  · exact B.dr.stay _ _ _ g.at_ fun b o r e => by rw [upd_ne (fun q => nr (by rw [← q]; exact r))]; exact e
  · obtain ⟨v, h1, h2⟩ := g.slot j z e
    refine ⟨v, h1, ?_⟩
    cases z with
    | d x => exact h2
    | own as =>
      obtain ⟨q', us', e1, e2, e3⟩ := h2
      subst e1
      exact ⟨q', us', rfl, by rw [upd_ne (fun z => no j as e (by rw [h1, z]))]; exact e2, e3⟩
    | h => exact h2
    | s ns => exact h2
    | r lo hi => exact h2
theorem Free.change {p : Addr} {xs ys : List D} {us : List V} (f : Free K B s σ H S p xs) (h : DqAll K S us ys) : Free K B s σ (upd H p (.lst us)) S p ys := ⟨⟨us, upd_same, h⟩, f.ns, f.n0, f.nr, f.no⟩
theorem Free.other {p q : Addr} {xs : List D} {o : HO} (f : Free K B s σ H S q xs) (n : q ≠ p) : Free K B s σ (upd H p o) S q xs :=
  ⟨let ⟨vs, h1, h2⟩ := f.at_; ⟨vs, by rw [upd_ne n]; exact h1, h2⟩, f.ns, f.n0, f.nr, f.no⟩
end

/-! ### targets -/
structure Moved (K : Frag) (B : Bd τ) (ws : List Nat) (s : Stt τ) (σ : List (Option V)) (s' : Stt τ) (σ' : List (Option V)) : Prop where
  free : ∀ H S p xs, Free K B s σ H S p xs → Free K B s' σ' H S p xs
  wipe : ∀ vs : List Nat, (∀ i ∈ ws, i ∈ vs) → L2.wipe σ' vs = L2.wipe σ vs
def MeanG (K : Frag) (B : Bd τ) (g : TG) (ws : List Nat) (G : D → M τ Unit) : Prop := ∀ s σ H S, Good K B s σ H S → ∀ v d, Dq K S v d → ∀ s', G d s = some ((), s') →
  ∀ Q : List (Option V) → Hp → Prop, (∀ σ', Good K B s' σ' H S → Moved K B ws s σ s' σ' → Q σ' H) → g v σ H Q
def DG (Γ : Gam) (B : Bd τ) (tg : Expr) (ws : List Nat) (G : D → M τ Unit) : Prop := ∃ g, (∀ X, Γ.Has X → PG X tg g) ∧ MeanG Γ.K B g ws G
def MeanGs (K : Frag) (B : Bd τ) (g : TGs) (ws : List Nat) (G : List D → M τ Unit) : Prop := ∀ s σ H S, Good K B s σ H S → ∀ v d, DqAll K S v d → ∀ s', G d s = some ((), s') →
  ∀ Q : List (Option V) → Hp → Prop, (∀ σ', Good K B s' σ' H S → Moved K B ws s σ s' σ' → Q σ' H) → g v σ H Q
def DGs (Γ : Gam) (B : Bd τ) (tg : List Expr) (ws : List Nat) (G : List D → M τ Unit) : Prop := ∃ g, (∀ X, Γ.Has X → PGs X tg g) ∧ MeanGs Γ.K B g ws G
def setM (i : Nat) (d : D) : M τ Unit := fun s => some ((), { s with env := s.env.set i (some (.d d)) })
def gsNil : List D → M τ Unit := fun ds => match ds with
  | [] => ret ()
  | _ => stuck
def gsCons (G : D → M τ Unit) (Gs : List D → M τ Unit) : List D → M τ Unit := fun ds => match ds with
  | [] => stuck
  | d :: ds => bnd (G d) fun _ => Gs ds
def tupG (n : Nat) (Gs : List D → M τ Unit) : D → M τ Unit := fun d => match d with
  | .tuple ds => if ds.length = n then Gs ds else stuck
  | _ => stuck
theorem Moved.trans {K : Frag} {B : Bd τ} {ws us : List Nat} {s s1 s2 : Stt τ} {σ σ1 σ2 : List (Option V)} (a : Moved K B ws s σ s1 σ1) (b : Moved K B us s1 σ1 s2 σ2) : Moved K B (ws ++ us) s σ s2 σ2 :=
  ⟨fun H S p xs f => b.free H S p xs (a.free H S p xs f), fun vs h => by
    rw [b.wipe vs fun i m => h i (List.mem_append_right _ m), a.wipe vs fun i m => h i (List.mem_append_left _ m)]⟩
section
variable {Γ : Gam} {B : Bd τ} {pos : Pos}
theorem DG.name {i : Nat} {x : Str} (nd : Γ.N.Nodup) (hi : Γ.N[i]? = some x) (hx : Loc Γ.sc x) (hf : Γ.fn x = true ∨ Γ.sc.names.lookup x = some .local) : DG Γ B (.Name x pos) [i] (setM i) := by
  refine ⟨gName i, fun X h => pg_name (by rw [h.N]; exact nd) (by rw [h.N]; exact hi) (by rw [h.sc]; exact hx) (by
    rcases hf with z | z
    · exact h.fn x z
    · exact .inr (by rw [h.sc]; exact z)), fun s σ H S g v d hd s' e Q q => ?_⟩
  cases e
  refine q _ (g.set hd) ⟨fun H S p xs f => ⟨f.at_, f.ns, f.n0, f.nr, fun j ys e => ?_⟩, fun vs h => wipe_set (h i (by simp))⟩
  rcases set_get e with ⟨_, z⟩ | ⟨n, z⟩
  · cases z
  · rw [List.getElem?_set_ne n]
    exact f.no j ys z
theorem DGs.nil : DGs Γ B [] [] gsNil := ⟨gNil, fun X h => pgs_nil, fun s σ H S g v d hd s' e Q q => by
  cases hd with
  | nil =>
    obtain ⟨_, rfl⟩ := ret_some e
    exact ⟨rfl, q σ g ⟨fun _ _ _ _ f => f, fun _ _ => rfl⟩⟩
  | cons _ _ => cases e⟩
theorem DGs.cons {e : Expr} {es : List Expr} {ws us : List Nat} {G : D → M τ Unit} {Gs : List D → M τ Unit} (h : DG Γ B e ws G) (hs : DGs Γ B es us Gs)
    (ha : ∀ X : Cx, (assignEach (e :: es) X.env).map (·.2) = assign e X.env :: (assignEach es X.env).map (·.2) := by intro _; rfl) : DGs Γ B (e :: es) (ws ++ us) (gsCons G Gs) := by
  obtain ⟨g, pg, mg⟩ := h
  obtain ⟨gs, pgs, mgs⟩ := hs
  refine ⟨gCons g gs, fun X h => pgs_cons (pg X h) (pgs X h) (ha X), fun s σ H S gd v d hd s' e Q q => ?_⟩
  cases hd with
  | nil => cases e
  | cons h1 h2 =>
    obtain ⟨_, s1, e1, e2⟩ := bnd_some e
    exact ⟨_, _, rfl, mg s σ H S gd _ _ h1 s1 e1 _ fun σ1 g1 m1 => mgs s1 σ1 H S g1 _ _ h2 s' e2 Q fun σ2 g2 m2 => q σ2 g2 (m1.trans m2)⟩
theorem DG.tup {es : List Expr} {k n : Nat} {ws : List Nat} {Gs : List D → M τ Unit} (h : DGs Γ B es ws Gs) (hn : ∀ X : Cx, (assignEach es X.env).length = n := by intro _; rfl) (hst : ∀ X : Cx, (assignEach es X.env).findIdx? (·.1) = none := by intro _; rfl) :
    DG Γ B (.Tuple es k pos) ws (tupG n Gs) := by
  obtain ⟨g, pg, mg⟩ := h
  refine ⟨gTup Γ.K n g, fun X h => by have := pg_tup (k := k) (pos := pos) h.calm (pg X h) (hn X) (hst X); rw [h.K] at this; exact this, fun s σ H S gd v d hd s' e Q q => ?_⟩
  unfold tupG at e
  split at e
  · rename_i ds
    by_cases hz : ds.length = n
    · rw [if_pos hz] at e
      cases hd with
      | tup h1 h2 => exact ⟨_, _, rfl, seqT_mono gd.fr.sub h1, by rw [h2.len]; exact hz, mg s σ H S gd _ _ h2 s' e Q q⟩
    · rw [if_neg hz] at e
      cases e
  · cases e
end

/-! ### comprehensions -/
def Gam.blk (Γ : Gam) (scope : Scope) : Gam := { Γ with sc := relS scope Γ.sc, fn := fun x => scope.names.lookup x == some .cell }
theorem blk_has {Γ : Gam} {X : Cx} (h : Γ.Has X) {scope : Scope} {s : Shared} {H : Hp} {C : Addr} {cl : List (Str × Addr)} {fp : List Addr} : (Γ.blk scope).Has (X.blk s H scope (compEnvC scope cl C X.env) fp) :=
  ⟨h.P, h.w, h.K, h.mg, by
    show X.base = Γ.base
    exact h.base, h.A, h.N, by
    show relS scope X.env.scope = relS scope Γ.sc
    rw [h.sc], h.calm, fun x hx => .inl hx, PassesOwn.never⟩
def DTs (Γ : Gam) (B : Bd τ) (ifs : List Expr) (F : M τ Bool) : Prop := ∃ t, (∀ X, Γ.Has X → PTs X ifs t) ∧ MeanT Γ.K B t F
theorem DTs.nil {Γ : Gam} {B : Bd τ} : DTs Γ B [] (ret true) := ⟨tYes, fun X h => pts_nil, fun s σ H S g k s' e Q q => by
  obtain ⟨rfl, rfl⟩ := ret_some e
  exact q H S g Step.refl⟩
theorem DTs.one {Γ : Gam} {B : Bd τ} {c : Expr} {F : M τ Bool} (h : DT Γ B c F) : DTs Γ B [c] F := by
  obtain ⟨t, p, m⟩ := h
  exact ⟨t, fun X h => pts_one (p X h), m⟩
def turnM (G : D → M τ Unit) (T : M τ Bool) (E : M τ D) (x : D) (acc : List D) : M τ (List D) := bnd (G x) fun _ => bnd T fun k => if k then bnd E fun d => ret (acc ++ [d]) else ret acc
def lcLoop (ws : List Nat) (G : D → M τ Unit) (T : M τ Bool) (E : M τ D) : List D → List D → M τ (List D)
  | [], acc => ret acc
  | x :: xs, acc => fun s => match turnM G T E x acc s with
    | none => none
    | some (acc', s') => lcLoop ws G T E xs acc' { s' with env := wipeE s'.env ws }
/-- all but the list at D that grows -/
structure StepD (K : Frag) (B : Bd τ) (σ : List (Option V)) (A : Addr) (s : Stt τ) (H S : Hp) (s' : Stt τ) (H' S' : Hp) : Prop where
  same : Same S S'
  dom : ∀ p, H' p = none → H p = none
  free : ∀ (p : Addr) (xs : List D), p ≠ A → Free K B s σ H S p xs → Free K B s' σ H' S' p xs
theorem StepD.trans {K : Frag} {B : Bd τ} {σ : List (Option V)} {A : Addr} {s s1 s2 : Stt τ} {H S H1 S1 H2 S2 : Hp} (a : StepD K B σ A s H S s1 H1 S1) (b : StepD K B σ A s1 H1 S1 s2 H2 S2) : StepD K B σ A s H S s2 H2 S2 :=
  ⟨a.same.trans b.same, fun p h => a.dom p (b.dom p h), fun p xs n f => b.free p xs n (a.free p xs n f)⟩
theorem StepD.refl {K : Frag} {B : Bd τ} {σ : List (Option V)} {A : Addr} {s : Stt τ} {H S : Hp} : StepD K B σ A s H S s H S := ⟨Same.refl _, fun _ h => h, fun _ _ _ f => f⟩
theorem upd_dom {H : Hp} {A : Addr} {o u : HO} (h : H A = some o) : ∀ p, upd H A u p = none → H p = none := fun p e => by
  by_cases q : p = A
  · subst q; rw [upd_same] at e; cases e
  · rw [upd_ne q] at e; exact e
/-- one clause: the loop of a block, from a state whose block names are forgotten -/
theorem lc_run {K : Frag} {B : Bd τ} {g : TG} {ws us : List Nat} {G : D → M τ Unit} {tt : TT} {T : M τ Bool} {te : TE} {E : M τ Opd} {σ : List (Option V)} {J : It} {xs : List D} {S0 : Hp} {A : Addr}
    (wk : DWalk K S0 J xs) (mg : MeanG K B g us G) (hu : ∀ i ∈ us, i ∈ ws) (mt : MeanT K B tt T) (me : Mean K B te E) {s s' : Stt τ} {acc ds : List D} {H S : Hp} (hz : acc.length + xs.length ≤ sizeLine)
    (gd : Good K B s (wipe σ ws) H S) (hS : Same S0 S) (f : Free K B s (wipe σ ws) H S A acc) (e : lcLoop ws G T (valM E) xs acc s = some (ds, s')) {Qd : Hp → Prop}
    (q : ∀ H' S', Good K B s' (wipe σ ws) H' S' → Free K B s' (wipe σ ws) H' S' A ds → StepD K B (wipe σ ws) A s H S s' H' S' → ds.length ≤ acc.length + xs.length → Qd H') :
    ∃ W : Nat → Nat → Hp → Prop, (∃ m, W 0 m H) ∧ ∀ i m H, W i m H →
      (J.stop i H ∧ Qd H) ∨ (J.go i H ∧ ∃ Nx : Hp → Prop, (∀ H', Nx H' → ∃ m', m' < m ∧ W (i + 1) m' H') ∧ ∀ x H', J.yld i H x H' → g x (wipe σ ws) H' fun σ2 H2 => wipe σ2 ws = wipe σ ws ∧ tt σ2 H2 fun b H3 =>
        if b = true then te σ2 H3 fun y H4 => ∃ acc, H4 A = some (.lst acc) ∧ acc.length < sizeLine ∧ Nx (upd H4 A (.lst (acc ++ [y]))) else Nx H3) := by
  refine ⟨fun i m H1 => m = xs.length - i ∧ i ≤ xs.length ∧ ∃ s1 S1 acc1, Good K B s1 (wipe σ ws) H1 S1 ∧ Free K B s1 (wipe σ ws) H1 S1 A acc1 ∧ StepD K B (wipe σ ws) A s H S s1 H1 S1 ∧ acc1.length ≤ acc.length + i ∧ lcLoop ws G T (valM E) (xs.drop i) acc1 s1 = some (ds, s'),
    ⟨xs.length, by simp, Nat.zero_le _, s, S, acc, gd, f, StepD.refl, Nat.le_refl _, by rw [List.drop_zero]; exact e⟩, ?_⟩
  rintro i m H1 ⟨rfl, hi, s1, S1, acc1, g1, f1, w1, l1, e1⟩
  by_cases hlt : i < xs.length
  · refine .inr ⟨wk.go i H1 hlt ((hS.trans w1.same).trans g1.fr.sub), fun H2 => ∃ s2 S2 acc2, Good K B s2 (wipe σ ws) H2 S2 ∧ Free K B s2 (wipe σ ws) H2 S2 A acc2 ∧ StepD K B (wipe σ ws) A s H S s2 H2 S2 ∧ acc2.length ≤ acc.length + (i + 1) ∧ lcLoop ws G T (valM E) (xs.drop (i + 1)) acc2 s2 = some (ds, s'),
      fun H2 n2 => ⟨xs.length - (i + 1), by omega, rfl, hlt, n2⟩, fun x H2 y => ?_⟩
    rw [List.drop_eq_getElem_cons hlt] at e1
    have hx : xs[i]? = some xs[i] := List.getElem?_eq_getElem hlt
    obtain ⟨S2, wg, hd⟩ := wk.yld i H1 x H2 S1 _ hx (hS.trans w1.same) g1.fr.sub y
    have g2 := g1.grow wg
    have f2 := f1.grow wg
    unfold lcLoop at e1
    split at e1
    · cases e1
    rename_i acc' s5 et
    obtain ⟨_, s3, e3, et⟩ := bnd_some et
    refine mg s1 _ H2 S2 g2 x _ hd s3 e3 _ fun σ3 g3 m3 => ?_
    have f3 := m3.free _ _ _ _ f2
    have hw3 : wipe σ3 ws = wipe σ ws := by
      rw [m3.wipe ws hu]
      exact wipe_wipe fun i m => m
    refine ⟨hw3, ?_⟩
    obtain ⟨k, s4, e4, et⟩ := bnd_some et
    refine mt s3 σ3 H2 S2 g3 k s4 e4 _ fun H3 S3 g4 w4 => ?_
    have f4 := w4.free _ _ f3
    -- what a turn leaves, whatever slots it used
    have fin : ∀ {s6 : Stt τ} {H6 S6 : Hp} {acc6 : List D}, Good K B s6 σ3 H6 S6 → Free K B s6 σ3 H6 S6 A acc6 → (∀ p, H6 p = none → H2 p = none) → Same S2 S6 → (∀ (p : Addr) (ys : List D), p ≠ A → Free K B s3 σ3 H2 S2 p ys → Free K B s6 σ3 H6 S6 p ys) →
        acc6.length ≤ acc1.length + 1 → lcLoop ws G T (valM E) (xs.drop (i + 1)) acc6 { s6 with env := wipeE s6.env ws } = some (ds, s') →
        ∃ s2 S2 acc2, Good K B s2 (wipe σ ws) H6 S2 ∧ Free K B s2 (wipe σ ws) H6 S2 A acc2 ∧ StepD K B (wipe σ ws) A s H S s2 H6 S2 ∧ acc2.length ≤ acc.length + (i + 1) ∧ lcLoop ws G T (valM E) (xs.drop (i + 1)) acc2 s2 = some (ds, s') := fun {s6 H6 S6 acc6} g6 f6 d6 w6 fr6 l6 e6 => by
      have g7 := g6.wipe ws
      have f7 := f6.wipe ws
      rw [hw3] at g7 f7
      refine ⟨_, S6, acc6, g7, f7, ⟨(w1.same.trans wg.s).trans w6, fun p h => w1.dom p (wg.h.free (d6 p h)), fun p ys n fp => ?_⟩, by omega, e6⟩
      have r := (fr6 p ys n (m3.free _ _ _ _ ((w1.free p ys n fp).grow wg))).wipe ws
      rw [hw3] at r
      exact r
    cases k with
    | false =>
      obtain ⟨rfl, rfl⟩ := ret_some et
      exact iteF (fin g4 f4 w4.dom w4.same (fun p ys _ fp => w4.free p ys fp) (by omega) e1)
    | true =>
      refine iteT ?_
      obtain ⟨d, s6, e6, et⟩ := bnd_some (show (bnd (valM E) fun d => ret (acc1 ++ [d])) s4 = some (acc', s5) from et)
      obtain ⟨rfl, rfl⟩ := ret_some et
      refine me.val g4 e6 fun y H6 S6 g6 w6 r6 => ?_
      have f6 := w6.free _ _ f4
      obtain ⟨vs, hv, hq⟩ := f6.at_
      refine ⟨vs, hv, by rw [hq.len]; omega, fin (g6.changeFree f6) (f6.change (hq.app (.cons r6 .nil))) (fun p h => w4.dom p (w6.dom p (upd_dom hv p h))) (w4.same.trans w6.same) (fun p ys n fp => ((w4.trans w6).free p ys fp).other n) (by simp) e1⟩
  · have ei : i = xs.length := by omega
    subst ei
    rw [List.drop_length] at e1
    obtain ⟨rfl, rfl⟩ := ret_some e1
    exact .inl ⟨wk.stop H1 ((hS.trans w1.same).trans g1.fr.sub), q H1 S1 g1 f1 w1 l1⟩
def lcM (ws : List Nat) (Fi : M τ (List D)) (G : D → M τ Unit) (T : M τ Bool) (E : M τ Opd) : M τ Opd := bnd Fi fun xs => if fitsL xs then fun s => match lcLoop ws G T (valM E) xs [] { s with env := wipeE s.env ws } with
    | none => none
    | some (ds, s') => some (.new ds, { s' with env := restE s.env ws s'.env })
  else stuck
theorem mean_lc {K : Frag} {B : Bd τ} {wi : TI} {g : TG} {ws us : List Nat} {Fi : M τ (List D)} {G : D → M τ Unit} {tt : TT} {T : M τ Bool} {te : TE} {E : M τ Opd} (mi : MeanI K B wi Fi) (mg : MeanG K B g us G) (hu : ∀ i ∈ us, i ∈ ws) (mt : MeanT K B tt T) (me : Mean K B te E) :
    Mean K B (tLc wi g tt te ws) (lcM ws Fi G T E) := fun s σ H S gd o s' e Q q => by
  obtain ⟨xs, s1, e1, e2⟩ := bnd_some e
  by_cases hz : fitsL xs = true
  · rw [if_pos hz] at e2
    split at e2
    · cases e2
    rename_i ds s2 e3
    cases e2
    refine mi s σ H S gd xs s1 e1 _ fun J H1 S1 g1 w1 wk => ?_
    intro A hA
    have gw := g1.wipe ws
    obtain ⟨g2, f2⟩ := Good.free gw hA .nil
    have wA : Grow H1 S1 (upd H1 A (.lst [])) S1 := Grow.fresh g1.fr.sub hA
    refine lc_run wk mg hu mt me (by have := of_decide_eq_true hz; simpa using this) g2 (Same.refl _) f2 e3 fun H3 S3 g3 f3 w3 _ => ?_
    have hne : ∀ {p : Addr} {ys : List D}, Free K B s1 σ H1 S1 p ys → p ≠ A := fun {p ys} f z => by
      obtain ⟨vs, h, _⟩ := f.at_
      rw [z, hA] at h
      cases h
    refine q _ H3 S3 (g1.unwipe g3 w3.same) ⟨w1.same.trans w3.same, fun p h => w1.dom p (wA.h.free (w3.dom p h)), fun p ys f => ?_⟩ ⟨A, rfl, f3.unwipe⟩ ⟨A, rfl, w1.dom A hA⟩
    have f1 := w1.free p ys f
    exact (w3.free p ys (hne f1) ((f1.wipe ws).grow wA)).unwipe
  · rw [if_neg hz] at e2
    cases e2
section
variable {Γ : Gam} {B : Bd τ} {pos : Pos}
theorem DO.lc {elt tg iter : Expr} {ifs : List Expr} {scope : Scope} {own : List (Str × Nat)} {us : List Nat} {Fi : M τ (List D)} {G : D → M τ Unit} {T : M τ Bool} {E : M τ Opd} (nd : Γ.N.Nodup) (hi : DI Γ B tg iter Fi) (ok : BlkOk Γ.N Γ.sc scope own)
    (hg : DG (Γ.blk scope) B tg us G) (hu : ∀ i ∈ us, i ∈ own.map (·.2)) (ht : DTs (Γ.blk scope) B ifs T) (he : DO (Γ.blk scope) B elt E) (hs : ∀ (X : Cx) x, foldedSetIterable iter X.env x = pure x := by intro _ _; rfl) :
    DO Γ B (.ListComp elt [⟨tg, iter, ifs, 0⟩] scope pos) (lcM (own.map (·.2)) Fi G T E) := by
  obtain ⟨wi, pi, mi⟩ := hi
  obtain ⟨g, pg, mg⟩ := hg
  obtain ⟨tt, pt, mt⟩ := ht
  obtain ⟨te, pe, me⟩ := he
  exact ⟨_, fun X h => pe_lc h.calm (by rw [h.N]; exact nd) (pi X h) (by rw [h.N, h.sc]; exact ok) (fun _ _ _ _ _ => pg _ (blk_has h)) (fun _ _ _ _ _ => pt _ (blk_has h)) (fun _ _ _ _ _ => pe _ (blk_has h)) (hs X), mean_lc mi mg hu mt me⟩
end
/-! two clauses -/
def lc2Loop (ws ws1 : List Nat) (G : D → M τ Unit) (T : M τ Bool) (Fi1 : M τ (List D)) (G1 : D → M τ Unit) (T1 : M τ Bool) (E : M τ D) : List D → List D → M τ (List D)
  | [], acc => ret acc
  | x :: xs, acc => fun s => match (bnd (G x) fun _ => bnd T fun k => if k then bnd Fi1 fun ys => if decide (acc.length + ys.length ≤ sizeLine) then fun s => lcLoop ws1 G1 T1 E ys acc { s with env := wipeE s.env ws1 } else stuck else ret acc) s with
    | none => none
    | some (acc', s') => lc2Loop ws ws1 G T Fi1 G1 T1 E xs acc' { s' with env := wipeE s'.env ws }
def lc2M (ws ws1 : List Nat) (Fi : M τ (List D)) (G : D → M τ Unit) (T : M τ Bool) (Fi1 : M τ (List D)) (G1 : D → M τ Unit) (T1 : M τ Bool) (E : M τ Opd) : M τ Opd := bnd Fi fun xs => fun s => match lc2Loop ws ws1 G T Fi1 G1 T1 (valM E) xs [] { s with env := wipeE s.env ws } with
    | none => none
    | some (ds, s') => some (.new ds, { s' with env := restE s.env ws s'.env })
theorem mean_lc2 {K : Frag} {B : Bd τ} {wi wi1 : TI} {g g1 : TG} {ws ws1 us us1 : List Nat} {Fi Fi1 : M τ (List D)} {G G1 : D → M τ Unit} {tt tt1 : TT} {T T1 : M τ Bool} {te : TE} {E : M τ Opd} (mi : MeanI K B wi Fi) (mg : MeanG K B g us G) (hu : ∀ i ∈ us, i ∈ ws) (mt : MeanT K B tt T)
    (mi1 : MeanI K B wi1 Fi1) (mg1 : MeanG K B g1 us1 G1) (hu1 : ∀ i ∈ us1, i ∈ ws1) (hw : ∀ i ∈ ws1, i ∈ ws) (mt1 : MeanT K B tt1 T1) (me : Mean K B te E) :
    Mean K B (tLc2 wi g tt wi1 g1 tt1 te ws ws1) (lc2M ws ws1 Fi G T Fi1 G1 T1 E) := fun s σ H S gd o s' e Q q => by
  obtain ⟨xs, s1, e1, e2⟩ := bnd_some e
  split at e2
  · cases e2
  rename_i ds s2 e3
  cases e2
  refine mi s σ H S gd xs s1 e1 _ fun J H1 S1 gd1 w1 wk => ?_
  intro A hA
  have gw := gd1.wipe ws
  obtain ⟨gd2, f2⟩ := Good.free gw hA .nil
  have wA : Grow H1 S1 (upd H1 A (.lst [])) S1 := Grow.fresh gd1.fr.sub hA
  generalize hsw : ({ s1 with env := wipeE s1.env ws } : Stt τ) = sw at gw gd2 f2 e3
  refine ⟨fun i m H3 => m = xs.length - i ∧ i ≤ xs.length ∧ ∃ s3 S3 acc3, Good K B s3 (wipe σ ws) H3 S3 ∧ Free K B s3 (wipe σ ws) H3 S3 A acc3 ∧ StepD K B (wipe σ ws) A sw (upd H1 A (.lst [])) S1 s3 H3 S3 ∧ lc2Loop ws ws1 G T Fi1 G1 T1 (valM E) (xs.drop i) acc3 s3 = some (ds, s2),
    ⟨xs.length, by simp, Nat.zero_le _, sw, S1, [], gd2, f2, StepD.refl, by rw [List.drop_zero]; exact e3⟩, ?_⟩
  rintro i m H3 ⟨rfl, hi, s3, S3, acc3, gd3, f3, w3, e4⟩
  by_cases hlt : i < xs.length
  · refine .inr ⟨wk.go i H3 hlt (w3.same.trans gd3.fr.sub), fun H4 => ∃ s4 S4 acc4, Good K B s4 (wipe σ ws) H4 S4 ∧ Free K B s4 (wipe σ ws) H4 S4 A acc4 ∧ StepD K B (wipe σ ws) A sw (upd H1 A (.lst [])) S1 s4 H4 S4 ∧ lc2Loop ws ws1 G T Fi1 G1 T1 (valM E) (xs.drop (i + 1)) acc4 s4 = some (ds, s2),
      fun H4 n4 => ⟨xs.length - (i + 1), by omega, rfl, hlt, n4⟩, fun x H4 y => ?_⟩
    rw [List.drop_eq_getElem_cons hlt] at e4
    have hx : xs[i]? = some xs[i] := List.getElem?_eq_getElem hlt
    obtain ⟨S4, wg, hd⟩ := wk.yld i H3 x H4 S3 _ hx w3.same gd3.fr.sub y
    have gd4 := gd3.grow wg
    have f4 := f3.grow wg
    unfold lc2Loop at e4
    split at e4
    · cases e4
    rename_i acc' s9 et
    obtain ⟨_, s5, e5, et⟩ := bnd_some et
    refine mg s3 _ H4 S4 gd4 x _ hd s5 e5 _ fun σ5 gd5 m5 => ?_
    have f5 := m5.free _ _ _ _ f4
    have hw5 : wipe σ5 ws = wipe σ ws := by
      rw [m5.wipe ws hu]
      exact wipe_wipe fun i m => m
    refine ⟨hw5, ?_⟩
    obtain ⟨k, s6, e6, et⟩ := bnd_some et
    refine mt s5 σ5 H4 S4 gd5 k s6 e6 _ fun H6 S6 gd6 w6 => ?_
    have f6 := w6.free _ _ f5
    have fin : ∀ {s7 : Stt τ} {σ7 : List (Option V)} {H7 S7 : Hp} {acc7 : List D}, wipe σ7 ws = wipe σ ws → Good K B s7 σ7 H7 S7 → Free K B s7 σ7 H7 S7 A acc7 → (∀ p, H7 p = none → H4 p = none) → Same S4 S7 → (∀ (p : Addr) (ys : List D), p ≠ A → Free K B s5 σ5 H4 S4 p ys → Free K B s7 σ7 H7 S7 p ys) →
        lc2Loop ws ws1 G T Fi1 G1 T1 (valM E) (xs.drop (i + 1)) acc7 { s7 with env := wipeE s7.env ws } = some (ds, s2) →
        ∃ s4 S4 acc4, Good K B s4 (wipe σ ws) H7 S4 ∧ Free K B s4 (wipe σ ws) H7 S4 A acc4 ∧ StepD K B (wipe σ ws) A sw (upd H1 A (.lst [])) S1 s4 H7 S4 ∧ lc2Loop ws ws1 G T Fi1 G1 T1 (valM E) (xs.drop (i + 1)) acc4 s4 = some (ds, s2) := fun {s7 σ7 H7 S7 acc7} hw7 g7 f7 d7 w7 fr7 e7 => by
      have g8 := g7.wipe ws
      have f8 := f7.wipe ws
      rw [hw7] at g8 f8
      refine ⟨_, S7, acc7, g8, f8, ⟨(w3.same.trans wg.s).trans w7, fun p h => w3.dom p (wg.h.free (d7 p h)), fun p ys n fp => ?_⟩, e7⟩
      have r := (fr7 p ys n (m5.free _ _ _ _ ((w3.free p ys n fp).grow wg))).wipe ws
      rw [hw7] at r
      exact r
    cases k with
    | false =>
      obtain ⟨rfl, rfl⟩ := ret_some et
      exact iteF (fin hw5 gd6 f6 w6.dom w6.same (fun p ys _ fp => w6.free p ys fp) e4)
    | true =>
      refine iteT ?_
      obtain ⟨ys, s7, e7, et⟩ := bnd_some (show (bnd Fi1 fun ys => if decide (acc3.length + ys.length ≤ sizeLine) then fun s => lcLoop ws1 G1 T1 (valM E) ys acc3 { s with env := wipeE s.env ws1 } else stuck) s6 = some (acc', s9) from et)
      by_cases hz : decide (acc3.length + ys.length ≤ sizeLine) = true
      · rw [if_pos hz] at et
        refine mi1 s6 σ5 H6 S6 gd6 ys s7 e7 _ fun J1 H7 S7 gd7 w7 wk1 => ?_
        have f7 := w7.free _ _ f6
        refine lc_run wk1 mg1 hu1 mt1 me (of_decide_eq_true hz) (gd7.wipe ws1) (Same.refl _) (f7.wipe ws1) et fun H8 S8 gd8 f8 w8 _ => ?_
        refine fin (by rw [wipe_wipe hw]; exact hw5) gd8 f8 (fun p h => w6.dom p (w7.dom p (w8.dom p h))) ((w6.same.trans w7.same).trans w8.same) (fun p zs n fp => ?_) e4
        exact w8.free p zs n (((w6.trans w7).free p zs fp).wipe ws1)
      · rw [if_neg hz] at et
        cases et
  · have ei : i = xs.length := by omega
    subst ei
    rw [List.drop_length] at e4
    obtain ⟨rfl, rfl⟩ := ret_some e4
    have hne : ∀ {p : Addr} {ys : List D}, Free K B s1 σ H1 S1 p ys → p ≠ A := fun {p ys} f z => by
      obtain ⟨vs, h, _⟩ := f.at_
      rw [z, hA] at h
      cases h
    refine .inl ⟨wk.stop H3 (w3.same.trans gd3.fr.sub), q _ H3 S3 (gd1.unwipe gd3 w3.same) ⟨w1.same.trans w3.same, fun p h => w1.dom p (wA.h.free (w3.dom p h)), fun p ys f => ?_⟩ ⟨A, rfl, f3.unwipe⟩ ⟨A, rfl, w1.dom A hA⟩⟩
    have f1 := w1.free p ys f
    have := (f1.wipe ws).grow wA
    rw [hsw] at this
    exact (w3.free p ys (hne f1) this).unwipe
section
variable {Γ : Gam} {B : Bd τ} {pos : Pos}
theorem DO.lc2 {elt tg iter tg1 iter1 : Expr} {ifs ifs1 : List Expr} {scope : Scope} {own : List (Str × Nat)} {us us1 ws1 : List Nat} {Fi Fi1 : M τ (List D)} {G G1 : D → M τ Unit} {T T1 : M τ Bool} {E : M τ Opd} (nd : Γ.N.Nodup) (hi : DI Γ B tg iter Fi) (ok : BlkOk Γ.N Γ.sc scope own)
    (hg : DG (Γ.blk scope) B tg us G) (hu : ∀ i ∈ us, i ∈ own.map (·.2)) (ht : DTs (Γ.blk scope) B ifs T)
    (hi1 : DI (Γ.blk scope) B tg1 iter1 Fi1) (hg1 : DG (Γ.blk scope) B tg1 us1 G1) (hu1 : ∀ i ∈ us1, i ∈ ws1) (hw : ∀ i ∈ ws1, i ∈ own.map (·.2)) (ht1 : DTs (Γ.blk scope) B ifs1 T1) (he : DO (Γ.blk scope) B elt E)
    (hs : ∀ (X : Cx) x, foldedSetIterable iter X.env x = pure x := by intro _ _; rfl) (hs1 : ∀ env x, foldedSetIterable iter1 env x = pure x := by intro _ _; rfl) :
    DO Γ B (.ListComp elt [⟨tg, iter, ifs, 0⟩, ⟨tg1, iter1, ifs1, 0⟩] scope pos) (lc2M (own.map (·.2)) ws1 Fi G T Fi1 G1 T1 E) := by
  obtain ⟨wi, pi, mi⟩ := hi
  obtain ⟨g, pg, mg⟩ := hg
  obtain ⟨tt, pt, mt⟩ := ht
  obtain ⟨wi1, pi1, mi1⟩ := hi1
  obtain ⟨g1, pg1, mg1⟩ := hg1
  obtain ⟨tt1, pt1, mt1⟩ := ht1
  obtain ⟨te, pe, me⟩ := he
  exact ⟨_, fun X h => pe_lc2 h.calm (by rw [h.N]; exact nd) (pi X h) (by rw [h.N, h.sc]; exact ok) hw (fun _ _ _ _ _ => pg _ (blk_has h)) (fun _ _ _ _ _ => pt _ (blk_has h)) (fun _ _ _ _ _ => pi1 _ (blk_has h)) (fun _ _ _ _ _ => pg1 _ (blk_has h)) (fun _ _ _ _ _ => pt1 _ (blk_has h)) (fun _ _ _ _ _ => pe _ (blk_has h)) (hs X) hs1,
    mean_lc2 mi mg hu mt mi1 mg1 hu1 hw mt1 me⟩
end
end DL
end

section
set_option Elab.async false
set_option linter.all false
set_option maxRecDepth 100000
set_option maxHeartbeats 3999999
/-! WEng7: statements, loops, defs and their calls -/
namespace DL
open L2 PySem PyProof.Rows PySem.Spec
variable {τ α β : Type}

def EndOk (K : Frag) (B : Bd τ) (S : Hp) (o : Out) (s' : Stt τ) (D : Ends) : Prop := match o with
  | .nx => ∀ σ' H' S', Good K B s' σ' H' S' → Same S S' → D.nx σ' H'
  | .bk => ∀ σ' H' S', Good K B s' σ' H' S' → Same S S' → D.bk σ' H'
  | .ct => ∀ σ' H' S', Good K B s' σ' H' S' → Same S S' → D.ct σ' H'
  | .rt d => ∀ v H' S', Fr B.dr B.H0 B.S0 H' S' → B.dr.At s'.dr H' → Dq K S' v d → D.rt v H'
  | .rn xs => ∀ p vs H' S', Fr B.dr B.H0 B.S0 H' S' → B.dr.At s'.dr H' → H' p = some (.lst vs) → DqAll K S' vs xs → S' p = none → B.H0 p = none → ¬ B.dr.R p → D.rt (.ref p) H'
def MeanS (K : Frag) (B : Bd τ) (t : TS) (F : M τ Out) : Prop := ∀ s σ H S, Good K B s σ H S → ∀ o s', F s = some (o, s') → ∀ D : Ends, EndOk K B S o s' D → t D σ H
def DS (Γ : Gam) (B : Bd τ) (st : Stmt) (F : M τ Out) : Prop := ∃ t, (∀ X, Γ.Has X → PS X st t) ∧ MeanS Γ.K B t F
def DSs (Γ : Gam) (B : Bd τ) (st : List Stmt) (F : M τ Out) : Prop := ∃ t, (∀ X, Γ.Has X → PSs X st t) ∧ MeanS Γ.K B t F
def seqM (F G : M τ Out) : M τ Out := bnd F fun o => match o with
  | .nx => G
  | .bk => ret .bk
  | .ct => ret .ct
  | .rt d => ret (.rt d)
  | .rn xs => ret (.rn xs)
def dropM (F : M τ Opd) : M τ Out := bnd F fun _ => ret .nx
def retM (F : M τ Opd) : M τ Out := bnd (valM F) fun d => ret (.rt d)
def ifM (T : M τ Bool) (F G : M τ Out) : M τ Out := bnd T fun k => if k then F else G
/-- an operand goes into a slot -/
def putM (i : Nat) (o : Opd) : M τ Unit := match o with
  | .new xs => fun s => some ((), { s with env := s.env.set i (some (.own xs)) })
  | .val d => setM i d
  | .slot j => bnd (toD (.slot j)) (setM i)
def asgM (i : Nat) (F : M τ Opd) : M τ Out := bnd F fun o => bnd (putM i o) fun _ => ret .nx
section
variable {K : Frag} {B : Bd τ} {s s' : Stt τ} {σ : List (Option V)} {H S : Hp}
theorem EndOk.mono {S1 : Hp} {o : Out} {D : Ends} (h : EndOk K B S o s' D) (w : Same S S1) : EndOk K B S1 o s' D := by
  cases o with
  | nx => exact fun σ' H' S' g w' => h σ' H' S' g (w.trans w')
  | bk => exact fun σ' H' S' g w' => h σ' H' S' g (w.trans w')
  | ct => exact fun σ' H' S' g w' => h σ' H' S' g (w.trans w')
  | rt d => exact h
  | rn xs => exact h
theorem put_of {v : V} {o : Opd} {i : Nat} (g : Good K B s σ H S) (r : RelO K B s σ H S v o) (e : putM i o s = some ((), s')) : ∃ S', Same S S' ∧ Good K B s' (σ.set i (some v)) H S' := by
  cases o with
  | new xs =>
    cases e
    obtain ⟨p, rfl, f⟩ := r
    exact ⟨S, Same.refl _, g.setOwn f⟩
  | val d =>
    cases e
    exact ⟨S, Same.refl _, g.set r⟩
  | slot j =>
    obtain ⟨d, s1, e1, e2⟩ := bnd_some e
    cases e2
    obtain ⟨S2, w2, g2, r2, _⟩ := toD_of g r e1
    exact ⟨S2, w2, g2.set r2⟩
end
section
variable {Γ : Gam} {B : Bd τ} {pos : Pos} {st : Stmt} {sts : List Stmt} {e : Expr} {F : M τ Opd} {Fs Gs : M τ Out}
theorem DSs.nil : DSs Γ B [] (ret .nx) := ⟨tNext, fun X h => pss_nil, fun s σ H S g o s' e D q => by
  obtain ⟨rfl, rfl⟩ := ret_some e
  exact q σ H S g (Same.refl _)⟩
theorem DSs.cons (h : DS Γ B st Fs) (hs : DSs Γ B sts Gs) : DSs Γ B (st :: sts) (seqM Fs Gs) := by
  obtain ⟨t, p, m⟩ := h
  obtain ⟨u, pu, mu⟩ := hs
  refine ⟨_, fun X h => pss_cons (p X h) (pu X h), fun s σ H S g o s' e D q => ?_⟩
  obtain ⟨o1, s1, e1, e2⟩ := bnd_some e
  refine m s σ H S g o1 s1 e1 _ ?_
  cases o1 with
  | nx => exact fun σ1 H1 S1 g1 w1 => mu s1 σ1 H1 S1 g1 o s' e2 D (q.mono w1)
  | bk => obtain ⟨rfl, rfl⟩ := ret_some e2; exact q
  | ct => obtain ⟨rfl, rfl⟩ := ret_some e2; exact q
  | rt d => obtain ⟨rfl, rfl⟩ := ret_some e2; exact q
  | rn xs => obtain ⟨rfl, rfl⟩ := ret_some e2; exact q
theorem DSs.one (h : DS Γ B st Fs) : DSs Γ B [st] Fs := by
  obtain ⟨t, p, m⟩ := h
  exact ⟨t, fun X h => pss_one (p X h), m⟩
theorem DS.pass : DS Γ B (.Pass pos) (ret .nx) := ⟨tNext, fun X h => ps_pass, fun s σ H S g o s' e D q => by
  obtain ⟨rfl, rfl⟩ := ret_some e
  exact q σ H S g (Same.refl _)⟩
theorem DS.brk : DS Γ B (.Break pos) (ret .bk) := ⟨tBreak, fun X h => ps_break, fun s σ H S g o s' e D q => by
  obtain ⟨rfl, rfl⟩ := ret_some e
  exact q σ H S g (Same.refl _)⟩
theorem DS.cont : DS Γ B (.Continue pos) (ret .ct) := ⟨tCont, fun X h => ps_continue, fun s σ H S g o s' e D q => by
  obtain ⟨rfl, rfl⟩ := ret_some e
  exact q σ H S g (Same.refl _)⟩
theorem DS.never : DS Γ B st stuck := ⟨tNever, fun X h => ps_never, fun s σ H S g o s' e D q => by cases e⟩
theorem DS.expr (h : DO Γ B e F) (hs : ∀ X : Cx, swapsWith e none pos.line X.env = pure false := by intro _; rfl) : DS Γ B (.Expr e pos) (dropM F) := by
  obtain ⟨t, p, m⟩ := h
  refine ⟨_, fun X h => ps_expr (p X h) (hs X), fun s σ H S g o s' e D q => ?_⟩
  obtain ⟨o1, s1, e1, e2⟩ := bnd_some e
  obtain ⟨rfl, rfl⟩ := ret_some e2
  exact m s σ H S g o1 _ e1 _ fun v H1 S1 g1 w1 _ _ => q σ H1 S1 g1 w1.same
theorem DS.ret (h : DO Γ B e F) : DS Γ B (.Return (some e) pos) (retM F) := by
  obtain ⟨t, p, m⟩ := h
  refine ⟨_, fun X h => ps_ret (p X h), fun s σ H S g o s' e D q => ?_⟩
  obtain ⟨d, s1, e1, e2⟩ := bnd_some e
  obtain ⟨rfl, rfl⟩ := ret_some e2
  exact m.val g e1 fun v H1 S1 g1 w1 r1 => q v H1 S1 g1.fr g1.at_ r1
/-- a list that is new goes out unshared -/
def retF (F : M τ Opd) : M τ Out := bnd F fun o => match o with
  | .new xs => DL.ret (.rn xs)
  | .slot i => fun s => (match s.env[i]? with
    | some (some (.own xs)) => some (.rn xs, s)
    | _ => none)
  | .val _ => stuck
theorem DS.retF (h : DO Γ B e F) : DS Γ B (.Return (some e) pos) (DL.retF F) := by
  obtain ⟨t, p, m⟩ := h
  refine ⟨_, fun X h => ps_ret (p X h), fun s σ H S g o s' e D q => ?_⟩
  obtain ⟨o1, s1, e1, e2⟩ := bnd_some e
  refine m s σ H S g o1 s1 e1 _ fun v H1 S1 g1 w1 r1 _ => ?_
  cases o1 with
  | new xs =>
    obtain ⟨rfl, rfl⟩ := ret_some e2
    obtain ⟨p, rfl, ⟨vs, h1, h2⟩, ns, n0, nr, _⟩ := r1
    exact q p vs H1 S1 g1.fr g1.at_ h1 h2 ns n0 nr
  | slot i =>
    dsimp only at e2
    split at e2
    · rename_i xs q1
      cases e2
      obtain ⟨p, vs, h1, hp, ha, ns, n0, nr⟩ := g1.getOwn q1
      have r1' : σ[i]? = some (some v) := r1
      rw [h1] at r1'
      cases r1'
      exact q p vs H1 S1 g1.fr g1.at_ hp ha ns n0 nr
    · cases e2
  | val x => cases e2
theorem DS.retN : DS Γ B (.Return none pos) (DL.ret (.rt .none)) := ⟨tRetN, fun X h => ps_retN, fun s σ H S g o s' e D q => by
  obtain ⟨rfl, rfl⟩ := ret_some e
  exact q .non H S g.fr g.at_ .non⟩
theorem DS.if_ {c : Expr} {as bs : List Stmt} {T : M τ Bool} (hc : DT Γ B c T) (ha : DSs Γ B as Fs) (hb : DSs Γ B bs Gs) : DS Γ B (.If c as bs pos) (ifM T Fs Gs) := by
  obtain ⟨tc, pc, mc⟩ := hc
  obtain ⟨ta, pa, ma⟩ := ha
  obtain ⟨tb, pb, mb⟩ := hb
  refine ⟨_, fun X h => ps_if (pc X h) (pa X h) (pb X h), fun s σ H S g o s' e D q => ?_⟩
  obtain ⟨k, s1, e1, e2⟩ := bnd_some e
  refine mc s σ H S g k s1 e1 _ fun H1 S1 g1 w1 => ?_
  cases k with
  | true => exact iteT (ma s1 σ H1 S1 g1 o s' e2 D (q.mono w1.same))
  | false => exact iteF (mb s1 σ H1 S1 g1 o s' e2 D (q.mono w1.same))
theorem mean_asg {t : TE} {i : Nat} (m : Mean Γ.K B t F) : MeanS Γ.K B (tAsg t (gName i)) (asgM i F) := fun s σ H S g o s' e D q => by
  obtain ⟨o1, s1, e1, e2⟩ := bnd_some e
  obtain ⟨_, s2, e3, e4⟩ := bnd_some e2
  obtain ⟨rfl, rfl⟩ := ret_some e4
  refine m s σ H S g o1 s1 e1 _ fun v H1 S1 g1 w1 r1 _ => ?_
  obtain ⟨S2, w2, g2⟩ := put_of g1 r1 e3
  exact q _ H1 S2 g2 (w1.same.trans w2)
theorem DS.set {i : Nat} {x : Str} {pos' : Pos} (nd : Γ.N.Nodup) (hi : Γ.N[i]? = some x) (hx : Loc Γ.sc x) (hf : Γ.fn x = true ∨ Γ.sc.names.lookup x = some .local) (h : DO Γ B e F)
    (hs : ∀ X : Cx, swapsWith e (some (.Name x pos')) pos.line X.env = pure false := by intro _; rfl) : DS Γ B (.Assign [.Name x pos'] e pos) (asgM i F) := by
  obtain ⟨t, p, m⟩ := h
  exact ⟨_, fun X h => ps_set (by rw [h.N]; exact nd) (by rw [h.N]; exact hi) (by rw [h.sc]; exact hx) (p X h) (hs X) (by
    rcases hf with z | z
    · exact h.fn x z
    · exact .inr (by rw [h.sc]; exact z)), mean_asg m⟩
/-- name = [..], the comprehension used at once -/
theorem DS.setLc {i : Nat} {x : Str} {py : Pos} {elt tg iter : Expr} {ifs : List Expr} {scope : Scope} {own : List (Str × Nat)} {us : List Nat} {cpos : Pos} {Fi : M τ (List D)} {G : D → M τ Unit} {T : M τ Bool} {E : M τ Opd} (nd : Γ.N.Nodup) (hk : ∀ X, Γ.Has X → X.env.scope.kind = .function)
    (hx : Γ.N[i]? = some x) (hxl : Γ.sc.names.lookup x = some .local) (hln : (py.line == cpos.line) = true) (hna : (scope.names.any fun (n, k) => n == x && (k == .local || k == .cell)) = false) (hi : DI Γ B tg iter Fi) (ok : BlkOk Γ.N Γ.sc scope own)
    (hg : DG (Γ.blk scope) B tg us G) (hu : ∀ i ∈ us, i ∈ own.map (·.2)) (ht : DTs (Γ.blk scope) B ifs T) (he : DO (Γ.blk scope) B elt E) (hs : ∀ (X : Cx) y, foldedSetIterable iter X.env y = pure y := by intro _ _; rfl) :
    DS Γ B (.Assign [.Name x py] (.ListComp elt [⟨tg, iter, ifs, 0⟩] scope cpos) pos) (asgM i (lcM (own.map (·.2)) Fi G T E)) := by
  obtain ⟨wi, pi, mi⟩ := hi
  obtain ⟨g, pg, mg⟩ := hg
  obtain ⟨tt, pt, mt⟩ := ht
  obtain ⟨te, pe, me⟩ := he
  exact ⟨_, fun X h => ps_setLc h.calm (by rw [h.N]; exact nd) (by rw [h.N]; exact hx) (by rw [h.sc]; exact hxl) (sw_true (hk X h) (by rw [h.sc]; exact hxl) hln hna) (pi X h) (by rw [h.N, h.sc]; exact ok) (fun _ _ _ _ _ => pg _ (blk_has h)) (fun _ _ _ _ _ => pt _ (blk_has h))
    (fun _ _ _ _ _ => pe _ (blk_has h)) (hs X), mean_asg (mean_lc mi mg hu mt me)⟩
/-- (a, b) = e -/
def unpM (F : M τ Opd) (G : D → M τ Unit) : M τ Out := bnd (valM F) fun d => bnd (G d) fun _ => ret .nx
theorem DS.unp {tg : Expr} {ws : List Nat} {G : D → M τ Unit} (h : DO Γ B e F) (hg : DG Γ B tg ws G) (hs : ∀ X : Cx, swapsWithSole [tg] e pos.line X.env = pure false := by intro _; rfl) (hw : ∀ X, Γ.Has X → swappedStores [tg] e X.env = pure none := by intro _ _; rfl)
    (h1 : ∀ X : Cx, (assignEach [tg] X.env).map (·.2) = [assign tg X.env] := by intro _; rfl) : DS Γ B (.Assign [tg] e pos) (unpM F G) := by
  obtain ⟨t, p, m⟩ := h
  obtain ⟨g, pg, mg⟩ := hg
  refine ⟨_, fun X h => ps_asg (p X h) (pg X h) (hs X) (hw X h) (h1 X), fun s σ H S gd o s' e D q => ?_⟩
  obtain ⟨d, s1, e1, e2⟩ := bnd_some e
  obtain ⟨_, s2, e3, e4⟩ := bnd_some e2
  obtain ⟨rfl, rfl⟩ := ret_some e4
  exact m.val gd e1 fun v H1 S1 g1 w1 r1 => mg s1 σ H1 S1 g1 v d r1 _ e3 _ fun σ' g2 _ => q σ' H1 S1 g2 w1.same
/-- name op= e, plain values -/
def augM (i : Nat) (f : D → D → Option Opd) (F : M τ Opd) : M τ Out := fun s => match s.env[i]? with
  | some (some (.d x)) => (bnd F fun o => bnd (getO o) fun y => bnd (lift (f x y)) fun r => bnd (putM i r) fun _ => ret .nx) s
  | _ => none
theorem DS.aug {i : Nat} {x : Str} {pos' : Pos} {op : Operator} {f : D → D → Option Opd} (ho : OpD Γ (inplaceOp op) f) (nd : Γ.N.Nodup) (hi : Γ.N[i]? = some x) (hx : Loc Γ.sc x) (hf : Γ.fn x = true ∨ Γ.sc.names.lookup x = some .local) (h : DO Γ B e F) : DS Γ B (.AugAssign (.Name x pos') op e pos) (augM i f F) := by
  obtain ⟨t, p, m⟩ := h
  obtain ⟨r, ro, mo⟩ := ho
  refine ⟨_, fun X h => ps_aug (by rw [h.N]; exact nd) (by rw [h.N]; exact hi) (by rw [h.sc]; exact hx) (p X h) (ro X h) (by
    rcases hf with z | z
    · exact h.fn x z
    · exact .inr (by rw [h.sc]; exact z)), fun s σ H S g o s' e D q => ?_⟩
  unfold augM at e
  split at e
  · rename_i a ea
    obtain ⟨o1, s1, e1, e2⟩ := bnd_some e
    obtain ⟨y, s2, e3, e4⟩ := bnd_some e2
    obtain ⟨ro', s3, e5, e6⟩ := bnd_some e4
    obtain ⟨_, s4, e7, e8⟩ := bnd_some e6
    obtain ⟨ez, rfl⟩ := lift_some e5
    obtain ⟨rfl, rfl⟩ := ret_some e8
    obtain ⟨v, h1, h2⟩ := g.get ea
    refine ⟨v, h1, m s σ H S g o1 s1 e1 _ fun u H1 S1 g1 w1 r1 _ => ?_⟩
    obtain ⟨rfl, vy⟩ := view_of g1 r1 e3
    refine mo H1 S1 v u a y ro' g1.fr.sub (.inl (Dq.mono w1.same h2)) vy ez _ fun z H2 S2 rr => ?_
    obtain ⟨g2, w2, r2, _⟩ := rr.good g1
    obtain ⟨S3, w3, g3⟩ := put_of g2 r2 e7
    exact q _ H2 S3 g3 ((w1.same.trans w2.same).trans w3)
  · cases e
/-- xs.append(e), xs.extend(e), xs a list that the slot owns -/
def appM (i : Nat) (F : M τ Opd) : M τ Out := bnd (valM F) fun d => fun s => match s.env[i]? with
  | some (some (.own xs)) => if xs.length < sizeLine then some (.nx, { s with env := s.env.set i (some (.own (xs ++ [d]))) }) else none
  | _ => none
def extM (i : Nat) (F : M τ Opd) : M τ Out := bnd (lateM F) fun o => bnd (getO o) fun y => fun s => match s.env[i]?, y with
  | some (some (.own xs)), .list ys => if xs.length + ys.length ≤ sizeLine then some (.nx, { s with env := s.env.set i (some (.own (xs ++ ys))) }) else none
  | _, _ => none
def ownAt (i : Nat) : M τ Unit := fun s => match s.env[i]? with
  | some (some (.own _)) => some ((), s)
  | _ => none
theorem DS.app {i : Nat} {x : Str} {p0 apos cpos : Pos} (hN : Γ.N[i]? = some x) (hv : Vis Γ.sc x) (h : DO Γ B e F) (hl : (apos.endLine == cpos.line) = true := by rfl) (hst : ∀ X : Cx, starEach [e] X.env = (false, eval e X.env) :: starEach [] X.env := by intro _; rfl)
    (hs : ∀ X : Cx, swapsWith (.Call (.Attribute (.Name x p0) "append" apos) [e] [] cpos) none pos.line X.env = pure false := by intro _; rfl) (hd : (x == ("__debug__" : Str)) = false := by decide) (hcd : (x == ("__classdict__" : Str)) = false := by decide)
    (hb : ∀ X : Cx, attributeBase (.Name x p0) "append" X.env (eval (.Name x p0) X.env) = eval (.Name x p0) X.env := by intro _; rfl)
    (hfew : ∀ X : Cx, ((backTo cpos (starEach [e] X.env)).all (fun x => !x.1) && (backToKw cpos (keywordEach [] X.env)).all (fun x => x.1.isSome) && decide ([e].length + ([] : List Keyword).length + (if ([] : List Keyword).isEmpty then 0 else 1) < 30)) = true := by intro _; rfl) :
    DS Γ B (.Expr (.Call (.Attribute (.Name x p0) "append" apos) [e] [] cpos) pos) (bnd (ownAt i) fun _ => appM i F) := by
  obtain ⟨t, p, m⟩ := h
  refine ⟨tDrop (tBM Γ.K "list" rAppend (tVar i) (tCons t tNil)), fun X h => by
      have r := pe_bm PySem.F.plainAttrs_list PySem.F.slot_list_append PySem.F.type_list_append mt_append (pe_var (i := i) (by rw [h.N]; exact hN) (by rw [h.sc]; exact hv) hd hcd) (pa_cons (p X h) pa_nil (hst X)) (hb X) (hfew X) hl (hst X) rfl
      rw [h.K] at r
      exact ps_expr r (hs X),
    fun s σ H S g o s' e D q => ?_⟩
  obtain ⟨_, s0, e0, e⟩ := bnd_some e
  obtain ⟨d, s1, e1, e2⟩ := bnd_some e
  unfold ownAt at e0
  split at e0
  · rename_i xs0 q0
    cases e0
    obtain ⟨pa, vs0, h1, hp0, _⟩ := g.getOwn q0
    refine ⟨_, h1, .inl ⟨rfl, _, SqL.of hp0⟩, m.val g e1 fun v H1 S1 g1 w1 r1 => ?_⟩
    split at e2
    · rename_i xs q1
      split at e2
      · rename_i hz
        cases e2
        obtain ⟨pb, vs, h2, hp, ha, _⟩ := g1.getOwn q1
        rw [h1] at h2
        cases h2
        exact ⟨_, vs, v, rfl, rfl, hp, by rw [ha.len]; exact hz, q σ _ S1 (g1.change q1 h1 (ha.app (.cons r1 .nil))) w1.same⟩
      · cases e2
    · cases e2
  · cases e0
theorem DS.ext {i : Nat} {x : Str} {p0 apos cpos : Pos} (hN : Γ.N[i]? = some x) (hv : Vis Γ.sc x) (h : DO Γ B e F) (hl : (apos.endLine == cpos.line) = true := by rfl) (hst : ∀ X : Cx, starEach [e] X.env = (false, eval e X.env) :: starEach [] X.env := by intro _; rfl)
    (hs : ∀ X : Cx, swapsWith (.Call (.Attribute (.Name x p0) "extend" apos) [e] [] cpos) none pos.line X.env = pure false := by intro _; rfl) (hd : (x == ("__debug__" : Str)) = false := by decide) (hcd : (x == ("__classdict__" : Str)) = false := by decide)
    (hb : ∀ X : Cx, attributeBase (.Name x p0) "extend" X.env (eval (.Name x p0) X.env) = eval (.Name x p0) X.env := by intro _; rfl)
    (hfew : ∀ X : Cx, ((backTo cpos (starEach [e] X.env)).all (fun x => !x.1) && (backToKw cpos (keywordEach [] X.env)).all (fun x => x.1.isSome) && decide ([e].length + ([] : List Keyword).length + (if ([] : List Keyword).isEmpty then 0 else 1) < 30)) = true := by intro _; rfl) :
    DS Γ B (.Expr (.Call (.Attribute (.Name x p0) "extend" apos) [e] [] cpos) pos) (bnd (ownAt i) fun _ => extM i F) := by
  obtain ⟨t, p, m⟩ := h
  refine ⟨tDrop (tBM Γ.K "list" rExtend (tVar i) (tCons t tNil)), fun X h => by
      have r := pe_bm PySem.F.plainAttrs_list PySem.F.slot_list_extend PySem.F.type_list_extend mt_extend (pe_var (i := i) (by rw [h.N]; exact hN) (by rw [h.sc]; exact hv) hd hcd) (pa_cons (p X h) pa_nil (hst X)) (hb X) (hfew X) hl (hst X) rfl
      rw [h.K] at r
      exact ps_expr r (hs X),
    fun s σ H S g o s' e D q => ?_⟩
  obtain ⟨_, s0, e0, e⟩ := bnd_some e
  obtain ⟨o1, s1, e1, e2⟩ := bnd_some e
  obtain ⟨y, s2, e3, e4⟩ := bnd_some e2
  unfold ownAt at e0
  split at e0
  · rename_i xs0 q0
    cases e0
    obtain ⟨pa, vs0, h1, hp0, _⟩ := g.getOwn q0
    refine ⟨_, h1, .inl ⟨rfl, _, SqL.of hp0⟩, m.late g e1 fun v H1 S1 g1 w1 r1 => ?_⟩
    obtain ⟨rfl, vy⟩ := view_of g1 r1.rel e3
    split at e4
    · rename_i xs ys q1
      split at e4
      · rename_i hz
        cases e4
        obtain ⟨pb, vs, h2, hp, ha, _⟩ := g1.getOwn q1
        rw [h1] at h2
        cases h2
        obtain ⟨b, us, rfl, hb', hu⟩ := vy.lst g1.fr.sub
        exact ⟨_, b, vs, us, rfl, rfl, hp, hb', by rw [ha.len, hu.len]; exact hz, q σ _ S1 (g1.change q1 h1 (ha.app hu)) w1.same⟩
      · cases e4
    · cases e4
  · cases e0

/-! ### for -/
def forM (G : D → M τ Unit) (body : M τ Out) : List D → M τ Out
  | [] => ret .nx
  | x :: xs => bnd (G x) fun _ => bnd body fun o => match o with
    | .nx => forM G body xs
    | .ct => forM G body xs
    | .bk => ret .nx
    | .rt d => ret (.rt d)
    | .rn ys => ret (.rn ys)
def loopM (Fi : M τ (List D)) (G : D → M τ Unit) (body : M τ Out) : M τ Out := bnd Fi fun xs => forM G body xs
theorem DS.for_ {tg iter : Expr} {body : List Stmt} {ws : List Nat} {Fi : M τ (List D)} {G : D → M τ Unit} (hi : DI Γ B tg iter Fi) (hg : DG Γ B tg ws G) (hb : DSs Γ B body Fs)
    (hs : ∀ (X : Cx) x, foldedSetIterable iter X.env x = pure x := by intro _ _; rfl) : DS Γ B (.For tg iter body [] pos) (loopM Fi G Fs) := by
  obtain ⟨wi, pi, mi⟩ := hi
  obtain ⟨g, pg, mg⟩ := hg
  obtain ⟨tb, pb, mb⟩ := hb
  refine ⟨_, fun X h => ps_for h.pass h.calm (pi X h) (pg X h) (pb X h) (hs X), fun s σ H S gd o s' e D q => ?_⟩
  obtain ⟨xs, s1, e1, e2⟩ := bnd_some e
  refine mi s σ H S gd xs s1 e1 _ fun J H1 S1 g1 w1 wk => ?_
  have q := q.mono w1.same
  refine ⟨fun i m σ2 H2 => m = xs.length - i ∧ i ≤ xs.length ∧ ∃ s2 S2, Good Γ.K B s2 σ2 H2 S2 ∧ Same S1 S2 ∧ forM G Fs (xs.drop i) s2 = some (o, s'),
    ⟨xs.length, by simp, Nat.zero_le _, s1, S1, g1, Same.refl _, by rw [List.drop_zero]; exact e2⟩, ?_⟩
  rintro i m σ2 H2 ⟨rfl, hi, s2, S2, g2, w2, e3⟩
  by_cases hlt : i < xs.length
  · refine .inr ⟨wk.go i H2 hlt (w2.trans g2.fr.sub), fun σ3 H3 => ∃ s3 S3, Good Γ.K B s3 σ3 H3 S3 ∧ Same S1 S3 ∧ forM G Fs (xs.drop (i + 1)) s3 = some (o, s'),
      fun σ3 H3 n3 => ⟨xs.length - (i + 1), by omega, rfl, hlt, n3⟩, fun x H3 y => ?_⟩
    rw [List.drop_eq_getElem_cons hlt] at e3
    obtain ⟨S3, wg, hd⟩ := wk.yld i H2 x H3 S2 _ (List.getElem?_eq_getElem hlt) w2 g2.fr.sub y
    obtain ⟨_, s3, e4, e5⟩ := bnd_some e3
    obtain ⟨o1, s4, e6, e7⟩ := bnd_some e5
    refine mg s2 σ2 H3 S3 (g2.grow wg) x _ hd s3 e4 _ fun σ3 g3 _ => ?_
    have w3 := w2.trans wg.s
    refine mb s3 σ3 H3 S3 g3 o1 s4 e6 _ ?_
    cases o1 with
    | nx => exact fun σ5 H5 S5 g5 w5 => ⟨s4, S5, g5, w3.trans w5, e7⟩
    | ct => exact fun σ5 H5 S5 g5 w5 => ⟨s4, S5, g5, w3.trans w5, e7⟩
    | bk =>
      obtain ⟨rfl, rfl⟩ := ret_some e7
      exact fun σ5 H5 S5 g5 w5 => q σ5 H5 S5 g5 (w3.trans w5)
    | rt d =>
      obtain ⟨rfl, rfl⟩ := ret_some e7
      exact q
    | rn ys =>
      obtain ⟨rfl, rfl⟩ := ret_some e7
      exact q
  · have ei : i = xs.length := by omega
    subst ei
    rw [List.drop_length] at e3
    obtain ⟨rfl, rfl⟩ := ret_some e3
    exact .inl ⟨wk.stop H2 (w2.trans g2.fr.sub), q σ2 H2 S2 g2 w2⟩
end

/-! ### a def and its calls; the guards of repr told beside the room -/
structure FnG (P : Program) (w : World) (K : Frag) (mg : Str → Option Value) (base : Heap) (k : Nat) (f : Addr) (fd : FuncData) (ps : List Str) (sp : Sp) : Prop where
  len : ∀ vs H Q E, sp vs H Q E → vs.length = ps.length
  run : ∀ (A : Around) (outer : List Env) (s : Shared) (H : Hp) (args : Args) (us : List Value) (vs : List V) (Q : VK) (E : XK), Room k A → A.guards = some [] → Env0 P w K mg base A outer s H →
    BindsTo s fd args (ps.zip us) → Vals vs us → sp vs H Q E → codeAny (model P w) A (.call (.ref f) args) (CR CX0 outer P w H s Q E) s
theorem FnG.mono {P : Program} {w : World} {K : Frag} {mg : Str → Option Value} {base : Heap} {j k : Nat} {f : Addr} {fd : FuncData} {ps : List Str} {sp : Sp} (F : FnG P w K mg base j f fd ps sp) (h : j ≤ k) : FnG P w K mg base k f fd ps sp :=
  ⟨F.len, fun A outer s H args us vs Q E hr => F.run A outer s H args us vs Q E (hr.mono h)⟩
section
variable {X : Cx} {k : Nat} {f : Addr} {fd : FuncData} {ps : List Str} {sp : Sp} {x : Str} {p pos : Pos} {e : Expr} {es : List Expr} {t : TA}
theorem runG {pins : List (Addr × Obj)} {σ : List (Option V)} {H : Hp} {s : Shared} {Q : VK} {us : List Value} {vs : List V} (F : FnG X.prog X.w X.K X.mg X.base k f fd ps sp) (hr : Room k X.A) (gd : X.A.guards = some []) (hb : Binds X.K fd ps [])
    (I : L2.Inv X pins σ H s) (r : Vals vs us) (h : sp vs H Q E0) : wpAny (model X.prog X.w) X.A (call (.ref f) us) (EP X pins σ Q) X.xe s := by
  have hl : us.length = ps.length := by
    rw [← r.length]
    exact F.len _ _ _ _ h
  have hbb := hb s us I.kIn (by rw [List.append_nil]; exact hl)
  rw [List.append_nil] at hbb
  have run := F.run X.A X.stack s H ⟨us, []⟩ us vs Q E0 hr gd I.env0 hbb r h
  refine wpAny_call (codeAny_mono run ?_)
  intro res s' hq
  match res, hq with
  | .ok (.ret u), hq => exact I.after hq
  | .ok .next, hq => exact False.elim hq
  | .ok .brk, hq => exact False.elim hq
  | .ok .cont, hq => exact False.elim hq
  | .error ex, hq => exact False.elim hq
theorem pe_callG (F : FnG X.prog X.w X.K X.mg X.base k f fd ps sp) (hr : Room k X.A) (gd : X.A.guards = some []) (hg : Gl X x) (hm : X.mg x = some (.ref f)) (hk : PySem.W.keepIn X.K (.ref f) = true) (hb : Binds X.K fd ps []) (ha : PA X (e :: es) t)
    (hdb : (x == ("__debug__" : Str)) = false) (he : starEach (e :: es) X.env = (false, eval e X.env) :: starEach es X.env) (hpl : (backTo pos (starEach es X.env)).any (·.1) = false) :
    PE X (.Call (.Name x p) (e :: es) [] pos) (tCall sp [] E0 t) := by
  constructor
  intro pins s σ H Q I h
  refine wpAny_Call_Name_kw (ld_glob I hg hm ?_ hdb)
  refine PySem.W.callWith_K (h₀ := X.base) I.ok.mod.kin hk ?_ he hpl
  refine thn (ha.run pos pins s σ H _ I h) ?_
  rintro us s1 ⟨vs, H1, I1, r, q⟩
  rw [List.append_nil] at q
  exact ⟨I1.kIn, runG F hr gd hb I1 r q⟩
end
/-- what a def of plain data promises -/
def spP (K : Frag) (f : List D → Option D) : Sp := fun vs H Q _ => ∃ S ds d, Same S H ∧ DqAll K S vs ds ∧ f ds = some d ∧ ∀ v H' S', Grow H S H' S' → Dq K S' v d → Q v H'
def callP (f : List D → Option D) (G : M τ (List D)) : M τ Opd := bnd G fun ds => bnd (lift (f ds)) fun d => ret (.val d)
section
variable {Γ : Gam} {B : Bd τ} {pos : Pos} {e : Expr} {es : List Expr} {G : M τ (List D)}
/-- what stands of a def: its object, its promise, how it binds -/
structure DefP (Γ : Gam) (k : Nat) (x : Str) (ps : List Str) (f : List D → Option D) : Prop where
  ex : ∃ (a : Addr) (fd : FuncData), FnG Γ.P Γ.w Γ.K Γ.mg Γ.base k a fd ps (spP Γ.K f) ∧ Γ.mg x = some (.ref a) ∧ PySem.W.keepIn Γ.K (.ref a) = true ∧ Binds Γ.K fd ps []
theorem DO.call {x : Str} {p : Pos} {k : Nat} {ps : List Str} {f : List D → Option D} (F : DefP Γ k x ps f) {j : Nat} (ok : Γ.Ok j) (hj : k ≤ j) (hg : Γ.sc.names.lookup x = some .globalImplicit) (ha : DV Γ B (e :: es) G) (hdb : (x == ("__debug__" : Str)) = false := by decide)
    (he : ∀ X : Cx, starEach (e :: es) X.env = (false, eval e X.env) :: starEach es X.env := by intro _; rfl) (hpl : ∀ X : Cx, (backTo pos (starEach es X.env)).any (·.1) = false := by intro _; rfl) : DO Γ B (.Call (.Name x p) (e :: es) [] pos) (callP f G) := by
  obtain ⟨a, fd, F, hm, hk, hb⟩ := F.ex
  obtain ⟨t, pa, m⟩ := ha
  refine ⟨tCall (spP Γ.K f) [] E0 t, fun X h => ?_, fun s σ H S g o s' e Q q => ?_⟩
  · have F' := F.mono hj
    rw [← h.P, ← h.w, ← h.K, ← h.mg, ← h.base] at F'
    have r := pe_callG (x := x) (p := p) (pos := pos) F' (by rw [h.A]; exact ok.room) (by rw [h.A]; exact ok.gd) (gl_of h hg) (by rw [h.mg]; exact hm) (by rw [h.K]; exact hk) (by rw [h.K]; exact hb) (pa X h) hdb (he X) (hpl X)
    rw [h.K] at r
    exact r
  · obtain ⟨ds, s1, e1, e2⟩ := bnd_some e
    obtain ⟨d, s2, e3, e4⟩ := bnd_some e2
    obtain ⟨ez, rfl⟩ := lift_some e3
    obtain ⟨rfl, rfl⟩ := ret_some e4
    refine m s σ H S g ds _ e1 _ fun vs H1 S1 g1 w1 r1 => ?_
    refine ⟨S1, ds, d, g1.fr.sub, by rw [List.append_nil]; exact r1, ez, fun v H2 S2 w2 r2 => ?_⟩
    exact q v H2 S2 (g1.grow w2) (w1.trans w2.step) r2 trivial
end
/-- a def's body as a function of its arguments -/
def runP (n : Nat) (F : M Unit Out) (ds : List D) : Option D := match F ⟨ds.map (fun d => some (.d d)) ++ List.replicate (n - ds.length) none, ()⟩ with
  | some (.rt d, _) => some d
  | some (.nx, _) => some .none
  | _ => none
/-- a state at a def's entry -/
theorem good_start {K : Frag} {H S : Hp} {vs : List V} {ds : List D} {N : List Str} (w : Same S H) (h : DqAll K S vs ds) :
    Good K (B := ⟨dr0, H, S⟩) ⟨ds.map (fun d => some (.d d)) ++ List.replicate (N.length - ds.length) none, ()⟩ (L2.start N vs) H S := by
  have get : ∀ (i : Nat) (z : Sl), ((ds.map fun d => some (Sl.d d)) ++ List.replicate (N.length - ds.length) none)[i]? = some (some z) → ∃ d, ds[i]? = some d ∧ z = .d d := fun i z e => by
    by_cases hi : i < ds.length
    · rw [List.getElem?_append_left (by simpa using hi), List.getElem?_map] at e
      obtain ⟨d, h1, h2⟩ := Option.map_eq_some_iff.mp e
      cases h2
      exact ⟨d, h1, rfl⟩
    · rw [List.getElem?_append_right (by simpa using hi), List.getElem?_replicate] at e
      split at e <;> cases e
  refine ⟨⟨fun b o e _ => e, Same.refl _, w, (fun b o e n => by
    rw [show S b = none from n] at e
    cases e), fun b r => r.elim⟩, trivial, ?_, fun i z e => ?_, fun i j xs ys n e1 e2 => ?_⟩
  · unfold L2.start
    rw [List.length_append, List.length_append, List.length_map, List.length_map, List.length_replicate, List.length_replicate, h.len]
  · obtain ⟨d, h1, rfl⟩ := get i z e
    obtain ⟨v, h2, h3⟩ := h.getD h1
    refine ⟨v, ?_, h3⟩
    unfold L2.start
    have hi : i < vs.length := (List.getElem?_eq_some_iff.mp h2).1
    rw [List.getElem?_append_left (by simpa using hi), List.getElem?_map, h2]
    rfl
  · obtain ⟨d, _, q⟩ := get i _ e1
    cases q
/-- THE RULE for a def of plain data -/
theorem fnP {P : Program} {w : World} {K : Frag} {mg : Str → Option Value} {base : Heap} {x qual : Str} {st : Stmt} {f : Addr} {fd : FuncData} {N ps : List Str} {k : Nat} {F : M Unit Out} (Fn : Fun K x qual st f fd) (Sc : FnScope N ps (defScope st)) (hlen : ∀ ds d, runP N.length F ds = some d → ds.length = ps.length)
    (body : ∀ (A : Around) (B : Bd Unit), Gam.Ok ⟨P, w, K, mg, base, A, N, defScope st, fun _ => true⟩ k → DSs ⟨P, w, K, mg, base, A, N, defScope st, fun _ => true⟩ B (defBody st) F) :
    FnG P w K mg base (k + 1) f fd ps (spP K (runP N.length F)) := by
  obtain ⟨oc, od, kV, doc, pm, an, cdv, ct, osl, rfl, lk, hcd⟩ := Fn.ex
  have hl : ∀ vs H Q E, spP K (runP N.length F) vs H Q E → vs.length = ps.length := by
    rintro vs H Q E ⟨S, ds, d, _, h, e, _⟩
    rw [h.len]
    exact hlen ds d e
  refine ⟨hl, fun A outer s H args us vs Q E hr gd e0 hb r hsp => ?_⟩
  have hvl := hl _ _ _ _ hsp
  have KX : K.In s.heap := e0.mod.kin.keeps fun b o e => (e0.bs b o e).1
  have lim : s.heap.NoLimit := e0.mod.nolimit.keeps fun b o e => (e0.bs b o e).1
  have hkind : ∀ y ∈ ps.zip us, (defScope st).names.lookup y.1 = some .local ∨
      ((defScope st).names.lookup y.1 = some .cell ∧ ((cellsFrom (s.heap.objs.size + 1) (defScope st).names []).lookup y.1).isSome = true) := by
    rintro ⟨n, v⟩ hy
    rcases Sc.par n (List.of_mem_zip hy).1 with q | q
    · exact .inl q
    · exact .inr ⟨q, PySem.W.cellsFrom_some _ _ _ (.inl q)⟩
  refine codeAny_call_function hr.depth (KX _ _ lk) rfl Sc.co Sc.gen rfl (PySem.W.codeRec_of KX hcd) (hb _ _ _ _ ?_)
  refine wpAny_newFunctionEnv_cells Sc.kind hkind ?_
  intro env he s1 xin
  subst he
  refine ⟨lim.keeps xin.toInCall.keep, codeAny_func ?_⟩
  obtain ⟨S, ds, d, wS, hds, hrun, hQ⟩ := hsp
  have I : L2.Inv (cxOf CX0 P w K mg base N qual (defScope st) f cdv A outer s H E) [] (L2.start N vs) H s1 := inv_start Sc hr.hd e0 hvl r xin
  have hr' : Room k (A.deeper (envOfC qual (defScope st) s.heap.objs.size f cdv)) := hr.deeper _
  obtain ⟨t, pt, mt⟩ := body (A.deeper (envOfC qual (defScope st) s.heap.objs.size f cdv)) ⟨dr0, H, S⟩ ⟨Sc.nd, hr', gd⟩
  have hX : Gam.Has ⟨P, w, K, mg, base, A.deeper (envOfC qual (defScope st) s.heap.objs.size f cdv), N, defScope st, fun _ => true⟩ (cxOf CX0 P w K mg base N qual (defScope st) f cdv A outer s H E).nox :=
    ⟨rfl, rfl, rfl, rfl, rfl, rfl, rfl, rfl, rfl, fun _ _ => .inl rfl, PassesOwn.never⟩
  have ht := (pt _ hX).nox
  have gs := good_start (K := K) (N := N) wS hds
  unfold runP at hrun
  have hq : t { nx := fun _ H' => Q .non H', rt := Q } (L2.start N vs) H := by
    split at hrun
    · rename_i d' s' e
      cases hrun
      refine mt _ _ H S gs _ _ e _ fun v H' S' fr _ hd => ?_
      exact hQ v H' S' ⟨fun b o e => fr.keep b o e (fun z => z), fr.s, fr.sub, fr.new⟩ hd
    · rename_i s' e
      cases hrun
      refine mt _ _ H S gs _ _ e _ fun σ' H' S' g' w' => ?_
      exact hQ .non H' S' ⟨fun b o e => g'.fr.keep b o e (fun z => z), g'.fr.s, g'.fr.sub, g'.fr.new⟩ .non
    · cases hrun
  refine wpAny_mono (ht.run [] s1 (L2.start N vs) H _ I hq) ?_ fun e s' hs => hs
  intro fl s' hs
  match fl, hs with
  | .ret u, ⟨v, σ', H', J, rv, q⟩ => exact ⟨v, H', J.os, J.bare, J.base, J.hok, rv, q⟩
  | .next, ⟨σ', H', J, q⟩ => exact ⟨V.non, H', J.os, J.bare, J.base, J.hok, rfl, q⟩
  | .brk, ⟨_, _, _, q⟩ => exact False.elim q
  | .cont, ⟨_, _, _, q⟩ => exact False.elim q
end DL
end

section
set_option Elab.async false
set_option linter.all false
set_option maxRecDepth 100000
set_option maxHeartbeats 3999999
/-! WEng8: several targets at once, items stored, the script, the drawn numbers -/
namespace DL
open L2 PySem PyProof.Rows PySem.Spec
variable {τ α β : Type}
section
variable {K : Frag} {B : Bd τ} {s s' : Stt τ} {σ : List (Option V)} {H S : Hp}
/-- the values of several expressions, new lists still unknown to all -/
def RelN (K : Frag) (B : Bd τ) (s : Stt τ) (σ : List (Option V)) (H S : Hp) : List V → List Opd → Prop
  | [], [] => True
  | v :: vs, o :: os => RelO K B s σ H S v o ∧ RelN K B s σ H S vs os ∧ ∀ (xs : List D) (p : Addr), o = Opd.new xs → v = V.ref p → ∀ (j : Nat) (ys : List D), os[j]? = some (Opd.new ys) → vs[j]? ≠ some (V.ref p)
  | _, _ => False
def FreshN (H : Hp) (vs : List V) (os : List Opd) : Prop := ∀ (j : Nat) (ys : List D), os[j]? = some (Opd.new ys) → ∃ p, vs[j]? = some (V.ref p) ∧ H p = none
def MeanN (K : Frag) (B : Bd τ) (t : TA) (F : M τ (List Opd)) : Prop := ∀ s σ H S, Good K B s σ H S → ∀ os s', F s = some (os, s') →
  ∀ Q : List V → Hp → Prop, (∀ vs H' S', Good K B s' σ H' S' → Step K B σ s H S s' H' S' → RelN K B s' σ H' S' vs os → FreshN H vs os → Q vs H') → t σ H Q
def DN (Γ : Gam) (B : Bd τ) (es : List Expr) (F : M τ (List Opd)) : Prop := ∃ t, (∀ X, Γ.Has X → PA X es t) ∧ MeanN Γ.K B t F
def consN (F : M τ Opd) (G : M τ (List Opd)) : M τ (List Opd) := bnd F fun o => bnd G fun os => ret (o :: os)
theorem RelO.step {s1 : Stt τ} {H1 S1 : Hp} {v : V} {o : Opd} (r : RelO K B s σ H S v o) (w : Step K B σ s H S s1 H1 S1) : RelO K B s1 σ H1 S1 v o := by
  cases o with
  | val x => exact Dq.mono w.same r
  | slot i => exact r
  | new xs =>
    obtain ⟨p, e, f⟩ := r
    exact ⟨p, e, w.free p xs f⟩
theorem DN.nil {Γ : Gam} {B : Bd τ} : DN Γ B [] nilM := ⟨_, fun X h => pa_nil, fun s σ H S g os s' e Q q => by
  obtain ⟨rfl, rfl⟩ := ret_some e
  exact q [] H S g Step.refl trivial fun j ys h => by simp at h⟩
theorem DN.cons {Γ : Gam} {B : Bd τ} {e : Expr} {es : List Expr} {F : M τ Opd} {G : M τ (List Opd)} (h : DO Γ B e F) (hs : DN Γ B es G) (hst : ∀ X : Cx, starEach (e :: es) X.env = (false, eval e X.env) :: starEach es X.env := by intro _; rfl) : DN Γ B (e :: es) (consN F G) := by
  obtain ⟨t, p, m⟩ := h
  obtain ⟨u, pu, mu⟩ := hs
  refine ⟨_, fun X h => pa_cons (p X h) (pu X h) (hst X), fun s σ H S g os s' e Q q => ?_⟩
  obtain ⟨o, s1, e1, e2⟩ := bnd_some e
  obtain ⟨os', s2, e3, e4⟩ := bnd_some e2
  obtain ⟨rfl, rfl⟩ := ret_some e4
  refine m s σ H S g o s1 e1 _ fun v H1 S1 g1 w1 r1 f1 => ?_
  refine mu s1 σ H1 S1 g1 os' _ e3 _ fun vs H2 S2 g2 w2 r2 f2 => ?_
  refine q (v :: vs) H2 S2 g2 (w1.trans w2) ⟨r1.step w2, r2, fun xs p ho hv j ys hj => ?_⟩ fun j ys hj => ?_
  · subst ho
    intro hvj
    obtain ⟨p', h1, h2⟩ := f2 j ys hj
    rw [hvj] at h1
    cases h1
    obtain ⟨p1, h3, ⟨us, h4, _⟩, _⟩ := r1
    rw [hv] at h3
    cases h3
    rw [h2] at h4
    cases h4
  · cases j with
    | zero =>
      have hj' : o = .new ys := by simpa using hj
      subst hj'
      obtain ⟨p, h1, h2⟩ := f1
      exact ⟨p, by simp [h1], h2⟩
    | succ j =>
      obtain ⟨p, h1, h2⟩ := f2 j ys (by simpa using hj)
      exact ⟨p, by simpa using h1, w1.dom p h2⟩
/-- slots are read ahead of all stores -/
def fixM : List Opd → M τ (List Opd)
  | [] => ret []
  | o :: os => bnd (match o with
    | .slot i => bnd (toD (.slot i)) fun d => ret (.val d)
    | .val x => ret (.val x)
    | .new xs => ret (.new xs)) fun o' => bnd (fixM os) fun os' => ret (o' :: os')
def NoSlot : List Opd → Prop
  | [] => True
  | .slot _ :: _ => False
  | _ :: os => NoSlot os
theorem RelN.free {s1 : Stt τ} {S1 : Hp} (ws : Same S S1) (k : ∀ (p : Addr) (xs : List D), Free K B s σ H S p xs → Free K B s1 σ H S1 p xs) : ∀ {vs : List V} {os : List Opd}, RelN K B s σ H S vs os → RelN K B s1 σ H S1 vs os
  | [], [], _ => trivial
  | v :: vs, o :: os, ⟨h1, h2, h3⟩ => ⟨by
      cases o with
      | val x => exact Dq.mono ws h1
      | slot i => exact h1
      | new xs =>
        obtain ⟨p, e, f⟩ := h1
        exact ⟨p, e, k p xs f⟩, RelN.free ws k h2, h3⟩
theorem fix_of : ∀ {vs : List V} {os os' : List Opd} {s s' : Stt τ} {S : Hp}, Good K B s σ H S → RelN K B s σ H S vs os → fixM os s = some (os', s') → ∃ S', Same S S' ∧ Good K B s' σ H S' ∧ RelN K B s' σ H S' vs os' ∧ NoSlot os' ∧
    (∀ (j : Nat) (ys : List D), os'[j]? = some (Opd.new ys) → os[j]? = some (Opd.new ys)) ∧ ∀ (p : Addr) (xs : List D), Free K B s σ H S p xs → Free K B s' σ H S' p xs
  | [], [], os', s, s', S, g, _, e => by
    obtain ⟨rfl, rfl⟩ := ret_some e
    exact ⟨S, Same.refl _, g, trivial, trivial, fun _ _ h => h, fun _ _ f => f⟩
  | v :: vs, o :: os, os', s, s', S, g, ⟨h1, h2, h3⟩, e => by
    obtain ⟨o1, s1, e1, e2⟩ := bnd_some e
    obtain ⟨os1, s2, e3, e4⟩ := bnd_some e2
    obtain ⟨rfl, rfl⟩ := ret_some e4
    cases o with
    | slot i =>
      obtain ⟨d, s3, e5, e6⟩ := bnd_some e1
      obtain ⟨rfl, rfl⟩ := ret_some e6
      obtain ⟨S1, w1, g1, r1, f1⟩ := toD_of g h1 e5
      have f1' : ∀ (p : Addr) (xs : List D), Free K B s σ H S p xs → Free K B s1 σ H S1 p xs := fun p xs f => f1 p xs (fun _ q => by cases q) f
      obtain ⟨S2, w2, g2, r2, n2, k2, f2⟩ := fix_of g1 (h2.free w1 f1') e3
      refine ⟨S2, w1.trans w2, g2, ⟨Dq.mono w2 r1, r2, fun xs p q => by cases q⟩, n2, fun j ys h => ?_, fun p xs f => f2 p xs (f1' p xs f)⟩
      cases j with
      | zero => simp at h
      | succ j => simpa using k2 j ys (by simpa using h)
    | val x =>
      obtain ⟨rfl, rfl⟩ := ret_some e1
      obtain ⟨S2, w2, g2, r2, n2, k2, f2⟩ := fix_of g h2 e3
      refine ⟨S2, w2, g2, ⟨Dq.mono w2 h1, r2, fun xs p q => by cases q⟩, n2, fun j ys h => ?_, f2⟩
      cases j with
      | zero => simp at h
      | succ j => simpa using k2 j ys (by simpa using h)
    | new xs =>
      obtain ⟨rfl, rfl⟩ := ret_some e1
      obtain ⟨S2, w2, g2, r2, n2, k2, f2⟩ := fix_of g h2 e3
      obtain ⟨p, ep, fp⟩ := h1
      refine ⟨S2, w2, g2, ⟨⟨p, ep, f2 p xs fp⟩, r2, fun ys q ho hv j zs hj => h3 ys q ho hv j zs (k2 j zs hj)⟩, n2, fun j ys h => ?_, f2⟩
      cases j with
      | zero => simpa using h
      | succ j => simpa using k2 j ys (by simpa using h)
  | [], _ :: _, _, _, _, _, _, h, _ => h.elim
  | _ :: _, [], _, _, _, _, _, h, _ => h.elim
def setsM : List Nat → List Opd → M τ Unit
  | [], [] => ret ()
  | i :: is, o :: os => bnd (putM i o) fun _ => setsM is os
  | _, _ => stuck
def sets (σ : List (Option V)) : List Nat → List V → List (Option V)
  | i :: is, v :: vs => sets (σ.set i (some v)) is vs
  | _, _ => σ
theorem free_put {p : Addr} {xs : List D} {i : Nat} {v : V} {o : Opd} (f : Free K B s σ H S p xs) (e : putM i o s = some ((), s')) (ns : NoSlot [o]) (hn : ∀ ys, o = .new ys → v ≠ .ref p) : Free K B s' (σ.set i (some v)) H S p xs := by
  have go : ∀ z : Sl, (∀ ys, z = .own ys → v ≠ .ref p) → Free K B { s with env := s.env.set i (some z) } (σ.set i (some v)) H S p xs := fun z hz => ⟨f.at_, f.ns, f.n0, f.nr, fun j ys e => by
    by_cases hl : i < σ.length
    · rcases set_get e with ⟨rfl, q⟩ | ⟨n, q⟩
      · cases q
        rw [List.getElem?_set_self hl]
        exact fun q => hz ys rfl (Option.some.inj (Option.some.inj q))
      · rw [List.getElem?_set_ne n]
        exact f.no j ys q
    · rw [List.set_eq_of_length_le (by omega)]
      rcases set_get e with ⟨rfl, q⟩ | ⟨n, q⟩
      · intro q'
        have := (List.getElem?_eq_some_iff.mp q').1
        omega
      · exact f.no j ys q⟩
  cases o with
  | val x => cases e; exact go (.d x) fun ys q => by cases q
  | new zs => cases e; exact go (.own zs) fun ys q => hn zs rfl
  | slot j => exact ns.elim
theorem sets_of : ∀ {is : List Nat} {vs : List V} {os : List Opd} {s s' : Stt τ} {σ : List (Option V)} {S : Hp}, Good K B s σ H S → RelN K B s σ H S vs os → NoSlot os → setsM is os s = some ((), s') → ∃ S', Same S S' ∧ Good K B s' (sets σ is vs) H S'
  | [], [], [], s, s', σ, S, g, _, _, e => by
    obtain ⟨_, rfl⟩ := ret_some e
    exact ⟨S, Same.refl _, g⟩
  | i :: is, v :: vs, o :: os, s, s', σ, S, g, ⟨h1, h2, h3⟩, ns, e => by
    obtain ⟨_, s1, e1, e2⟩ := bnd_some e
    have ns1 : NoSlot [o] ∧ NoSlot os := by
      cases o with
      | val x => exact ⟨trivial, ns⟩
      | new xs => exact ⟨trivial, ns⟩
      | slot j => exact ns.elim
    have same : ∃ g1 : Good K B s1 (σ.set i (some v)) H S, True := by
      cases o with
      | val x => cases e1; exact ⟨g.set h1, trivial⟩
      | new xs =>
        cases e1
        obtain ⟨p, rfl, f⟩ := h1
        exact ⟨g.setOwn f, trivial⟩
      | slot j => exact ns.elim
    obtain ⟨g1, _⟩ := same
    have rel : ∀ {vs : List V} {os : List Opd}, RelN K B s σ H S vs os → NoSlot os → (∀ (xs : List D) (p : Addr), o = Opd.new xs → v = V.ref p → ∀ (j : Nat) (ys : List D), os[j]? = some (Opd.new ys) → vs[j]? ≠ some (V.ref p)) → RelN K B s1 (σ.set i (some v)) H S vs os := by
      intro vs
      induction vs with
      | nil => intro os h _ _; cases os with
        | nil => trivial
        | cons _ _ => exact h.elim
      | cons u us ih =>
        intro os h n hd
        cases os with
        | nil => exact h.elim
        | cons o2 os2 =>
          obtain ⟨k1, k2, k3⟩ := h
          have n2 : NoSlot os2 := by
            cases o2 with
            | val x => exact n
            | new xs => exact n
            | slot j => exact n.elim
          refine ⟨?_, ih k2 n2 fun xs p ho hv j ys hj => by simpa using hd xs p ho hv (j + 1) ys (by simpa using hj), k3⟩
          cases o2 with
          | val x => exact k1
          | slot j => exact n.elim
          | new ys =>
            obtain ⟨p, rfl, f⟩ := k1
            refine ⟨p, rfl, free_put f e1 ns1.1 fun zs ho hv => ?_⟩
            exact hd zs p ho hv 0 ys rfl rfl
    exact sets_of (is := is) g1 (rel h2 ns1.2 h3) ns1.2 e2
  | [], _ :: _, _ :: _, _, _, _, _, _, _, _, e => by cases e
  | _ :: _, [], [], _, _, _, _, _, _, _, e => by cases e
  | _, [], _ :: _, _, _, _, _, _, h, _, _ => h.elim
  | _, _ :: _, [], _, _, _, _, _, h, _, _ => h.elim
end
end DL
end

section
set_option Elab.async false
set_option linter.all false
set_option maxRecDepth 100000
set_option maxHeartbeats 3999999
/-! WEng9: a, b = .., items stored, the script, the drawn numbers, a law's end -/
namespace DL
open L2 PySem PyProof.Rows PySem.Spec
variable {τ α β : Type}
section
variable {Γ : Gam} {B : Bd τ} {pos : Pos} {e a b c : Expr} {F : M τ Opd} {G : M τ (List Opd)}
def parM (is : List Nat) (G : M τ (List Opd)) : M τ Out := bnd G fun os => bnd (fixM os) fun os' => bnd (setsM is os') fun _ => ret .nx
theorem RelN.len {K : Frag} {B : Bd τ} {s : Stt τ} {σ : List (Option V)} {H S : Hp} : ∀ {vs : List V} {os : List Opd}, RelN K B s σ H S vs os → vs.length = os.length
  | [], [], _ => rfl
  | _ :: _, _ :: _, h => by rw [List.length_cons, List.length_cons, RelN.len h.2.1]
  | [], _ :: _, h => h.elim
  | _ :: _, [], h => h.elim
theorem fix_len : ∀ {os os' : List Opd} {s s' : Stt τ}, fixM os s = some (os', s') → os'.length = os.length
  | [], _, _, _, e => by obtain ⟨rfl, _⟩ := ret_some e; rfl
  | o :: os, os', s, s', e => by
    obtain ⟨o1, s1, e1, e2⟩ := bnd_some e
    obtain ⟨os1, s2, e3, e4⟩ := bnd_some e2
    obtain ⟨rfl, _⟩ := ret_some e4
    rw [List.length_cons, List.length_cons, fix_len e3]
theorem sets_len : ∀ {is : List Nat} {os : List Opd} {s s' : Stt τ}, setsM is os s = some ((), s') → is.length = os.length
  | [], [], _, _, _ => rfl
  | i :: is, o :: os, s, s', e => by
    obtain ⟨_, s1, e1, e2⟩ := bnd_some e
    rw [List.length_cons, List.length_cons, sets_len e2]
  | [], _ :: _, _, _, e => by cases e
  | _ :: _, [], _, _, e => by cases e
theorem mean_par {t : TA} {is : List Nat} (m : MeanN Γ.K B t G) {s s' : Stt τ} {σ : List (Option V)} {H S : Hp} {o : Out} (g : Good Γ.K B s σ H S) (e : parM is G s = some (o, s')) {D : Ends} (q : EndOk Γ.K B S o s' D) :
    t σ H fun vs H1 => vs.length = is.length ∧ D.nx (sets σ is vs) H1 := by
  obtain ⟨os, s1, e1, e2⟩ := bnd_some e
  obtain ⟨os', s2, e3, e4⟩ := bnd_some e2
  obtain ⟨_, s3, e5, e6⟩ := bnd_some e4
  obtain ⟨rfl, rfl⟩ := ret_some e6
  refine m s σ H S g os s1 e1 _ fun vs H1 S1 g1 w1 r1 _ => ?_
  obtain ⟨S2, w2, g2, r2, n2, _, _⟩ := fix_of g1 r1 e3
  obtain ⟨S3, w3, g3⟩ := sets_of g2 r2 n2 e5
  exact ⟨by rw [r2.len, sets_len e5], q _ H1 S3 g3 ((w1.same.trans w2).trans w3)⟩
theorem DS.par2 {i j : Nat} {x y : Str} {px py pt : Pos} {kt k2 pt2} (nd : Γ.N.Nodup) (hi : Γ.N[i]? = some x) (hj : Γ.N[j]? = some y) (hij : i ≠ j) (hx : Γ.sc.names.lookup x = some .local) (hy : Γ.sc.names.lookup y = some .local) (h : DN Γ B [a, b] G)
    (hw : ∀ X, Γ.Has X → swappedStores [.Tuple [.Name x px, .Name y py] kt pt] (.Tuple [a, b] k2 pt2) X.env = pure (some [x, y])) (hs : ∀ X : Cx, swapsWithSole [.Tuple [.Name x px, .Name y py] kt pt] (.Tuple [a, b] k2 pt2) pos.line X.env = pure false := by intro _; rfl) :
    DS Γ B (.Assign [.Tuple [.Name x px, .Name y py] kt pt] (.Tuple [a, b] k2 pt2) pos) (parM [i, j] G) := by
  obtain ⟨t, p, m⟩ := h
  refine ⟨tPar i j (fun σ H Q => t σ H fun vs H1 => vs.length = 2 ∧ Q vs H1), fun X h => ?_, fun s σ H S g o s' e D q => ?_⟩
  · refine ps_par h.calm (by rw [h.N]; exact nd) (by rw [h.N]; exact hi) (by rw [h.N]; exact hj) hij (by rw [h.sc]; exact hx) (by rw [h.sc]; exact hy) ⟨fun ps pins s σ H Q I hh => ?_⟩ (hw X h) (hs X)
    refine thn ((p X h).run ps pins s σ H _ I hh) ?_
    rintro us s1 ⟨vs, H1, I1, r1, _, q1⟩
    exact ⟨vs, H1, I1, r1, q1⟩
  · have r := mean_par (is := [i, j]) m g e q
    have key : ∀ (vs : List V) (H1 : Hp), (vs.length = 2 ∧ D.nx (sets σ [i, j] vs) H1) → (vs.length = 2 ∧ ∃ v w, vs = [v, w] ∧ D.nx ((σ.set i (some v)).set j (some w)) H1) := by
      rintro vs H1 ⟨hl, hq⟩
      match vs, hl with
      | [v, w], _ => exact ⟨rfl, v, w, rfl, hq⟩
    have eqq : (fun (vs : List V) (H1 : Hp) => vs.length = [i, j].length ∧ D.nx (sets σ [i, j] vs) H1) = fun vs H1 => vs.length = 2 ∧ ∃ v w, vs = [v, w] ∧ D.nx ((σ.set i (some v)).set j (some w)) H1 := by
      funext vs H1
      refine propext ⟨key vs H1, ?_⟩
      rintro ⟨hl, v, w, rfl, hq⟩
      exact ⟨rfl, hq⟩
    rw [eqq] at r
    exact r
theorem DS.par3 {i j l : Nat} {x y z : Str} {px py pz pt : Pos} {kt k2 pt2} (nd : Γ.N.Nodup) (hi : Γ.N[i]? = some x) (hj : Γ.N[j]? = some y) (hl : Γ.N[l]? = some z) (hij : i ≠ j) (hil : i ≠ l) (hjl : j ≠ l) (hx : Γ.sc.names.lookup x = some .local) (hy : Γ.sc.names.lookup y = some .local) (hz : Γ.sc.names.lookup z = some .local) (h : DN Γ B [a, b, c] G)
    (hw : ∀ X, Γ.Has X → swappedStores [.Tuple [.Name x px, .Name y py, .Name z pz] kt pt] (.Tuple [a, b, c] k2 pt2) X.env = pure (some [x, y, z])) (hs : ∀ X : Cx, swapsWithSole [.Tuple [.Name x px, .Name y py, .Name z pz] kt pt] (.Tuple [a, b, c] k2 pt2) pos.line X.env = pure false := by intro _; rfl) :
    DS Γ B (.Assign [.Tuple [.Name x px, .Name y py, .Name z pz] kt pt] (.Tuple [a, b, c] k2 pt2) pos) (parM [i, j, l] G) := by
  obtain ⟨t, p, m⟩ := h
  refine ⟨tPar3 i j l (fun σ H Q => t σ H fun vs H1 => vs.length = 3 ∧ Q vs H1), fun X h => ?_, fun s σ H S g o s' e D q => ?_⟩
  · refine ps_par3 h.calm (by rw [h.N]; exact nd) (by rw [h.N]; exact hi) (by rw [h.N]; exact hj) (by rw [h.N]; exact hl) hij hil hjl (by rw [h.sc]; exact hx) (by rw [h.sc]; exact hy) (by rw [h.sc]; exact hz) ⟨fun ps pins s σ H Q I hh => ?_⟩ (hw X h) (hs X)
    refine thn ((p X h).run ps pins s σ H _ I hh) ?_
    rintro us s1 ⟨vs, H1, I1, r1, _, q1⟩
    exact ⟨vs, H1, I1, r1, q1⟩
  · have r := mean_par (is := [i, j, l]) m g e q
    have eqq : (fun (vs : List V) (H1 : Hp) => vs.length = [i, j, l].length ∧ D.nx (sets σ [i, j, l] vs) H1) = fun vs H1 => vs.length = 3 ∧ ∃ u v w, vs = [u, v, w] ∧ D.nx (((σ.set i (some u)).set j (some v)).set l (some w)) H1 := by
      funext vs H1
      refine propext ⟨?_, ?_⟩
      · rintro ⟨hl, hq⟩
        match vs, hl with
        | [u, v, w], _ => exact ⟨rfl, u, v, w, rfl, hq⟩
      · rintro ⟨hl, u, v, w, rfl, hq⟩
        exact ⟨rfl, hq⟩
    rw [eqq] at r
    exact r
/-- xs[i] = e, xs a list that the slot owns -/
def setIxM (i : Nat) (F : M τ Opd) (Fi : M τ Opd) : M τ Out := bnd (valM F) fun d => bnd Fi fun oi => bnd (getO oi) fun ix => fun s => match s.env[i]?, ix with
  | some (some (.own xs)), .int k => match ixN xs.length k with
    | some j => some (.nx, { s with env := s.env.set i (some (.own (xs.set j d))) })
    | none => none
  | _, _ => none
theorem DS.setIx {i : Nat} {x : Str} {p0 pt : Pos} {ix : Expr} {Fi : M τ Opd} (hN : Γ.N[i]? = some x) (hv : Vis Γ.sc x) (h : DO Γ B e F) (hi : DO Γ B ix Fi) (hd : (x == ("__debug__" : Str)) = false := by decide) (hcd : (x == ("__classdict__" : Str)) = false := by decide)
    (hs : ∀ X : Cx, swapsWithSole [.Subscript (.Name x p0) ix pt] e pos.line X.env = pure false := by intro _; rfl) (hw : ∀ X : Cx, swappedStores [.Subscript (.Name x p0) ix pt] e X.env = pure none := by intro _; rfl)
    (h1 : ∀ X : Cx, (assignEach [.Subscript (.Name x p0) ix pt] X.env).map (·.2) = [assign (.Subscript (.Name x p0) ix pt) X.env] := by intro _; rfl)
    (ha : ∀ (X : Cx) v, assign (.Subscript (.Name x p0) ix pt) X.env v = (do
      let ov ← holding [v] (eval (.Name x p0) X.env)
      let iv ← holding [v, ov] (eval ix X.env)
      standAt pt
      holding [v, ov, iv] (setItem ov iv v)
      release [v, ov, iv] []) := by intro _ _; rfl) :
    DS Γ B (.Assign [.Subscript (.Name x p0) ix pt] e pos) (bnd (valM F) fun d => bnd (ownAt i) fun _ => setIxM i (DL.ret (Opd.val d)) Fi) := by
  obtain ⟨t, p, m⟩ := h
  obtain ⟨ti, pi, mi⟩ := hi
  refine ⟨tAsg t (gSub (tVar i) ti rSetL), fun X h => ps_asg (p X h) (pg_sub (pe_var (by rw [h.N]; exact hN) (by rw [h.sc]; exact hv) hd hcd) (pi X h) set_list (ha X)) (hs X) (hw X) (h1 X), fun s σ H S g o s' e D q => ?_⟩
  obtain ⟨d, s1, e1, e2⟩ := bnd_some e
  obtain ⟨_, s2, e3, e4⟩ := bnd_some e2
  obtain ⟨d', s3, e5, e6⟩ := bnd_some e4
  have hd' : d' = d ∧ s3 = s2 := by
    have : valM (τ := τ) (DL.ret (Opd.val d)) s2 = some (d, s2) := rfl
    rw [this] at e5
    cases e5
    exact ⟨rfl, rfl⟩
  obtain ⟨rfl, rfl⟩ := hd'
  obtain ⟨oi, s4, e7, e8⟩ := bnd_some e6
  obtain ⟨ixd, s5, e9, e10⟩ := bnd_some e8
  refine m.val g e1 fun v H1 S1 g1 w1 r1 => ?_
  unfold ownAt at e3
  split at e3
  · rename_i xs0 q0
    cases e3
    obtain ⟨pa, vs0, k1, hp0, _⟩ := g1.getOwn q0
    refine ⟨_, k1, mi _ σ H1 S1 g1 oi s4 e7 _ fun u H2 S2 g2 w2 r2 _ => ?_⟩
    obtain ⟨rfl, vy⟩ := view_of g2 r2 e9
    split at e10
    · rename_i xs k q1
      split at e10
      · rename_i j hj
        cases e10
        obtain ⟨pb, vs, k2, hp, hqa, _⟩ := g2.getOwn q1
        rw [k1] at k2
        cases k2
        exact ⟨_, vs, k, j, rfl, vy.int, hp, by rw [hqa.len]; exact hj, q σ _ S2 (g2.change q1 k1 (DqAll.set (Dq.mono w2.same r1) j hqa)) (w1.same.trans w2.same)⟩
      · cases e10
    · cases e10
  · cases e3
/-! in-place operators on plain values -/
theorem oi_add : OpD Γ (inplaceOp .Add) (opI (fun _ _ => true) fun i j => .int (i + j)) := opI0_of (fun _ _ => iop_add) fun _ _ _ => .int _
theorem oi_sub : OpD Γ (inplaceOp .Sub) (opI (fun _ _ => true) fun i j => .int (i - j)) := opI0_of (fun _ _ => iop_sub) fun _ _ _ => .int _
def mulOk1 (i j : Int) : Bool := (decide (-(2 ^ 64) < i) && decide (i < 2 ^ 64)) || (decide (-(2 ^ 64) < j) && decide (j < 2 ^ 64))
theorem oi_mul : OpD Γ (inplaceOp .Mult) (opI mulOk1 fun i j => .int (i * j)) := opI_of (fun _ _ => iop_mul) (fun i j h => by
  unfold mulOk1 at h
  simp only [Bool.or_eq_true, Bool.and_eq_true, decide_eq_true_eq] at h
  exact h) fun _ _ _ => .int _
theorem oi_fdiv : OpD Γ (inplaceOp .FloorDiv) fdivD := opI_of (fun _ _ => iop_fdivW) (fun i j h => by
  have h' := Bool.and_eq_true_iff.mp h
  exact ⟨of_decide_eq_true h'.1, of_decide_eq_true h'.2⟩) fun _ _ _ => .int _

/-! ### the script -/
def scrAt (i : Nat) : M τ (List Int) := fun s => match s.env[i]? with
  | some (some (.s ns)) => some (ns, s)
  | _ => none
def scrL (i : Nat) : M τ (List D) := bnd (scrAt i) fun ns => ret (ns.map PyData.int)
theorem scr_of {K : Frag} {s s' : Stt τ} {σ : List (Option V)} {H S : Hp} {i : Nat} {ns : List Int} (g : Good K B s σ H S) (e : scrAt i s = some (ns, s')) : s' = s ∧ ∃ p, σ[i]? = some (some (.ref p)) ∧ SqL K S p (ns.map V.int) := by
  unfold scrAt at e
  split at e
  · rename_i ms q
    cases e
    obtain ⟨v, h1, p, rfl, h2⟩ := g.slot i _ q
    exact ⟨rfl, p, h1, h2⟩
  · cases e
theorem walkS {K : Frag} {S : Hp} {a : Addr} {ns : List Int} (h : SqL K S a (ns.map V.int)) : DWalk K S (Itl K a) (ns.map PyData.int) where
  go := fun i H hi w => by
    rw [List.length_map] at hi
    obtain ⟨x, hx⟩ := lt_get hi
    exact ⟨_, .int x, Same.seq w h, by rw [List.getElem?_map, hx]; rfl⟩
  stop := fun H w => ⟨_, Same.seq w h, by rw [List.length_map, List.length_map]; exact Nat.le_refl _⟩
  yld := fun i H x H' S1 d hd w w1 y => by
    obtain ⟨rfl, y⟩ := y
    have hx := y _ (Same.seq w1 (Same.seq w h))
    rw [List.getElem?_map] at hd hx
    obtain ⟨n, h1, rfl⟩ := Option.map_eq_some_iff.mp hd
    rw [h1] at hx
    cases hx
    exact ⟨S1, Grow.refl w1, .int n⟩
theorem walkES {K : Frag} {S : Hp} {a : Addr} {ns : List Int} (h : SqL K S a (ns.map V.int)) : DWalk K S (Ite K a) (enumL 0 (ns.map PyData.int)) where
  go := fun i H hi w => by
    rw [enumL_len, List.length_map] at hi
    obtain ⟨x, hx⟩ := lt_get hi
    exact ⟨_, .int x, Same.seq w h, by rw [List.getElem?_map, hx]; rfl⟩
  stop := fun H w => ⟨_, Same.seq w h, by rw [enumL_len, List.length_map, List.length_map]; exact Nat.le_refl _⟩
  yld := fun i H x H' S1 d hd w w1 y => by
    obtain ⟨T, v, rfl, n, rfl, y⟩ := y
    have hx := y _ (Same.seq w1 (Same.seq w h))
    obtain ⟨z, hz, rfl⟩ := enumL_get _ _ _ _ hd
    rw [List.getElem?_map] at hx hz
    obtain ⟨m, h1, rfl⟩ := Option.map_eq_some_iff.mp hz
    rw [h1] at hx
    cases hx
    rw [Nat.zero_add]
    exact new_pair w1 n (.int _) (.int m)
theorem DI.scr {i : Nat} {x : Str} {p : Pos} {tg : Expr} (hN : Γ.N[i]? = some x) (hv : Vis Γ.sc x) (hd : (x == ("__debug__" : Str)) = false := by decide) (hcd : (x == ("__classdict__" : Str)) = false := by decide) : DI Γ B tg (.Name x p) (scrL i) := by
  refine ⟨iList Γ.K (tVar i), fun X h => by have r := pi_list (tg := tg) (pe_var (X := X) (i := i) (x := x) (pos := p) (by rw [h.N]; exact hN) (by rw [h.sc]; exact hv) hd hcd); rw [h.K] at r; exact r, fun s σ H S g xs s' e R q => ?_⟩
  obtain ⟨ns, s1, e1, e2⟩ := bnd_some e
  obtain ⟨rfl, rfl⟩ := ret_some e2
  obtain ⟨rfl, a, h1, h2⟩ := scr_of g e1
  exact ⟨_, h1, a, rfl, ⟨_, Same.seq g.fr.sub h2⟩, q _ H S g Step.refl (walkS h2)⟩
theorem DI.enumScr {i : Nat} {x : Str} {p p2 tpos : Pos} {elts : List Expr} {kk : Nat} (hN : Γ.N[i]? = some x) (hv : Vis Γ.sc x) (hg : Γ.sc.names.lookup ("enumerate" : Str) = some .globalImplicit) (hm : Γ.mg "enumerate" = none) (hd : (x == ("__debug__" : Str)) = false := by decide) (hcd : (x == ("__classdict__" : Str)) = false := by decide) :
    DI Γ B (.Tuple elts kk tpos) (.Call (.Name "enumerate" p) [.Name x p2] [] pos) (bnd (scrL i) fun xs => ret (enumL 0 xs)) := by
  refine ⟨iEnum Γ.K (tCons (tVar i) tNil), fun X h => by
    have r := @pi_enum X (.Name x p2) _ p pos tpos elts kk (gl_of h hg) (by rw [h.mg]; exact hm) (pa_cons (pe_var (i := i) (by rw [h.N]; exact hN) (by rw [h.sc]; exact hv) hd hcd) pa_nil rfl) rfl
    rw [h.K] at r
    exact r, fun s σ H S g xs s' e R q => ?_⟩
  obtain ⟨ys, s1, e1, e2⟩ := bnd_some e
  obtain ⟨rfl, rfl⟩ := ret_some e2
  obtain ⟨ns, s2, e3, e4⟩ := bnd_some e1
  obtain ⟨rfl, rfl⟩ := ret_some e4
  obtain ⟨rfl, a, h1, h2⟩ := scr_of g e3
  exact ⟨_, h1, a, _, rfl, Same.seq g.fr.sub h2, q _ H S g Step.refl (walkES h2)⟩
def lenScr (i : Nat) : M τ Opd := bnd (scrAt i) fun ns => ret (.val (.int ns.length))
theorem DO.lenScr {i : Nat} {x : Str} {p p2 : Pos} (hN : Γ.N[i]? = some x) (hv : Vis Γ.sc x) (hg : Γ.sc.names.lookup ("len" : Str) = some .globalImplicit) (hm : Γ.mg "len" = none) (hd : (x == ("__debug__" : Str)) = false := by decide) (hcd : (x == ("__classdict__" : Str)) = false := by decide) :
    DO Γ B (.Call (.Name "len" p) [.Name x p2] [] pos) (lenScr i) := by
  refine ⟨tCB (fun xs H Q => ∃ x n, xs = [x] ∧ LenV Γ.K x H n ∧ Q (.int n) H) (tCons (tVar i) tNil), fun X h => pe_callB (id := "len") (by have := @call_len X; rw [h.K] at this; exact this) (gl_of h hg) (by rw [h.mg]; exact hm) PySem.boot_len
    (pa_cons (pe_var (i := i) (by rw [h.N]; exact hN) (by rw [h.sc]; exact hv) hd hcd) pa_nil rfl) (by decide) (by decide) rfl rfl, fun s σ H S g o s' e Q q => ?_⟩
  obtain ⟨ns, s1, e1, e2⟩ := bnd_some e
  obtain ⟨rfl, rfl⟩ := ret_some e2
  obtain ⟨rfl, a, h1, h2⟩ := scr_of g e1
  exact ⟨_, h1, _, ns.length, rfl, .inl ⟨_, Same.seq g.fr.sub h2, by rw [List.length_map]⟩, q _ H S g Step.refl (.int _) trivial⟩
end

/-! ### defs of plain data and of the script -/
/-- what a def promises whose arguments are slots (data, the script) -/
def ArgsAt (K : Frag) (S : Hp) : List V → List Sl → Prop
  | [], [] => True
  | v :: vs, z :: zs => (match z with
    | .d x => Dq K S v x
    | .s ns => ∃ p, v = .ref p ∧ SqL K S p (ns.map V.int)
    | _ => False) ∧ ArgsAt K S vs zs
  | _, _ => False
theorem ArgsAt.len {K : Frag} {S : Hp} : ∀ {vs : List V} {zs : List Sl}, ArgsAt K S vs zs → vs.length = zs.length
  | [], [], _ => rfl
  | _ :: _, _ :: _, h => by rw [List.length_cons, List.length_cons, h.2.len]
  | [], _ :: _, h => h.elim
  | _ :: _, [], h => h.elim
theorem ArgsAt.get {K : Frag} {S : Hp} : ∀ {vs : List V} {zs : List Sl} {i : Nat} {z : Sl}, ArgsAt K S vs zs → zs[i]? = some z → ∃ v, vs[i]? = some v ∧ (match z with
    | .d x => Dq K S v x
    | .s ns => ∃ p, v = .ref p ∧ SqL K S p (ns.map V.int)
    | _ => False)
  | [], [], i, z, _, e => by simp at e
  | v :: vs, y :: ys, 0, z, h, e => by
    have e' : y = z := by simpa using e
    subst e'
    exact ⟨v, rfl, h.1⟩
  | v :: vs, y :: ys, i + 1, z, h, e => by
    obtain ⟨u, h1, h2⟩ := ArgsAt.get (i := i) h.2 (by simpa using e)
    exact ⟨u, by simpa using h1, h2⟩
  | [], _ :: _, _, _, h, _ => h.elim
  | _ :: _, [], _, _, h, _ => h.elim
/-- the drawn numbers: what the law keeps in a dict -/
structure DrawSt where
  cells : List Int
  great : List Int
  spot : Int
def drawKvs (pc pg : Addr) (n : Int) : List (Key × V) := [(.inr "cells", .ref pc), (.inr "great", .ref pg), (.inr "spot", .int n)]
def drawAt (pm pg pc : Addr) (st : DrawSt) (H : Hp) : Prop := H pm = some (.dK (drawKvs pc pg st.spot)) ∧ H pg = some (.lst (st.great.map V.int)) ∧ H pc = some (.lst (st.cells.map V.int)) ∧ pg ≠ pc
def drawDr (pm pg pc : Addr) : Dr DrawSt where
  hv := .ref pm
  R := fun b => b = pm ∨ b = pg ∨ b = pc
  At := drawAt pm pg pc
  stay := fun st H H' h k => ⟨k _ _ (.inl rfl) h.1, k _ _ (.inr (.inl rfl)) h.2.1, k _ _ (.inr (.inr rfl)) h.2.2.1, h.2.2.2⟩
  live := fun st H b h r => by
    rcases r with rfl | rfl | rfl
    · rw [h.1]; exact fun z => nomatch z
    · rw [h.2.1]; exact fun z => nomatch z
    · rw [h.2.2.1]; exact fun z => nomatch z
/-- what a def promises that draws: its first argument is the handle -/
def spD (K : Frag) (f : List D → DrawSt → Option (D × DrawSt)) : Sp := fun vs H Q _ => ∃ (pm pg pc : Addr) (S : Hp) (us : List V) (ds : List D) (st : DrawSt) (d : D) (st' : DrawSt), vs = .ref pm :: us ∧ Same S H ∧ (∀ b, (drawDr pm pg pc).R b → S b = none) ∧ drawAt pm pg pc st H ∧
  DqAll K S us ds ∧ f ds st = some (d, st') ∧ ∀ v H' S', Fr (drawDr pm pg pc) H S H' S' → drawAt pm pg pc st' H' → Dq K S' v d → Q v H'
def runD (n : Nat) (F : M DrawSt Out) (ds : List D) (st : DrawSt) : Option (D × DrawSt) := match F ⟨some .h :: (ds.map (fun d => some (.d d)) ++ List.replicate (n - (ds.length + 1)) none), st⟩ with
  | some (.rt d, s') => some (d, s'.dr)
  | some (.nx, s') => some (.none, s'.dr)
  | _ => none
theorem goodD_start {K : Frag} {pm pg pc : Addr} {H S : Hp} {us : List V} {ds : List D} {N : List Str} {st : DrawSt} (w : Same S H) (nr : ∀ b, (drawDr pm pg pc).R b → S b = none) (at_ : drawAt pm pg pc st H) (h : DqAll K S us ds) :
    Good K (B := ⟨drawDr pm pg pc, H, S⟩) ⟨some .h :: (ds.map (fun d => some (.d d)) ++ List.replicate (N.length - (ds.length + 1)) none), st⟩ (L2.start N (.ref pm :: us)) H S := by
  have get : ∀ (i : Nat) (z : Sl), (some Sl.h :: ((ds.map fun d => some (Sl.d d)) ++ List.replicate (N.length - (ds.length + 1)) none))[i]? = some (some z) → (i = 0 ∧ z = .h) ∨ ∃ j d, i = j + 1 ∧ ds[j]? = some d ∧ z = .d d := fun i z e => by
    cases i with
    | zero => simp at e; exact .inl ⟨rfl, e.symm⟩
    | succ j =>
      rw [List.getElem?_cons_succ] at e
      by_cases hi : j < ds.length
      · rw [List.getElem?_append_left (by simpa using hi), List.getElem?_map] at e
        obtain ⟨d, h1, h2⟩ := Option.map_eq_some_iff.mp e
        cases h2
        exact .inr ⟨j, d, rfl, h1, rfl⟩
      · rw [List.getElem?_append_right (by simpa using hi), List.getElem?_replicate] at e
        split at e <;> cases e
  refine ⟨⟨fun b o e _ => e, Same.refl _, w, (fun b o e n => by
    rw [show S b = none from n] at e
    cases e), nr⟩, at_, ?_, fun i z e => ?_, fun i j xs ys n e1 e2 => ?_⟩
  · unfold L2.start
    simp only [List.length_cons, List.length_append, List.length_map, List.length_replicate, h.len]
    omega
  · rcases get i z e with ⟨rfl, rfl⟩ | ⟨j, d, rfl, h1, rfl⟩
    · exact ⟨.ref pm, by unfold L2.start; simp, rfl⟩
    · obtain ⟨v, h2, h3⟩ := h.getD h1
      refine ⟨v, ?_, h3⟩
      unfold L2.start
      have hi : j < us.length := (List.getElem?_eq_some_iff.mp h2).1
      rw [List.map_cons, List.cons_append, List.getElem?_cons_succ, List.getElem?_append_left (by simpa using hi), List.getElem?_map, h2]
      rfl
  · rcases get i _ e1 with ⟨_, q⟩ | ⟨_, d, _, _, q⟩ <;> cases q
/-- THE RULE for a body, whatever its start -/
theorem fnAny {P : Program} {w : World} {K : Frag} {mg : Str → Option Value} {base : Heap} {x qual : Str} {st : Stmt} {f : Addr} {fd : FuncData} {N ps : List Str} {k : Nat} {sp : Sp} (Fn : Fun K x qual st f fd) (Sc : FnScope N ps (defScope st)) (hl : ∀ vs H Q E, sp vs H Q E → vs.length = ps.length)
    (body : ∀ (A : Around) (vs : List V) (H : Hp) (Q : VK) (E : XK), sp vs H Q E → Gam.Ok ⟨P, w, K, mg, base, A, N, defScope st, fun _ => true⟩ k →
      ∃ t : TS, (∀ X, Gam.Has ⟨P, w, K, mg, base, A, N, defScope st, fun _ => true⟩ X → PSs X (defBody st) t) ∧ t { nx := fun _ H' => Q .non H', rt := Q } (L2.start N vs) H) :
    FnG P w K mg base (k + 1) f fd ps sp := by
  obtain ⟨oc, od, kV, doc, pm, an, cdv, ct, osl, rfl, lk, hcd⟩ := Fn.ex
  refine ⟨hl, fun A outer s H args us vs Q E hr gd e0 hb r hsp => ?_⟩
  have hvl := hl _ _ _ _ hsp
  have KX : K.In s.heap := e0.mod.kin.keeps fun b o e => (e0.bs b o e).1
  have lim : s.heap.NoLimit := e0.mod.nolimit.keeps fun b o e => (e0.bs b o e).1
  have hkind : ∀ y ∈ ps.zip us, (defScope st).names.lookup y.1 = some .local ∨
      ((defScope st).names.lookup y.1 = some .cell ∧ ((cellsFrom (s.heap.objs.size + 1) (defScope st).names []).lookup y.1).isSome = true) := by
    rintro ⟨n, v⟩ hy
    rcases Sc.par n (List.of_mem_zip hy).1 with q | q
    · exact .inl q
    · exact .inr ⟨q, PySem.W.cellsFrom_some _ _ _ (.inl q)⟩
  refine codeAny_call_function hr.depth (KX _ _ lk) rfl Sc.co Sc.gen rfl (PySem.W.codeRec_of KX hcd) (hb _ _ _ _ ?_)
  refine wpAny_newFunctionEnv_cells Sc.kind hkind ?_
  intro env he s1 xin
  subst he
  refine ⟨lim.keeps xin.toInCall.keep, codeAny_func ?_⟩
  have I : L2.Inv (cxOf CX0 P w K mg base N qual (defScope st) f cdv A outer s H E) [] (L2.start N vs) H s1 := inv_start Sc hr.hd e0 hvl r xin
  have hr' : Room k (A.deeper (envOfC qual (defScope st) s.heap.objs.size f cdv)) := hr.deeper _
  have hX : Gam.Has ⟨P, w, K, mg, base, A.deeper (envOfC qual (defScope st) s.heap.objs.size f cdv), N, defScope st, fun _ => true⟩ (cxOf CX0 P w K mg base N qual (defScope st) f cdv A outer s H E).nox :=
    ⟨rfl, rfl, rfl, rfl, rfl, rfl, rfl, rfl, rfl, fun _ _ => .inl rfl, PassesOwn.never⟩
  obtain ⟨t, pt, hq⟩ := body (A.deeper (envOfC qual (defScope st) s.heap.objs.size f cdv)) vs H Q E hsp ⟨Sc.nd, hr', gd⟩
  have ht := (pt _ hX).nox
  refine wpAny_mono (ht.run [] s1 (L2.start N vs) H _ I hq) ?_ fun e s' hs => hs
  intro fl s' hs
  match fl, hs with
  | .ret u, ⟨v, σ', H', J, rv, q⟩ => exact ⟨v, H', J.os, J.bare, J.base, J.hok, rv, q⟩
  | .next, ⟨σ', H', J, q⟩ => exact ⟨V.non, H', J.os, J.bare, J.base, J.hok, rfl, q⟩
  | .brk, ⟨_, _, _, q⟩ => exact False.elim q
  | .cont, ⟨_, _, _, q⟩ => exact False.elim q
end DL
end

section
set_option Elab.async false
set_option linter.all false
set_option maxRecDepth 100000
set_option maxHeartbeats 3999999
/-! WEng10: short words for the printed derivations; defs of the script, defs that draw, their calls -/
namespace DL
open L2 PySem PyProof.Rows PySem.Spec
variable {τ α β : Type}
section
variable {Γ : Gam} {B : Bd τ} {pos : Pos} {e a b c : Expr} {es : List Expr} {F Fa Fb : M τ Opd}
theorem nm (i : Nat) {x : Str} (hN : Γ.N[i]? = some x := by rfl) (hv : Vis Γ.sc x := by first | exact Or.inl rfl | exact Or.inr (Or.inl rfl) | exact Or.inr (Or.inr rfl)) (hd : (x == ("__debug__" : Str)) = false := by decide) (hcd : (x == ("__classdict__" : Str)) = false := by decide) : DO Γ B (.Name x pos) (nameM i) := DO.name hN hv hd hcd
/-- a number of the module -/
theorem gi {x : Str} {n : Int} (hm : ∃ t, Γ.mg x = some (.int n t)) (hg : Γ.sc.names.lookup x = some .globalImplicit := by rfl) (hdb : (x == ("__debug__" : Str)) = false := by decide) : DO Γ B (.Name x pos) (ret (.val (.int n))) := by
  obtain ⟨t, hm⟩ := hm
  exact DO.glob hg hm (v := .int n) ⟨t, rfl⟩ (fun _ => .int n) hdb
/-- a tuple of the module -/
theorem gd {x : Str} {d : D} (hm : ∃ a, Γ.mg x = some (.ref a) ∧ ∀ S, Dq Γ.K S (.ref a) d) (hg : Γ.sc.names.lookup x = some .globalImplicit := by rfl) (hdb : (x == ("__debug__" : Str)) = false := by decide) : DO Γ B (.Name x pos) (ret (.val d)) := by
  obtain ⟨a, hm, hd⟩ := hm
  exact DO.glob hg hm (v := .ref a) rfl hd hdb
def negM (F : M τ Opd) : M τ Opd := bnd F fun o => bnd (getO o) fun x => match x with
  | .int i => ret (.val (.int (-i)))
  | _ => stuck
theorem DO.neg (h : DO Γ B a Fa) : DO Γ B (.UnaryOp .USub a pos) (negM Fa) := by
  obtain ⟨t, p, m⟩ := h
  refine ⟨_, fun X h => pe_un un_neg (p X h), fun s σ H S g o s' e Q q => ?_⟩
  obtain ⟨o1, s1, e1, e2⟩ := bnd_some e
  obtain ⟨x, s2, e3, e4⟩ := bnd_some e2
  refine m s σ H S g o1 s1 e1 _ fun v H1 S1 g1 w1 r1 _ => ?_
  obtain ⟨rfl, vx⟩ := view_of g1 r1 e3
  cases x with
  | int i =>
    obtain ⟨rfl, rfl⟩ := ret_some e4
    obtain rfl := vx.int
    exact ⟨i, rfl, q _ H1 S1 g1 w1 (.int _) trivial⟩
  | _ => cases e4
/-- xs.index(x), found -/
def idxD : D → D → Option Int := fun x y => match x with
  | .list xs => if SeqAt.shaped (.list xs) && SeqAt.shaped y then (xs.findIdx? fun z => PyData.eqv z y).map fun (j : Nat) => (j : Int) else none
  | _ => none
def isL (o : Opd) : M τ Unit := bnd (getO o) fun x => match x with
  | .list _ => ret ()
  | _ => stuck
def indexM (F G : M τ Opd) : M τ Opd := bnd (lateM F) fun o => bnd (isL o) fun _ => bnd G fun o2 => bnd (getO o) fun x => bnd (getO o2) fun y => bnd (lift (idxD x y)) fun j => ret (.val (.int j))
theorem findIdx_ok {xs : List D} {y : D} {j : Nat} (h : (xs.findIdx? fun z => PyData.eqv z y) = some j) : ∃ z, xs[j]? = some z ∧ PyData.eqv z y = true ∧ ∀ (m : Nat) (z' : D), m < j → xs[m]? = some z' → PyData.eqv z' y = false := by
  obtain ⟨hl, h1, h2⟩ := List.findIdx?_eq_some_iff_getElem.mp h
  refine ⟨xs[j], List.getElem?_eq_getElem hl, h1, fun m z' hm hz => ?_⟩
  have := h2 m hm
  obtain ⟨hml, hz'⟩ := List.getElem?_eq_some_iff.mp hz
  rw [hz'] at this
  simpa using this
theorem DO.index {k : Nat} (ok : Γ.Ok k) {apos cpos : Pos} (ha : DO Γ B a Fa) (hb : DO Γ B b Fb) (hl : (apos.endLine == cpos.line) = true := by rfl) (hst : ∀ X : Cx, starEach [b] X.env = (false, eval b X.env) :: starEach [] X.env := by intro _; rfl)
    (hbs : ∀ X : Cx, attributeBase a "index" X.env (eval a X.env) = eval a X.env := by intro _; rfl)
    (hfew : ∀ X : Cx, ((backTo cpos (starEach [b] X.env)).all (fun x => !x.1) && (backToKw cpos (keywordEach [] X.env)).all (fun x => x.1.isSome) && decide ([b].length + ([] : List Keyword).length + (if ([] : List Keyword).isEmpty then 0 else 1) < 30)) = true := by intro _; rfl) :
    DO Γ B (.Call (.Attribute a "index" apos) [b] [] cpos) (indexM Fa Fb) := by
  obtain ⟨t, p, m⟩ := ha
  obtain ⟨u, pu, mu⟩ := hb
  refine ⟨tBM Γ.K "list" (rIndexD Γ.K) t (tCons u tNil), fun X h => ?_, fun s σ H S g o s' e Q q => ?_⟩
  · have r := pe_bm (apos := apos) (cpos := cpos) PySem.F.plainAttrs_list PySem.F.slot_list_index PySem.F.type_list_index (mt_indexD (X := X) (by rw [h.A]; exact ok.hu)) (p X h) (pa_cons (pu X h) pa_nil (hst X)) (hbs X) (hfew X) hl (hst X) rfl
    rw [h.K] at r
    exact r
  · obtain ⟨o1, s1, e1, e2⟩ := bnd_some e
    obtain ⟨_, s0, e0, e2⟩ := bnd_some e2
    obtain ⟨o2, s2, e3, e4⟩ := bnd_some e2
    obtain ⟨x, s3, e5, e6⟩ := bnd_some e4
    obtain ⟨y, s4, e7, e8⟩ := bnd_some e6
    obtain ⟨j, s5, e9, e10⟩ := bnd_some e8
    obtain ⟨ez, rfl⟩ := lift_some e9
    obtain ⟨rfl, rfl⟩ := ret_some e10
    obtain ⟨x0, s6, e11, e12⟩ := bnd_some e0
    refine m.late g e1 fun v H1 S1 g1 w1 r1 => ?_
    obtain ⟨rfl, vx0⟩ := view_of g1 r1.rel e11
    cases x0 with
    | list xs0 =>
      obtain ⟨_, rfl⟩ := ret_some e12
      obtain ⟨p0, vs0, rfl, hp0, _⟩ := vx0.lst g1.fr.sub
      refine ⟨.inl ⟨rfl, _, SqL.of hp0⟩, mu _ σ H1 S1 g1 o2 s2 e3 _ fun u H2 S2 g2 w2 r2 _ => ?_⟩
      obtain ⟨rfl, vx⟩ := view_of g2 ((r1.mono w2.same).rel) e5
      obtain ⟨rfl, vy⟩ := view_of g2 r2 e7
      unfold idxD at ez
      split at ez
      · rename_i xs
        split at ez
        · rename_i hz
          obtain ⟨j', h1, rfl⟩ := Option.map_eq_some_iff.mp ez
          obtain ⟨z, k1, k2, k3⟩ := findIdx_ok h1
          obtain ⟨q1, q2⟩ := Bool.and_eq_true_iff.mp hz
          exact ⟨p0, u, y, xs, j', z, rfl, rfl, (vx.full g2.fr.sub).dp, (vy.full g2.fr.sub).dp, q1, q2, k1, k2, k3, q _ H2 S2 g2 (w1.trans w2) (.int _) trivial⟩
        · cases ez
      · cases ez
    | _ => cases e12
end
/-! ### defs -/
def runP2 (np n : Nat) (F : M Unit Out) (ds : List D) : Option D := if ds.length = np then runP n F ds else none
theorem fnP2 {P : Program} {w : World} {K : Frag} {mg : Str → Option Value} {base : Heap} {x qual : Str} {st : Stmt} {f : Addr} {fd : FuncData} {N ps : List Str} {k : Nat} {F : M Unit Out} (Fn : Fun K x qual st f fd) (Sc : FnScope N ps (defScope st))
    (body : ∀ (A : Around) (B : Bd Unit), Gam.Ok ⟨P, w, K, mg, base, A, N, defScope st, fun _ => true⟩ k → DSs ⟨P, w, K, mg, base, A, N, defScope st, fun _ => true⟩ B (defBody st) F) :
    FnG P w K mg base (k + 1) f fd ps (spP K (runP2 ps.length N.length F)) := by
  have hl : ∀ vs H Q E, spP K (runP2 ps.length N.length F) vs H Q E → vs.length = ps.length := by
    rintro vs H Q E ⟨S, ds, d, _, h, e, _⟩
    rw [h.len]
    unfold runP2 at e
    split at e
    · assumption
    · cases e
  refine fnAny Fn Sc hl fun A vs H Q E hsp ok => ?_
  obtain ⟨S, ds, d, wS, hds, hrun, hQ⟩ := hsp
  obtain ⟨t, pt, mt⟩ := body A ⟨dr0, H, S⟩ ok
  refine ⟨t, pt, ?_⟩
  have gs := good_start (K := K) (N := N) wS hds
  unfold runP2 at hrun
  split at hrun
  · unfold runP at hrun
    split at hrun
    · rename_i d' s' e
      cases hrun
      refine mt _ _ H S gs _ _ e _ fun v H' S' fr _ hd => ?_
      exact hQ v H' S' ⟨fun b o e => fr.keep b o e (fun z => z), fr.s, fr.sub, fr.new⟩ hd
    · rename_i s' e
      cases hrun
      refine mt _ _ H S gs _ _ e _ fun σ' H' S' g' w' => ?_
      exact hQ .non H' S' ⟨fun b o e => g'.fr.keep b o e (fun z => z), g'.fr.s, g'.fr.sub, g'.fr.new⟩ .non
    · cases hrun
  · cases hrun
/-- what a def promises that gives a new list -/
def spN (K : Frag) (f : List D → Option (List D)) : Sp := fun vs H Q _ => ∃ S ds xs, Same S H ∧ DqAll K S vs ds ∧ f ds = some xs ∧ ∀ p us H' S', Grow H S H' S' → H' p = some (.lst us) → DqAll K S' us xs → S' p = none → H p = none → Q (.ref p) H'
def runN (np n : Nat) (F : M Unit Out) (ds : List D) : Option (List D) := if ds.length = np then (match F ⟨ds.map (fun d => some (.d d)) ++ List.replicate (n - ds.length) none, ()⟩ with
  | some (.rn xs, _) => some xs
  | _ => none) else none
theorem fnN {P : Program} {w : World} {K : Frag} {mg : Str → Option Value} {base : Heap} {x qual : Str} {st : Stmt} {f : Addr} {fd : FuncData} {N ps : List Str} {k : Nat} {F : M Unit Out} (Fn : Fun K x qual st f fd) (Sc : FnScope N ps (defScope st))
    (body : ∀ (A : Around) (B : Bd Unit), Gam.Ok ⟨P, w, K, mg, base, A, N, defScope st, fun _ => true⟩ k → DSs ⟨P, w, K, mg, base, A, N, defScope st, fun _ => true⟩ B (defBody st) F) :
    FnG P w K mg base (k + 1) f fd ps (spN K (runN ps.length N.length F)) := by
  have hl : ∀ vs H Q E, spN K (runN ps.length N.length F) vs H Q E → vs.length = ps.length := by
    rintro vs H Q E ⟨S, ds, d, _, h, e, _⟩
    rw [h.len]
    unfold runN at e
    split at e
    · assumption
    · cases e
  refine fnAny Fn Sc hl fun A vs H Q E hsp ok => ?_
  obtain ⟨S, ds, xs, wS, hds, hrun, hQ⟩ := hsp
  obtain ⟨t, pt, mt⟩ := body A ⟨dr0, H, S⟩ ok
  refine ⟨t, pt, ?_⟩
  have gs := good_start (K := K) (N := N) wS hds
  unfold runN at hrun
  split at hrun
  · split at hrun
    · rename_i xs' s' e
      cases hrun
      refine mt _ _ H S gs _ _ e _ fun p us H' S' fr _ hp hd ns n0 _ => ?_
      exact hQ p us H' S' ⟨fun b o e => fr.keep b o e (fun z => z), fr.s, fr.sub, fr.new⟩ hp hd ns n0
    · cases hrun
  · cases hrun
def runD2 (np n : Nat) (F : M DrawSt Out) (ds : List D) (st : DrawSt) : Option (D × DrawSt) := if ds.length + 1 = np then runD n F ds st else none
theorem fnD {P : Program} {w : World} {K : Frag} {mg : Str → Option Value} {base : Heap} {x qual : Str} {st : Stmt} {f : Addr} {fd : FuncData} {N ps : List Str} {k : Nat} {F : M DrawSt Out} (Fn : Fun K x qual st f fd) (Sc : FnScope N ps (defScope st))
    (body : ∀ (A : Around) (B : Bd DrawSt), (∃ pm pg pc, B.dr = drawDr pm pg pc) → Gam.Ok ⟨P, w, K, mg, base, A, N, defScope st, fun _ => true⟩ k → DSs ⟨P, w, K, mg, base, A, N, defScope st, fun _ => true⟩ B (defBody st) F) :
    FnG P w K mg base (k + 1) f fd ps (spD K (runD2 ps.length N.length F)) := by
  have hl : ∀ vs H Q E, spD K (runD2 ps.length N.length F) vs H Q E → vs.length = ps.length := by
    rintro vs H Q E ⟨pm, pg, pc, S, us, ds, st, d, st', rfl, _, _, _, h, e, _⟩
    rw [List.length_cons, h.len]
    unfold runD2 at e
    split at e
    · assumption
    · cases e
  refine fnAny Fn Sc hl fun A vs H Q E hsp ok => ?_
  obtain ⟨pm, pg, pc, S, us, ds, st, d, st', rfl, wS, nr, at_, hds, hrun, hQ⟩ := hsp
  obtain ⟨t, pt, mt⟩ := body A ⟨drawDr pm pg pc, H, S⟩ ⟨pm, pg, pc, rfl⟩ ok
  refine ⟨t, pt, ?_⟩
  have gs := goodD_start (K := K) (N := N) wS nr at_ hds
  unfold runD2 at hrun
  split at hrun
  · unfold runD at hrun
    split at hrun
    · rename_i d' s' e
      cases hrun
      exact mt _ _ H S gs _ _ e _ fun v H' S' fr a' hd => hQ v H' S' fr a' hd
    · rename_i s' e
      cases hrun
      exact mt _ _ H S gs _ _ e _ fun σ' H' S' g' w' => hQ .non H' S' g'.fr g'.at_ .non
    · cases hrun
  · cases hrun
/-- a def of the script alone -/
def spS (K : Frag) (f : List Int → Option D) : Sp := fun vs H Q _ => ∃ S a ns d, vs = [.ref a] ∧ Same S H ∧ SqL K S a (ns.map V.int) ∧ f ns = some d ∧ ∀ v H' S', Grow H S H' S' → Dq K S' v d → Q v H'
def runS (n : Nat) (F : M Unit Out) (ns : List Int) : Option D := match F ⟨some (.s ns) :: List.replicate (n - 1) none, ()⟩ with
  | some (.rt d, _) => some d
  | _ => none
theorem fnS {P : Program} {w : World} {K : Frag} {mg : Str → Option Value} {base : Heap} {x qual y : Str} {st : Stmt} {f : Addr} {fd : FuncData} {N : List Str} {k : Nat} {F : M Unit Out} (Fn : Fun K x qual st f fd) (Sc : FnScope N [y] (defScope st))
    (body : ∀ (A : Around) (B : Bd Unit), Gam.Ok ⟨P, w, K, mg, base, A, N, defScope st, fun _ => true⟩ k → DSs ⟨P, w, K, mg, base, A, N, defScope st, fun _ => true⟩ B (defBody st) F) :
    FnG P w K mg base (k + 1) f fd [y] (spS K (runS N.length F)) := by
  have hl : ∀ vs H Q E, spS K (runS N.length F) vs H Q E → vs.length = [y].length := by
    rintro vs H Q E ⟨S, a, ns, d, rfl, _⟩
    rfl
  refine fnAny Fn Sc hl fun A vs H Q E hsp ok => ?_
  obtain ⟨S, a, ns, d, rfl, wS, hq, hrun, hQ⟩ := hsp
  obtain ⟨t, pt, mt⟩ := body A ⟨dr0, H, S⟩ ok
  refine ⟨t, pt, ?_⟩
  have gs : Good K (B := ⟨dr0, H, S⟩) ⟨some (.s ns) :: List.replicate (N.length - 1) none, ()⟩ (L2.start N [.ref a]) H S := by
    have get : ∀ (i : Nat) (z : Sl), (some (Sl.s ns) :: List.replicate (N.length - 1) none)[i]? = some (some z) → i = 0 ∧ z = .s ns := fun i z e => by
      cases i with
      | zero => simp at e; exact ⟨rfl, e.symm⟩
      | succ j =>
        rw [List.getElem?_cons_succ, List.getElem?_replicate] at e
        split at e <;> cases e
    refine ⟨⟨fun b o e _ => e, Same.refl _, wS, (fun b o e n => by
      rw [show S b = none from n] at e
      cases e), fun b r => r.elim⟩, trivial, ?_, fun i z e => ?_, fun i j xs ys n e1 e2 => ?_⟩
    · unfold L2.start
      simp
    · obtain ⟨rfl, rfl⟩ := get i z e
      exact ⟨.ref a, by unfold L2.start; simp, a, rfl, hq⟩
    · obtain ⟨_, q⟩ := get i _ e1
      cases q
  unfold runS at hrun
  split at hrun
  · rename_i d' s' e
    cases hrun
    exact mt _ _ H S gs _ _ e _ fun v H' S' fr _ hd => hQ v H' S' ⟨fun b o e => fr.keep b o e (fun z => z), fr.s, fr.sub, fr.new⟩ hd
  · cases hrun

/-! ### a call that draws -/
structure DefD (P : Program) (w : World) (K : Frag) (mg : Str → Option Value) (base : Heap) (k : Nat) (x : Str) (ps : List Str) (f : List D → DrawSt → Option (D × DrawSt)) : Prop where
  ex : ∃ (a : Addr) (fd : FuncData), FnG P w K mg base k a fd ps (spD K f) ∧ mg x = some (.ref a) ∧ PySem.W.keepIn K (.ref a) = true ∧ Binds K fd ps []
def hAt (i : Nat) : M τ Unit := fun s => match s.env[i]? with
  | some (some .h) => some ((), s)
  | _ => none
def callD (i : Nat) (f : List D → DrawSt → Option (D × DrawSt)) (G : M DrawSt (List D)) : M DrawSt Opd := bnd (hAt i) fun _ => bnd G fun ds => fun s => match f ds s.dr with
  | some (d, st') => some (.val d, { s with dr := st' })
  | none => none
theorem Good.drawn {K : Frag} {B : Bd DrawSt} {pm pg pc : Addr} (hB : B.dr = drawDr pm pg pc) {s : Stt DrawSt} {σ : List (Option V)} {H S H' S' : Hp} {st' : DrawSt} (g : Good K B s σ H S) (fr : Fr (drawDr pm pg pc) H S H' S') (at_ : drawAt pm pg pc st' H') :
    Good K B { s with dr := st' } σ H' S' ∧ Step K B σ s H S { s with dr := st' } H' S' := by
  have nb : ∀ b o, S' b = some o → S b = none → ¬ (drawDr pm pg pc).R b := fun b o e n r => by rw [fr.nor b r] at e; cases e
  have gk : ∀ b o, H b = some o → ¬ (drawDr pm pg pc).R b → H' b = some o := fr.keep
  have ownk : ∀ (p : Addr) (vs : List V), H p = some (.lst vs) → S p = none → ¬ B.dr.R p → H' p = some (.lst vs) ∧ S' p = none := fun p vs h1 h2 h3 => by
    rw [hB] at h3
    refine ⟨gk p _ h1 h3, ?_⟩
    cases q : S' p with
    | none => rfl
    | some u => have := fr.new p u q h2; rw [h1] at this; cases this
  refine ⟨⟨⟨fun b o e r => ?_, g.fr.s.trans fr.s, fr.sub, fun b o e n => ?_, fun b r => ?_⟩, ?_, g.len, fun i z e => ?_, g.disj⟩, ⟨fr.s, fun p h => ?_, fun p xs f => ?_⟩⟩
  · have r' : ¬ (drawDr pm pg pc).R b := by rw [← hB]; exact r
    exact gk b o (g.fr.keep b o e r) r'
  · cases q : S b with
    | some u => exact g.fr.new b u q n
    | none =>
      have hn := fr.new b o e q
      cases q0 : B.H0 b with
      | none => rfl
      | some u => rw [g.fr.keep b u q0 (by rw [hB]; exact nb b o e q)] at hn; cases hn
  · rw [hB] at r
    exact fr.nor b r
  · rw [hB]
    exact at_
  · obtain ⟨v, h1, h2⟩ := g.slot i z e
    refine ⟨v, h1, ?_⟩
    cases z with
    | d x => exact Dq.mono fr.s h2
    | own xs =>
      obtain ⟨p, vs, e1, e2, e3, e4, e5, e6⟩ := h2
      obtain ⟨k1, k2⟩ := ownk p vs e2 e4 e6
      exact ⟨p, vs, e1, k1, DqAll.mono fr.s e3, k2, e5, e6⟩
    | h => exact h2
    | s ns =>
      obtain ⟨p, e1, e2⟩ := h2
      exact ⟨p, e1, Same.seq fr.s e2⟩
    | r lo hi =>
      obtain ⟨p, e1, e2⟩ := h2
      exact ⟨p, e1, fr.s p _ e2⟩
  · cases q : H p with
    | none => rfl
    | some o =>
      by_cases r : (drawDr pm pg pc).R p
      · exact absurd h ((drawDr pm pg pc).live st' H' p at_ r)
      · rw [gk p o q r] at h; cases h
  · obtain ⟨⟨vs, h1, h2⟩, ns, n0, nr, no⟩ := f
    obtain ⟨k1, k2⟩ := ownk p vs h1 ns nr
    exact ⟨⟨vs, k1, DqAll.mono fr.s h2⟩, k2, n0, nr, no⟩
section
variable {Γ : Gam} {B : Bd DrawSt} {pos : Pos} {e : Expr} {es : List Expr} {G : M DrawSt (List D)}
theorem DO.callD {x m : Str} {i : Nat} {p pm' : Pos} {k : Nat} {ps : List Str} {f : List D → DrawSt → Option (D × DrawSt)} (F : DefD Γ.P Γ.w Γ.K Γ.mg Γ.base k x ps f) (hB : ∃ pm pg pc, B.dr = drawDr pm pg pc) {j : Nat} (ok : Γ.Ok j) (hj : k ≤ j) (ha : DV Γ B es G)
    (hN : Γ.N[i]? = some m := by rfl) (hv : Vis Γ.sc m := by first | exact Or.inl rfl | exact Or.inr (Or.inl rfl) | exact Or.inr (Or.inr rfl)) (hg : Γ.sc.names.lookup x = some .globalImplicit := by rfl) (hdb : (x == ("__debug__" : Str)) = false := by decide)
    (hd : (m == ("__debug__" : Str)) = false := by decide) (hcd : (m == ("__classdict__" : Str)) = false := by decide)
    (he : ∀ X : Cx, starEach (.Name m pm' :: es) X.env = (false, eval (.Name m pm') X.env) :: starEach es X.env := by intro _; rfl) (hpl : ∀ X : Cx, (backTo pos (starEach es X.env)).any (·.1) = false := by intro _; rfl) :
    DO Γ B (.Call (.Name x p) (.Name m pm' :: es) [] pos) (DL.callD i f G) := by
  obtain ⟨a, fd, F, hm, hk, hb⟩ := F.ex
  obtain ⟨t, pa, mt⟩ := ha
  refine ⟨tCall (spD Γ.K f) [] E0 (tCons (tVar i) t), fun X h => ?_, fun s σ H S g o s' e Q q => ?_⟩
  · have F' := F.mono hj
    rw [← h.P, ← h.w, ← h.K, ← h.mg, ← h.base] at F'
    have r := pe_callG (x := x) (p := p) (pos := pos) F' (by rw [h.A]; exact ok.room) (by rw [h.A]; exact ok.gd) (gl_of h hg) (by rw [h.mg]; exact hm) (by rw [h.K]; exact hk) (by rw [h.K]; exact hb)
      (pa_cons (pe_var (pos := pm') (i := i) (by rw [h.N]; exact hN) (by rw [h.sc]; exact hv) hd hcd) (pa X h) (he X)) hdb (he X) (hpl X)
    rw [h.K] at r
    exact r
  · obtain ⟨_, s0, e0, e1⟩ := bnd_some e
    obtain ⟨ds, s1, e2, e3⟩ := bnd_some e1
    obtain ⟨pm, pg, pc, hB⟩ := hB
    unfold hAt at e0
    split at e0
    · rename_i q0
      cases e0
      split at e3
      · rename_i d st' ef
        cases e3
        obtain ⟨v, h1, h2⟩ := g.slot i _ q0
        have hv' : v = .ref pm := by
          have h2' : v = B.dr.hv := h2
          rw [hB] at h2'
          exact h2'
        subst hv'
        refine ⟨_, h1, mt _ σ H S g ds s1 e2 _ fun vs H1 S1 g1 w1 r1 => ?_⟩
        have at1 := g1.at_
        have nr1 := g1.fr.nor
        rw [hB] at at1 nr1
        refine ⟨pm, pg, pc, S1, vs, ds, s1.dr, d, st', by rw [List.append_nil], g1.fr.sub, nr1, at1, r1, ef, fun v H2 S2 fr at2 r2 => ?_⟩
        obtain ⟨g2, w2⟩ := g1.drawn hB fr at2
        exact q v H2 S2 g2 (w1.trans w2) r2 trivial
      · cases e3
    · cases e0
end
end DL
end

section
set_option Elab.async false
set_option linter.all false
set_option maxRecDepth 100000
set_option maxHeartbeats 3999999
/-! WEng11: what stands of a def (program, world and base told apart), the law's own call -/
namespace DL
open L2 PySem PyProof.Rows PySem.Spec
variable {τ α β : Type}
theorem Gam.Ok.blk {Γ : Gam} {k : Nat} (h : Γ.Ok k) {sc : Scope} : (Γ.blk sc).Ok k := ⟨h.nd, h.room, h.gd⟩
/-- what the top has written of a def -/
def Has (K : Frag) (mg : Str → Option Value) (x : Str) (st : Stmt) (ps : List Str) : Prop :=
  ∃ (a : Addr) (fd : FuncData), Fun K x x st a fd ∧ mg x = some (.ref a) ∧ PySem.W.keepIn K (.ref a) = true ∧ Binds K fd ps []
structure DefQ (P : Program) (w : World) (K : Frag) (mg : Str → Option Value) (base : Heap) (k : Nat) (x : Str) (ps : List Str) (f : List D → Option D) : Prop where
  ex : ∃ (a : Addr) (fd : FuncData), FnG P w K mg base k a fd ps (spP K f) ∧ mg x = some (.ref a) ∧ PySem.W.keepIn K (.ref a) = true ∧ Binds K fd ps []
structure DefN (P : Program) (w : World) (K : Frag) (mg : Str → Option Value) (base : Heap) (k : Nat) (x : Str) (ps : List Str) (f : List D → Option (List D)) : Prop where
  ex : ∃ (a : Addr) (fd : FuncData), FnG P w K mg base k a fd ps (spN K f) ∧ mg x = some (.ref a) ∧ PySem.W.keepIn K (.ref a) = true ∧ Binds K fd ps []
structure DefS (P : Program) (w : World) (K : Frag) (mg : Str → Option Value) (base : Heap) (k : Nat) (x : Str) (ps : List Str) (f : List Int → Option D) : Prop where
  ex : ∃ (a : Addr) (fd : FuncData), FnG P w K mg base k a fd ps (spS K f) ∧ mg x = some (.ref a) ∧ PySem.W.keepIn K (.ref a) = true ∧ Binds K fd ps []
section
variable {P : Program} {w : World} {K : Frag} {mg : Str → Option Value} {base : Heap}
theorem Has.pure {x : Str} {st : Stmt} {N ps : List Str} {k np n : Nat} {F : M Unit Out} (h : Has K mg x st ps) (Sc : FnScope N ps (defScope st)) (e1 : ps.length = np) (e2 : N.length = n)
    (body : ∀ (A : Around) (B : Bd Unit), Gam.Ok ⟨P, w, K, mg, base, A, N, defScope st, fun _ => true⟩ k → DSs ⟨P, w, K, mg, base, A, N, defScope st, fun _ => true⟩ B (defBody st) F) : DefQ P w K mg base (k + 1) x ps (runP2 np n F) := by
  obtain ⟨a, fd, F, h1, h2, h3⟩ := h
  subst e1 e2
  exact ⟨a, fd, fnP2 F Sc body, h1, h2, h3⟩
theorem Has.fresh {x : Str} {st : Stmt} {N ps : List Str} {k np n : Nat} {F : M Unit Out} (h : Has K mg x st ps) (Sc : FnScope N ps (defScope st)) (e1 : ps.length = np) (e2 : N.length = n)
    (body : ∀ (A : Around) (B : Bd Unit), Gam.Ok ⟨P, w, K, mg, base, A, N, defScope st, fun _ => true⟩ k → DSs ⟨P, w, K, mg, base, A, N, defScope st, fun _ => true⟩ B (defBody st) F) : DefN P w K mg base (k + 1) x ps (runN np n F) := by
  obtain ⟨a, fd, F, h1, h2, h3⟩ := h
  subst e1 e2
  exact ⟨a, fd, fnN F Sc body, h1, h2, h3⟩
theorem Has.draw {x : Str} {st : Stmt} {N ps : List Str} {k np n : Nat} {F : M DrawSt Out} (h : Has K mg x st ps) (Sc : FnScope N ps (defScope st)) (e1 : ps.length = np) (e2 : N.length = n)
    (body : ∀ (A : Around) (B : Bd DrawSt), (∃ pm pg pc, B.dr = drawDr pm pg pc) → Gam.Ok ⟨P, w, K, mg, base, A, N, defScope st, fun _ => true⟩ k → DSs ⟨P, w, K, mg, base, A, N, defScope st, fun _ => true⟩ B (defBody st) F) :
    DefD P w K mg base (k + 1) x ps (runD2 np n F) := by
  obtain ⟨a, fd, F, h1, h2, h3⟩ := h
  subst e1 e2
  exact ⟨a, fd, fnD F Sc body, h1, h2, h3⟩
theorem Has.scr {x y : Str} {st : Stmt} {N : List Str} {k n : Nat} {F : M Unit Out} (h : Has K mg x st [y]) (Sc : FnScope N [y] (defScope st)) (e2 : N.length = n)
    (body : ∀ (A : Around) (B : Bd Unit), Gam.Ok ⟨P, w, K, mg, base, A, N, defScope st, fun _ => true⟩ k → DSs ⟨P, w, K, mg, base, A, N, defScope st, fun _ => true⟩ B (defBody st) F) : DefS P w K mg base (k + 1) x [y] (runS n F) := by
  obtain ⟨a, fd, F, h1, h2, h3⟩ := h
  subst e2
  exact ⟨a, fd, fnS F Sc body, h1, h2, h3⟩
end
section
variable {Γ : Gam} {B : Bd τ} {pos : Pos} {e : Expr} {es : List Expr} {G : M τ (List D)}
theorem DO.callQ {x : Str} {p : Pos} {k : Nat} {ps : List Str} {f : List D → Option D} (F : DefQ Γ.P Γ.w Γ.K Γ.mg Γ.base k x ps f) {j : Nat} (ok : Γ.Ok j) (hj : k ≤ j) (ha : DV Γ B (e :: es) G) (hg : Γ.sc.names.lookup x = some .globalImplicit := by rfl)
    (hdb : (x == ("__debug__" : Str)) = false := by decide) (he : ∀ X : Cx, starEach (e :: es) X.env = (false, eval e X.env) :: starEach es X.env := by intro _; rfl) (hpl : ∀ X : Cx, (backTo pos (starEach es X.env)).any (·.1) = false := by intro _; rfl) :
    DO Γ B (.Call (.Name x p) (e :: es) [] pos) (callP f G) :=
  DO.call (k := k) (ps := ps) ⟨F.ex⟩ ok hj hg ha hdb he hpl
def callN (f : List D → Option (List D)) (G : M τ (List D)) : M τ Opd := bnd G fun ds => bnd (lift (f ds)) fun xs => ret (.new xs)
theorem DO.callN {x : Str} {p : Pos} {k : Nat} {ps : List Str} {f : List D → Option (List D)} (F : DefN Γ.P Γ.w Γ.K Γ.mg Γ.base k x ps f) {j : Nat} (ok : Γ.Ok j) (hj : k ≤ j) (ha : DV Γ B (e :: es) G) (hg : Γ.sc.names.lookup x = some .globalImplicit := by rfl)
    (hdb : (x == ("__debug__" : Str)) = false := by decide) (he : ∀ X : Cx, starEach (e :: es) X.env = (false, eval e X.env) :: starEach es X.env := by intro _; rfl) (hpl : ∀ X : Cx, (backTo pos (starEach es X.env)).any (·.1) = false := by intro _; rfl) :
    DO Γ B (.Call (.Name x p) (e :: es) [] pos) (DL.callN f G) := by
  obtain ⟨a, fd, F, hm, hk, hb⟩ := F.ex
  obtain ⟨t, pa, m⟩ := ha
  refine ⟨tCall (spN Γ.K f) [] E0 t, fun X h => ?_, fun s σ H S g o s' e Q q => ?_⟩
  · have F' := F.mono hj
    rw [← h.P, ← h.w, ← h.K, ← h.mg, ← h.base] at F'
    have r := pe_callG (x := x) (p := p) (pos := pos) F' (by rw [h.A]; exact ok.room) (by rw [h.A]; exact ok.gd) (gl_of h hg) (by rw [h.mg]; exact hm) (by rw [h.K]; exact hk) (by rw [h.K]; exact hb) (pa X h) hdb (he X) (hpl X)
    rw [h.K] at r
    exact r
  · obtain ⟨ds, s1, e1, e2⟩ := bnd_some e
    obtain ⟨xs, s2, e3, e4⟩ := bnd_some e2
    obtain ⟨ez, rfl⟩ := lift_some e3
    obtain ⟨rfl, rfl⟩ := ret_some e4
    refine m s σ H S g ds _ e1 _ fun vs H1 S1 g1 w1 r1 => ?_
    refine ⟨S1, ds, xs, g1.fr.sub, by rw [List.append_nil]; exact r1, ez, fun p us H2 S2 w2 hp hd ns n0 => ?_⟩
    have nr : ¬ B.dr.R p := fun r => g1.live r n0
    refine q (.ref p) H2 S2 (g1.grow w2) (w1.trans w2.step) ⟨p, rfl, ⟨us, hp, hd⟩, ns, ?_, nr, fun j ys ej => ?_⟩ ⟨p, rfl, w1.dom p n0⟩
    · cases q0 : B.H0 p with
      | none => rfl
      | some o =>
        have := g1.fr.keep p o q0 nr
        rw [n0] at this
        cases this
    · obtain ⟨p', vs', h1, h2, _⟩ := g1.getOwn ej
      intro z
      rw [h1] at z
      cases z
      rw [n0] at h2
      cases h2
/-- name = [.. for .. for ..] -/
theorem DS.setLc2 {i : Nat} {x : Str} {py : Pos} {elt tg iter tg1 iter1 : Expr} {ifs ifs1 : List Expr} {scope : Scope} {own : List (Str × Nat)} {us us1 ws1 : List Nat} {cpos : Pos} {Fi Fi1 : M τ (List D)} {G G1 : D → M τ Unit} {T T1 : M τ Bool} {E : M τ Opd} (nd : Γ.N.Nodup) (hk : ∀ X, Γ.Has X → X.env.scope.kind = .function)
    (hx : Γ.N[i]? = some x) (hxl : Γ.sc.names.lookup x = some .local) (hln : (py.line == cpos.line) = true) (hna : (scope.names.any fun (n, k) => n == x && (k == .local || k == .cell)) = false) (hi : DI Γ B tg iter Fi) (ok : BlkOk Γ.N Γ.sc scope own)
    (hg : DG (Γ.blk scope) B tg us G) (hu : ∀ i ∈ us, i ∈ own.map (·.2)) (ht : DTs (Γ.blk scope) B ifs T)
    (hi1 : DI (Γ.blk scope) B tg1 iter1 Fi1) (hg1 : DG (Γ.blk scope) B tg1 us1 G1) (hu1 : ∀ i ∈ us1, i ∈ ws1) (hw : ∀ i ∈ ws1, i ∈ own.map (·.2)) (ht1 : DTs (Γ.blk scope) B ifs1 T1) (he : DO (Γ.blk scope) B elt E)
    (hs : ∀ (X : Cx) y, foldedSetIterable iter X.env y = pure y := by intro _ _; rfl) (hs1 : ∀ env x, foldedSetIterable iter1 env x = pure x := by intro _ _; rfl) :
    DS Γ B (.Assign [.Name x py] (.ListComp elt [⟨tg, iter, ifs, 0⟩, ⟨tg1, iter1, ifs1, 0⟩] scope cpos) pos) (asgM i (lc2M (own.map (·.2)) ws1 Fi G T Fi1 G1 T1 E)) := by
  obtain ⟨wi, pi, mi⟩ := hi
  obtain ⟨g, pg, mg⟩ := hg
  obtain ⟨tt, pt, mt⟩ := ht
  obtain ⟨wi1, pi1, mi1⟩ := hi1
  obtain ⟨g1, pg1, mg1⟩ := hg1
  obtain ⟨tt1, pt1, mt1⟩ := ht1
  obtain ⟨te, pe, me⟩ := he
  exact ⟨_, fun X h => ps_setLc2 h.calm (by rw [h.N]; exact nd) (by rw [h.N]; exact hx) (by rw [h.sc]; exact hxl) (sw_true (hk X h) (by rw [h.sc]; exact hxl) hln hna) (pi X h) (by rw [h.N, h.sc]; exact ok) hw (fun _ _ _ _ _ => pg _ (blk_has h)) (fun _ _ _ _ _ => pt _ (blk_has h))
    (fun _ _ _ _ _ => pi1 _ (blk_has h)) (fun _ _ _ _ _ => pg1 _ (blk_has h)) (fun _ _ _ _ _ => pt1 _ (blk_has h)) (fun _ _ _ _ _ => pe _ (blk_has h)) (hs X) hs1, mean_asg (mean_lc2 mi mg hu mt mi1 mg1 hu1 hw mt1 me)⟩
end
/-- names as the items of a target -/
def gNames : List Nat → TGs
  | [] => gNil
  | i :: is => gCons (gName i) (gNames is)
def DNm (Γ : Gam) (es : List Expr) (is : List Nat) : Prop := ∀ X, Γ.Has X → PGs X es (gNames is)
theorem DNm.nil {Γ : Gam} : DNm Γ [] [] := fun X h => pgs_nil
theorem DNm.cons {Γ : Gam} {x : Str} {p : Pos} {i : Nat} {es : List Expr} {is : List Nat} (nd : Γ.N.Nodup) (hi : Γ.N[i]? = some x) (hx : Loc Γ.sc x) (hf : Γ.fn x = true ∨ Γ.sc.names.lookup x = some .local) (hs : DNm Γ es is)
    (ha : ∀ X : Cx, (assignEach (.Name x p :: es) X.env).map (·.2) = assign (.Name x p) X.env :: (assignEach es X.env).map (·.2) := by intro _; rfl) : DNm Γ (.Name x p :: es) (i :: is) := fun X h =>
  pgs_cons (pg_name (by rw [h.N]; exact nd) (by rw [h.N]; exact hi) (by rw [h.sc]; exact hx) (by
    rcases hf with z | z
    · exact h.fn x z
    · exact .inr (by rw [h.sc]; exact z))) (hs X h) (ha X)
theorem names_run : ∀ {is : List Nat} {vs : List V} {σ : List (Option V)} {H : Hp} {Q : List (Option V) → Hp → Prop}, vs.length = is.length → Q (sets σ is vs) H → gNames is vs σ H Q
  | [], [], σ, H, Q, _, q => ⟨rfl, q⟩
  | i :: is, v :: vs, σ, H, Q, hl, q => ⟨v, vs, rfl, names_run (by simpa using hl) q⟩
  | [], _ :: _, _, _, _, hl, _ => by cases hl
  | _ :: _, [], _, _, _, hl, _ => by cases hl
/-- a, b = (x, y) where the tuple is made -/
theorem DS.unpN {Γ : Gam} {B : Bd τ} {pos : Pos} {es tgs : List Expr} {is : List Nat} {G : M τ (List Opd)} {pt : Pos} {kt k2 pt2} (h : DN Γ B es G) (hg : DNm Γ tgs is) (hz : is.length ≤ 100) (hn : ∀ X : Cx, (assignEach tgs X.env).length = is.length := by intro _; rfl) (hst : ∀ X : Cx, (assignEach tgs X.env).findIdx? (·.1) = none := by intro _; rfl)
    (hw : ∀ X, Γ.Has X → swappedStores [.Tuple tgs kt pt] (.Tuple es k2 pt2) X.env = pure none) (hs : ∀ X : Cx, swapsWithSole [.Tuple tgs kt pt] (.Tuple es k2 pt2) pos.line X.env = pure false := by intro _; rfl)
    (h1 : ∀ X : Cx, (assignEach [.Tuple tgs kt pt] X.env).map (·.2) = [assign (.Tuple tgs kt pt) X.env] := by intro _; rfl) :
    DS Γ B (.Assign [.Tuple tgs kt pt] (.Tuple es k2 pt2) pos) (parM is G) := by
  obtain ⟨t, p, m⟩ := h
  refine ⟨tAsg (tTup t) (gTup Γ.K is.length (gNames is)), fun X h => ?_, fun s σ H S gd o s' e D q => ?_⟩
  · have r := pg_tup (k := kt) (pos := pt) h.calm (hg X h) (hn X) (hst X)
    rw [h.K] at r
    exact ps_asg (pe_tup (p X h)) r (hs X) (hw X h) (h1 X)
  · obtain ⟨os, s1, e1, e2⟩ := bnd_some e
    obtain ⟨os', s2, e3, e4⟩ := bnd_some e2
    obtain ⟨_, s3, e5, e6⟩ := bnd_some e4
    obtain ⟨rfl, rfl⟩ := ret_some e6
    refine m s σ H S gd os s1 e1 _ fun vs H1 S1 g1 w1 r1 _ => ?_
    obtain ⟨S2, w2, g2, r2, n2, _, _⟩ := fix_of g1 r1 e3
    obtain ⟨S3, w3, g3⟩ := sets_of g2 r2 n2 e5
    have hl : vs.length = is.length := by rw [r2.len, sets_len e5]
    refine ⟨by rw [hl, sizeLine_eq]; omega, fun a ha => ⟨a, vs, rfl, SqT.of upd_same, hl, names_run hl ?_⟩⟩
    exact q _ _ S3 (g3.grow (Grow.fresh g3.fr.sub ha)) ((w1.same.trans w2).trans w3)
end DL
end

section
set_option Elab.async false
set_option linter.all false
set_option maxRecDepth 100000
set_option maxHeartbeats 3999999
/-! WEng12: the drawn numbers: what a draw gives, what is begun, the law's own body -/
namespace DL
open L2 PySem PyProof.Rows PySem.Spec
variable {τ α β : Type}
/-- a draw below a limit from the cells -/
def drawC (mix : List D → Option D) (L : Int) (st st1 : DrawSt) : Option (D × DrawSt) := (atI st.cells (st.spot % 64)).bind fun c =>
  (mix [.int (c + 31 * (st.spot / 64)), .int st.spot]).bind fun a => (mix [a, .int (st.spot + 7)]).bind fun b => match b with
    | .int b => some (.int (b % L), st1)
    | _ => none
def drawF (mix : List D → Option D) : List D → DrawSt → Option (D × DrawSt) := fun ds st => match ds with
  | [.int L] => if decide (0 < L) && decide (L.natAbs.log2 < 9000) then
      (if st.great.isEmpty then drawC mix L st ⟨st.cells, st.great, st.spot + 1⟩ else match ixN st.great.length (st.spot % (st.great.length : Nat)) with
        | some j => match st.great[j]? with
          | some c => if 0 < c then some (.int (c % L), ⟨st.cells, st.great.set j (c / L), st.spot + 1⟩) else drawC mix L st ⟨st.cells, st.great, st.spot + 1⟩
          | none => none
        | none => none)
    else none
  | _ => none
theorem frame {K : Frag} {pm pg pc : Addr} {st : DrawSt} {H S H' : Hp} (wS : Same S H) (nr : ∀ b, (drawDr pm pg pc).R b → S b = none) (k : ∀ b o, H b = some o → ¬ (drawDr pm pg pc).R b → H' b = some o) : Fr (drawDr pm pg pc) H S H' S :=
  ⟨k, Same.refl _, fun b o e => k b o (wS b o e) (fun r => by rw [nr b r] at e; cases e), (fun b o e n => by
    rw [show S b = none from n] at e
    cases e), nr⟩
theorem frame_grow {pm pg pc : Addr} {H S H1 H2 S2 : Hp} (f : Fr (drawDr pm pg pc) H S H1 S) (w : Grow H1 S H2 S2) (live : ∀ b, (drawDr pm pg pc).R b → H1 b ≠ none) (d : ∀ b, H1 b = none → H b = none) : Fr (drawDr pm pg pc) H S H2 S2 :=
  ⟨fun b o e r => w.h b o (f.keep b o e r), w.s, w.sub, fun b o e n => d b (w.new b o e n), fun b r => by
    cases q : S2 b with
    | none => rfl
    | some o => exact absurd (w.new b o q (f.nor b r)) (live b r)⟩
theorem at_grow {pm pg pc : Addr} {st : DrawSt} {H1 H2 : Hp} (a : drawAt pm pg pc st H1) (w : Same H1 H2) : drawAt pm pg pc st H2 := ⟨w _ _ a.1, w _ _ a.2.1, w _ _ a.2.2.1, a.2.2.2⟩
theorem kv_spot {pc pg : Addr} {n : Int} : valV (drawKvs pc pg n) (.inr "spot") = some (.int n) := by unfold drawKvs; rfl
theorem kv_great {pc pg : Addr} {n : Int} : valV (drawKvs pc pg n) (.inr "great") = some (.ref pg) := by unfold drawKvs; rfl
theorem kv_cells {pc pg : Addr} {n : Int} : valV (drawKvs pc pg n) (.inr "cells") = some (.ref pc) := by unfold drawKvs; rfl
theorem kv_put {pc pg : Addr} {n m : Int} : putK (drawKvs pc pg n) (.inr "spot") (.int m) = drawKvs pc pg m := by unfold drawKvs; rfl
theorem ne_lst_dK {H : Hp} {a b : Addr} {kvs : List (Key × V)} {xs : List V} (h1 : H a = some (.dK kvs)) (h2 : H b = some (.lst xs)) : a ≠ b := fun e => by rw [e, h2] at h1; cases h1
theorem shaped_ints (ns : List Int) : SeqAt.shaped (.list (ns.map PyData.int)) = true := by
  have h1 : ∀ ns : List Int, PyData.canLayAll0 (ns.map PyData.int) = true := fun ns => by
    induction ns with
    | nil => rfl
    | cons n ns ih => simp [PyData.canLayAll0, PyData.canLay0, ih]
  have h2 : ∀ ns : List Int, PyData.depthAll (ns.map PyData.int) ≤ 1 := fun ns => by
    induction ns with
    | nil => simp [PyData.depthAll]
    | cons n ns ih => simp [PyData.depthAll, PyData.depth] at *; omega
  have h3 := h2 ns
  unfold SeqAt.shaped
  simp [PyData.canLay0, PyData.depth, h1]
  omega
theorem eqv_nil (ns : List Int) : PyData.eqv (.list (ns.map PyData.int)) (.list []) = ns.isEmpty := by
  cases ns <;> simp [PyData.eqv, PyData.eqvAll]
/-- what _law_draw's body does -/
def rAdd1 : R2 := rI0 fun i j => .int (i + j)
def rMod1 : R2 := rI (fun _ j => 0 < j) fun i j => .int (i % j)
def rDiv1 : R2 := rI CDivW fun i j => .int (i / j)
def rMul1 : R2 := rI CMul fun i j => .int (i * j)
def rGt1 : R2 := rI0 fun i j => .bl (decide (j < i))
def rInt1 : List V → Hp → VK → Prop := fun xs H Q => (∃ i, xs = [.int i] ∧ Q (.int i) H) ∨ ∃ k, xs = [.bl k] ∧ Q (.int (if k then 1 else 0)) H
def rLen1 (K : Frag) : List V → Hp → VK → Prop := fun xs H Q => ∃ x n, xs = [x] ∧ LenV K x H n ∧ Q (.int n) H
def tInt (t : TE) : TE := tCB rInt1 (tCons t tNil)
def tMix (K : Frag) (mix : List D → Option D) (a b : TE) : TE := tCall (spP K mix) [] E0 (tCons a (tCons b tNil))
def tRest (K : Frag) (mix : List D → Option D) : TS := tSeq (tAsg (tDGet (tVar 0) (tC (.str "cells"))) (gName 3)) (tRet (tOp rMod1 (tInt (tMix K mix
  (tMix K mix (tOp rAdd1 (tOp (rIxL K) (tVar 3) (tOp rMod1 (tInt (tVar 2)) (tC (.int 64)))) (tOp rMul1 (tC (.int 31)) (tOp rDiv1 (tVar 2) (tC (.int 64))))) (tVar 2)) (tOp rAdd1 (tVar 2) (tC (.int 7))))) (tVar 1)))
def tGreat (K : Frag) : TS := tSeq (tAsg (tDGet (tVar 0) (tC (.str "great"))) (gName 3)) (tSeq (tAsg (tOp rMod1 (tInt (tVar 2)) (tCB (rLen1 K) (tCons (tVar 3) tNil))) (gName 4)) (tSeq (tAsg (tOp (rIxL K) (tVar 3) (tVar 4)) (gName 5))
  (tIfS (tTest (tOp rGt1 (tVar 5) (tC (.int 0)))) (tSeq (tAsg (tOp rDiv1 (tVar 5) (tVar 1)) (gSub (tVar 3) (tVar 4) rSetL)) (tRet (tOp rMod1 (tInt (tVar 5)) (tVar 1)))) tNext)))
def tDraw (K : Frag) (mix : List D → Option D) : TS := tSeq (tAsg (tDGet (tVar 0) (tC (.str "spot"))) (gName 2)) (tSeq (sDPut (tVar 0) (tC (.str "spot")) (tOp rAdd1 (tVar 2) (tC (.int 1))))
  (tSeq (tIfS (tTest (tOp (rNeD K) (tDGet (tVar 0) (tC (.str "great"))) (tLst tNil))) (tGreat K) tNext) (tRest K mix)))
section
variable {K : Frag} {mix : List D → Option D} {pm pg pc : Addr} {st : DrawSt} {H S H1 : Hp} {L : Int} {Q : VK}
theorem dget_spot (e : H pm = some (.dK (drawKvs pc pg n))) : DGet H pm (.str "spot") (some (.int n)) := by
  have := DGet.k (k := .inr "spot") e
  rw [kv_spot] at this
  exact this
theorem dget_great (e : H pm = some (.dK (drawKvs pc pg n))) : DGet H pm (.str "great") (some (.ref pg)) := by
  have := DGet.k (k := .inr "great") e
  rw [kv_great] at this
  exact this
theorem dget_cells (e : H pm = some (.dK (drawKvs pc pg n))) : DGet H pm (.str "cells") (some (.ref pc)) := by
  have := DGet.k (k := .inr "cells") e
  rw [kv_cells] at this
  exact this
theorem atI_map {α β : Type} (f : α → β) (xs : List α) (i : Int) : atI (xs.map f) i = (atI xs i).map f := by
  unfold atI
  rw [List.length_map]
  cases ixN xs.length i <;> simp
/-- the draw from the cells -/
theorem rest_run {d : D} {st' : DrawSt} {σ : List (Option V)} {D : Ends} (s0 : σ[0]? = some (some (.ref pm))) (s1 : σ[1]? = some (some (.int L))) (s2 : σ[2]? = some (some (.int st.spot))) (s3 : 3 < σ.length)
    (hL : 0 < L) (a1 : drawAt pm pg pc ⟨st.cells, st.great, st.spot + 1⟩ H1) (wS : Same S H1) (he : drawC mix L st ⟨st.cells, st.great, st.spot + 1⟩ = some (d, st'))
    (hD : D.rt = Q) (hQ : ∀ v H' S', Grow H1 S H' S' → drawAt pm pg pc st' H' → Dq K S' v d → Q v H') : tRest K mix D σ H1 := by
  unfold drawC at he
  obtain ⟨c, e1, he⟩ := Option.bind_eq_some_iff.mp he
  obtain ⟨a, e2, he⟩ := Option.bind_eq_some_iff.mp he
  obtain ⟨b, e3, he⟩ := Option.bind_eq_some_iff.mp he
  split at he
  · rename_i b
    cases he
    have g : ∀ (i : Nat) (x : V), i ≠ 3 → σ[i]? = some (some x) → (σ.set 3 (some (V.ref pc)))[i]? = some (some x) := fun i x n e => by rw [List.getElem?_set_ne (fun q => n q.symm)]; exact e
    have g3 : (σ.set 3 (some (V.ref pc)))[3]? = some (some (V.ref pc)) := List.getElem?_set_self s3
    refine ⟨_, s0, pm, _, rfl, dget_cells a1.1, ?_⟩
    have hc : atI (st.cells.map V.int) (st.spot % 64) = some (.int c) := by rw [atI_map, e1]; rfl
    refine ⟨_, g3, _, g 2 _ (by decide) s2, .inl ⟨_, rfl, _, _, rfl, rfl, (by show (0 : Int) < 64; decide), pc, _, _, _, rfl, rfl, SqL.of a1.2.2.1, hc, _, g 2 _ (by decide) s2, _, _, rfl, rfl, ⟨by decide, by decide⟩, _, _, rfl, rfl, .inl ⟨by decide, by decide⟩, _, _, rfl, rfl, _, g 2 _ (by decide) s2, ?_⟩⟩
    refine ⟨S, [.int (c + 31 * (st.spot / 64)), .int st.spot], a, wS, .cons (.int _) (.cons (.int _) .nil), e2, fun v H2 S2 w2 r2 => ?_⟩
    refine ⟨_, g 2 _ (by decide) s2, _, _, rfl, rfl, ?_⟩
    refine ⟨S2, [a, .int (st.spot + 7)], .int b, w2.sub, .cons r2 (.cons (.int _) .nil), e3, fun v H3 S3 w3 r3 => ?_⟩
    cases r3
    refine .inl ⟨_, rfl, _, g 1 _ (by decide) s1, _, _, rfl, rfl, hL, ?_⟩
    rw [hD]
    exact hQ _ H3 S3 (w2.trans w3) (at_grow (st := ⟨st.cells, st.great, st.spot + 1⟩) a1 (w2.trans w3).h) (.int _)
  · cases he
theorem draw_run {d : D} {st' : DrawSt} {v2 v3 v4 v5 : Option V} {D : Ends} (wS : Same S H) (nr : ∀ b, (drawDr pm pg pc).R b → S b = none) (at_ : drawAt pm pg pc st H) (he : drawF mix [.int L] st = some (d, st')) (hD : D.rt = Q)
    (hQ : ∀ v H' S', Fr (drawDr pm pg pc) H S H' S' → drawAt pm pg pc st' H' → Dq K S' v d → Q v H') : tDraw K mix D [some (.ref pm), some (.int L), v2, v3, v4, v5] H := by
  obtain ⟨cells, great, spot⟩ := st
  unfold drawF at he
  simp only at he
  split at he
  · rename_i hz
    obtain ⟨q1, q2⟩ := Bool.and_eq_true_iff.mp hz
    have hL : 0 < L := of_decide_eq_true q1
    have hL2 : L.natAbs.log2 < 9000 := of_decide_eq_true q2
    obtain ⟨a1, a2, a3, a4⟩ := at_
    refine ⟨_, rfl, pm, _, rfl, dget_spot a1, ?_⟩
    refine ⟨_, rfl, _, _, rfl, rfl, _, rfl, pm, _, rfl, DPut.k (k := .inr "spot") a1 (by show 3 < sizeLine; rw [sizeLine_eq]; decide), ?_⟩
    rw [kv_put]
    refine ⟨_, rfl, pm, _, rfl, dget_great (n := spot + 1) upd_same, by decide, fun p hp => ?_⟩
    have npm : p ≠ pm := fun e => by rw [e, upd_same] at hp; cases hp
    have npg : pg ≠ pm := (ne_lst_dK a1 a2).symm
    have npc : pc ≠ pm := (ne_lst_dK a1 a3).symm
    have hpH : H p = none := by rw [upd_ne npm] at hp; exact hp
    have np : ∀ b o, H b = some o → b ≠ p := fun b o e q => by rw [q, hpH] at e; cases e
    have b1 : upd (upd H pm (.dK (drawKvs pc pg (spot + 1)))) p (.lst []) pm = some (.dK (drawKvs pc pg (spot + 1))) := by rw [upd_ne npm.symm, upd_same]
    have b2 : upd (upd H pm (.dK (drawKvs pc pg (spot + 1)))) p (.lst []) pg = some (.lst (great.map V.int)) := by rw [upd_ne (np _ _ a2), upd_ne npg]; exact a2
    have b3 : upd (upd H pm (.dK (drawKvs pc pg (spot + 1)))) p (.lst []) pc = some (.lst (cells.map V.int)) := by rw [upd_ne (np _ _ a3), upd_ne npc]; exact a3
    have kp : ∀ b o, H b = some o → ¬ (drawDr pm pg pc).R b → upd (upd H pm (.dK (drawKvs pc pg (spot + 1)))) p (.lst []) b = some o := fun b o e r => by
      rw [upd_ne (np _ _ e), upd_ne fun q => r (.inl q)]; exact e
    have dm : ∀ b, upd (upd H pm (.dK (drawKvs pc pg (spot + 1)))) p (.lst []) b = none → H b = none := fun b e => by
      by_cases q : b = p
      · rw [q, upd_same] at e; cases e
      · rw [upd_ne q] at e
        by_cases q' : b = pm
        · rw [q', upd_same] at e; cases e
        · rw [upd_ne q'] at e; exact e
    have bp : upd (upd H pm (.dK (drawKvs pc pg (spot + 1)))) p (.lst []) p = some (.lst []) := upd_same
    generalize upd (upd H pm (.dK (drawKvs pc pg (spot + 1)))) p (.lst []) = H1 at b1 b2 b3 kp dm bp
    have f1 : Fr (drawDr pm pg pc) H S H1 S := frame (K := K) (st := ⟨cells, great, spot⟩) wS nr kp
    have lv : ∀ b, (drawDr pm pg pc).R b → H1 b ≠ none := fun b r => (drawDr pm pg pc).live ⟨cells, great, spot + 1⟩ H1 b ⟨b1, b2, b3, a4⟩ r
    have rest : ∀ (σ : List (Option V)) (D : Ends), σ[0]? = some (some (.ref pm)) → σ[1]? = some (some (.int L)) → σ[2]? = some (some (.int spot)) → 3 < σ.length → D.rt = Q → drawC mix L ⟨cells, great, spot⟩ ⟨cells, great, spot + 1⟩ = some (d, st') → tRest K mix D σ H1 :=
      fun σ D s0 s1 s2 s3 hD e => rest_run (st := ⟨cells, great, spot⟩) s0 s1 s2 s3 hL ⟨b1, b2, b3, a4⟩ f1.sub e hD fun v H' S' w a r => hQ v H' S' (frame_grow f1 w lv dm) a r
    refine ⟨.list (great.map PyData.int), .list [], Dp.lst (SqL.of b2) (DqAll.dp (H := H1) (DqAll.ints great)), Dp.lst (SqL.of bp) .nil, shaped_ints great, shaped_ints [], _, rfl, ?_⟩
    rw [eqv_nil]
    cases great with
    | nil => exact rest _ _ rfl rfl rfl (by simp) hD he
    | cons z zs =>
      refine iteT ?_
      rw [if_neg (by simp)] at he
      split at he
      · rename_i j e1
        split at he
        · rename_i c e2
          have hat : atI ((z :: zs).map V.int) (spot % (((z :: zs).map V.int).length : Nat)) = some (V.int c) := by
            unfold atI
            rw [List.length_map, e1]
            show ((z :: zs).map V.int)[j]? = _
            rw [List.getElem?_map, e2]
            rfl
          have hpos : (0 : Int) < (((z :: zs).map V.int).length : Nat) := by simp
          refine ⟨_, rfl, pm, _, rfl, dget_great b1, _, rfl, .inl ⟨_, rfl, _, rfl, _, _, rfl, .inl ⟨_, SqL.of b2, rfl⟩, _, _, rfl, rfl, hpos, ?_⟩⟩
          refine ⟨_, rfl, _, rfl, pg, _, _, _, rfl, rfl, SqL.of b2, hat, ?_⟩
          refine ⟨_, rfl, _, _, rfl, rfl, _, rfl, ?_⟩
          split at he
          · rename_i hc
            cases he
            rw [if_pos (decide_eq_true hc)]
            refine ⟨_, rfl, _, rfl, _, _, rfl, rfl, ⟨hL, hL2⟩, _, rfl, _, rfl, pg, _, _, j, rfl, rfl, b2, by rw [List.length_map]; exact e1, ?_⟩
            refine ⟨_, rfl, .inl ⟨_, rfl, _, rfl, _, _, rfl, rfl, hL, ?_⟩⟩
            show D.rt _ _
            rw [hD]
            refine hQ _ _ S (frame (K := K) (st := ⟨cells, z :: zs, spot⟩) wS nr fun b o e r => ?_) ⟨?_, ?_, ?_, a4⟩ (.int _)
            · rw [upd_ne fun q => r (.inr (.inl q))]
              exact kp b o e r
            · rw [upd_ne npg.symm]
              exact b1
            · rw [upd_same, List.map_set]
            · rw [upd_ne a4.symm]
              exact b3
          · rename_i hc
            rw [if_neg (by simpa using hc)]
            exact rest _ _ rfl rfl rfl (by simp) hD he
        · cases he
      · cases he
  · cases he
end
end DL
end

section
set_option Elab.async false
set_option linter.all false
set_option maxRecDepth 100000
set_option maxHeartbeats 3999999
/-! WEng13: what a law begins with, the law's own body -/
namespace DL
open L2 PySem PyProof.Rows PySem.Spec
variable {τ α β : Type}
def rGe1 : R2 := rI0 fun i j => .bl (decide (j ≤ i))
def rPow1 : R2 := rI CPow fun i j => .int (i ^ j.toNat)
def greatOf (ns : List Int) : List Int := ns.map fun c => if 1000000000000000000 ≤ c then c else 0
def tBegun (K : Frag) (fold : List Int → Option D) : TS :=
  tSeq (tAsg (tDisp [(tC (.str "cells"), tCall (spS K fold) [] E0 (tCons (tVar 0) tNil)), (tC (.str "great"), tLst tNil), (tC (.str "spot"), tC (.int 0))]) (gName 1))
  (tSeq (sDPut (tVar 1) (tC (.str "great")) (tLc (iList K (tVar 0)) (gName 2) tYes (tIf (tTest (tOp rGe1 (tVar 2) (tOp rPow1 (tC (.int 10)) (tC (.int 18))))) (tVar 2) (tC (.int 0))) [2])) (tRet (tVar 1)))
/-- what begins: the numbers laid in a dict -/
def spB (K : Frag) (fold : List Int → Option D) : Sp := fun vs H Q _ => ∃ (a : Addr) (ns cells : List Int), vs = [.ref a] ∧ Only H ∧ SqL K H a (ns.map V.int) ∧ ns.length ≤ 63 ∧ fold ns = some (.list (cells.map PyData.int)) ∧
  ∀ pm pg pc H', Same H H' → drawAt pm pg pc ⟨cells, greatOf ns, 0⟩ H' → (∀ b, (drawDr pm pg pc).R b → H b = none) → Q (.ref pm) H'
theorem intsV_of {K : Frag} {S : Hp} : ∀ {vs : List V} {ns : List Int}, DqAll K S vs (ns.map PyData.int) → vs = ns.map V.int
  | _, [], h => by cases h; rfl
  | _, n :: ns, h => by
    cases h with
    | cons h1 h2 =>
      cases h1
      rw [intsV_of h2]
      rfl
theorem great_step {ns : List Int} {i : Nat} {z : Int} (h : ns[i]? = some z) : greatOf (ns.take (i + 1)) = greatOf (ns.take i) ++ [if 1000000000000000000 ≤ z then z else 0] := by
  unfold greatOf
  rw [List.take_add_one, h]
  simp
theorem begun_run {K : Frag} {fold : List Int → Option D} {a : Addr} {ns cells : List Int} {H : Hp} {Q : VK} {v1 v2 : Option V} {D : Ends} (hO : Only H) (hq : SqL K H a (ns.map V.int)) (hl : ns.length ≤ 63) (hf : fold ns = some (.list (cells.map PyData.int)))
    (hD : D.rt = Q) (hQ : ∀ pm pg pc H', Same H H' → drawAt pm pg pc ⟨cells, greatOf ns, 0⟩ H' → (∀ b, (drawDr pm pg pc).R b → H b = none) → Q (.ref pm) H') : tBegun K fold D [some (.ref a), v1, v2] H := by
  intro p hp
  have w0 : Same H (upd H p (.dK [])) := Same.upd hp
  refine ⟨_, rfl, H, a, ns, _, rfl, w0, hq, hf, fun v H2 S2 w2 r2 => ?_⟩
  cases r2 with
  | @lst pc xs ds e1 e2 =>
  obtain rfl := intsV_of e2
  have hpc : H pc = none := by
    rcases hO pc with q | ⟨o, ys, q⟩
    · exact q
    · have := w2.s _ _ q
      rw [e1] at this
      cases this
  have c2 : H2 pc = some (.lst (cells.map V.int)) := w2.sub _ _ e1
  have p2 : H2 p = some (.dK []) := w2.h _ _ upd_same
  refine ⟨Nat.zero_le _, fun pg0 hg0 => ?_⟩
  have n1 : p ≠ pg0 := ne_of_none p2 hg0
  have n2 : pc ≠ pg0 := ne_of_none c2 hg0
  have n3 : pc ≠ p := fun e => by rw [e, p2] at c2; cases c2
  refine ⟨by rw [upd_ne n1]; exact p2, drawKvs pc pg0 0, rfl, (by show 3 ≤ 15; decide), ?_⟩
  have w4 : Same H (upd (upd H2 pg0 (.lst [])) p (.dK (mergeK [] (drawKvs pc pg0 0)))) := fun b o e => by
    have nb : b ≠ p := ne_of_none e hp
    have h2 : H2 b = some o := w2.h _ _ (w0 _ _ e)
    rw [upd_ne nb, upd_ne (ne_of_none h2 hg0)]
    exact h2
  have c4 : upd (upd H2 pg0 (.lst [])) p (.dK (mergeK [] (drawKvs pc pg0 0))) pc = some (.lst (cells.map V.int)) := by
    rw [upd_ne n3, upd_ne n2]
    exact c2
  have p4 : upd (upd H2 pg0 (.lst [])) p (.dK (mergeK [] (drawKvs pc pg0 0))) p = some (.dK (drawKvs pc pg0 0)) := by
    rw [upd_same]
    rfl
  generalize upd (upd H2 pg0 (.lst [])) p (.dK (mergeK [] (drawKvs pc pg0 0))) = H4 at w4 c4 p4
  refine ⟨_, rfl, a, rfl, ⟨_, Same.seq w4 hq⟩, fun G hG => ?_⟩
  have wG : ∀ o, Same H4 (upd H4 G o) := fun o => Same.upd hG
  refine lc_list (K := K) (a := a) (xs := ns.map V.int) (fun i H' => H' = upd H4 G (.lst ((greatOf (ns.take i)).map V.int))) (by rw [List.take_zero]; rfl) (fun i H' _ e => ?_) (fun i x H' hx e => ?_) fun H' e => ?_
  · rw [e]
    exact Same.seq (w4.trans (wG _)) hq
  · subst e
    rw [List.getElem?_map] at hx
    obtain ⟨z, hz, rfl⟩ := Option.map_eq_some_iff.mp hx
    refine ⟨rfl, ?_⟩
    dsimp only [tYes]
    rw [if_pos rfl]
    refine ⟨_, rfl, _, _, rfl, rfl, ⟨by decide, by decide, by decide⟩, _, _, rfl, rfl, _, rfl, ?_⟩
    have hi : i < ns.length := (List.getElem?_eq_some_iff.mp hz).1
    have hlen : ((greatOf (ns.take i)).map V.int).length < sizeLine := by
      unfold greatOf
      rw [List.length_map, List.length_map, List.length_take, sizeLine_eq]
      omega
    have fin : ∀ u : Int, u = (if 1000000000000000000 ≤ z then z else 0) → ∃ acc, upd H4 G (.lst ((greatOf (ns.take i)).map V.int)) G = some (.lst acc) ∧ acc.length < sizeLine ∧ upd (upd H4 G (.lst ((greatOf (ns.take i)).map V.int))) G (.lst (acc ++ [V.int u])) = upd H4 G (.lst ((greatOf (ns.take (i + 1))).map V.int)) := fun u hu =>
      ⟨_, upd_same, hlen, by rw [upd_upd, great_step hz, List.map_append, hu]; rfl⟩
    rw [show ((10 : Int) ^ Int.toNat 18) = 1000000000000000000 from by decide]
    dsimp only
    by_cases hc : (1000000000000000000 : Int) ≤ z
    · rw [if_pos (decide_eq_true hc)]
      exact ⟨_, rfl, fin z (by rw [if_pos hc])⟩
    · rw [if_neg (by simpa using hc)]
      exact fin 0 (by rw [if_neg hc])
  · rw [List.length_map, List.take_length] at e
    subst e
    have np : p ≠ G := ne_of_none p4 hG
    have nc : pc ≠ G := ne_of_none c4 hG
    refine ⟨_, rfl, p, _, rfl, DPut.k (k := .inr "great") (by rw [upd_ne np]; exact p4) (by show 3 < sizeLine; rw [sizeLine_eq]; decide), _, rfl, ?_⟩
    show D.rt _ _
    rw [hD]
    refine hQ p G pc _ (fun b o e => ?_) ⟨by rw [upd_same]; rfl, by rw [upd_ne np.symm, upd_same], by rw [upd_ne n3, upd_ne nc]; exact c4, nc.symm⟩ fun b r => ?_
    · rw [upd_ne (ne_of_none e hp)]
      exact wG _ _ _ (w4 _ _ e)
    · rcases r with rfl | rfl | rfl
      · exact hp
      · exact w4.free hG
      · exact hpc
/-- what the law promises its caller -/
def spLaw (K : Frag) : Sp := fun vs H Q _ => ∃ (a : Addr) (ns : List Int), vs = [.ref a] ∧ Only H ∧ SqL K H a (ns.map V.int) ∧ ns.length ≤ 63 ∧ ∀ H', Q (.bl true) H'
/-- the law's body holds: after the first statement the rest returns True -/
def RunsTrue (n : Nat) (fold : List Int → Option D) (F : M DrawSt Out) : Prop := ∀ ns : List Int, ns.length ≤ 63 → ∃ (cells : List Int) (s' : Stt DrawSt), fold ns = some (.list (cells.map PyData.int)) ∧
  F ⟨some (.s ns) :: some .h :: List.replicate n none, ⟨cells, greatOf ns, 0⟩⟩ = some (.rt (.bool true), s')
def LawQ (P : Program) (w : World) (K : Frag) (mg : Str → Option Value) (base : Heap) (k : Nat) (x : Str) (ps : List Str) (sp : Sp) : Prop :=
  ∃ (a : Addr) (fd : FuncData), FnG P w K mg base k a fd ps sp ∧ mg x = some (.ref a) ∧ PySem.W.keepIn K (.ref a) = true ∧ Binds K fd ps []
theorem law_run {K : Frag} {F : M DrawSt Out} {t : TS} {n : Nat} {a : Addr} {ns cells : List Int} {H : Hp} {Q : VK} {s' : Stt DrawSt} {pm pg pc : Addr} {H1 : Hp} (hO : Only H) (hq : SqL K H a (ns.map V.int)) (w : Same H H1)
    (at_ : drawAt pm pg pc ⟨cells, greatOf ns, 0⟩ H1) (nr : ∀ b, (drawDr pm pg pc).R b → H b = none) (m : MeanS K ⟨drawDr pm pg pc, H1, H⟩ t F) (e : F ⟨some (.s ns) :: some .h :: List.replicate n none, ⟨cells, greatOf ns, 0⟩⟩ = some (.rt (.bool true), s'))
    (hQ : ∀ H', Q (.bl true) H') (D : Ends) (hD : D.rt = Q) : t D (some (.ref a) :: some (.ref pm) :: List.replicate n none) H1 := by
  refine m ⟨some (.s ns) :: some .h :: List.replicate n none, ⟨cells, greatOf ns, 0⟩⟩ _ H1 H ⟨⟨fun b o e _ => e, Same.refl _, w, fun b o e n => ?_, nr⟩, at_, by simp, fun i z e => ?_, fun i j xs ys _ e1 => ?_⟩ _ _ e D ?_
  · rw [show H b = none from n] at e
    cases e
  · match i, e with
    | 0, e => cases e; exact ⟨.ref a, rfl, a, rfl, hq⟩
    | 1, e => cases e; exact ⟨.ref pm, rfl, rfl⟩
    | i + 2, e =>
      simp only [List.getElem?_cons_succ, List.getElem?_replicate] at e
      split at e <;> cases e
  · match i, e1 with
    | 0, e => cases e
    | 1, e => cases e
    | i + 2, e =>
      simp only [List.getElem?_cons_succ, List.getElem?_replicate] at e
      split at e <;> cases e
  · intro v H' S' _ _ r
    cases r
    rw [hD]
    exact hQ H'
/-- a term of rules chosen late -/
def tEx (p : TS → Prop) : TS := fun D σ H => ∃ t, p t ∧ t D σ H
theorem pss_ex {X : Cx} {sts : List Stmt} {p : TS → Prop} (h : ∀ t, p t → PSs X sts t) : PSs X sts (tEx p) := ⟨fun pins s σ H D I ⟨t, pt, q⟩ => (h t pt).run pins s σ H D I q⟩
end DL
end

section
set_option Elab.async false
set_option linter.all false
set_option maxRecDepth 100000
set_option maxHeartbeats 3999999
/-! WEng14: the head: what the top has left, and the law's own call -/
namespace DL
open L2 PySem PyProof.Rows PySem.Spec
/-- a constant of the module, by its datum -/
def datB (K : Frag) : D → Value → Bool
  | .none, u => (match u with
    | .none => true
    | _ => false)
  | .bool b, u => (match u with
    | .bool c => b == c
    | _ => false)
  | .int i, u => (match u with
    | .int j _ => decide (i = j)
    | _ => false)
  | .str x, u => (match u with
    | .str y _ => decide (x = y)
    | _ => false)
  | .tuple ds, u => (match u with
    | .ref a => (match K.lookup a with
      | some ⟨.type c, _, .seq its _, _⟩ => decide (c = "tuple") && (decide (its.size ≤ sizeLine) && datAll K ds its.toList)
      | _ => false)
    | _ => false)
  | _, _ => false
where datAll (K : Frag) : List D → List Value → Bool
  | [], [] => true
  | d :: ds, u :: us => datB K d u && datAll K ds us
  | _, _ => false
mutual
theorem datB_ok {K : Frag} : ∀ (d : D) (u : Value), datB K d u = true → ∃ v, RelV v u ∧ ∀ S, Dq K S v d
  | .none, u, h => by
    unfold datB at h
    cases u with
    | none => exact ⟨.non, rfl, fun S => .non⟩
    | _ => cases h
  | .bool b, u, h => by
    unfold datB at h
    cases u with
    | bool c =>
      have e : b = c := eq_of_beq h
      subst e
      exact ⟨.bl b, rfl, fun S => .bl b⟩
    | _ => cases h
  | .int i, u, h => by
    unfold datB at h
    cases u with
    | int j t =>
      have e : i = j := of_decide_eq_true h
      subst e
      exact ⟨.int i, ⟨t, rfl⟩, fun S => .int i⟩
    | _ => cases h
  | .str x, u, h => by
    unfold datB at h
    cases u with
    | str y t =>
      have e : x = y := of_decide_eq_true h
      subst e
      exact ⟨.str x, ⟨t, rfl⟩, fun S => .str x⟩
    | _ => cases h
  | .tuple ds, u, h => by
    unfold datB at h
    cases u with
    | ref a =>
      dsimp only at h
      cases q : K.lookup a with
      | none =>
        rw [q] at h
        cases h
      | some o =>
        obtain ⟨oc, od, dt, osl⟩ := o
        rw [q] at h
        cases oc with
        | type c =>
          cases dt with
          | seq its n =>
            obtain ⟨h1, h2⟩ := Bool.and_eq_true_iff.mp h
            obtain ⟨h3, h4⟩ := Bool.and_eq_true_iff.mp h2
            obtain ⟨vs, r, hd⟩ := datAll_ok ds its.toList h4
            exact ⟨.ref a, rfl, fun S => .tup (.inr ⟨_, its, n, q, congrArg Value.type (of_decide_eq_true h1), rfl, of_decide_eq_true h3, r⟩) (hd S)⟩
          | _ => cases h
        | _ => cases dt <;> cases h
    | _ => cases h
  | .list _, u, h => by
    unfold datB at h
    cases h
  | .dict _, u, h => by
    unfold datB at h
    cases h
theorem datAll_ok {K : Frag} : ∀ (ds : List D) (us : List Value), datB.datAll K ds us = true → ∃ vs, Vals vs us ∧ ∀ S, DqAll K S vs ds
  | [], [], _ => ⟨[], .nil, fun S => .nil⟩
  | d :: ds, u :: us, h => by
    unfold datB.datAll at h
    obtain ⟨h1, h2⟩ := Bool.and_eq_true_iff.mp h
    obtain ⟨v, r, hd⟩ := datB_ok d u h1
    obtain ⟨vs, rs, hds⟩ := datAll_ok ds us h2
    exact ⟨v :: vs, .cons r rs, fun S => .cons (hd S) (hds S)⟩
  | [], _ :: _, h => by cases h
  | _ :: _, [], h => by cases h
end
/-- the module's name x stands for that tuple -/
def conB (K : Frag) (p : Str × D) : Bool := match PySem.W.nsIn K mainGlobals p.1 with
  | some (some (.ref a)) => datB K p.2 (.ref a)
  | _ => false
def obsX (fa : List He.Fa) (cs : List (Str × D)) (fn : List He.DefD) (K : Frag) : He.AlD := (((fa.all fun f => f.ok K) && fn.all fun d => d.ok K) && cs.all (conB K), fn.map fun d => He.fnW K d.at_)
def SaysX (fa : List He.Fa) (cs : List (Str × D)) (fn : List He.DefD) (K : Frag) : Prop := obsX fa cs fn K = He.valD fn
def obsXG (n : Nat) (fa : List He.Fa) (cs : List (Str × D)) (fn : List He.DefD) (g : Addr → Option Obj) : He.AlD := obsX fa cs fn (He.frG g (He.asD g n))
def hookX (n : Nat) (fa : List He.Fa) (cs : List (Str × D)) (fn : List He.DefD) : PySem.W.Hook where
  α := He.AlD
  obs := fun s => obsXG n fa cs fn s.heap.get?
  val := fun _ => He.valD fn
  says := fun _ h => ∃ K : Frag, K.In h ∧ SaysX fa cs fn K
  of := fun _ _ e => ⟨_, He.frG_in, e⟩
  keeps := fun _ _ _ ⟨K, hK, c⟩ k => ⟨K, PySem.W.Frag.In.keeps hK k, c⟩
theorem obsXG_eq {n : Nat} {fa : List He.Fa} {cs : List (Str × D)} {fn : List He.DefD} {g : Addr → Option Obj} {s : Shared} (h : ∀ a, g a = s.heap.get? a) : obsXG n fa cs fn g = (hookX n fa cs fn).obs s := by
  obtain rfl : g = s.heap.get? := funext h
  rfl
section
variable {fa : List He.Fa} {cs : List (Str × D)} {fn : List He.DefD} {K : Frag} {h : Heap} {mg : Str → Option Value}
theorem SaysX.both (c : SaysX fa cs fn K) : He.SaysD fa fn K ∧ cs.all (conB K) = true := by
  have c1 : ((((fa.all fun f => f.ok K) && fn.all fun d => d.ok K) && cs.all (conB K))) = true := congrArg (fun z : He.AlD => z.1) c
  have c2 : (fn.map fun d => He.fnW K d.at_) = fn.map He.DefD.val := congrArg (fun z : He.AlD => z.2) c
  obtain ⟨h1, h2⟩ := Bool.and_eq_true_iff.mp c1
  refine ⟨?_, h2⟩
  show ((fa.all fun f => f.ok K) && fn.all fun d => d.ok K, fn.map fun d => He.fnW K d.at_) = (true, fn.map He.DefD.val)
  rw [h1, c2]
/-- a def, found by its place in the list -/
theorem SaysX.has (c : SaysX fa cs fn K) (X : K.In h) (G : h.Ns mainGlobals mg) (i j : Nat) {x : Str} {st : Stmt} {ps : List Str} (hf : fn[i]? = some ⟨(x, none), x, x, defArgs st, defBody st, defScope st, [], []⟩) (hg : fa[j]? = some (.glo x))
    (hb : ∀ (kV doc pm : Value) (an : Option Addr) (cdv ct : Value) (us : List Value), us.length = ps.length → bindArgs (PySem.W.fnOf x x (defArgs st) (defBody st) (defScope st) .none kV doc pm an cdv ct) ⟨us, []⟩ = pure (ps.zip us)) : Has K mg x st ps := by
  obtain ⟨fd, F⟩ := c.both.1.def_ i hf
  have g := He.glo_ok X G (c.both.1.fact j hg)
  have kp : PySem.W.keepIn K (.ref (He.ga K x)) = true := F.kp
  obtain ⟨oc, od, dV, kV, doc, pm, an, cdv, ct, osl, rfl, lk, hcd, hD, hK⟩ := F.ex
  rcases hD with ⟨_, rfl⟩ | ⟨e, _⟩
  · have FF : Fun K x x st (He.ga K x) (PySem.W.fnOf x x (defArgs st) (defBody st) (defScope st) .none kV doc pm an cdv ct) := ⟨⟨oc, od, kV, doc, pm, an, cdv, ct, osl, rfl, lk, hcd⟩, kp⟩
    exact ⟨_, _, FF, g, kp, FF.binds hb⟩
  · exact absurd rfl e
theorem SaysX.free (c : SaysX fa cs fn K) (X : K.In h) (G : h.Ns mainGlobals mg) (j : Nat) {x : Str} (hg : fa[j]? = some (.free x)) : mg x = none := He.free_ok X G (c.both.1.fact j hg)
theorem SaysX.int (c : SaysX fa cs fn K) (X : K.In h) (G : h.Ns mainGlobals mg) (j : Nat) {x : Str} {i : Int} (hg : fa[j]? = some (.int x i)) : ∃ t, mg x = some (.int i t) := He.int_ok X G (c.both.1.fact j hg)
theorem SaysX.con (c : SaysX fa cs fn K) (X : K.In h) (G : h.Ns mainGlobals mg) (j : Nat) {x : Str} {d : D} (hg : cs[j]? = some (x, d)) : ∃ a, mg x = some (.ref a) ∧ ∀ S, Dq K S (.ref a) d := by
  have h1 := List.all_eq_true.mp c.both.2 (x, d) (List.mem_of_getElem? hg)
  unfold conB at h1
  dsimp only at h1
  split at h1
  · rename_i a e
    obtain ⟨v, r, hd⟩ := datB_ok _ _ h1
    have e2 := PySem.W.mg_of X G e
    cases v with
    | ref b =>
      obtain rfl : a = b := by
        have r' : Value.ref a = Value.ref b := r
        cases r'
        rfl
      exact ⟨a, e2, hd⟩
    | _ =>
      have := hd (fun _ => none)
      first
        | (obtain ⟨t, r'⟩ := r; cases r')
        | cases r
  · cases h1
end
/-! ### the law called by its caller -/
theorem law_callG {P : Program} {w : World} {K : PySem.W.Frag} {mg mb : Str → Option Value} {k : Nat} {fa a : Addr} {x0 x : Str} {sp : Sp} {s₁ : Shared} {vs : List Value} {ns : List Int}
    (KX : K.In s₁.heap) (hns : s₁.heap.Ns mainGlobals mg) (hb : s₁.heap.Ns builtinsNs mb) (hbb : ∀ x : Str, x ≠ "__name__" → mb x = bootBuiltins x)
    (hlim : s₁.heap.NoLimit) (hg : s₁.gens = #[]) (ha : s₁.heap.get? a = some { cls := .type "list", data := .seq vs.toArray }) (hi : IntsAre vs ns)
    (hl : ns.length ≤ sizeLine) (hr : Room k callerA) (hgd : callerA.guards = some []) (hfa : mg x0 = some (.ref fa))
    (F : ∀ base : Heap, K.In base → base.Ns mainGlobals mg → LawQ P w K mg base k x0 [x] sp)
    (hsp : ∀ H : Hp, Only H → SqL K H a (ns.map V.int) → sp [.ref a] H (fun v _ => v = .bl true) fun _ _ _ => False) :
    codeAny (model P w) callerA (.call (.ref fa) ⟨[.ref a], []⟩) (fun r s' => r = .ok (.ret (.bool true)) ∧ OldK s₁.heap s'.heap ∧ s'.os = s₁.os ∧ AllBare s'.gens) s₁ := by
  have rv := vals_ints hi
  have lenV := hi.length
  have core : ∀ H : Hp, Only H → SqL K H a (ns.map V.int) → HOk P w H s₁.heap → (∀ b, H b ≠ none → b = a) → (H a ≠ none → K.lookup a = none) →
      codeAny (model P w) callerA (.call (.ref fa) ⟨[.ref a], []⟩) (fun r s' => r = .ok (.ret (.bool true)) ∧ OldK s₁.heap s'.heap ∧ s'.os = s₁.os ∧ AllBare s'.gens) s₁ := by
    intro H hO hS hok hA hK
    have noA : ∀ {b : Addr} {o : Obj} {es : Array DictEntry} {ep : Nat}, s₁.heap.get? b = some o → o.data = .dict es ep → H b = none := by
      intro b o es ep e d
      cases q : H b with
      | none => rfl
      | some u =>
        have e' : b = a := hA b (by simp [q])
        subst e'
        rw [ha] at e
        cases e
        have d' : Data.seq vs.toArray _ = Data.dict es ep := d
        cases d'
    have nsK : ∀ {b : Addr} {m : Str → Option Value}, s₁.heap.Ns b m → (hidT s₁.heap H).Ns b m := by
      rintro b m ⟨o, es, ep, e, d, r⟩
      exact ⟨o, es, ep, hidT_get e (noA e d), d, r⟩
    have hKb : K.In (hidT s₁.heap H) := by
      intro b o e
      refine hidT_get (KX b o e) ?_
      cases q : H b with
      | none => rfl
      | some u =>
        have e' : b = a := hA b (by simp [q])
        subst e'
        rw [hK (by simp [q])] at e
        cases e
    have hM : Mod K mg (hidT s₁.heap H) := by
      obtain ⟨mc, h1, h2⟩ := hlim
      exact ⟨hKb, nsK hns, ⟨mb, nsK hb, hbb⟩, ⟨mc, nsK h1, h2⟩⟩
    have e0 : Env0 P w K mg (hidT s₁.heap H) callerA [] s₁ H :=
      ⟨rfl, hM, fun b o e => of_hidT e, Nat.le_of_eq (hidT_size _ _), trivial, fun b hb => absurd (show b ∈ ([] : List Addr) from hb) (by simp), hok, .of_eq hg⟩
    obtain ⟨fa', fd, Fn, hm, _, hb⟩ := F _ hKb (nsK hns)
    obtain rfl : fa = fa' := by
      have q := hfa.symm.trans hm
      cases q
      rfl
    have run := Fn.run callerA [] s₁ H ⟨[.ref a], []⟩ [.ref a] [.ref a] _ _ hr hgd e0 (hb s₁ [.ref a] KX rfl) (.cons rfl .nil) (hsp H hO hS)
    refine codeAny_mono run ?_
    intro r s' h
    match r, h with
    | .error e, h => exact h.elim
    | .ok .next, h => exact False.elim h
    | .ok .brk, h => exact False.elim h
    | .ok .cont, h => exact False.elim h
    | .ok (.ret u), h =>
      obtain ⟨v, H', os, bare, un, hok', r', q⟩ := h
      have q' : v = .bl true := q
      subst q'
      obtain rfl : u = Value.bool true := r'
      refine ⟨rfl, OldK.of_keep ?_, os, bare⟩
      intro b o e
      cases q : H b with
      | none => exact un.keep b o e q (by intro z; exact absurd (show b ∈ ([] : List Addr) from z) (by simp)) (by simp)
      | some u =>
        rcases hO b with z | ⟨ob, xs, z⟩
        · rw [q] at z
          cases z
        · have z2 := un.frzs b ob _ z
          obtain ⟨e1, _⟩ := hok b _ z
          obtain ⟨e2, _⟩ := hok' b _ z2
          rw [e] at e1
          cases e1
          exact e2
  cases hk : K.lookup a with
  | some o =>
    have e := KX a o hk
    rw [ha] at e
    cases e
    have sq : SqL K (fun _ => none) a (ns.map V.int) := .inr ⟨_, vs.toArray, _, hk, rfl, rfl, rfl, by rw [List.size_toArray, lenV]; exact hl, by simpa using rv⟩
    refine core (fun _ => none) (fun _ => .inl rfl) sq (fun b u z => ?_) (fun b z => absurd rfl z) fun z => absurd rfl z
    have z' : (none : Option HO) = some u := z
    cases z'
  | none =>
    have here : (fun b => if b = a then some (HO.frz { cls := .type "list", data := .seq vs.toArray } (.lst (ns.map V.int))) else none) a = some (HO.frz { cls := .type "list", data := .seq vs.toArray } (.lst (ns.map V.int))) := if_pos rfl
    refine core (fun b => if b = a then some (.frz { cls := .type "list", data := .seq vs.toArray } (.lst (ns.map V.int))) else none) (fun b => ?_) (.inl (.inr ⟨{ cls := .type "list", data := .seq vs.toArray }, here⟩)) (fun b u z => ?_) (fun b z => ?_) fun _ => hk
    · by_cases hb : b = a
      · exact .inr ⟨_, _, if_pos hb⟩
      · exact .inl (if_neg hb)
    · by_cases hb : b = a
      · have z' := (if_pos hb).symm.trans z
        cases z'
        subst hb
        exact ⟨ha, by simpa using hl, vs, _, rv, ha⟩
      · have z' := (if_neg hb).symm.trans z
        cases z'
    · by_cases hb : b = a
      · exact hb
      · exact absurd (if_neg hb) z
/-- the head's last goal, from the law's promise over every base -/
theorem walkX {l : PySem.W.OpenLaw} {k : Nat} {q : Program} {loose : List Str} {XP : (Str → Option Value) → Heap → Prop} {fa : List He.Fa} {cs : List (Str × D)} {fn : List He.DefD} {d : DefRec} {m : Nat}
    (hn : l.most = some 63) (hdf : d.params.defaults = []) (hr : Room k callerA) (hname : d.name = ("law" : Str))
    (F : ∀ (P : Program) (w : World) (K : Frag) (mg : Str → Option Value) (h : Heap), K.In h → h.Ns mainGlobals mg → SaysX fa cs fn K → ∀ base : Heap, LawQ P w K mg base k "law" ["script"] (spLaw K)) :
    PySem.W.WalkO q loose XP (hookX m fa cs fn).says l.row.toRowW d [] (fun f vs => PySem.call f vs) := by
  refine Att.attach_call hn hdf ?_
  intro w s₀ s₁ mg mb fa o pm cd doc a vs ns G Y ho hd hcd hmg hobj hints hlen hg
  obtain ⟨K, KX, c⟩ := Y
  rw [hname] at hmg
  refine law_callG (x0 := "law") (x := "script") (sp := spLaw K) KX G.T.g G.T.b G.T.builtins G.T.nolimit hg hobj hints ?_ hr rfl hmg (fun base _ _ => F l.prog w K mg _ KX G.T.g c base) fun H hO hS => ⟨a, ns, rfl, hO, hS, hlen, fun _ => rfl⟩
  rw [sizeLine_eq]
  omega
end DL
end

section
set_option Elab.async false
set_option linter.all false
set_option maxRecDepth 100000
set_option maxHeartbeats 3999999
/-! WEng15: xs.pop(i) as a value, sorted of whole numbers, sorted(set(..)) of whole numbers -/
namespace DL
open L2 PySem PyProof.Rows PySem.Spec
variable {τ α β : Type}
theorem DqAll.erase {K : Frag} {S : Hp} : ∀ (n : Nat) {vs : List V} {ds : List D}, DqAll K S vs ds → DqAll K S (vs.eraseIdx n) (ds.eraseIdx n)
  | _, _, _, .nil => .nil
  | 0, _, _, .cons _ t => t
  | n + 1, _, _, .cons g t => .cons g (DqAll.erase n t)
theorem Free.changeS {K : Frag} {B : Bd τ} {s : Stt τ} {σ : List (Option V)} {H S : Hp} {p q : Addr} {i : Nat} {xs ys zs : List D} {ws : List V} (f : Free K B s σ H S p xs) (e : s.env[i]? = some (some (.own ys))) (h1 : σ[i]? = some (some (.ref q))) :
    Free K B { s with env := s.env.set i (some (.own zs)) } σ (upd H q (.lst ws)) S p xs := by
  obtain ⟨⟨vs, hp, ha⟩, ns, n0, nr, no⟩ := f
  refine ⟨⟨vs, by rw [upd_ne (fun z => no i ys e (by rw [z]; exact h1))]; exact hp, ha⟩, ns, n0, nr, fun j us e' => ?_⟩
  rcases set_get e' with ⟨rfl, _⟩ | ⟨_, q⟩
  · exact no _ ys e
  · exact no j us q
/-- the list that a slot owns changes: what is left of it -/
theorem step_change {K : Frag} {B : Bd τ} {s : Stt τ} {σ : List (Option V)} {H S : Hp} {q : Addr} {i : Nat} {ys zs : List D} {vs ws : List V} (e : s.env[i]? = some (some (.own ys))) (h1 : σ[i]? = some (some (.ref q))) (hq : H q = some (.lst vs)) :
    Step K B σ s H S { s with env := s.env.set i (some (.own zs)) } (upd H q (.lst ws)) S :=
  ⟨Same.refl _, fun p h => by
    by_cases z : p = q
    · subst z; rw [upd_same] at h; cases h
    · rw [upd_ne z] at h; exact h, fun p xs f => f.changeS e h1⟩
section
variable {Γ : Gam} {B : Bd τ} {pos : Pos} {e : Expr} {F : M τ Opd}
/-- xs.pop(e) -/
def popIx (i : Nat) (y : D) : M τ Opd := fun s => match s.env[i]?, y with
  | some (some (.own xs)), .int k => if decide (-(2 ^ 63) ≤ k) && decide (k < 2 ^ 63) then (match seqIndex? k xs.length with
    | some j => (match xs[j]? with
      | some d => some (.val d, { s with env := s.env.set i (some (.own (xs.eraseIdx j))) })
      | none => none)
    | none => none) else none
  | _, _ => none
def popM (i : Nat) (F : M τ Opd) : M τ Opd := bnd (ownAt i) fun _ => bnd F fun o => bnd (getO o) fun y => popIx i y
theorem DO.pop {i : Nat} {x : Str} {p0 apos cpos : Pos} (hN : Γ.N[i]? = some x) (hv : Vis Γ.sc x) (h : DO Γ B e F) (hl : (apos.endLine == cpos.line) = true := by rfl) (hst : ∀ X : Cx, starEach [e] X.env = (false, eval e X.env) :: starEach [] X.env := by intro _; rfl)
    (hd : (x == ("__debug__" : Str)) = false := by decide) (hcd : (x == ("__classdict__" : Str)) = false := by decide)
    (hb : ∀ X : Cx, attributeBase (.Name x p0) "pop" X.env (eval (.Name x p0) X.env) = eval (.Name x p0) X.env := by intro _; rfl)
    (hfew : ∀ X : Cx, ((backTo cpos (starEach [e] X.env)).all (fun x => !x.1) && (backToKw cpos (keywordEach [] X.env)).all (fun x => x.1.isSome) && decide ([e].length + ([] : List Keyword).length + (if ([] : List Keyword).isEmpty then 0 else 1) < 30)) = true := by intro _; rfl) :
    DO Γ B (.Call (.Attribute (.Name x p0) "pop" apos) [e] [] cpos) (popM i F) := by
  obtain ⟨t, p, m⟩ := h
  refine ⟨tBM Γ.K "list" rPopAt (tVar i) (tCons t tNil), fun X h => by
      have r := pe_bm PySem.F.plainAttrs_list PySem.F.slot_list_pop PySem.F.type_list_pop mt_popAt (pe_var (i := i) (by rw [h.N]; exact hN) (by rw [h.sc]; exact hv) hd hcd) (pa_cons (p X h) pa_nil (hst X)) (hb X) (hfew X) hl (hst X) rfl
      rw [h.K] at r
      exact r,
    fun s σ H S g o s' e Q q => ?_⟩
  obtain ⟨_, s0, e0, e⟩ := bnd_some e
  obtain ⟨o1, s1, e1, e2⟩ := bnd_some e
  obtain ⟨y, s2, e3, e4⟩ := bnd_some e2
  unfold ownAt at e0
  split at e0
  · rename_i xs0 q0
    cases e0
    obtain ⟨pa, vs0, h1, hp0, _⟩ := g.getOwn q0
    refine ⟨_, h1, .inl ⟨rfl, _, SqL.of hp0⟩, m s σ H S g o1 s1 e1 _ fun v H1 S1 g1 w1 r1 _ => ?_⟩
    obtain ⟨rfl, vy⟩ := view_of g1 r1 e3
    unfold popIx at e4
    split at e4
    · rename_i xs k q1
      split at e4
      · rename_i hk
        obtain ⟨k1, k2⟩ := Bool.and_eq_true_iff.mp hk
        split at e4
        · rename_i j hj
          split at e4
          · rename_i d hd'
            cases e4
            obtain ⟨pb, vs, h2, hp, ha, _⟩ := g1.getOwn q1
            rw [h1] at h2
            cases h2
            obtain ⟨u, hu, ru⟩ := ha.getD hd'
            obtain rfl := vy.int
            refine ⟨_, vs, k, j, u, rfl, rfl, hp, of_decide_eq_true k1, of_decide_eq_true k2, by rw [ha.len]; exact hj, hu, ?_⟩
            exact q u _ S1 (g1.change q1 h1 (DqAll.erase j ha)) (w1.trans (step_change q1 h1 hp)) ru trivial
          · cases e4
        · cases e4
      · cases e4
    · cases e4
  · cases e0
/-! ### sorted -/
def insI (x : Int) : List Int → List Int
  | [] => [x]
  | y :: r => if x ≤ y then x :: y :: r else y :: insI x r
def sortI : List Int → List Int
  | [] => []
  | x :: r => insI x (sortI r)
theorem insI_perm (x : Int) : ∀ l : List Int, (insI x l).Perm (x :: l)
  | [] => .refl _
  | y :: r => by
    unfold insI
    split
    · exact .refl _
    · exact ((insI_perm x r).cons y).trans (.swap x y r)
theorem sortI_perm : ∀ l : List Int, (sortI l).Perm l
  | [] => .refl _
  | x :: r => (insI_perm x (sortI r)).trans ((sortI_perm r).cons x)
theorem insI_sorted (x : Int) : ∀ {l : List Int}, l.Pairwise (· ≤ ·) → (insI x l).Pairwise (· ≤ ·)
  | [], _ => by simp [insI]
  | y :: r, h => by
    unfold insI
    obtain ⟨h1, h2⟩ := List.pairwise_cons.mp h
    split
    · rename_i hxy
      refine List.pairwise_cons.mpr ⟨fun z hz => ?_, h⟩
      rcases List.mem_cons.mp hz with rfl | hz
      · exact hxy
      · exact Int.le_trans hxy (h1 z hz)
    · rename_i hxy
      refine List.pairwise_cons.mpr ⟨fun z hz => ?_, insI_sorted x h2⟩
      rcases List.mem_cons.mp ((insI_perm x r).mem_iff.mp hz) with rfl | hz
      · omega
      · exact h1 z hz
theorem sortI_sorted : ∀ l : List Int, (sortI l).Pairwise (· ≤ ·)
  | [] => .nil
  | x :: r => insI_sorted x (sortI_sorted r)
theorem sortI_eq {l m : List Int} (p : m.Perm l) (h : m.Pairwise (· ≤ ·)) : m = sortI l :=
  List.Perm.eq_of_pairwise (le := (· ≤ ·)) (fun a b _ _ h1 h2 => Int.le_antisymm h1 h2) h (sortI_sorted l) (p.trans (sortI_perm l).symm)
def sortedD : List D → Option Opd := fun xs => match xs with
  | [.list ys] => (intsOf ys).map fun ns => .new ((sortI ns).map .int)
  | _ => none
theorem cd_sorted : CallD Γ (.builtin "sorted") sortedD := by
  refine ⟨rSortedI Γ.K, fun X h => by have := @cr_sortedI X; rw [h.K] at this; exact this, fun H S vs xs o w vl e Q q => ?_⟩
  unfold sortedD at e
  split at e
  · rename_i ys
    obtain ⟨v, rfl, vx⟩ := viewL1 vl
    obtain ⟨p, us, rfl, hp, ha⟩ := vx.lst w
    obtain ⟨ns, e1, rfl⟩ := Option.map_eq_some_iff.mp e
    obtain rfl := ints_of ha e1
    refine ⟨p, ns, rfl, SqL.of hp, fun ns' p' pm pw n => ?_⟩
    rw [sortI_eq pm pw]
    exact q _ _ _ (.new n (DqAll.ints _))
  · cases e
/-! ### sorted(set(e)), e a tuple of whole numbers -/
def rSetT (K : Frag) (w : World) : List V → Hp → VK → Prop := fun vs H Q => ∃ (a : Addr) (ns : List Int), vs = [V.ref a] ∧ SqT K H a (ns.map V.int) ∧ ns.length < 64 ∧ ∀ (p : Addr) (c : Nat), H p = none → c ≤ ns.length → Q (.ref p) (upd H p (SetO w p (fun j => decide (j ∈ ns)) c))
theorem cr_setT {X : Cx} (hc : X.calm = true) : CallR X (.type "set") (rSetT X.K X.w) := by
  intro pins s σ H vs us Q I r h
  obtain ⟨a, ns, rfl, hs, hl, q⟩ := h
  obtain ⟨its, rv, hT, hz⟩ := I.tuple hs
  rw [Vals.ref1 r]
  have hi := rv.ints
  have h64 : (64 : Nat) < scanBound := by decide
  refine call_set_tupI ns (I.ok.hd hc) hT hi (by omega) fun h' tk c R hcl k => ?_
  have hp : s.heap.objs.size ≤ s.heap.objs.size := Nat.le_refl _
  have hn : H s.heap.objs.size = none := I.hok.fresh hp
  have J : Inv X pins σ (upd H s.heap.objs.size (SetO X.w s.heap.objs.size (fun j => decide (j ∈ ns)) c)) { s with heap := h', gens := s.gens, drawn := s.drawn, toks := tk } :=
    I.call (ch := []) (Un.laid k hp hn) (I.hok.laid k hp (setO_new R)) I.bare (fun _ z => nomatch z)
  exact ⟨.ref s.heap.objs.size, _, J, rfl, q s.heap.objs.size c hn hcl⟩
def dd : List Int → List Int
  | [] => []
  | x :: r => if x ∈ r then dd r else x :: dd r
theorem dd_mem (x : Int) : ∀ l : List Int, x ∈ dd l ↔ x ∈ l
  | [] => Iff.rfl
  | y :: r => by
    unfold dd
    split
    · rename_i h
      rw [dd_mem x r, List.mem_cons]
      exact ⟨.inr, fun z => z.elim (fun z => z ▸ h) id⟩
    · rw [List.mem_cons, List.mem_cons, dd_mem x r]
theorem dd_nodup : ∀ l : List Int, (dd l).Nodup
  | [] => .nil
  | y :: r => by
    unfold dd
    split
    · exact dd_nodup r
    · rename_i h
      exact List.nodup_cons.mpr ⟨fun z => h ((dd_mem y r).mp z), dd_nodup r⟩
theorem sortI_dd {l m : List Int} (h : m.Pairwise (· < ·)) (hm : ∀ k, k ∈ m ↔ k ∈ l) : m = sortI (dd l) := by
  refine sortI_eq ?_ (h.imp fun {a b} z => Int.le_of_lt z)
  refine (List.perm_ext_iff_of_nodup (h.imp fun {a b} z => Int.ne_of_lt z) (dd_nodup l)).mpr fun k => ?_
  rw [hm, dd_mem]
def setT (x : D) : Option Opd := match x with
  | .tuple ys => (intsOf ys).bind fun ns => if decide (ns.length < 64) then some (.new ((sortI (dd ns)).map .int)) else none
  | _ => none
def sortSetM (F : M τ Opd) : M τ Opd := bnd (lateM F) fun o => bnd (getO o) fun x => lift (setT x)
theorem DO.sortSet {p p2 pos2 : Pos} (hg1 : Γ.sc.names.lookup ("sorted" : Str) = some .globalImplicit) (hm1 : Γ.mg "sorted" = none) (hg2 : Γ.sc.names.lookup ("set" : Str) = some .globalImplicit) (hm2 : Γ.mg "set" = none) (ha : DO Γ B e F)
    (he : ∀ X : Cx, starEach [e] X.env = (false, eval e X.env) :: starEach [] X.env := by intro _; rfl)
    (he1 : ∀ X : Cx, starEach [.Call (.Name "set" p2) [e] [] pos2] X.env = (false, eval (.Call (.Name "set" p2) [e] [] pos2) X.env) :: starEach [] X.env := by intro _; rfl) :
    DO Γ B (.Call (.Name "sorted" p) [.Call (.Name "set" p2) [e] [] pos2] [] pos) (sortSetM F) := by
  obtain ⟨t, pa, m⟩ := ha
  refine ⟨tCB (rSortedSet Γ.w) (tCons (tCB (rSetT Γ.K Γ.w) (tCons t tNil)) tNil), fun X h => ?_, fun s σ H S g o s' e Q q => ?_⟩
  · have c1 := cr_setT h.calm
    have c2 := cr_sortedSet h.calm
    have r1 := pe_callTy (p := p2) (pos := pos2) c1 (gl_of h hg2) (by rw [h.mg]; exact hm2) (by decide +kernel) (pa_cons (pa X h) pa_nil (he X)) (by decide) (by decide) (he X) rfl
    have r2 := pe_callB (p := p) (pos := pos) c2 (gl_of h hg1) (by rw [h.mg]; exact hm1) (by decide +kernel) (pa_cons r1 pa_nil (he1 X)) (by decide) (by decide) (he1 X) rfl
    rw [h.K, h.w] at r2
    exact r2
  · obtain ⟨o1, s1, e1, e2⟩ := bnd_some e
    obtain ⟨x, s2, e3, e4⟩ := bnd_some e2
    obtain ⟨ez, rfl⟩ := lift_some e4
    refine m.late g e1 fun v H1 S1 g1 w1 r1 => ?_
    obtain ⟨rfl, vx⟩ := view_of g1 r1.rel e3
    unfold setT at ez
    split at ez
    · rename_i ys
      obtain ⟨p, us, rfl, hp, hq⟩ := vx.tup
      obtain ⟨ns, e5, e6⟩ := Option.bind_eq_some_iff.mp ez
      split at e6
      · rename_i hl
        cases e6
        obtain rfl := ints_of hq e5
        have hl := of_decide_eq_true hl
        refine ⟨p, ns, rfl, seqT_mono g1.fr.sub hp, hl, fun c n hc hn => ?_⟩
        have gr := Grow.fresh (o := SetO Γ.w c (fun j => decide (j ∈ ns)) n) g1.fr.sub hc
        have g2 := g1.grow gr
        refine ⟨c, _, n, rfl, upd_same, by omega, fun ms d h1 h2 h3 h4 => ?_⟩
        have em := sortI_dd h1 (l := ns) (fun k => by rw [h2 k]; exact decide_eq_true_iff)
        obtain ⟨g3, f⟩ := Good.free g2 h4 (DqAll.ints ms)
        rw [← em] at q
        have st := (w1.trans gr.step).trans (Grow.fresh (o := .lst (ms.map V.int)) g2.fr.sub h4).step
        exact q _ _ _ g3 st ⟨d, rfl, f⟩ ⟨d, rfl, (w1.trans gr.step).dom d h4⟩
      · cases e6
    · cases ez
end
end DL
end

section
set_option Elab.async false
set_option linter.all false
set_option maxRecDepth 100000
set_option maxHeartbeats 3999999
/-! WEng16: ranges in slots; a table (a list of lists that change) kept as the thing that B carries; calls that look at it -/
namespace L2
open PySem PySem.Spec PyProof.Rows
section
variable {X : Cx} {tg : Expr}
theorem cr_range1 : CallR X (.type "range") (fun vs H Q => ∃ j, vs = [V.int j] ∧ ∀ p, H p = none → Q (.ref p) (upd H p (.rng 0 j))) := by
  intro pins s σ H vs us Q I r h
  obtain ⟨j, rfl, q⟩ := h
  cases r with
  | cons r rr =>
    cases rr
    obtain ⟨t, rfl⟩ := r
    refine call_range_1 ⟨.ref s.heap.objs.size, upd H s.heap.objs.size (.rng 0 j), I.laid (t' := s.toks + 1 + 1) (fun b o e => Heap.get?_push_of_some _ e) (Nat.le_refl _) ?_, rfl, q _ (I.hok.fresh (Nat.le_refl _))⟩
    exact ⟨_, t, _, Heap.get?_push_size _ rfl⟩
def iRngV (ta : TE) : TI := fun σ H R => ta σ H fun x H1 => ∃ a lo hi, x = .ref a ∧ H1 a = some (.rng lo hi) ∧ -(2 ^ 62) ≤ lo ∧ lo < 2 ^ 62 ∧ -(2 ^ 62) ≤ hi ∧ hi < 2 ^ 62 ∧ R (Itr lo (hi - lo).toNat) H1
theorem pi_rngV {l : Expr} {tl : TE} (hl : PE X l tl) : PI X tg l (iRngV tl) := by
  refine ⟨fun pins s σ H R I h => ?_⟩
  refine thn (hl.run pins s σ H _ I h) fun v s1 ⟨x, H1, I1, r1, q1⟩ => ?_
  obtain ⟨a, lo, hi, e, hq, h1, h2, h3, h4, q⟩ := q1
  subst e
  cases r1
  obtain ⟨t, u, v, hg⟩ := I1.hok a _ hq
  refine wpAny_pyIter_range (a := lo) (b := hi) (c := 1) (t := t) (u := u) (v := v) hg (small_one h1 h2 h3 h4) ?_
  refine ⟨s1.heap.objs.size, [s1.heap.objs.size], _, _, H1, rfl, I1.kept (t' := s1.toks) fun b o e => Heap.get?_push_of_some _ e, turn_range _ lo (hi - lo).toNat, ?_, fun b hb => ?_, q⟩
  · have e1 : lo + ((0 : Nat) : Int) * 1 = lo := by simp
    have e2 : (((hi - lo).toNat : Nat) : Int) - ((0 : Nat) : Int) = Builtin.Range.rangeSize lo hi 1 := by rw [rangeSize_one]; split <;> omega
    show IsRangeIter _ _ (lo + ((0 : Nat) : Int) * 1) ((((hi - lo).toNat : Nat) : Int) - ((0 : Nat) : Int)) 1
    rw [e1, e2]
    exact Heap.get?_push_size _ rfl
  · have e : b = s1.heap.objs.size := by simpa using hb
    subst e
    exact I1.fpOk (Nat.le_refl _) (I1.hok.fresh (Nat.le_refl _))
end
end L2
namespace DL
open L2 PySem PyProof.Rows PySem.Spec
variable {τ α β : Type}
/-! ### ranges -/
section
variable {K : Frag} {B : Bd τ} {s : Stt τ} {σ : List (Option V)} {H S : Hp}
theorem Good.setR (g : Good K B s σ H S) {i : Nat} {p : Addr} {lo hi : Int} (h : S p = some (.rng lo hi)) : Good K B { s with env := s.env.set i (some (.r lo hi)) } (σ.set i (some (.ref p))) H S := by
  refine ⟨g.fr, g.at_, by simp [g.len], fun j z e => ?_, fun j k xs ys n e1 e2 => ?_⟩
  · have hl : i = j → j < σ.length := fun q => by
      subst q
      have := set_at (l := s.env) e
      rw [← g.len]; exact this
    rcases set_get e with ⟨rfl, e'⟩ | ⟨n, e'⟩
    · cases e'
      exact ⟨_, List.getElem?_set_self (hl rfl), p, rfl, h⟩
    · rw [List.getElem?_set_ne n]
      exact g.slot j z e'
  · rcases set_get e1 with ⟨_, q⟩ | ⟨n1, e1'⟩
    · cases q
    rcases set_get e2 with ⟨_, q⟩ | ⟨n2, e2'⟩
    · cases q
    rw [List.getElem?_set_ne n1, List.getElem?_set_ne n2]
    exact g.disj j k xs ys n e1' e2'
end
def numO (o : Opd) : M τ Int := bnd (getO o) fun x => match x with
  | .int i => ret i
  | _ => stuck
theorem num_of {K : Frag} {B : Bd τ} {s s' : Stt τ} {σ : List (Option V)} {H S : Hp} {v : V} {o : Opd} {i : Int} (g : Good K B s σ H S) (r : RelO K B s σ H S v o) (e : numO o s = some (i, s')) : s' = s ∧ v = .int i := by
  obtain ⟨x, s1, e1, e2⟩ := bnd_some e
  obtain ⟨rfl, vx⟩ := view_of g r e1
  cases x with
  | int j =>
    obtain ⟨rfl, rfl⟩ := ret_some e2
    exact ⟨rfl, vx.int⟩
  | _ => cases e2
section
variable {Γ : Gam} {B : Bd τ} {pos : Pos} {e a b : Expr} {F Fa Fb : M τ Opd}
def setRgM (i : Nat) (F : M τ Opd) : M τ Out := bnd F fun o => bnd (numO o) fun n => fun s => some (.nx, { s with env := s.env.set i (some (.r 0 n)) })
theorem DS.setRg {i : Nat} {x : Str} {pos' p cpos : Pos} (nd : Γ.N.Nodup) (hi : Γ.N[i]? = some x) (hx : Loc Γ.sc x) (hf : Γ.fn x = true ∨ Γ.sc.names.lookup x = some .local) (h : DO Γ B e F) (hg : Γ.sc.names.lookup ("range" : Str) = some .globalImplicit) (hm : Γ.mg "range" = none)
    (he : ∀ X : Cx, starEach [e] X.env = (false, eval e X.env) :: starEach [] X.env := by intro _; rfl)
    (hs : ∀ X : Cx, swapsWith (.Call (.Name "range" p) [e] [] cpos) (some (.Name x pos')) pos.line X.env = pure false := by intro _; rfl) : DS Γ B (.Assign [.Name x pos'] (.Call (.Name "range" p) [e] [] cpos) pos) (setRgM i F) := by
  obtain ⟨t, pe, m⟩ := h
  refine ⟨_, fun X h => ps_set (by rw [h.N]; exact nd) (by rw [h.N]; exact hi) (by rw [h.sc]; exact hx) (pe_callTy cr_range1 (gl_of h hg) (by rw [h.mg]; exact hm) (by decide +kernel) (pa_cons (pe X h) pa_nil (he X)) (by decide) (by decide) (he X) rfl) (hs X) (by
    rcases hf with z | z
    · exact h.fn x z
    · exact .inr (by rw [h.sc]; exact z)), fun s σ H S g o s' e D q => ?_⟩
  obtain ⟨o1, s1, e1, e2⟩ := bnd_some e
  obtain ⟨n, s2, e3, e4⟩ := bnd_some e2
  cases e4
  refine m s σ H S g o1 s1 e1 _ fun v H1 S1 g1 w1 r1 _ => ?_
  obtain ⟨rfl, rfl⟩ := num_of g1 r1 e3
  refine ⟨n, rfl, fun p hp => ?_⟩
  have gr := Grow.alloc (o := .rng 0 n) g1.fr.sub hp
  exact q _ _ _ ((g1.grow gr).setR upd_same) (w1.same.trans gr.s)
def rngAt (i : Nat) : M τ (List D) := fun s => match s.env[i]? with
  | some (some (.r lo hi)) => if rgOk lo hi then some (rgD lo hi, s) else none
  | _ => none
theorem DI.rng {i : Nat} {x : Str} {p : Pos} {tg : Expr} (hN : Γ.N[i]? = some x) (hv : Vis Γ.sc x) (hd : (x == ("__debug__" : Str)) = false := by decide) (hcd : (x == ("__classdict__" : Str)) = false := by decide) : DI Γ B tg (.Name x p) (rngAt i) := by
  refine ⟨iRngV (tVar i), fun X h => pi_rngV (pe_var (by rw [h.N]; exact hN) (by rw [h.sc]; exact hv) hd hcd), fun s σ H S g xs s' e R q => ?_⟩
  unfold rngAt at e
  split at e
  · rename_i lo hi e1
    split at e
    · rename_i hz
      cases e
      obtain ⟨v, h1, a, rfl, h2⟩ := g.slot i _ e1
      obtain ⟨b1, b2, b3, b4, b5⟩ := rgOk_of hz
      exact ⟨_, h1, a, lo, hi, rfl, g.fr.sub _ _ h2, b1, b2, b3, b4, q _ H S g Step.refl (walkR lo hi)⟩
    · cases e
  · cases e
end

/-! ### a table: a list of lists of plain values, all of them changed in place -/
def noH : Hp := fun _ => none
theorem noH_same (S : Hp) : Same noH S := fun b o e => by cases e
def plainD : D → Bool
  | .none => true
  | .bool _ => true
  | .int _ => true
  | .str _ => true
  | _ => false
theorem plain_dq {K : Frag} {S : Hp} {v : V} {d : D} (h : plainD d = true) (r : Dq K S v d) : Dq K noH v d := by
  cases r with
  | non => exact .non
  | bl b => exact .bl b
  | int i => exact .int i
  | str x => exact .str x
  | _ => cases h
inductive Rows (K : Frag) (H : Hp) : List Addr → List (List D) → Prop
  | nil : Rows K H [] []
  | cons {q : Addr} {qs : List Addr} {row : List D} {rows : List (List D)} {vs : List V} : H q = some (.lst vs) → DqAll K noH vs row → Rows K H qs rows → Rows K H (q :: qs) (row :: rows)
section
variable {K : Frag} {H H' : Hp}
theorem Rows.len : ∀ {ps : List Addr} {st : List (List D)}, Rows K H ps st → ps.length = st.length
  | _, _, .nil => rfl
  | _, _, .cons _ _ h => by rw [List.length_cons, List.length_cons, h.len]
theorem Rows.get : ∀ {ps : List Addr} {st : List (List D)} {j : Nat} {row : List D}, Rows K H ps st → st[j]? = some row → ∃ q vs, ps[j]? = some q ∧ H q = some (.lst vs) ∧ DqAll K noH vs row
  | _, _, _, _, .nil, e => by simp at e
  | _, _, 0, row, .cons h1 h2 _, e => by
    simp at e
    subst e
    exact ⟨_, _, rfl, h1, h2⟩
  | _, _, j + 1, row, .cons _ _ h, e => by
    obtain ⟨q, vs, h1, h2⟩ := Rows.get (j := j) h (by simpa using e)
    exact ⟨q, vs, by simpa using h1, h2⟩
theorem Rows.mono : ∀ {ps : List Addr} {st : List (List D)}, Rows K H ps st → (∀ q ∈ ps, ∀ o, H q = some o → H' q = some o) → Rows K H' ps st
  | _, _, .nil, _ => .nil
  | _, _, .cons h1 h2 h, k => .cons (k _ List.mem_cons_self _ h1) h2 (h.mono fun q m => k q (List.mem_cons_of_mem _ m))
theorem Rows.mem : ∀ {ps : List Addr} {st : List (List D)} {q : Addr}, Rows K H ps st → q ∈ ps → ∃ vs row, H q = some (.lst vs) ∧ DqAll K noH vs row
  | _, _, q, .cons h1 h2 h, m => by
    rcases List.mem_cons.mp m with rfl | m
    · exact ⟨_, _, h1, h2⟩
    · exact h.mem m
theorem Rows.set {us : List V} {row : List D} : ∀ {ps : List Addr} {st : List (List D)} {j : Nat} {q : Addr}, Rows K H ps st → ps.Nodup → ps[j]? = some q → DqAll K noH us row → Rows K (upd H q (.lst us)) ps (st.set j row)
  | _, _, _, _, .nil, _, e, _ => by simp at e
  | _, _, 0, q, .cons h1 h2 h, nd, e, r => by
    simp at e
    subst e
    refine .cons upd_same r (h.mono fun q' m o e => ?_)
    rw [upd_ne (fun z => (List.nodup_cons.mp nd).1 (by rw [← z]; exact m))]
    exact e
  | _, _, j + 1, q, .cons h1 h2 h, nd, e, r => by
    rw [List.getElem?_cons_succ] at e
    have m := List.mem_of_getElem? e
    refine .cons ?_ h2 (h.set (List.nodup_cons.mp nd).2 e r)
    rw [upd_ne (fun z => (List.nodup_cons.mp nd).1 (by rw [z]; exact m))]
    exact h1
end
def tabDr (K : Frag) (p : Addr) (ps : List Addr) : Dr (List (List D)) where
  hv := .ref p
  R := fun b => b = p ∨ b ∈ ps
  At := fun st H => H p = some (.lst (ps.map V.ref)) ∧ Rows K H ps st
  stay := fun st H H' h k => ⟨k _ _ (.inl rfl) h.1, h.2.mono fun q m o e => k q o (.inr m) e⟩
  live := fun st H b h r => by
    rcases r with rfl | m
    · rw [h.1]; exact fun z => nomatch z
    · obtain ⟨vs, _, e, _⟩ := h.2.mem m
      rw [e]; exact fun z => nomatch z
abbrev TabS := List (List D)
theorem Good.tabSet {K : Frag} {B : Bd TabS} {p : Addr} {ps : List Addr} (hB : B.dr = tabDr K p ps) {s : Stt TabS} {σ : List (Option V)} {H S : Hp} (nd : (p :: ps).Nodup) {j : Nat} {q : Addr} {row : List D} {us : List V} (g : Good K B s σ H S) (hq : ps[j]? = some q) (r : DqAll K noH us row) :
    Good K B { s with dr := s.dr.set j row } σ (upd H q (.lst us)) S := by
  have m : q ∈ ps := List.mem_of_getElem? hq
  have rq : B.dr.R q := by rw [hB]; exact .inr m
  have at1 : (tabDr K p ps).At s.dr H := by have := g.at_; rw [hB] at this; exact this
  refine ⟨⟨fun b o e r => ?_, g.fr.s, fun b o e => ?_, g.fr.new, g.fr.nor⟩, ?_, g.len, fun i z e => ?_, g.disj⟩
  · rw [upd_ne (fun z => r (by rw [z]; exact rq))]
    exact g.fr.keep b o e r
  · rw [upd_ne (fun z => by rw [z, g.fr.nor q rq] at e; cases e)]
    exact g.fr.sub b o e
  · rw [hB]
    refine ⟨?_, at1.2.set (List.nodup_cons.mp nd).2 hq r⟩
    rw [upd_ne (fun z : p = q => (List.nodup_cons.mp nd).1 (z ▸ m))]
    exact at1.1
  · obtain ⟨v, h1, h2⟩ := g.slot i z e
    refine ⟨v, h1, ?_⟩
    cases z with
    | own xs =>
      obtain ⟨a, vs, e1, e2, e3, e4, e5, e6⟩ := h2
      exact ⟨a, vs, e1, by rw [upd_ne (fun z => e6 (by rw [z]; exact rq))]; exact e2, e3, e4, e5, e6⟩
    | _ => exact h2
def rowAt (a : Int) : M TabS Unit := fun s => match atI s.dr a with
  | some _ => some ((), s)
  | none => none
def tabGet (a b : Int) : M TabS Opd := fun s => match (atI s.dr a).bind fun row => atI row b with
  | some d => some (.val d, s)
  | none => none
def tabIx (i : Nat) (Fa Fb : M TabS Opd) : M TabS Opd := bnd (hAt i) fun _ => bnd Fa fun oa => bnd (numO oa) fun a => bnd (rowAt a) fun _ => bnd Fb fun ob => bnd (numO ob) fun b => tabGet a b
theorem atI_some {γ : Type} {l : List γ} {i : Int} {x : γ} (h : atI l i = some x) : ∃ j, ixN l.length i = some j ∧ l[j]? = some x := Option.bind_eq_some_iff.mp h
theorem hAt_of {K : Frag} {B : Bd τ} {s s' : Stt τ} {σ : List (Option V)} {H S : Hp} {i : Nat} (g : Good K B s σ H S) (e : hAt i s = some ((), s')) : s' = s ∧ σ[i]? = some (some B.dr.hv) := by
  unfold hAt at e
  split at e
  · rename_i q
    cases e
    obtain ⟨v, h1, h2⟩ := g.slot i _ q
    exact ⟨rfl, by rw [h1, show v = B.dr.hv from h2]⟩
  · cases e
theorem rowAt_of {K : Frag} {B : Bd TabS} {p : Addr} {ps : List Addr} (hB : B.dr = tabDr K p ps) {s s' : Stt TabS} {σ : List (Option V)} {H S : Hp} {a : Int} (g : Good K B s σ H S) (e : rowAt a s = some ((), s')) :
    s' = s ∧ ∃ j q, ixN ps.length a = some j ∧ ps[j]? = some q ∧ atI (ps.map V.ref) a = some (V.ref q) := by
  have at1 : (tabDr K p ps).At s.dr H := by have := g.at_; rw [hB] at this; exact this
  unfold rowAt at e
  split at e
  · rename_i row q
    cases e
    obtain ⟨j, h1, h2⟩ := atI_some q
    obtain ⟨q, vs, h3, _⟩ := at1.2.get h2
    rw [← at1.2.len] at h1
    refine ⟨rfl, j, q, h1, h3, ?_⟩
    unfold atI
    rw [List.length_map, h1]
    show (ps.map V.ref)[j]? = _
    rw [List.getElem?_map, h3]
    rfl
  · cases e
section
variable {Γ : Gam} {B : Bd TabS} {pos : Pos} {e a b : Expr} {F Fa Fb : M TabS Opd}
theorem DO.tabIx {i : Nat} {x : Str} {p0 p1 : Pos} (hB : ∃ p ps, B.dr = tabDr Γ.K p ps ∧ (p :: ps).Nodup) (hN : Γ.N[i]? = some x) (hv : Vis Γ.sc x) (ha : DO Γ B a Fa) (hb : DO Γ B b Fb) (hsa : PlainIx a := by intro _ _; rfl) (hsb : PlainIx b := by intro _ _; rfl)
    (hd : (x == ("__debug__" : Str)) = false := by decide) (hcd : (x == ("__classdict__" : Str)) = false := by decide) : DO Γ B (.Subscript (.Subscript (.Name x p0) a p1) b pos) (DL.tabIx i Fa Fb) := by
  obtain ⟨p, ps, hB, nd⟩ := hB
  obtain ⟨ta, pa, ma⟩ := ha
  obtain ⟨tb, pb, mb⟩ := hb
  refine ⟨tOp (rIxL Γ.K) (tOp (rIxL Γ.K) (tVar i) ta) tb, fun X h => ?_, fun s σ H S g o s' e Q q => ?_⟩
  · have r := pe_ix (ix_list (X := X)) (pe_ix (pos := p1) (ix_list (X := X)) (pe_var (X := X) (i := i) (x := x) (pos := p0) (by rw [h.N]; exact hN) (by rw [h.sc]; exact hv) hd hcd) (pa X h) hsa) (pb X h) (pos := pos) hsb
    rw [h.K] at r
    exact r
  · obtain ⟨_, s1, e1, e⟩ := bnd_some e
    obtain ⟨oa, s2, e2, e⟩ := bnd_some e
    obtain ⟨ka, s3, e3, e⟩ := bnd_some e
    obtain ⟨_, s4, e4, e⟩ := bnd_some e
    obtain ⟨ob, s5, e5, e⟩ := bnd_some e
    obtain ⟨kb, s6, e6, ef⟩ := bnd_some e
    obtain ⟨rfl, h1⟩ := hAt_of g e1
    rw [hB] at h1
    refine ⟨_, h1, ma _ σ H S g oa s2 e2 _ fun v H1 S1 g1 w1 r1 _ => ?_⟩
    obtain ⟨rfl, rfl⟩ := num_of g1 r1 e3
    obtain ⟨rfl, j, qa, k1, k2, k3⟩ := rowAt_of hB g1 e4
    have at1 : (tabDr Γ.K p ps).At s4.dr H1 := by have := g1.at_; rw [hB] at this; exact this
    refine ⟨p, ps.map V.ref, ka, .ref qa, rfl, rfl, SqL.of at1.1, k3, ?_⟩
    refine mb _ σ H1 S1 g1 ob s5 e5 _ fun u H2 S2 g2 w2 r2 _ => ?_
    obtain ⟨rfl, rfl⟩ := num_of g2 r2 e6
    have at2 : (tabDr Γ.K p ps).At s6.dr H2 := by have := g2.at_; rw [hB] at this; exact this
    unfold tabGet at ef
    split at ef
    · rename_i d hd'
      cases ef
      obtain ⟨row, hr1, hr2⟩ := Option.bind_eq_some_iff.mp hd'
      obtain ⟨j', h1', h2'⟩ := atI_some hr1
      rw [← at2.2.len, k1] at h1'
      cases h1'
      obtain ⟨qb, vs, h3, h4, h5⟩ := at2.2.get h2'
      rw [k2] at h3
      cases h3
      obtain ⟨z, hz, hdq⟩ := atI_of h5 hr2
      exact ⟨qa, vs, kb, z, rfl, rfl, SqL.of h4, hz, q z H2 S2 g2 (w1.trans w2) (Dq.mono (noH_same _) hdq) trivial⟩
    · cases ef
def tabPut (d : D) (a b : Int) : M TabS Out := fun s => if plainD d then (match ixN s.dr.length a with
  | some j => (match s.dr[j]? with
    | some row => (match ixN row.length b with
      | some k => some (.nx, { s with dr := s.dr.set j (row.set k d) })
      | none => none)
    | none => none)
  | none => none) else none
def tabSet (i : Nat) (F Fa Fb : M TabS Opd) : M TabS Out := bnd (valM F) fun d => bnd (hAt i) fun _ => bnd Fa fun oa => bnd (numO oa) fun a => bnd (rowAt a) fun _ => bnd Fb fun ob => bnd (numO ob) fun b => tabPut d a b
theorem DS.tabSet {i : Nat} {x : Str} {p0 p1 pt : Pos} (hB : ∃ p ps, B.dr = tabDr Γ.K p ps ∧ (p :: ps).Nodup) (hN : Γ.N[i]? = some x) (hv : Vis Γ.sc x) (h : DO Γ B e F) (ha : DO Γ B a Fa) (hb : DO Γ B b Fb) (hsa : PlainIx a := by intro _ _; rfl)
    (hd : (x == ("__debug__" : Str)) = false := by decide) (hcd : (x == ("__classdict__" : Str)) = false := by decide)
    (hs : ∀ X : Cx, swapsWithSole [.Subscript (.Subscript (.Name x p0) a p1) b pt] e pos.line X.env = pure false := by intro _; rfl) (hw : ∀ X : Cx, swappedStores [.Subscript (.Subscript (.Name x p0) a p1) b pt] e X.env = pure none := by intro _; rfl)
    (h1 : ∀ X : Cx, (assignEach [.Subscript (.Subscript (.Name x p0) a p1) b pt] X.env).map (·.2) = [assign (.Subscript (.Subscript (.Name x p0) a p1) b pt) X.env] := by intro _; rfl)
    (has : ∀ (X : Cx) v, assign (.Subscript (.Subscript (.Name x p0) a p1) b pt) X.env v = (do
      let ov ← holding [v] (eval (.Subscript (.Name x p0) a p1) X.env)
      let iv ← holding [v, ov] (eval b X.env)
      standAt pt
      holding [v, ov, iv] (setItem ov iv v)
      release [v, ov, iv] []) := by intro _ _; rfl) :
    DS Γ B (.Assign [.Subscript (.Subscript (.Name x p0) a p1) b pt] e pos) (DL.tabSet i F Fa Fb) := by
  obtain ⟨p, ps, hB, nd⟩ := hB
  obtain ⟨t, pe, m⟩ := h
  obtain ⟨ta, pa, ma⟩ := ha
  obtain ⟨tb, pb, mb⟩ := hb
  refine ⟨tAsg t (gSub (tOp (rIxL Γ.K) (tVar i) ta) tb rSetL), fun X h => ?_, fun s σ H S g o s' e D q => ?_⟩
  · have r := pe_ix (pos := p1) (ix_list (X := X)) (pe_var (X := X) (i := i) (x := x) (pos := p0) (by rw [h.N]; exact hN) (by rw [h.sc]; exact hv) hd hcd) (pa X h) hsa
    rw [h.K] at r
    exact ps_asg (pe X h) (pg_sub r (pb X h) set_list (has X)) (hs X) (hw X) (h1 X)
  · obtain ⟨d, s0, e0, e⟩ := bnd_some e
    obtain ⟨_, s1, e1, e⟩ := bnd_some e
    obtain ⟨oa, s2, e2, e⟩ := bnd_some e
    obtain ⟨ka, s3, e3, e⟩ := bnd_some e
    obtain ⟨_, s4, e4, e⟩ := bnd_some e
    obtain ⟨ob, s5, e5, e⟩ := bnd_some e
    obtain ⟨kb, s6, e6, ef⟩ := bnd_some e
    refine m.val g e0 fun v H0 S0 g0 w0 r0 => ?_
    obtain ⟨rfl, h1⟩ := hAt_of g0 e1
    rw [hB] at h1
    refine ⟨_, h1, ma _ σ H0 S0 g0 oa s2 e2 _ fun va H1 S1 g1 w1 r1 _ => ?_⟩
    obtain ⟨rfl, rfl⟩ := num_of g1 r1 e3
    obtain ⟨rfl, j, qa, k1, k2, k3⟩ := rowAt_of hB g1 e4
    have at1 : (tabDr Γ.K p ps).At s4.dr H1 := by have := g1.at_; rw [hB] at this; exact this
    refine ⟨p, ps.map V.ref, ka, .ref qa, rfl, rfl, SqL.of at1.1, k3, ?_⟩
    refine mb _ σ H1 S1 g1 ob s5 e5 _ fun u H2 S2 g2 w2 r2 _ => ?_
    obtain ⟨rfl, rfl⟩ := num_of g2 r2 e6
    have at2 : (tabDr Γ.K p ps).At s6.dr H2 := by have := g2.at_; rw [hB] at this; exact this
    unfold tabPut at ef
    split at ef
    · rename_i hf
      split at ef
      · rename_i j' hj'
        split at ef
        · rename_i row hrow
          split at ef
          · rename_i k hk
            cases ef
            rw [← at2.2.len, k1] at hj'
            cases hj'
            obtain ⟨qb, vs, h3, h4, h5⟩ := at2.2.get hrow
            rw [k2] at h3
            cases h3
            refine ⟨qa, vs, kb, k, rfl, rfl, h4, by rw [h5.len]; exact hk, ?_⟩
            exact q σ _ S2 (g2.tabSet hB nd k2 (DqAll.set (plain_dq hf r0) k h5)) ((w0.same.trans w1.same).trans w2.same)
          · cases ef
        · cases ef
      · cases ef
    · cases ef
end
end DL
end

section
set_option Elab.async false
set_option linter.all false
set_option maxRecDepth 100000
set_option maxHeartbeats 3999999
/-! WEng17: calls that look at a table; how a table is made; how it is given back -/
namespace DL
open L2 PySem PyProof.Rows PySem.Spec
variable {τ α β : Type}
/-! ### what is shared, with the table, and without it again -/
open Classical in
noncomputable def ovl (S H : Hp) (R : Addr → Prop) : Hp := fun b => if R b then H b else S b
open Classical in
noncomputable def outR (S : Hp) (R : Addr → Prop) : Hp := fun b => if R b then none else S b
theorem ovl_in {S H : Hp} {R : Addr → Prop} {b : Addr} (h : R b) : ovl S H R b = H b := if_pos h
theorem ovl_out {S H : Hp} {R : Addr → Prop} {b : Addr} (h : ¬ R b) : ovl S H R b = S b := if_neg h
theorem outR_in {S : Hp} {R : Addr → Prop} {b : Addr} (h : R b) : outR S R b = none := if_pos h
theorem outR_out {S : Hp} {R : Addr → Prop} {b : Addr} (h : ¬ R b) : outR S R b = S b := if_neg h
theorem outR_some {S : Hp} {R : Addr → Prop} {b : Addr} {o : HO} (h : outR S R b = some o) : ¬ R b ∧ S b = some o := by
  by_cases r : R b
  · rw [outR_in r] at h; cases h
  · rw [outR_out r] at h; exact ⟨r, h⟩
mutual
def nolst : D → Bool
  | .none => true
  | .bool _ => true
  | .int _ => true
  | .str _ => true
  | .tuple xs => nolstA xs
  | _ => false
def nolstA : List D → Bool
  | [] => true
  | x :: xs => nolst x && nolstA xs
end
mutual
theorem Dq.outR {K : Frag} {S : Hp} {R : Addr → Prop} (hR : ∀ b, R b → ∃ vs, S b = some (.lst vs)) : ∀ {v : V} {d : D}, Dq K S v d → nolst d = true → Dq K (DL.outR S R) v d
  | _, _, .non, _ => .non
  | _, _, .bl b, _ => .bl b
  | _, _, .int i, _ => .int i
  | _, _, .str x, _ => .str x
  | _, _, .lst _ _, h => by unfold nolst at h; cases h
  | _, _, .tup (a := a) h q, hn => by
    unfold nolst at hn
    refine .tup ?_ (DqAll.outR hR q hn)
    rcases h with (h | ⟨o, h⟩) | h
    · exact .inl (.inl (by
        rw [outR_out (fun r => by obtain ⟨vs, e⟩ := hR a r; rw [h] at e; cases e)]
        exact h))
    · exact .inl (.inr ⟨o, by
        rw [outR_out (fun r => by obtain ⟨vs, e⟩ := hR a r; rw [h] at e; cases e)]
        exact h⟩)
    · exact .inr h
theorem DqAll.outR {K : Frag} {S : Hp} {R : Addr → Prop} (hR : ∀ b, R b → ∃ vs, S b = some (.lst vs)) : ∀ {vs : List V} {ds : List D}, DqAll K S vs ds → nolstA ds = true → DqAll K (DL.outR S R) vs ds
  | _, _, .nil, _ => .nil
  | _, _, .cons h t, hn => by
    unfold nolstA at hn
    obtain ⟨h1, h2⟩ := Bool.and_eq_true_iff.mp hn
    exact .cons (Dq.outR hR h h1) (DqAll.outR hR t h2)
end
/-! ### arguments, the table's handle among them -/
def RelB (K : Frag) (S : Hp) (hv : V) : List V → List (Option D) → Prop
  | [], [] => True
  | v :: vs, o :: os => (match o with
    | some d => Dq K S v d
    | none => v = hv) ∧ RelB K S hv vs os
  | _, _ => False
def MeanB (K : Frag) (B : Bd τ) (t : TA) (F : M τ (List (Option D))) : Prop := ∀ s σ H S, Good K B s σ H S → ∀ os s', F s = some (os, s') →
  ∀ Q : List V → Hp → Prop, (∀ vs H' S', Good K B s' σ H' S' → Step K B σ s H S s' H' S' → RelB K S' B.dr.hv vs os → Q vs H') → t σ H Q
def DB (Γ : Gam) (B : Bd τ) (es : List Expr) (F : M τ (List (Option D))) : Prop := ∃ t, (∀ X, Γ.Has X → PA X es t) ∧ MeanB Γ.K B t F
section
variable {Γ : Gam} {B : Bd τ} {pos : Pos} {e : Expr} {es : List Expr}
def consB (F : M τ Opd) (G : M τ (List (Option D))) : M τ (List (Option D)) := bnd (valM F) fun d => bnd G fun ds => ret (some d :: ds)
def consHd (i : Nat) (G : M τ (List (Option D))) : M τ (List (Option D)) := bnd (hAt i) fun _ => bnd G fun ds => ret (none :: ds)
theorem DB.nil : DB Γ B [] nilM := ⟨_, fun X h => pa_nil, fun s σ H S g os s' e Q q => by
  obtain ⟨rfl, rfl⟩ := ret_some e
  exact q [] H S g Step.refl trivial⟩
theorem DB.cons {F : M τ Opd} {G : M τ (List (Option D))} (h : DO Γ B e F) (hs : DB Γ B es G) (hst : ∀ X : Cx, starEach (e :: es) X.env = (false, eval e X.env) :: starEach es X.env := by intro _; rfl) : DB Γ B (e :: es) (consB F G) := by
  obtain ⟨t, p, m⟩ := h
  obtain ⟨u, pu, mu⟩ := hs
  refine ⟨_, fun X h => pa_cons (p X h) (pu X h) (hst X), fun s σ H S g os s' e Q q => ?_⟩
  obtain ⟨o, s1, e1, e⟩ := bnd_some e
  obtain ⟨os', s2, e2, e⟩ := bnd_some e
  obtain ⟨rfl, rfl⟩ := ret_some e
  refine m.val g e1 fun v H1 S1 g1 w1 r1 => ?_
  exact mu s1 σ H1 S1 g1 os' _ e2 _ fun vs H2 S2 g2 w2 r2 => q _ H2 S2 g2 (w1.trans w2) ⟨Dq.mono w2.same r1, r2⟩
theorem DB.hand {i : Nat} {x : Str} {G : M τ (List (Option D))} (hN : Γ.N[i]? = some x) (hv : Vis Γ.sc x) (hs : DB Γ B es G) (hd : (x == ("__debug__" : Str)) = false := by decide) (hcd : (x == ("__classdict__" : Str)) = false := by decide)
    (hst : ∀ X : Cx, starEach (.Name x pos :: es) X.env = (false, eval (.Name x pos) X.env) :: starEach es X.env := by intro _; rfl) : DB Γ B (.Name x pos :: es) (consHd i G) := by
  obtain ⟨u, pu, mu⟩ := hs
  refine ⟨tCons (tVar i) u, fun X h => pa_cons (pe_var (by rw [h.N]; exact hN) (by rw [h.sc]; exact hv) hd hcd) (pu X h) (hst X), fun s σ H S g os s' e Q q => ?_⟩
  obtain ⟨_, s1, e1, e⟩ := bnd_some e
  obtain ⟨os', s2, e2, e⟩ := bnd_some e
  obtain ⟨rfl, rfl⟩ := ret_some e
  obtain ⟨rfl, h1⟩ := hAt_of g e1
  refine ⟨_, h1, ?_⟩
  exact mu _ σ H S g os' _ e2 _ fun vs H2 S2 g2 w2 r2 => q _ H2 S2 g2 w2 ⟨rfl, r2⟩
end
def tabD (st : TabS) : D := .list (st.map .list)
theorem Rows.all {K : Frag} {H S : Hp} : ∀ {ps : List Addr} {st : TabS}, Rows K H ps st → (∀ q ∈ ps, S q = H q) → DqAll K S (ps.map V.ref) (st.map .list)
  | _, _, .nil, _ => .nil
  | _, _, .cons h1 h2 h, k => .cons (.lst (by rw [k _ List.mem_cons_self]; exact h1) (DqAll.mono (noH_same _) h2)) (h.all fun q m => k q (List.mem_cons_of_mem _ m))
theorem RelB.all {K : Frag} {S S2 : Hp} {hv : V} {d : D} (w : Same S S2) (hd : Dq K S2 hv d) : ∀ {vs : List V} {os : List (Option D)}, RelB K S hv vs os → DqAll K S2 vs (os.map fun o => o.getD d)
  | [], [], _ => .nil
  | v :: vs, o :: os, h => by
    refine .cons ?_ (RelB.all w hd h.2)
    cases o with
    | some x => exact Dq.mono w h.1
    | none => rw [show v = hv from h.1]; exact hd
  | [], _ :: _, h => h.elim
  | _ :: _, [], h => h.elim
section
variable {Γ : Gam} {B : Bd TabS} {pos : Pos} {e : Expr} {es : List Expr} {G : M TabS (List (Option D))}
def callT (f : List D → Option D) (G : M TabS (List (Option D))) : M TabS Opd := bnd G fun os => fun s => match f (os.map fun o => o.getD (tabD s.dr)) with
  | some d => if nolst d then some (.val d, s) else none
  | none => none
theorem DO.callT {x : Str} {p : Pos} {k : Nat} {ps : List Str} {f : List D → Option D} (hB : ∃ p ps, B.dr = tabDr Γ.K p ps ∧ (p :: ps).Nodup) (F : DefQ Γ.P Γ.w Γ.K Γ.mg Γ.base k x ps f) {j : Nat} (ok : Γ.Ok j) (hj : k ≤ j) (ha : DB Γ B (e :: es) G) (hg : Γ.sc.names.lookup x = some .globalImplicit := by rfl)
    (hdb : (x == ("__debug__" : Str)) = false := by decide) (he : ∀ X : Cx, starEach (e :: es) X.env = (false, eval e X.env) :: starEach es X.env := by intro _; rfl) (hpl : ∀ X : Cx, (backTo pos (starEach es X.env)).any (·.1) = false := by intro _; rfl) :
    DO Γ B (.Call (.Name x p) (e :: es) [] pos) (DL.callT f G) := by
  obtain ⟨a0, ps0, hB, nd⟩ := hB
  obtain ⟨a, fd, F, hm, hk, hb⟩ := F.ex
  obtain ⟨t, pa, m⟩ := ha
  refine ⟨tCall (spP Γ.K f) [] E0 t, fun X h => ?_, fun s σ H S g o s' e Q q => ?_⟩
  · have F' := F.mono hj
    rw [← h.P, ← h.w, ← h.K, ← h.mg, ← h.base] at F'
    have r := pe_callG (x := x) (p := p) (pos := pos) F' (by rw [h.A]; exact ok.room) (by rw [h.A]; exact ok.gd) (gl_of h hg) (by rw [h.mg]; exact hm) (by rw [h.K]; exact hk) (by rw [h.K]; exact hb) (pa X h) hdb (he X) (hpl X)
    rw [h.K] at r
    exact r
  · obtain ⟨os, s1, e1, e2⟩ := bnd_some e
    split at e2
    · rename_i d hd
      split at e2
      · rename_i hn
        cases e2
        refine m s σ H S g os _ e1 _ fun vs H1 S1 g1 w1 r1 => ?_
        have at1 : (tabDr Γ.K a0 ps0).At s'.dr H1 := by have := g1.at_; rw [hB] at this; exact this
        have nor : ∀ b, (tabDr Γ.K a0 ps0).R b → S1 b = none := fun b r => g1.fr.nor b (by rw [hB]; exact r)
        have hS : ∀ {b o}, S1 b = some o → ¬ (tabDr Γ.K a0 ps0).R b := fun {b o} e r => by rw [nor b r] at e; cases e
        have lsR : ∀ b, (tabDr Γ.K a0 ps0).R b → ∃ vs, H1 b = some (.lst vs) := fun b r => by
          rcases r with rfl | m
          · exact ⟨_, at1.1⟩
          · obtain ⟨vs, _, e, _⟩ := at1.2.mem m
            exact ⟨vs, e⟩
        have wS : Same S1 (ovl S1 H1 (tabDr Γ.K a0 ps0).R) := fun b o e => by rw [ovl_out (hS e)]; exact e
        have wH : Same (ovl S1 H1 (tabDr Γ.K a0 ps0).R) H1 := fun b o e => by
          by_cases r : (tabDr Γ.K a0 ps0).R b
          · rw [ovl_in r] at e; exact e
          · rw [ovl_out r] at e; exact g1.fr.sub b o e
        have hv : Dq Γ.K (ovl S1 H1 (tabDr Γ.K a0 ps0).R) B.dr.hv (tabD s'.dr) := by
          rw [hB]
          exact .lst (by rw [ovl_in (Or.inl rfl)]; exact at1.1) (at1.2.all fun q m => ovl_in (Or.inr m))
        refine ⟨_, _, d, wH, by rw [List.append_nil]; exact RelB.all wS hv r1, hd, fun v H2 S3 w2 r2 => ?_⟩
        have gr : Grow H1 S1 H2 (outR S3 (tabDr Γ.K a0 ps0).R) := by
          refine ⟨w2.h, fun b o e => ?_, fun b o e => w2.sub b o (outR_some e).2, fun b o e n => ?_⟩
          · rw [outR_out (hS e)]
            exact w2.s b o (wS b o e)
          · obtain ⟨r, e⟩ := outR_some e
            exact w2.new b o e (by rw [ovl_out r]; exact n)
        refine q v H2 _ (g1.grow gr) (w1.trans gr.step) (Dq.outR (fun b r => ?_) r2 hn) trivial
        obtain ⟨us, e⟩ := lsR b r
        exact ⟨us, w2.s b _ (by rw [ovl_in r]; exact e)⟩
      · cases e2
    · cases e2
end

/-! ### how a table is made: [[c for _ in r] for _ in r], r a range that a slot holds -/
theorem upd2 {H : Hp} {p : Addr} {o u : HO} : upd (upd H p o) p u = upd H p u := by
  funext b
  by_cases h : b = p
  · subst h; rw [upd_same, upd_same]
  · rw [upd_ne h, upd_ne h, upd_ne h]
theorem wipe1 {σ : List (Option V)} {k : Nat} {x : Option V} : L2.wipe ((L2.wipe σ [k]).set k x) [k] = L2.wipe σ [k] := by
  show ((σ.set k none).set k x).set k none = σ.set k none
  rw [List.set_set, List.set_set]
theorem lcConst_run {a : Addr} {n : Int} {i k : Nat} {c : V} {σ : List (Option V)} {H : Hp} {Q : VK} (hi : σ[i]? = some (some (.ref a))) (ha : H a = some (.rng 0 n)) (h0 : 0 ≤ n) (hn : n ≤ 1000)
    (hq : ∀ p, H p = none → Q (.ref p) (upd H p (.lst (List.replicate n.toNat c)))) : tLc (iRngV (tVar i)) (gName k) tYes (tC c) [k] σ H Q := by
  refine ⟨_, hi, a, 0, n, rfl, ha, by decide, by decide, by omega, by omega, fun p hp => ?_⟩
  rw [Int.sub_zero]
  refine ⟨fun j m H' => m = n.toNat - j ∧ j ≤ n.toNat ∧ H' = upd H p (.lst (List.replicate j c)), ⟨n.toNat, by simp, Nat.zero_le _, rfl⟩, ?_⟩
  rintro j m H' ⟨rfl, hj, rfl⟩
  by_cases hlt : j < n.toNat
  · refine .inr ⟨hlt, fun H' => H' = upd H p (.lst (List.replicate (j + 1) c)), fun H' e => ⟨n.toNat - (j + 1), by omega, rfl, hlt, e⟩, fun x H' y => ?_⟩
    obtain ⟨rfl, rfl⟩ := y
    refine ⟨wipe1, ?_⟩
    unfold tYes
    dsimp only
    rw [if_pos rfl]
    refine ⟨_, upd_same, by rw [List.length_replicate, sizeLine_eq]; omega, ?_⟩
    show _ = _
    rw [upd2, List.replicate_succ']
  · have : j = n.toNat := by omega
    subst this
    exact .inl ⟨Nat.le_refl _, hq p hp⟩
structure Made (H : Hp) (N : Nat) (c : V) (A : Addr) (ps : List Addr) (H' : Hp) : Prop where
  at_ : H' A = some (.lst (ps.map V.ref))
  row : ∀ q ∈ ps, H' q = some (.lst (List.replicate N c)) ∧ H q = none
  nd : (A :: ps).Nodup
  new : H A = none
  old : ∀ b, b ∉ A :: ps → H' b = H b
theorem lcTab_run {a : Addr} {n : Int} {i k1 k2 : Nat} {c : V} {σ : List (Option V)} {H : Hp} {Q : VK} (hi : σ[i]? = some (some (.ref a))) (ha : H a = some (.rng 0 n)) (h0 : 0 ≤ n) (hn : n ≤ 1000) (hk : k1 ≠ i)
    (hq : ∀ A ps H', ps.length = n.toNat → Made H n.toNat c A ps H' → Q (.ref A) H') : tLc (iRngV (tVar i)) (gName k1) tYes (tLc (iRngV (tVar i)) (gName k2) tYes (tC c) [k2]) [k1] σ H Q := by
  refine ⟨_, hi, a, 0, n, rfl, ha, by decide, by decide, by omega, by omega, fun A hA => ?_⟩
  rw [Int.sub_zero]
  refine ⟨fun j m H' => m = n.toNat - j ∧ j ≤ n.toNat ∧ ∃ ps : List Addr, ps.length = j ∧ Made H n.toNat c A ps H', ⟨n.toNat, by simp, Nat.zero_le _, [], rfl, upd_same, (by simp), (by simp), hA, fun b hb => upd_ne (by simpa using hb)⟩, ?_⟩
  rintro j m H1 ⟨rfl, hj, ps, hps, M⟩
  by_cases hlt : j < n.toNat
  · refine .inr ⟨hlt, fun H' => ∃ ps : List Addr, ps.length = j + 1 ∧ Made H n.toNat c A ps H', fun H' e => ⟨n.toNat - (j + 1), by omega, rfl, hlt, e⟩, fun x H' y => ?_⟩
    obtain ⟨rfl, rfl⟩ := y
    refine ⟨wipe1, ?_⟩
    unfold tYes
    dsimp only
    rw [if_pos rfl]
    have ai : a ∉ A :: ps := fun m => by
      rcases List.mem_cons.mp m with z | m
      · rw [z, hA] at ha; cases ha
      · rw [(M.row a m).2] at ha; cases ha
    refine lcConst_run (a := a) (n := n) ?_ (by rw [M.old a ai]; exact ha) h0 hn fun p hp => ?_
    · rw [List.getElem?_set_ne hk]
      show (σ.set k1 none)[i]? = _
      rw [List.getElem?_set_ne hk]
      exact hi
    · have pi : p ∉ A :: ps := fun m => by
        rcases List.mem_cons.mp m with z | m
        · rw [z, M.at_] at hp; cases hp
        · rw [(M.row p m).1] at hp; cases hp
      have pA : A ≠ p := fun z => pi (by rw [z]; exact List.mem_cons_self)
      have pm : ∀ q ∈ ps, q ≠ p := fun q m z => pi (by rw [← z]; exact List.mem_cons_of_mem _ m)
      refine ⟨_, by rw [upd_ne pA]; exact M.at_, by rw [List.length_map, hps, sizeLine_eq]; omega, ps ++ [p], by simp [hps], ?_⟩
      have Am : ∀ q ∈ ps, q ≠ A := fun q m z => (List.nodup_cons.mp M.nd).1 (by rw [← z]; exact m)
      refine ⟨by rw [upd_same]; simp, fun q m => ?_, ?_, M.new, fun b hb => ?_⟩
      · rcases List.mem_append.mp m with m | m
        · rw [upd_ne (Am q m), upd_ne (pm q m)]
          exact M.row q m
        · have : q = p := by simpa using m
          subst this
          rw [upd_ne pA.symm, upd_same]
          exact ⟨rfl, by rw [← M.old q pi]; exact hp⟩
      · rw [← List.cons_append]
        refine List.nodup_append.mpr ⟨M.nd, by simp, fun x hx y hy => ?_⟩
        have : y = p := by simpa using hy
        subst this
        exact fun z => pi (z ▸ hx)
      · have b1 : b ≠ A := fun z => hb (by rw [z]; exact List.mem_cons_self)
        have b2 : b ≠ p := fun z => hb (by rw [z]; simp)
        rw [upd_ne b1, upd_ne b2]
        exact M.old b fun m => hb (by
          rcases List.mem_cons.mp m with z | m
          · rw [z]; exact List.mem_cons_self
          · exact List.mem_cons_of_mem _ (List.mem_append_left _ m))
  · have : j = n.toNat := by omega
    subst this
    exact .inl ⟨Nat.le_refl _, hq A ps H1 hps M⟩
/-- from now on the table is what B carries -/
def rowsOf (n : Nat) (c : D) : TabS := List.replicate n (List.replicate n c)
theorem good_tab {K : Frag} {H S H2 : Hp} {B : Bd Unit} {s : Stt Unit} {σ : List (Option V)} {N g : Nat} {A : Addr} {ps : List Addr} {c : V} {d : D} (hd : Dq K noH c d) (gd : Good K B s σ H S) (hl : ps.length = N) (M : Made H N c A ps H2) (hg : g < σ.length)
    (no : ∀ (i : Nat) (xs : List D), s.env[i]? ≠ some (some (Sl.own xs))) (noh : ∀ i : Nat, s.env[i]? ≠ some (some Sl.h)) :
    Good K (B := ⟨tabDr K A ps, H2, S⟩) ⟨s.env.set g (some .h), rowsOf N d⟩ (σ.set g (some (.ref A))) H2 S := by
  have oldS : ∀ b o, S b = some o → b ∉ A :: ps := fun b o e m => by
    have := gd.fr.sub b o e
    rcases List.mem_cons.mp m with z | m
    · rw [z, M.new] at this; cases this
    · rw [(M.row b m).2] at this; cases this
  have sub : Same S H2 := fun b o e => by rw [M.old b (oldS b o e)]; exact gd.fr.sub b o e
  refine ⟨⟨fun b o e _ => e, Same.refl _, sub, fun b o e n => ?_, fun b r => ?_⟩, ?_, by simp [gd.len], fun i z e => ?_, fun i j xs ys n e1 e2 => ?_⟩
  · rw [show S b = none from n] at e; cases e
  · cases q : S b with
    | none => rfl
    | some o => exact absurd (List.mem_cons.mpr r) (oldS b o q)
  · refine ⟨M.at_, ?_⟩
    show Rows K H2 ps (List.replicate N (List.replicate N d))
    subst hl
    have rr : ∀ n : Nat, DqAll K noH (List.replicate n c) (List.replicate n d) := fun n => by
      induction n with
      | zero => exact .nil
      | succ n ih => exact .cons hd ih
    have key : ∀ (qs : List Addr) (n : Nat), (∀ q ∈ qs, H2 q = some (.lst (List.replicate n c))) → Rows K H2 qs (List.replicate qs.length (List.replicate n d)) := fun qs n h => by
      induction qs with
      | nil => exact .nil
      | cons q qs ih => exact .cons (h q List.mem_cons_self) (rr n) (ih fun q m => h q (List.mem_cons_of_mem _ m))
    exact key ps ps.length fun q m => (M.row q m).1
  · rcases set_get e with ⟨rfl, q⟩ | ⟨n, q⟩
    · cases q
      exact ⟨.ref A, List.getElem?_set_self hg, rfl⟩
    · obtain ⟨v, h1, h2⟩ := gd.slot i z q
      refine ⟨v, by rw [List.getElem?_set_ne n]; exact h1, ?_⟩
      cases z with
      | d x => exact h2
      | own xs => exact absurd q (no i xs)
      | h => exact absurd q (noh i)
      | s ns => exact h2
      | r lo hi => exact h2
  · rcases set_get e1 with ⟨_, q⟩ | ⟨_, q⟩
    · cases q
    · exact absurd q (no i xs)
/-- the table is given back, beside a list that a slot owns -/
theorem tab_end {K : Frag} {H S H1 S1 H2 H3 S3 : Hp} {s : Stt Unit} {σ : List (Option V)} {s3 : Stt TabS} {σ3 : List (Option V)} {N g r : Nat} {A b : Addr} {ps : List Addr} {c : V} {rows : List D} (gd : Good K ⟨dr0, H, S⟩ s σ H1 S1) (M : Made H1 N c A ps H2)
    (g3 : Good K ⟨tabDr K A ps, H2, S1⟩ s3 σ3 H3 S3) (e1 : s3.env[r]? = some (some (.own rows))) (e2 : s3.env[g]? = some (some .h)) (hb : H3 b = none) {Q : VK} (hQ : ∀ v H' S', Grow H S H' S' → Dq K S' v (.tuple [.list rows, tabD s3.dr]) → Q v H') :
    ∃ p, σ3[r]? = some (some (.ref p)) ∧ σ3[g]? = some (some (.ref A)) ∧ Q (.ref b) (upd H3 b (.tup [.ref p, .ref A])) := by
  obtain ⟨p, vs, h1, hp, ha, ns, n0, nr⟩ := g3.getOwn e1
  obtain ⟨v, h2, hv⟩ := g3.slot g _ e2
  obtain rfl : v = .ref A := hv
  refine ⟨p, h1, h2, ?_⟩
  have at3 : (tabDr K A ps).At s3.dr H3 := g3.at_
  have nor : ∀ b, (tabDr K A ps).R b → S3 b = none := g3.fr.nor
  have lsR : ∀ b, (tabDr K A ps).R b → H3 b ≠ none := fun b r => (tabDr K A ps).live s3.dr H3 b at3 r
  have newR : ∀ b, (tabDr K A ps).R b → H1 b = none := fun b r => by
    rcases r with rfl | m
    · exact M.new
    · exact (M.row b m).2
  have pb : p ≠ b := fun z => by rw [z, hb] at hp; cases hp
  have rb : ¬ (tabDr K A ps).R b := fun r => lsR b r hb
  have k12 : Same H1 H2 := fun c o e => by
    rw [M.old c (fun m => by rw [newR c (List.mem_cons.mp m)] at e; cases e)]
    exact e
  have k13 : Same H1 H3 := fun c o e => g3.fr.keep c o (k12 c o e) (fun r => by rw [newR c r] at e; cases e)
  have k0 : Same H H1 := fun c o e => gd.fr.keep c o e (fun z => z)
  -- what is shared in the end
  have kS : Same S3 (ovl (upd (upd S3 p (.lst vs)) b (.tup [.ref p, .ref A])) H3 (tabDr K A ps).R) := fun c o e => by
    rw [ovl_out (fun r => by rw [nor c r] at e; cases e), upd_ne (fun z => by rw [z, g3.fr.sub.free hb] at e; cases e), upd_ne (fun z => by rw [z, ns] at e; cases e)]
    exact e
  refine hQ _ _ (ovl (upd (upd S3 p (.lst vs)) b (.tup [.ref p, .ref A])) H3 (tabDr K A ps).R) ⟨fun c o e => ?_, ?_, fun c o e => ?_, fun c o e n => ?_⟩ ?_
  · have := k13 c o (k0 c o e)
    rw [upd_ne (fun z => by rw [z, hb] at this; cases this)]
    exact this
  · exact (gd.fr.s.trans g3.fr.s).trans kS
  · by_cases rc : (tabDr K A ps).R c
    · rw [ovl_in rc] at e
      rw [upd_ne (fun z => rb (by rw [← z]; exact rc))]
      exact e
    · rw [ovl_out rc] at e
      by_cases zb : c = b
      · subst zb
        rw [upd_same] at e ⊢
        exact e
      · rw [upd_ne zb] at e ⊢
        by_cases zp : c = p
        · subst zp
          rw [upd_same] at e
          rw [← e]; exact hp
        · rw [upd_ne zp] at e
          exact g3.fr.sub c o e
  · by_cases rc : (tabDr K A ps).R c
    · exact k0.free (newR c rc)
    · rw [ovl_out rc] at e
      by_cases zb : c = b
      · subst zb
        exact k0.free (k13.free hb)
      · rw [upd_ne zb] at e
        by_cases zp : c = p
        · subst zp
          exact k0.free (k12.free n0)
        · rw [upd_ne zp] at e
          cases q : S1 c with
          | none => exact k0.free (k12.free (g3.fr.new c o e q))
          | some u => exact gd.fr.new c u q n
  · have S4p : ovl (upd (upd S3 p (.lst vs)) b (.tup [.ref p, .ref A])) H3 (tabDr K A ps).R p = some (.lst vs) := by
      rw [ovl_out nr, upd_ne pb, upd_same]
    refine .tup (SqT.of (by rw [ovl_out rb, upd_same])) (.cons (.lst S4p (DqAll.mono kS ha)) (.cons ?_ .nil))
    exact .lst (by rw [ovl_in (Or.inl rfl)]; exact at3.1) (at3.2.all fun q m => ovl_in (Or.inr m))
end DL
end

section
set_option Elab.async false
set_option linter.all false
set_option maxRecDepth 100000
set_option maxHeartbeats 3999999
/-! WEng18: the statement that makes a table; a def that makes a table, changes it and gives it back beside a list -/
namespace DL
open L2 PySem PyProof.Rows PySem.Spec
variable {τ α β : Type}
theorem pg_of {Γ : Gam} {X : Cx} (h : Γ.Has X) {i : Nat} {x : Str} {pos : Pos} (nd : Γ.N.Nodup) (hi : Γ.N[i]? = some x) (hx : Loc Γ.sc x) (hf : Γ.fn x = true ∨ Γ.sc.names.lookup x = some .local) : PG X (.Name x pos) (gName i) :=
  pg_name (by rw [h.N]; exact nd) (by rw [h.N]; exact hi) (by rw [h.sc]; exact hx) (by
    rcases hf with z | z
    · exact h.fn x z
    · exact .inr (by rw [h.sc]; exact z))
theorem pv_of {Γ : Gam} {X : Cx} (h : Γ.Has X) {i : Nat} {x : Str} {pos : Pos} (hi : Γ.N[i]? = some x) (hv : Vis Γ.sc x) (hd : (x == ("__debug__" : Str)) = false) (hcd : (x == ("__classdict__" : Str)) = false) : PE X (.Name x pos) (tVar i) :=
  pe_var (by rw [h.N]; exact hi) (by rw [h.sc]; exact hv) hd hcd
theorem pe_inner {Γ : Gam} {X : Cx} (h : Γ.Has X) {i k2 : Nat} {r y2 : Str} {c : Bool} {j} {p1 q2 q3 cpos2 : Pos} {scope2 : Scope} (nd : Γ.N.Nodup) (ok2 : BlkOk Γ.N Γ.sc scope2 [(y2, k2)]) (hi : Γ.N[i]? = some r) (v2 : Vis Γ.sc r) (h2 : Γ.N[k2]? = some y2)
    (l2 : Loc (Γ.blk scope2).sc y2) (f2 : (Γ.blk scope2).fn y2 = true ∨ (Γ.blk scope2).sc.names.lookup y2 = some .local) (hd : (r == ("__debug__" : Str)) = false) (hcd : (r == ("__classdict__" : Str)) = false) :
    PE X (.ListComp (.Constant (.bool c) j p1) [⟨.Name y2 q2, .Name r q3, [], 0⟩] scope2 cpos2) (tLc (iRngV (tVar i)) (gName k2) tYes (tC (.bl c)) [k2]) :=
  pe_lc (own := [(y2, k2)]) h.calm (by rw [h.N]; exact nd) (pi_rngV (pv_of h hi v2 hd hcd)) (by rw [h.N, h.sc]; exact ok2)
    (fun _ _ _ _ _ => pg_of (blk_has h) nd h2 l2 f2) (fun _ _ _ _ _ => pts_nil) (fun _ _ _ _ _ => pe_bl) (fun _ => rfl)
theorem ps_tab {Γ : Gam} {X : Cx} (h : Γ.Has X) {i g k1 k2 : Nat} {x r y1 y2 : Str} {c : Bool} {j} {py p1 q1 q2 q3 q4 cpos cpos2 pos : Pos} {scope scope2 : Scope} (nd : Γ.N.Nodup) (hk : ∀ X, Γ.Has X → X.env.scope.kind = .function)
    (hg : Γ.N[g]? = some x) (hgl : Γ.sc.names.lookup x = some .local) (hln : (py.line == cpos.line) = true) (hna : (scope.names.any fun (n, k) => n == x && (k == .local || k == .cell)) = false)
    (ok1 : BlkOk Γ.N Γ.sc scope [(y1, k1)]) (ok2 : BlkOk Γ.N (Γ.blk scope).sc scope2 [(y2, k2)]) (hi : Γ.N[i]? = some r) (v1 : Vis Γ.sc r) (v2 : Vis (Γ.blk scope).sc r) (h1 : Γ.N[k1]? = some y1) (h2 : Γ.N[k2]? = some y2)
    (l1 : Loc (Γ.blk scope).sc y1) (f1 : (Γ.blk scope).fn y1 = true ∨ (Γ.blk scope).sc.names.lookup y1 = some .local) (l2 : Loc ((Γ.blk scope).blk scope2).sc y2) (f2 : ((Γ.blk scope).blk scope2).fn y2 = true ∨ ((Γ.blk scope).blk scope2).sc.names.lookup y2 = some .local)
    (hd : (r == ("__debug__" : Str)) = false := by decide) (hcd : (r == ("__classdict__" : Str)) = false := by decide) :
    PS X (.Assign [.Name x py] (.ListComp (.ListComp (.Constant (.bool c) j p1) [⟨.Name y2 q2, .Name r q3, [], 0⟩] scope2 cpos2) [⟨.Name y1 q1, .Name r q4, [], 0⟩] scope cpos) pos)
      (tAsg (tLc (iRngV (tVar i)) (gName k1) tYes (tLc (iRngV (tVar i)) (gName k2) tYes (tC (.bl c)) [k2]) [k1]) (gName g)) :=
  ps_setLc (own := [(y1, k1)]) h.calm (by rw [h.N]; exact nd) (by rw [h.N]; exact hg) (by rw [h.sc]; exact hgl) (sw_true (hk X h) (by rw [h.sc]; exact hgl) hln hna) (pi_rngV (pv_of h hi v1 hd hcd)) (by rw [h.N, h.sc]; exact ok1)
    (fun _ _ _ _ _ => pg_of (blk_has h) nd h1 l1 f1) (fun _ _ _ _ _ => pts_nil)
    (fun _ _ _ _ _ => pe_inner (blk_has h) nd ok2 hi v2 h2 l2 f2 hd hcd)
    (fun _ => rfl)
/-- no list and no handle stands in the slots -/
def bare (env : List (Option Sl)) : Bool := env.all fun z => match z with
  | some (.own _) => false
  | some .h => false
  | _ => true
theorem bare_own {env : List (Option Sl)} (h : bare env = true) : ∀ (i : Nat) (xs : List D), env[i]? ≠ some (some (Sl.own xs)) := fun i xs e => by
  have := List.all_eq_true.mp h _ (List.mem_of_getElem? e)
  cases this
theorem bare_h {env : List (Option Sl)} (h : bare env = true) : ∀ i : Nat, env[i]? ≠ some (some Sl.h) := fun i e => by
  have := List.all_eq_true.mp h _ (List.mem_of_getElem? e)
  cases this
/-- such a def: range in slot i, table in slot g, list in slot r -/
def runTab (n i g r : Nat) (c : Bool) (F1 : M Unit Out) (F2 : M TabS Out) (ds : List D) : Option D := match ds with
  | [lab] => (match F1 ⟨some (.d lab) :: List.replicate (n - 1) none, ()⟩ with
    | some (.nx, s1) => (match s1.env[i]? with
      | some (some (.r lo m)) => if decide (lo = 0) && decide (0 ≤ m) && decide (m ≤ 1000) && bare s1.env && decide (g < s1.env.length) then (match F2 ⟨s1.env.set g (some .h), rowsOf m.toNat (.bool c)⟩ with
        | some (.nx, s3) => (match s3.env[r]?, s3.env[g]? with
          | some (some (.own rows)), some (some .h) => some (.tuple [.list rows, tabD s3.dr])
          | _, _ => none)
        | _ => none) else none
      | _ => none)
    | _ => none)
  | _ => none
theorem tab_fin {K : Frag} {H S H1 S1 H2 H3 S3 : Hp} {s : Stt Unit} {σ : List (Option V)} {s3 : Stt TabS} {σ3 : List (Option V)} {N g r : Nat} {A : Addr} {ps : List Addr} {c : V} {rows : List D} (gd : Good K ⟨dr0, H, S⟩ s σ H1 S1) (M : Made H1 N c A ps H2)
    (g3 : Good K ⟨tabDr K A ps, H2, S1⟩ s3 σ3 H3 S3) (e1 : s3.env[r]? = some (some (.own rows))) (e2 : s3.env[g]? = some (some .h)) {Q : VK} (hQ : ∀ v H' S', Grow H S H' S' → Dq K S' v (.tuple [.list rows, tabD s3.dr]) → Q v H') :
    tRet (tTup (tCons (tVar r) (tCons (tVar g) tNil))) { nx := fun _ H' => Q .non H', rt := Q } σ3 H3 := by
  obtain ⟨p, vs, h1, _⟩ := g3.getOwn e1
  obtain ⟨v, h2, hv⟩ := g3.slot g _ e2
  obtain rfl : v = .ref A := hv
  refine ⟨.ref p, h1, .ref A, h2, ?_, fun b hb => ?_⟩
  · show 2 ≤ sizeLine
    rw [sizeLine_eq]
    decide
  · obtain ⟨p', q1, q2, q3⟩ := tab_end gd M g3 e1 e2 hb hQ
    rw [h1] at q1
    cases q1
    exact q3
theorem fnTab {P : Program} {w : World} {K : Frag} {mg : Str → Option Value} {base : Heap} {x qual y : Str} {st s1 s2 s3 s4 s5 : Stmt} {f : Addr} {fd : FuncData} {N : List Str} {k n i g r k1 k2 : Nat} {c : Bool} {F1 : M Unit Out} {F3 F4 : M TabS Out} (Fn : Fun K x qual st f fd) (Sc : FnScope N [y] (defScope st))
    (hN : N.length = n) (hgn : g < n) (hki : k1 ≠ i) (hb : defBody st = [s1, s2, s3, s4, s5])
    (b1 : ∀ (A : Around) (B : Bd Unit), Gam.Ok ⟨P, w, K, mg, base, A, N, defScope st, fun _ => true⟩ k → DS ⟨P, w, K, mg, base, A, N, defScope st, fun _ => true⟩ B s1 F1)
    (b2 : ∀ (A : Around) (X : Cx), Gam.Ok ⟨P, w, K, mg, base, A, N, defScope st, fun _ => true⟩ k → Gam.Has ⟨P, w, K, mg, base, A, N, defScope st, fun _ => true⟩ X → PS X s2 (tAsg (tLc (iRngV (tVar i)) (gName k1) tYes (tLc (iRngV (tVar i)) (gName k2) tYes (tC (.bl c)) [k2]) [k1]) (gName g)))
    (b3 : ∀ (A : Around) (B : Bd TabS), (∃ p ps, B.dr = tabDr K p ps ∧ (p :: ps).Nodup) → Gam.Ok ⟨P, w, K, mg, base, A, N, defScope st, fun _ => true⟩ k → DS ⟨P, w, K, mg, base, A, N, defScope st, fun _ => true⟩ B s3 F3)
    (b4 : ∀ (A : Around) (B : Bd TabS), (∃ p ps, B.dr = tabDr K p ps ∧ (p :: ps).Nodup) → Gam.Ok ⟨P, w, K, mg, base, A, N, defScope st, fun _ => true⟩ k → DS ⟨P, w, K, mg, base, A, N, defScope st, fun _ => true⟩ B s4 F4)
    (b5 : ∀ (A : Around) (X : Cx), Gam.Ok ⟨P, w, K, mg, base, A, N, defScope st, fun _ => true⟩ k → Gam.Has ⟨P, w, K, mg, base, A, N, defScope st, fun _ => true⟩ X → PS X s5 (tRet (tTup (tCons (tVar r) (tCons (tVar g) tNil))))) :
    FnG P w K mg base (k + 1) f fd [y] (spP K (runTab n i g r c F1 (seqM F3 F4))) := by
  refine fnAny (k := k) Fn Sc ?_ fun A vs H Q E hsp ok => ?_
  · rintro vs H Q E ⟨S, ds, d, _, h, e, _⟩
    rw [h.len]
    unfold runTab at e
    split at e
    · rfl
    · cases e
  obtain ⟨S, ds, d, wS, hds, hrun, hQ⟩ := hsp
  obtain ⟨t1, p1, m1⟩ := b1 A ⟨dr0, H, S⟩ ok
  have gs := good_start (K := K) (N := N) wS hds
  refine ⟨tSeq t1 (tSeq (tAsg (tLc (iRngV (tVar i)) (gName k1) tYes (tLc (iRngV (tVar i)) (gName k2) tYes (tC (.bl c)) [k2]) [k1]) (gName g)) (tEx fun t => ∀ X, Gam.Has ⟨P, w, K, mg, base, A, N, defScope st, fun _ => true⟩ X → PSs X [s3, s4, s5] t)),
    fun X h => by rw [hb]; exact pss_cons (p1 X h) (pss_cons (b2 A X ok h) (pss_ex fun t pt => pt X h)), ?_⟩
  unfold runTab at hrun
  split at hrun
  · rename_i lab
    split at hrun
    · rename_i sa ea
      split at hrun
      · rename_i lo m er
        split at hrun
        · rename_i hz
          simp only [Bool.and_eq_true, decide_eq_true_eq] at hz
          obtain ⟨⟨⟨⟨rfl, h0⟩, hm⟩, hbare⟩, hgl⟩ := hz
          split at hrun
          · rename_i sc ec
            split at hrun
            · rename_i rows er3 eg3
              cases hrun
              have ea' : F1 ⟨([lab].map fun d => some (Sl.d d)) ++ List.replicate (N.length - [lab].length) none, ()⟩ = some (.nx, sa) := by
                rw [hN]
                exact ea
              refine m1 _ _ H S gs _ _ ea' _ fun σ1 H1 S1 g1 w1 => ?_
              obtain ⟨v, hv1, a, rfl, hv2⟩ := g1.slot i _ er
              suffices key : tLc (iRngV (tVar i)) (gName k1) tYes (tLc (iRngV (tVar i)) (gName k2) tYes (tC (.bl c)) [k2]) [k1] σ1 H1 (fun v H' => tEx (fun t => ∀ X, Gam.Has ⟨P, w, K, mg, base, A, N, defScope st, fun _ => true⟩ X → PSs X [s3, s4, s5] t) { nx := fun _ H' => Q .non H', rt := Q } (σ1.set g (some v)) H') from key
              refine lcTab_run (a := a) (n := m) hv1 (g1.fr.sub _ _ hv2) h0 hm hki fun T ps H2 hl M => ?_
              have hgl : g < σ1.length := by rw [← g1.len]; exact hgl
              have g2 := good_tab (B := ⟨dr0, H, S⟩) (N := m.toNat) (g := g) (A := T) (ps := ps) (d := .bool c) (.bl c) g1 hl M hgl (bare_own hbare) (bare_h hbare)
              obtain ⟨t3, p3, m3⟩ := b3 A ⟨tabDr K T ps, H2, S1⟩ ⟨T, ps, rfl, M.nd⟩ ok
              obtain ⟨t4, p4, m4⟩ := b4 A ⟨tabDr K T ps, H2, S1⟩ ⟨T, ps, rfl, M.nd⟩ ok
              refine ⟨tSeq t3 (tSeq t4 (tRet (tTup (tCons (tVar r) (tCons (tVar g) tNil))))), fun X h => pss_cons (p3 X h) (pss_cons (p4 X h) (pss_one (b5 A X ok h))), ?_⟩
              obtain ⟨o3, sb, e3, e4⟩ := bnd_some ec
              refine m3 _ _ H2 S1 g2 o3 sb e3 _ ?_
              cases o3 with
              | nx =>
                refine fun σ3 H3 S3 g3 w3 => ?_
                refine m4 _ _ H3 S3 g3 _ _ e4 _ fun σ4 H4 S4 g4 w4 => ?_
                exact tab_fin g1 M g4 er3 eg3 hQ
              | bk => obtain ⟨q, _⟩ := ret_some e4; cases q
              | ct => obtain ⟨q, _⟩ := ret_some e4; cases q
              | rt d => obtain ⟨q, _⟩ := ret_some e4; cases q
              | rn xs => obtain ⟨q, _⟩ := ret_some e4; cases q
            · cases hrun
          · cases hrun
        · cases hrun
      · cases hrun
    · cases hrun
  · cases hrun
end DL
end

section
set_option Elab.async false
set_option linter.all false
set_option maxRecDepth 100000
set_option maxHeartbeats 3999999
/-! WEng19: an own exception class over an own base over ValueError, whose __init__ begins with super().__init__(..) -/
namespace DL
open L2 PySem PyProof.Rows PySem.Spec
section
variable {P : Program} {w : World} {A : Around} {E : Value → Shared → Prop} {h : Heap} {g : Array GenState} {d : Drawn} {t : Nat} {os : OsState}
/-- the bound ValueError.__init__ called -/
theorem mw_call {nm q : Str} {C N : Addr} {bs bm : List Value} {hdct : Bool} {sn : List Str} {sub : List Value} {ab : Bool} {col : Option Bool} {dd : Option Addr} {k0 k1 k2 k3 k5 : Option Value} {u e t0 : Addr} {rest : List Value} {Q : Value → Shared → Prop}
    (hC : h.get? C = some (excClassObj nm q C N bs bm hdct sn sub ab col dd k0 k1 k2 k3 k5 "ValueError.__new__")) (he : h.get? e = some (HandSPX.excO C t0)) (hu : h.get? u = some (PySem.W.kxs_mw "ValueError.__init__" e)) (hz : rest.length ≤ sizeLine)
    (hq : ∀ h' t1, (∀ b o, b ≠ e → h.get? b = some o → h'.get? b = some o) → h'.get? e = some (HandSPX.excO C t1) → Q .none ⟨h', g, d, t, os⟩) :
    wpAny (model P w) A (call (.ref u) rest) Q E ⟨h, g, d, t, os⟩ := by
  have FB := F.excBase_ValueError
  refine wpAny_call (codeAny_of_tree ?_)
  show wpAny _ A.in1 (callAny (.ref u) ⟨rest, []⟩) _ _ _
  simp only [callAny]
  refine wpAny_bind (wpAny_load hu ?_)
  simp only [PySem.W.kxs_mw, show (Value.type "method-wrapper" == Value.type "method" || Value.type "method-wrapper" == Value.type "builtin_function_or_method" || Value.type "method-wrapper" == Value.type "method-wrapper") = true by decide, if_true]
  refine PySem.W.KFB.if_so (by decide) ?_
  refine wpAny_bind (PySem.W.check_bound_init FB.toExcCallFacts hC he rfl ?_)
  refine wpAny_bind (wpAny_pure (wpAny_pure ?_))
  refine ⟨plainId_quiet FB.init.plain _, codeAny_builtin FB.initEntry ?_⟩
  exact PySem.W.exc_init_tree (cls := .ref C) (t0 := t0) (dv := none) (c2 := .none) (c3 := .none) (b4 := .bool false) he hz fun h' k e' _ => hq h' _ k e'
end
/-- the context of such an __init__ at its entry -/
def cxS (CX : CXT) (P : Program) (w : World) (K : PySem.W.Frag) (mg : Str → Option Value) (base : Heap) (N : List Str) (qual : Str) (scope : Scope) (f : Addr) (cd : Value) (cc : Addr) (A : Around) (outer : List Env) (s : Shared) (H : Hp) (E : XK) : Cx where
  prog := P
  w := w
  K := K
  mg := mg
  base := base
  A := A.deeper (PySem.W.ksEnv qual scope s.heap.objs.size f cd cc)
  N := N
  s_0 := s
  H_0 := H
  env := PySem.W.ksEnv qual scope s.heap.objs.size f cd cc
  outer := outer
  stack := PySem.W.ksEnv qual scope s.heap.objs.size f cd cc :: outer
  ex := []
  calm := true
  fn := fun _ => false
  pn := []
  xe := fun e s' => wpAny (model P w) (A.deeper (PySem.W.ksEnv qual scope s.heap.objs.size f cd cc)) (leaving (PySem.W.ksEnv qual scope s.heap.objs.size f cd cc) e) (fun _ s'' => CX outer H s E e s'') (fun e' s'' => CX outer H s E e' s'') s'
/-- the names of such an __init__ -/
structure SuScope (N : List Str) (sc : Scope) : Prop where
  kind : sc.kind = .function
  co : sc.isCoroutine = false
  gen : sc.isGenerator = false
  nd : N.Nodup
  par : ∀ x ∈ N, sc.names.lookup x = some .local
  nocell : ∀ y ∈ sc.names, y.2 ≠ .cell
  free : ∀ y ∈ sc.names, y.2 = .free → y.1 = "__class__"
  su : sc.names.lookup ("super" : Str) = some .globalImplicit
  cl : sc.names.lookup ("__class__" : Str) = some .free
theorem lookup_mem {y : Str} {u : Value} : ∀ {l : List (Str × Value)}, (y, u) ∈ l → (l.map Prod.fst).Nodup → l.lookup y = some u
  | (k, v) :: l, hm, nd => by
    rw [List.map_cons, List.nodup_cons] at nd
    rcases List.mem_cons.mp hm with e | hm
    · cases e
      simp [List.lookup]
    · have ne : ¬ y = k := fun z => nd.1 (List.mem_map.mpr ⟨(y, u), hm, z⟩)
      have : (y == k) = false := by simpa using ne
      simp only [List.lookup, this]
      exact lookup_mem hm nd.2
theorem zip_fst_nodup : ∀ {ps : List Str} {us : List Value}, ps.Nodup → ((ps.zip us).map Prod.fst).Nodup
  | [], _, _ => by simp
  | _ :: _, [], _ => by simp
  | p :: ps, u :: us, nd => by
    rw [List.zip_cons_cons, List.map_cons, List.nodup_cons]
    obtain ⟨h1, h2⟩ := List.nodup_cons.mp nd
    refine ⟨fun z => ?_, zip_fst_nodup h2⟩
    obtain ⟨q, hq, rfl⟩ := List.mem_map.mp z
    exact h1 (List.of_mem_zip hq).1
theorem lookup_rev {ps : List Str} {us : List Value} (nd : ps.Nodup) {i : Nat} {y : Str} {u : Value} (h1 : ps[i]? = some y) (h2 : us[i]? = some u) : (ps.zip us).reverse.lookup y = some u := by
  refine lookup_mem (List.mem_reverse.mpr (List.mem_of_getElem? (i := i) ?_)) ?_
  · rw [List.getElem?_zip_eq_some]
    exact ⟨h1, h2⟩
  · rw [List.map_reverse]
    exact (List.reverse_perm _).nodup_iff.mpr (zip_fst_nodup nd)
theorem inv_startS {CX : CXT} {P : Program} {w : World} {K : PySem.W.Frag} {mg : Str → Option Value} {base : Heap} {N : List Str} {qual : Str} {scope : Scope} {f : Addr} {cd : Value} {cc : Addr} {A : Around} {outer : List Env} {s : Shared} {H : Hp} {E : XK} {us : List Value} {vs : List V} {h1 : Heap} {tk : Nat} {D : Value} {cl : Value} {cld : Option Addr} {csl : Array (Option Value)}
    (S : SuScope N scope) (hd : A.handled = none) (e0 : Env0 P w K mg base A outer s H) (hl : vs.length = N.length) (r : Vals vs us) (hcell : K.lookup cc = some ⟨cl, cld, .cell (some D), csl⟩)
    (hns : h1.Ns s.heap.objs.size (fun x => (N.zip us).reverse.lookup x)) (hk : ∀ b o, s.heap.get? b = some o → h1.get? b = some o) :
    Inv (cxS CX P w K mg base N qual scope f cd cc A outer s H E) [] (L2.start N vs) H { s with heap := h1, toks := tk } := by
  have noA : ∀ b : Addr, b ∉ (cxS CX P w K mg base N qual scope f cd cc A outer s H E).ex := fun b z => absurd (show b ∈ ([] : List Addr) from z) (by simp)
  have cells : ∀ y c, (cxS CX P w K mg base N qual scope f cd cc A outer s H E).env.cells.lookup y = some c → y = "__class__" ∧ c = cc := fun y c h => by
    have h : List.lookup y [(("__class__" : Str), cc)] = some c := h
    simp only [List.lookup] at h
    split at h
    · rename_i e
      cases h
      exact ⟨eq_of_beq e, rfl⟩
    · cases h
  have hcb := e0.bs _ _ (e0.mod.kin _ _ hcell)
  refine ⟨⟨e0.mod, S.kind, rfl, rfl, Nat.le_refl _, fun y z c h1 h2 => (cells _ _ h1).1.trans (cells _ _ h2).1.symm, fun y hy => ?_, fun y c h _ => absurd h (by simp [cxS]), fun _ => hd, Around.frames_deeper e0.frames, .inr ⟨rfl, rfl⟩, fun b z => absurd z (noA b), e0.bs, e0.bsz, fun b _ _ => noA b, fun b z => absurd z (noA b), e0.funs, e0.frf⟩,
    rfl, e0.bare, Un.kept hk, ⟨_, hns, fun i y v h1 h2 h3 => ?_⟩, fun y c h => ?_, e0.hok.fresh (Nat.le_refl _), fun y c h => ?_, fun p hp => absurd (show p ∈ ([] : List (Addr × Obj)) from hp) (by simp), e0.hok.kept hk, ?_⟩
  · have hy : scope.names.lookup y = some .cell ∨ scope.names.lookup y = some .free := hy
    rcases hy with hy | hy
    · exact absurd rfl (S.nocell _ (PySem.mem_of_lookup hy))
    · have := S.free _ (PySem.mem_of_lookup hy) rfl
      dsimp only at this
      subst this
      exact ⟨cc, rfl⟩
  · have hi : i < vs.length := by
      unfold L2.start at h2
      by_cases hi : i < vs.length
      · exact hi
      · rw [List.getElem?_append_right (by simpa using hi)] at h2
        rw [List.getElem?_replicate] at h2
        split at h2 <;> cases h2
    have ha : vs[i]? = some v := by
      unfold L2.start at h2
      rw [List.getElem?_append_left (by simpa using hi), List.getElem?_map] at h2
      cases e : vs[i]? with
      | none => rw [e] at h2; cases h2
      | some a => rw [e] at h2; cases h2; rfl
    obtain ⟨u, hu, rv⟩ := r.get ha
    exact ⟨u, rv, .inl ⟨S.par y (List.mem_of_getElem? h1), lookup_rev S.nd h1 hu⟩⟩
  · obtain ⟨rfl, rfl⟩ := cells y c h
    exact ⟨_, _, hk _ _ hcb.1, rfl⟩
  · obtain ⟨rfl, rfl⟩ := cells y c h
    exact hcb.2
  · unfold L2.start
    show _ = N.length
    rw [List.length_append, List.length_map, List.length_replicate]
    omega
/-- what the written part says of such a class and of its __init__ -/
structure SuC (K : PySem.W.Frag) (C fI : Addr) (qual : Str) (N : List Str) (body : List Stmt) (scope : Scope) (fd : FuncData) : Prop where
  ox : OexC K C
  io : PySem.W.findIn K (.ref C) "__init__" = some (some (.ref fI))
  ti : PySem.W.typeIn K (.ref fI) = some (.type "function")
  ve : PySem.W.subIn K (.ref C) (.type "ValueError") = some true
  su : PySem.W.ks_superIn K C C "__init__" = some (some (.builtin "ValueError.__init__"))
  me : PySem.W.mroIn K C (.ref C) = some true
  any : PySem.W.nsIn K cStatics "thirdparty.any" = some none
  sup : PySem.W.nsIn K mainGlobals "super" = some none
  fn : ∃ (oc : Value) (od : Option Addr) (name : Str) (params : Arguments) (dV kV doc pm cdv ct : Value) (an : Option Addr) (osl : Array (Option Value)) (cc cda : Addr) (ccl cl : Value) (cdd cld : Option Addr) (vs : Array Value) (ccs csl : Array (Option Value)) (ar : Arg) (file : Str) (tf : Tok),
    fd = PySem.W.ksFn name qual params body scope dV kV doc pm an cdv ct cc ∧ K.lookup fI = some ⟨oc, od, .func fd, osl⟩ ∧ PySem.W.codeIn K cdv qual = true ∧ K.lookup cc = some ⟨cl, cld, .cell (some (.ref C)), csl⟩ ∧
      cdv = .ref cda ∧ K.lookup cda = some ⟨ccl, cdd, .fields vs, ccs⟩ ∧ vs[2]? = some (.str file tf) ∧ file = "/claim/cut.py" ∧ (params.posonlyargs ++ params.args).head? = some ar ∧ N.head? = some ar.arg
theorem fnSu {CX : CXT} {P : Program} {w : World} {K : PySem.W.Frag} {mg : Str → Option Value} {base : Heap} {k : Nat} {C fI : Addr} {qual : Str} {N : List Str} {rest : List Stmt} {scope : Scope} {fd : FuncData} {sp : Sp} {p0 p1 p2 p3 p4 p5 : Pos} {m : Str} {j : Nat}
    (T : SuC K C fI qual N (.Expr (.Call (.Attribute (.Call (.Name "super" p0) [] [] p1) "__init__" p2) [.Constant (.str m) j p3] [] p4) p5 :: rest) scope fd) (S : SuScope N scope)
    (hP : P.main.file = "/claim/cut.py") (hT : (P.main.scope.names.lookup ("super" : Str)).isSome = false)
    (hsw : ∀ env : Env, swapsWith (.Call (.Attribute (.Call (.Name "super" p0) [] [] p1) "__init__" p2) [.Constant (.str m) j p3] [] p4) none p5.line env = pure false)
    (pl : Sem Bool) (hev : ∀ env : Env, eval (.Call (.Attribute (.Call (.Name "super" p0) [] [] p1) "__init__" p2) [.Constant (.str m) j p3] [] p4) env = (do
      let ov ← attributeBase (.Call (.Name "super" p0) [] [] p1) "__init__" env (eval (.Call (.Name "super" p0) [] [] p1) env)
      standAt p2.atName
      let (f, first) ← holding [ov] (getMethod ov "__init__" pl)
      callWith p4 f first (backTo p4 (starEach [.Constant (.str m) j p3] env)) []))
    (len : ∀ vs H Q E, sp vs H Q E → vs.length = N.length)
    (hbody : ∀ (A : Around) (outer : List Env) (s : Shared) (H : Hp) (vs : List V) (Q : VK) (E : XK) (cdv : Value) (cc : Addr), Room k (A.deeper (PySem.W.ksEnv qual scope s.heap.objs.size fI cdv cc)) → sp vs H Q E →
      ∃ a vs', vs = .ref a :: vs' ∧ H a = some (exo a C none) ∧ ∃ t, PSs (cxS CX P w K mg base N qual scope fI cdv cc A outer s H E) rest t ∧ t { nx := fun _ H' => Q .non H', rt := Q } (L2.start N vs) H) :
    FnOk P w K mg base CX (k + 1) fI fd N sp := by
  obtain ⟨oc, od, name, params, dV, kV, doc, pm, cdv, ct, an, osl, cc, cda, ccl, cl, cdd, cld, vs0, ccs, csl, ar, file, tf, rfl, lk, hcd, hcell, rfl, hcode, hfile0, hff, hp, hN⟩ := T.fn
  refine ⟨len, fun A outer s H args us vs Q E hr e0 hb r hsp => ?_⟩
  have hvl := len _ _ _ _ hsp
  have KX : K.In s.heap := e0.mod.kin.keeps fun b o e => (e0.bs b o e).1
  have lim : s.heap.NoLimit := e0.mod.nolimit.keeps fun b o e => (e0.bs b o e).1
  have hloc : ∀ y ∈ N.zip us, scope.names.lookup y.1 = some .local := by
    rintro ⟨n, v⟩ hy
    exact S.par n (List.of_mem_zip hy).1
  refine codeAny_call_function hr.depth (KX _ _ lk) rfl S.co S.gen rfl (PySem.W.codeRec_of KX hcd) (hb _ _ _ _ ?_)
  refine wpAny_newFunctionEnv S.nocell hloc (fun h1 hns hsb => ?_) S.kind
  have hk : ∀ b o, s.heap.get? b = some o → h1.get? b = some o := fun b o e => hsb.extBut b o (Nat.ne_of_lt (Heap.lt_size e)) (Heap.get?_push_of_some _ e)
  refine ⟨lim.fresh _ hsb, ks_codeAny_funcAt ?_⟩
  obtain ⟨a, vs', rfl, ha, t, ht, hq⟩ := hbody A outer s H vs Q E (.ref cda) cc (hr.deeper _) hsp
  have I := inv_startS (CX := CX) (E := E) (qual := qual) (f := fI) (cd := .ref cda) (tk := s.toks + (N.zip us).length) S hr.hd e0 hvl r hcell hns hk
  show _root_.PySem.wpAt (model P w) (A.deeper (PySem.W.ksEnv qual scope s.heap.objs.size fI (.ref cda) cc)) (.func _ (PySem.W.ksEnv qual scope s.heap.objs.size fI (.ref cda) cc)) (execs _ (PySem.W.ksEnv qual scope s.heap.objs.size fI (.ref cda) cc)) _ _ _
  have hnd : (L2.start N (V.ref a :: vs')).length = N.length := I.len
  obtain ⟨t1, hex⟩ := exo_at I.hok ha
  obtain ⟨nm, q, N', bs, bm, sn, sub, ab, col, dd, k0, k1, k2, k3, k5, hC, hbm⟩ := T.ox.cls
  have hcl : PySem.W.clsIn K C = some { name := nm, bases := bs, mro := .ref C :: bm, ns := N', qualname := q, hasDict := true, slotNames := sn, subclasses := sub, abstract := ab, collection := col, hasDel := false } := by
    unfold PySem.W.clsIn
    rw [hC] <;> rfl
  have K1 : K.In h1 := KX.keeps hk
  obtain ⟨mb, hmb, hbb⟩ := I.mod.blt
  refine ks_wpAt_execs_cons (ks_wpAt_Expr_any (ks_wpAt_MethodCall (pl := pl) ?_ (hev _)) (I.quiet) (hsw _))
  refine ks_wpAt_super_base (env := PySem.W.ksEnv qual scope s.heap.objs.size fI (.ref cda) cc) S.su S.cl rfl rfl (K1 _ _ lk) rfl hp rfl (K1 _ _ hcode) rfl hfile0 (by rw [hP, hff]; exact beq_self_eq_true _) hT ?_
  refine PySem.W.ks_loadName_global S.kind S.su (PySem.Calls.loadGlobal_builtin (env := PySem.W.ksEnv qual scope s.heap.objs.size fI (.ref cda) cc) (I.mod.glob.keeps I.bk) (PySem.W.mg_none_of K1 (I.mod.glob.keeps I.bk) T.sup) (hmb.keeps I.bk) ((hbb _ (by decide +kernel)).trans (by kernel_rfl)) ⟨rfl, ?_⟩)
  refine wpAny_loadName_free S.kind S.cl rfl ⟨_, K1 _ _ hcell, rfl⟩ ?_
  have hus : us[0]? = some (.ref a) := by
    cases r with
    | cons r0 _ =>
      have r0' : _ = Value.ref a := r0
      subst r0'
      rfl
  have hN0 : N[0]? = some ar.arg := by
    rw [← hN, List.head?_eq_getElem?]
  refine wpAny_loadName_local S.kind (S.par _ (List.mem_of_getElem? hN0)) hns (lookup_rev S.nd hN0 hus) ?_
  refine ks_wpAny_isType_cls (K1 _ _ hC) rfl ⟨rfl, ?_⟩
  refine ks_wpAny_call_super (K1 _ _ hC) rfl hex rfl (fun c e => by cases e) (PySem.W.looks_mroIn K1 T.me) (fun h2 e2 k2 => ?_)
  have I2 := I.kept (h' := h2) (t' := s.toks + (N.zip us).length) k2
  have K2 : K.In h2 := K1.keeps k2
  have hsu := T.su
  unfold PySem.W.ks_superIn at hsu
  rw [hcl] at hsu
  have hne : a ≠ C := fun z => by
    have := (e0.bs _ _ (e0.mod.kin _ _ hC)).2
    rw [← z, ha] at this
    cases this
  have hI : PySem.W.Looks (model P w) h2 (isInstance (.ref a) (.type "ValueError")) true := (PySem.W.InstAt.type (⟨k2 _ _ hex, rfl, rfl, trivial⟩ : PySem.W.InstAt h2 a _ C none)).andThen (PySem.W.looks_subIn K2 T.ve)
  refine PySem.W.kxs_getMethod PySem.W.kxs_ValueError e2 (PySem.W.looks_opaque K2 T.any) (l₀ := .ref C :: bm) ?_ rfl K2 hsu hI hne rfl ?_
  · exact fun A Q E s k q => wpAny_bind ((PySem.W.looks_clsIn K2 hcl) A _ E s k (wpAny_pure q))
  have up : ∀ b o, h2.get? b = some o → (h2.push (PySem.W.kxs_mw "ValueError.__init__" a)).get? b = some o := fun b o e => Heap.get?_push_of_some _ e
  have I3 := I2.kept (h' := h2.push (PySem.W.kxs_mw "ValueError.__init__" a)) (t' := s.toks + (N.zip us).length + 1) up
  have hmw : (h2.push (PySem.W.kxs_mw "ValueError.__init__" a)).get? h2.objs.size = some (PySem.W.kxs_mw "ValueError.__init__" a) := Heap.get?_push_at rfl rfl
  have I4 : Inv _ [(h2.objs.size, PySem.W.kxs_mw "ValueError.__init__" a)] _ H _ := I3.pins_of fun p hp => by
    have : p = (h2.objs.size, PySem.W.kxs_mw "ValueError.__init__" a) := by simpa using hp
    subst this
    refine ⟨hmw, I2.hok.fresh (Nat.le_refl _), ?_, I2.nofs (Nat.le_refl _), fun v z => by cases z⟩
    exact fun z => Nat.lt_irrefl _ (by have := I2.lt; rw [← z] at this; exact this)
  have pa : PA (cxS CX P w K mg base N qual scope fI (.ref cda) cc A outer s H E) [.Constant (.str m) j p3] _ := pa_cons pe_str pa_nil rfl
  show wpAny _ _ (callWith p4 (.ref h2.objs.size) [] _ []) _ _ _
  refine PySem.W.kxs_callWith (i := "ValueError.__init__") (x := a) rfl (PySem.Calls.evalArgs_plain ?_)
  refine thn (pa.run p4 _ _ _ H (fun vs1 H1 => vs1 = [V.str m] ∧ H1 = H) I4 ⟨rfl, rfl⟩) ?_
  rintro us1 s1 ⟨vs1, H1, I5, r5, rfl, rfl⟩
  have hmw1 : s1.heap.get? h2.objs.size = some (PySem.W.kxs_mw "ValueError.__init__" a) := (I5.pin _ (List.mem_append_right _ List.mem_cons_self)).1
  refine ⟨hmw1, ?_⟩
  have hz : us1.length ≤ sizeLine := by
    rw [← r5.length, sizeLine_eq]
    show 1 ≤ 16777216
    decide
  obtain ⟨t5, hex5⟩ := exo_at I5.hok ha
  have hC5 := I5.kIn _ _ hC
  obtain ⟨hp5, g5, d5, tk5, os5⟩ := s1
  show wpAny (model P w) _ (call (.ref h2.objs.size) us1) _ _ _
  refine mw_call hC5 hex5 hmw1 hz fun h6 t6 k6 e6 => ?_
  have J := I5.write (t' := tk5) (x := a) (e := a) (o := exo a C none) (by rw [ha]; exact True.intro) (.inl rfl) k6 ⟨_, e6⟩ (exo_ok e6)
  have eu : upd H1 a (exo a C none) = H1 := by
    funext b
    by_cases hb : b = a
    · rw [hb, upd_same, ha]
    · rw [upd_ne hb]
  rw [eu] at J
  show _root_.PySem.wpAt _ _ _ _ _ _ _
  refine wpAt_of_wpAny ?_
  refine wpAny_mono (ht.run _ _ _ _ _ J hq) ?_ fun e s' hs => hs
  intro fl s' hs
  match fl, hs with
  | .ret u, ⟨v, σ', H', J, rv, q⟩ => exact ⟨v, H', J.os, J.bare, J.base, J.hok, rv, q⟩
  | .next, ⟨σ', H', J, q⟩ => exact ⟨V.non, H', J.os, J.bare, J.base, J.hok, rfl, q⟩
  | .brk, ⟨_, _, _, q⟩ => exact False.elim q
  | .cont, ⟨_, _, _, q⟩ => exact False.elim q
end DL
end

section
set_option Elab.async false
set_option linter.all false
set_option maxRecDepth 100000
set_option maxHeartbeats 3999999
/-! WEng20: code that may raise: mirrors with two ends -/
namespace DL
open L2 PySem PyProof.Rows PySem.Spec
/-- an exception as data: its class, its fields -/
structure Exn where
  cls : Str
  fs : List (Str × D)
abbrev ME (τ α : Type) := Stt τ → Option (Except Exn α × Stt τ)
section
variable {τ α β : Type}
def okE (F : M τ α) : ME τ α := fun s => (F s).map fun p => (.ok p.1, p.2)
def retE (a : α) : ME τ α := fun s => some (.ok a, s)
def bndE (F : ME τ α) (f : α → ME τ β) : ME τ β := fun s => match F s with
  | none => none
  | some (.error x, s') => some (.error x, s')
  | some (.ok a, s') => f a s'
/-- a def's answer taken in -/
def ansE (o : Option (Except Exn α)) : ME τ α := fun s => o.map fun r => (r, s)
theorem okE_some {F : M τ α} {s s' : Stt τ} {r : Except Exn α} (h : okE F s = some (r, s')) : ∃ a, r = .ok a ∧ F s = some (a, s') := by
  obtain ⟨p, e, q⟩ := Option.map_eq_some_iff.mp h
  cases q
  exact ⟨p.1, rfl, e⟩
theorem bndE_some {F : ME τ α} {f : α → ME τ β} {s s' : Stt τ} {r : Except Exn β} (h : bndE F f s = some (r, s')) : (∃ x, r = .error x ∧ F s = some (.error x, s')) ∨ ∃ a s1, F s = some (.ok a, s1) ∧ f a s1 = some (r, s') := by
  unfold bndE at h
  split at h
  · cases h
  · rename_i x s1 e
    cases h
    exact .inl ⟨x, rfl, e⟩
  · rename_i a s1 e
    exact .inr ⟨a, s1, e, h⟩
theorem ansE_some {o : Option (Except Exn α)} {s s' : Stt τ} {r : Except Exn α} (h : ansE o s = some (r, s')) : o = some r ∧ s' = s := by
  obtain ⟨p, e, q⟩ := Option.map_eq_some_iff.mp h
  cases q
  exact ⟨e, rfl⟩
end
/-- where an exception goes; the frame on top is the code's own -/
structure Tk (X : Cx) (W : WX) : Prop where
  tk : L2.Takes X W
  st : X.stack = X.env :: X.outer
  fr : X.env.frame = some X.env.locals
/-- how an exception's dict stands for its fields -/
def FsAt (K : Frag) (S : Hp) (fs : List (Str × V)) (ds : List (Str × D)) : Prop := fs.map (·.1) = ds.map (·.1) ∧ DqAll K S (fs.map (·.2)) (ds.map (·.2))
def Rsd (K : Frag) (mg : Str → Option Value) (S : Hp) (x : Exn) (cls : Value) (d : Option Addr) (H : Hp) : Prop := ∃ C dd fs, mg x.cls = some (.ref C) ∧ cls = .ref C ∧ d = some dd ∧ H dd = some (.xd fs) ∧ FsAt K S fs x.fs
theorem FsAt.mono {K : Frag} {S S' : Hp} {fs : List (Str × V)} {ds : List (Str × D)} (h : FsAt K S fs ds) (w : Same S S') : FsAt K S' fs ds := ⟨h.1, DqAll.mono w h.2⟩
section
variable {τ : Type}
def EndX (Γ : Gam) (B : Bd τ) (σ : List (Option V)) (s : Stt τ) (H S : Hp) (s' : Stt τ) (r : Except Exn D) (W : WX) (Q : VK) : Prop := match r with
  | .ok d => ∀ v H' S', Good Γ.K B s' σ H' S' → Step Γ.K B σ s H S s' H' S' → Dq Γ.K S' v d → Q v H'
  | .error x => ∀ H' S' cls dd, Good Γ.K B s' σ H' S' → Same S S' → Rsd Γ.K Γ.mg S' x cls dd H' → W cls dd σ H'
def MeanX (Γ : Gam) (B : Bd τ) (W : WX) (t : TE) (F : ME τ D) : Prop := ∀ s σ H S, Good Γ.K B s σ H S → ∀ r s', F s = some (r, s') → ∀ Q : VK, EndX Γ B σ s H S s' r W Q → t σ H Q
/-- an expression that may raise; it gives a datum -/
def DOx (Γ : Gam) (B : Bd τ) (e : Expr) (F : ME τ D) : Prop := ∀ W, ∃ t, (∀ X, Γ.Has X → Tk X W → PE X e t) ∧ MeanX Γ B W t F
def EndV (Γ : Gam) (B : Bd τ) (σ : List (Option V)) (s : Stt τ) (H S : Hp) (s' : Stt τ) (r : Except Exn (List D)) (W : WX) (Q : List V → Hp → Prop) : Prop := match r with
  | .ok ds => ∀ vs H' S', Good Γ.K B s' σ H' S' → Step Γ.K B σ s H S s' H' S' → DqAll Γ.K S' vs ds → Q vs H'
  | .error x => ∀ H' S' cls dd, Good Γ.K B s' σ H' S' → Same S S' → Rsd Γ.K Γ.mg S' x cls dd H' → W cls dd σ H'
def MeanVX (Γ : Gam) (B : Bd τ) (W : WX) (t : TA) (F : ME τ (List D)) : Prop := ∀ s σ H S, Good Γ.K B s σ H S → ∀ r s', F s = some (r, s') → ∀ Q, EndV Γ B σ s H S s' r W Q → t σ H Q
def DVx (Γ : Gam) (B : Bd τ) (es : List Expr) (F : ME τ (List D)) : Prop := ∀ W, ∃ t, (∀ X, Γ.Has X → Tk X W → PA X es t) ∧ MeanVX Γ B W t F
/-- the ends of a statement -/
def EndS (Γ : Gam) (B : Bd τ) (S : Hp) (s' : Stt τ) (r : Except Exn Out) (W : WX) (D : Ends) : Prop := match r with
  | .ok o => EndOk Γ.K B S o s' D
  | .error x => ∀ σ' H' S' cls dd, Good Γ.K B s' σ' H' S' → Same S S' → Rsd Γ.K Γ.mg S' x cls dd H' → W cls dd σ' H'
def MeanSX (Γ : Gam) (B : Bd τ) (W : WX) (t : TS) (F : ME τ Out) : Prop := ∀ s σ H S, Good Γ.K B s σ H S → ∀ r s', F s = some (r, s') → ∀ D : Ends, EndS Γ B S s' r W D → t D σ H
def DSx (Γ : Gam) (B : Bd τ) (st : Stmt) (F : ME τ Out) : Prop := ∀ W, ∃ t, (∀ X, Γ.Has X → Tk X W → PS X st t) ∧ MeanSX Γ B W t F
def DSsx (Γ : Gam) (B : Bd τ) (st : List Stmt) (F : ME τ Out) : Prop := ∀ W, ∃ t, (∀ X, Γ.Has X → Tk X W → PSs X st t) ∧ MeanSX Γ B W t F
def seqE (F G : ME τ Out) : ME τ Out := bndE F fun o => match o with
  | .nx => G
  | .bk => retE .bk
  | .ct => retE .ct
  | .rt d => retE (.rt d)
  | .rn xs => retE (.rn xs)
variable {Γ : Gam} {B : Bd τ} {pos : Pos} {e : Expr} {es : List Expr} {st : Stmt} {sts : List Stmt}
theorem EndS.mono {S S1 : Hp} {s' : Stt τ} {r : Except Exn Out} {W : WX} {D : Ends} (h : EndS Γ B S s' r W D) (w : Same S S1) : EndS Γ B S1 s' r W D := by
  cases r with
  | ok o => exact EndOk.mono h w
  | error x => exact fun σ' H' S' cls dd g w' => h σ' H' S' cls dd g (w.trans w')
theorem DOx.of {F : M τ Opd} (h : DO Γ B e F) : DOx Γ B e (okE (valM F)) := fun W => by
  obtain ⟨t, p, m⟩ := h
  refine ⟨t, fun X h _ => p X h, fun s σ H S g r s' e Q q => ?_⟩
  obtain ⟨d, rfl, e1⟩ := okE_some e
  exact m.val g e1 q
theorem DVx.of {F : M τ (List D)} (h : DV Γ B es F) : DVx Γ B es (okE F) := fun W => by
  obtain ⟨t, p, m⟩ := h
  refine ⟨t, fun X h _ => p X h, fun s σ H S g r s' e Q q => ?_⟩
  obtain ⟨d, rfl, e1⟩ := okE_some e
  exact m s σ H S g d s' e1 Q q
def consX (F : ME τ D) (G : ME τ (List D)) : ME τ (List D) := bndE F fun d => bndE G fun ds => retE (d :: ds)
theorem DVx.cons {F : ME τ D} {G : ME τ (List D)} (h : DOx Γ B e F) (hs : DVx Γ B es G) (hst : ∀ X : Cx, starEach (e :: es) X.env = (false, eval e X.env) :: starEach es X.env := by intro _; rfl) : DVx Γ B (e :: es) (consX F G) := fun W => by
  obtain ⟨t, p, m⟩ := h W
  obtain ⟨u, pu, mu⟩ := hs W
  refine ⟨_, fun X h tk => pa_cons (p X h tk) (pu X h tk) (hst X), fun s σ H S g r s' e Q q => ?_⟩
  rcases bndE_some e with ⟨x, rfl, e1⟩ | ⟨d, s1, e1, e2⟩
  · exact m s σ H S g _ _ e1 _ q
  refine m s σ H S g _ _ e1 _ fun v H1 S1 g1 w1 r1 => ?_
  rcases bndE_some e2 with ⟨x, rfl, e3⟩ | ⟨ds, s2, e3, e4⟩
  · exact mu s1 σ H1 S1 g1 _ _ e3 _ fun H2 S2 cls dd g2 w2 r2 => q H2 S2 cls dd g2 (w1.same.trans w2) r2
  · cases e4
    exact mu s1 σ H1 S1 g1 _ _ e3 _ fun vs H2 S2 g2 w2 r2 => q _ H2 S2 g2 (w1.trans w2) (.cons (Dq.mono w2.same r1) r2)
theorem DSx.of {F : M τ Out} (h : DS Γ B st F) : DSx Γ B st (okE F) := fun W => by
  obtain ⟨t, p, m⟩ := h
  refine ⟨t, fun X h _ => p X h, fun s σ H S g r s' e D q => ?_⟩
  obtain ⟨o, rfl, e1⟩ := okE_some e
  exact m s σ H S g o s' e1 D q
theorem DSsx.of {F : M τ Out} (h : DSs Γ B sts F) : DSsx Γ B sts (okE F) := fun W => by
  obtain ⟨t, p, m⟩ := h
  refine ⟨t, fun X h _ => p X h, fun s σ H S g r s' e D q => ?_⟩
  obtain ⟨o, rfl, e1⟩ := okE_some e
  exact m s σ H S g o s' e1 D q
theorem DSsx.nil : DSsx Γ B [] (retE .nx) := fun W => ⟨tNext, fun X h _ => pss_nil, fun s σ H S g r s' e D q => by
  cases e
  exact q σ H S g (Same.refl _)⟩
theorem DSsx.cons {F G : ME τ Out} (h : DSx Γ B st F) (hs : DSsx Γ B sts G) : DSsx Γ B (st :: sts) (seqE F G) := fun W => by
  obtain ⟨t, p, m⟩ := h W
  obtain ⟨u, pu, mu⟩ := hs W
  refine ⟨_, fun X h tk => pss_cons (p X h tk) (pu X h tk), fun s σ H S g r s' e D q => ?_⟩
  rcases bndE_some e with ⟨x, rfl, e1⟩ | ⟨o1, s1, e1, e2⟩
  · exact m s σ H S g _ _ e1 _ q
  refine m s σ H S g _ s1 e1 _ ?_
  cases o1 with
  | nx => exact fun σ1 H1 S1 g1 w1 => mu s1 σ1 H1 S1 g1 r s' e2 D (q.mono w1)
  | bk => cases e2; exact q
  | ct => cases e2; exact q
  | rt d => cases e2; exact q
  | rn xs => cases e2; exact q
theorem DSsx.one {F : ME τ Out} (h : DSx Γ B st F) : DSsx Γ B [st] F := fun W => by
  obtain ⟨t, p, m⟩ := h W
  exact ⟨t, fun X h tk => pss_one (p X h tk), m⟩
def ifE (T : M τ Bool) (F G : ME τ Out) : ME τ Out := bndE (okE T) fun k => if k then F else G
theorem DSx.if_ {c : Expr} {as bs : List Stmt} {T : M τ Bool} {F G : ME τ Out} (hc : DT Γ B c T) (ha : DSsx Γ B as F) (hb : DSsx Γ B bs G) : DSx Γ B (.If c as bs pos) (ifE T F G) := fun W => by
  obtain ⟨tc, pc, mc⟩ := hc
  obtain ⟨ta, pa, ma⟩ := ha W
  obtain ⟨tb, pb, mb⟩ := hb W
  refine ⟨_, fun X h tk => ps_if (pc X h) (pa X h tk) (pb X h tk), fun s σ H S g r s' e D q => ?_⟩
  rcases bndE_some e with ⟨x, rfl, e1⟩ | ⟨k, s1, e1, e2⟩
  · obtain ⟨a, z, _⟩ := okE_some e1
    cases z
  obtain ⟨k', z, e1⟩ := okE_some e1
  cases z
  refine mc s σ H S g k s1 e1 _ fun H1 S1 g1 w1 => ?_
  cases k with
  | true => exact iteT (ma s1 σ H1 S1 g1 r s' e2 D (q.mono w1.same))
  | false => exact iteF (mb s1 σ H1 S1 g1 r s' e2 D (q.mono w1.same))
theorem DSx.expr {F : ME τ D} (h : DOx Γ B e F) (hs : ∀ X : Cx, swapsWith e none pos.line X.env = pure false := by intro _; rfl) : DSx Γ B (.Expr e pos) (bndE F fun _ => retE .nx) := fun W => by
  obtain ⟨t, p, m⟩ := h W
  refine ⟨_, fun X h tk => ps_expr (p X h tk) (hs X), fun s σ H S g r s' e D q => ?_⟩
  rcases bndE_some e with ⟨x, rfl, e1⟩ | ⟨d, s1, e1, e2⟩
  · exact m s σ H S g _ _ e1 _ fun H' S' cls dd g' w' r' => q σ H' S' cls dd g' w' r'
  · cases e2
    exact m s σ H S g _ _ e1 _ fun v H1 S1 g1 w1 _ => q σ H1 S1 g1 w1.same
theorem DSx.ret {F : ME τ D} (h : DOx Γ B e F) : DSx Γ B (.Return (some e) pos) (bndE F fun d => retE (.rt d)) := fun W => by
  obtain ⟨t, p, m⟩ := h W
  refine ⟨_, fun X h tk => ps_ret (p X h tk), fun s σ H S g r s' e D q => ?_⟩
  rcases bndE_some e with ⟨x, rfl, e1⟩ | ⟨d, s1, e1, e2⟩
  · exact m s σ H S g _ _ e1 _ fun H' S' cls dd g' w' r' => q σ H' S' cls dd g' w' r'
  · cases e2
    exact m s σ H S g _ _ e1 _ fun v H1 S1 g1 w1 r1 => q v H1 S1 g1.fr g1.at_ r1
def asgE (i : Nat) (F : ME τ D) : ME τ Out := bndE F fun d => bndE (okE (setM i d)) fun _ => retE .nx
theorem DSx.set {i : Nat} {x : Str} {pos' : Pos} {F : ME τ D} (nd : Γ.N.Nodup) (hi : Γ.N[i]? = some x) (hx : Loc Γ.sc x) (hf : Γ.fn x = true ∨ Γ.sc.names.lookup x = some .local) (h : DOx Γ B e F)
    (hs : ∀ X : Cx, swapsWith e (some (.Name x pos')) pos.line X.env = pure false := by intro _; rfl) : DSx Γ B (.Assign [.Name x pos'] e pos) (asgE i F) := fun W => by
  obtain ⟨t, p, m⟩ := h W
  refine ⟨_, fun X h tk => ps_set (by rw [h.N]; exact nd) (by rw [h.N]; exact hi) (by rw [h.sc]; exact hx) (p X h tk) (hs X) (by
    rcases hf with z | z
    · exact h.fn x z
    · exact .inr (by rw [h.sc]; exact z)), fun s σ H S g r s' e D q => ?_⟩
  rcases bndE_some e with ⟨y, rfl, e1⟩ | ⟨d, s1, e1, e2⟩
  · exact m s σ H S g _ _ e1 _ fun H' S' cls dd g' w' r' => q σ H' S' cls dd g' w' r'
  rcases bndE_some e2 with ⟨y, rfl, e3⟩ | ⟨u, s2, e3, e4⟩
  · obtain ⟨a, z, _⟩ := okE_some e3
    cases z
  · obtain ⟨a, z, e3⟩ := okE_some e3
    cases z
    cases e4
    refine m s σ H S g _ _ e1 _ fun v H1 S1 g1 w1 r1 => ?_
    obtain ⟨S2, w2, g2⟩ := put_of (o := .val d) g1 r1 e3
    exact q _ H1 S2 g2 (w1.same.trans w2)
end
end DL
end

section
set_option Elab.async false
set_option linter.all false
set_option maxRecDepth 100000
set_option maxHeartbeats 3999999
/-! WEng21: defs that may raise, their calls; raise -/
namespace DL
open L2 PySem PyProof.Rows PySem.Spec
structure FnGX (P : Program) (w : World) (K : PySem.W.Frag) (mg : Str → Option Value) (base : Heap) (k : Nat) (f : Addr) (fd : FuncData) (ps : List Str) (sp : Sp) : Prop where
  len : ∀ vs H Q E, sp vs H Q E → vs.length = ps.length
  run : ∀ (A : Around) (outer : List Env) (s : Shared) (H : Hp) (args : Args) (us : List Value) (vs : List V) (Q : VK) (E : XK), Room k A → A.guards = some [] → Env0 P w K mg base A outer s H →
    BindsTo s fd args (ps.zip us) → Vals vs us → sp vs H Q E → codeAny (model P w) A (.call (.ref f) args) (CR (L2.CX P w) outer P w H s Q E) s
theorem FnGX.mono {P : Program} {w : World} {K : PySem.W.Frag} {mg : Str → Option Value} {base : Heap} {j k : Nat} {f : Addr} {fd : FuncData} {ps : List Str} {sp : Sp} (F : FnGX P w K mg base j f fd ps sp) (h : j ≤ k) : FnGX P w K mg base k f fd ps sp :=
  ⟨F.len, fun A outer s H args us vs Q E hr => F.run A outer s H args us vs Q E (hr.mono h)⟩
section
variable {X : Cx} {k : Nat} {f : Addr} {fd : FuncData} {ps : List Str} {sp : Sp} {x : Str} {p pos : Pos} {e : Expr} {es : List Expr} {t : TA} {W : WX}
theorem runGX {pins : List (Addr × Obj)} {σ : L2.St} {H : Hp} {s : Shared} {Q : VK} {us : List Value} {vs : List V} (F : FnGX X.prog X.w X.K X.mg X.base k f fd ps sp) (hr : Room k X.A) (gd : X.A.guards = some []) (hb : Binds X.K fd ps []) (tk : L2.Takes X W)
    (I : L2.Inv X pins σ H s) (r : Vals vs us) (h : sp vs H Q (WE W σ)) : wpAny (model X.prog X.w) X.A (call (.ref f) us) (EP X pins σ Q) X.xe s := by
  have hl : us.length = ps.length := by
    rw [← r.length]
    exact F.len _ _ _ _ h
  have hbb := hb s us I.kIn (by rw [List.append_nil]; exact hl)
  rw [List.append_nil] at hbb
  refine wpAny_call (codeAny_mono (F.run X.A X.stack s H ⟨us, []⟩ us vs Q (WE W σ) hr gd I.env0 hbb r h) fun res s' hq => ?_)
  match res, hq with
  | .ok (.ret u), hq => exact I.after hq
  | .ok .next, hq => exact False.elim hq
  | .ok .brk, hq => exact False.elim hq
  | .ok .cont, hq => exact False.elim hq
  | .error ex, hq => exact passAt tk σ pins H s ex s' I hq
theorem pe_callGX (F : FnGX X.prog X.w X.K X.mg X.base k f fd ps sp) (hr : Room k X.A) (gd : X.A.guards = some []) (hg : Gl X x) (hm : X.mg x = some (.ref f)) (hk : PySem.W.keepIn X.K (.ref f) = true) (hb : Binds X.K fd ps []) (tk : L2.Takes X W) (ha : PA X (e :: es) t)
    (hdb : (x == ("__debug__" : Str)) = false) (he : starEach (e :: es) X.env = (false, eval e X.env) :: starEach es X.env) (hpl : (backTo pos (starEach es X.env)).any (·.1) = false) :
    PE X (.Call (.Name x p) (e :: es) [] pos) (tCallS sp (WE W) t) := by
  refine ⟨fun pins s σ H Q I h => ?_⟩
  refine wpAny_Call_Name_kw (ld_glob I hg hm ?_ hdb)
  refine PySem.W.callWith_K (h₀ := X.base) I.ok.mod.kin hk (thn (ha.run pos pins s σ H _ I h) fun us s1 ⟨vs, H1, I1, r, q⟩ => ⟨I1.kIn, ?_⟩) he hpl
  exact runGX F hr gd hb tk I1 r q
end
/-- what a def that may raise promises -/
def spX (K : Frag) (mg : Str → Option Value) (f : List D → Option (Except Exn D)) : Sp := fun vs H Q E => ∃ S ds r, Same S H ∧ DqAll K S vs ds ∧ f ds = some r ∧ (match r with
  | .ok d => ∀ v H' S', Grow H S H' S' → Dq K S' v d → Q v H'
  | .error x => ∀ H' S' cls dd, Grow H S H' S' → Rsd K mg S' x cls dd H' → E cls dd H')
structure DefX (P : Program) (w : World) (K : Frag) (mg : Str → Option Value) (base : Heap) (k : Nat) (x : Str) (ps : List Str) (f : List D → Option (Except Exn D)) : Prop where
  ex : ∃ (a : Addr) (fd : FuncData), FnGX P w K mg base k a fd ps (spX K mg f) ∧ mg x = some (.ref a) ∧ PySem.W.keepIn K (.ref a) = true ∧ Binds K fd ps []
def callX {τ : Type} (f : List D → Option (Except Exn D)) (G : ME τ (List D)) : ME τ D := bndE G fun ds => ansE (f ds)
section
variable {τ : Type} {Γ : Gam} {B : Bd τ} {pos : Pos} {e : Expr} {es : List Expr}
theorem DOx.call {x : Str} {p : Pos} {k : Nat} {ps : List Str} {f : List D → Option (Except Exn D)} {G : ME τ (List D)} (F : DefX Γ.P Γ.w Γ.K Γ.mg Γ.base k x ps f) {j : Nat} (ok : Γ.Ok j) (hj : k ≤ j) (hg : Γ.sc.names.lookup x = some .globalImplicit) (ha : DVx Γ B (e :: es) G) (hdb : (x == ("__debug__" : Str)) = false := by decide)
    (he : ∀ X : Cx, starEach (e :: es) X.env = (false, eval e X.env) :: starEach es X.env := by intro _; rfl) (hpl : ∀ X : Cx, (backTo pos (starEach es X.env)).any (·.1) = false := by intro _; rfl) : DOx Γ B (.Call (.Name x p) (e :: es) [] pos) (callX f G) := fun W => by
  obtain ⟨a, fd, F, hm, hk, hb⟩ := F.ex
  obtain ⟨t, pa, m⟩ := ha W
  refine ⟨tCallS (spX Γ.K Γ.mg f) (WE W) t, fun X h tk => ?_, fun s σ H S g r s' e Q q => ?_⟩
  · have F' := F.mono hj
    rw [← h.P, ← h.w, ← h.K, ← h.mg, ← h.base] at F'
    have r := pe_callGX (x := x) (p := p) (pos := pos) F' (by rw [h.A]; exact ok.room) (by rw [h.A]; exact ok.gd) (gl_of h hg) (by rw [h.mg]; exact hm) (by rw [h.K]; exact hk) (by rw [h.K]; exact hb) tk.tk (pa X h tk) hdb (he X) (hpl X)
    rw [h.K, h.mg] at r
    exact r
  · rcases bndE_some e with ⟨x, rfl, e1⟩ | ⟨ds, s1, e1, e2⟩
    · exact m s σ H S g _ _ e1 _ q
    obtain ⟨ez, rfl⟩ := ansE_some e2
    refine m s σ H S g _ _ e1 _ fun vs H1 S1 g1 w1 r1 => ⟨S1, ds, r, g1.fr.sub, r1, ez, ?_⟩
    cases r with
    | ok d => exact fun v H2 S2 w2 r2 => q v H2 S2 (g1.grow w2) (w1.trans w2.step) r2
    | error x => exact fun H2 S2 cls dd w2 r2 => q H2 S2 cls dd (g1.grow w2) (w1.same.trans w2.s) r2
end
/-- a def's body as a function of its arguments -/
def runX (n : Nat) (F : ME Unit Out) (ds : List D) : Option (Except Exn D) := match F ⟨ds.map (fun d => some (.d d)) ++ List.replicate (n - ds.length) none, ()⟩ with
  | some (.ok (.rt d), _) => some (.ok d)
  | some (.ok .nx, _) => some (.ok .none)
  | some (.error x, _) => some (.error x)
  | _ => none
def runX2 (np n : Nat) (F : ME Unit Out) (ds : List D) : Option (Except Exn D) := if ds.length = np then runX n F ds else none
theorem fnX_ {P : Program} {w : World} {K : Frag} {mg : Str → Option Value} {base : Heap} {x qual : Str} {st : Stmt} {f : Addr} {fd : FuncData} {N ps : List Str} {k : Nat} {F : ME Unit Out} (Fn : Fun K x qual st f fd) (Sc : FnScope N ps (defScope st))
    (body : ∀ (A : Around) (B : Bd Unit), Gam.Ok ⟨P, w, K, mg, base, A, N, defScope st, fun _ => true⟩ k → DSsx ⟨P, w, K, mg, base, A, N, defScope st, fun _ => true⟩ B (defBody st) F) :
    FnGX P w K mg base (k + 1) f fd ps (spX K mg (runX2 ps.length N.length F)) := by
  obtain ⟨oc, od, kV, doc, pm, an, cdv, ct, osl, rfl, lk, hcd⟩ := Fn.ex
  have hl : ∀ vs H Q E, spX K mg (runX2 ps.length N.length F) vs H Q E → vs.length = ps.length := by
    rintro vs H Q E ⟨S, ds, d, _, h, e, _⟩
    rw [h.len]
    unfold runX2 at e
    split at e
    · assumption
    · cases e
  refine ⟨hl, fun A outer s H args us vs Q E hr gd e0 hb r hsp => ?_⟩
  have hvl := hl _ _ _ _ hsp
  have KX : K.In s.heap := e0.mod.kin.keeps fun b o e => (e0.bs b o e).1
  have lim : s.heap.NoLimit := e0.mod.nolimit.keeps fun b o e => (e0.bs b o e).1
  have hkind : ∀ y ∈ ps.zip us, (defScope st).names.lookup y.1 = some .local ∨
      ((defScope st).names.lookup y.1 = some .cell ∧ ((cellsFrom (s.heap.objs.size + 1) (defScope st).names []).lookup y.1).isSome = true) := by
    rintro ⟨n, v⟩ hy
    rcases Sc.par n (List.of_mem_zip hy).1 with q | q
    · exact .inl q
    · exact .inr ⟨q, PySem.W.cellsFrom_some _ _ _ (.inl q)⟩
  refine codeAny_call_function hr.depth (KX _ _ lk) rfl Sc.co Sc.gen rfl (PySem.W.codeRec_of KX hcd) (hb _ _ _ _ ?_)
  refine wpAny_newFunctionEnv_cells Sc.kind hkind ?_
  intro env he s1 xin
  subst he
  refine ⟨lim.keeps xin.toInCall.keep, codeAny_func ?_⟩
  obtain ⟨S, ds, res, wS, hds, hrun, hQ⟩ := hsp
  have I : L2.Inv (cxOf (L2.CX P w) P w K mg base N qual (defScope st) f cdv A outer s H E) [] (L2.start N vs) H s1 := inv_start Sc hr.hd e0 hvl r xin
  have hr' : Room k (A.deeper (envOfC qual (defScope st) s.heap.objs.size f cdv)) := hr.deeper _
  obtain ⟨t, pt, mt⟩ := body (A.deeper (envOfC qual (defScope st) s.heap.objs.size f cdv)) ⟨dr0, H, S⟩ ⟨Sc.nd, hr', gd⟩ (fun cls d _ H' => E cls d H')
  have hX : Gam.Has ⟨P, w, K, mg, base, A.deeper (envOfC qual (defScope st) s.heap.objs.size f cdv), N, defScope st, fun _ => true⟩ (cxOf (L2.CX P w) P w K mg base N qual (defScope st) f cdv A outer s H E) :=
    ⟨rfl, rfl, rfl, rfl, rfl, rfl, rfl, rfl, rfl, fun _ _ => .inl rfl, L2.passes_of rfl⟩
  have tk : L2.Takes (cxOf (L2.CX P w) P w K mg base N qual (defScope st) f cdv A outer s H E) (fun cls d _ H' => E cls d H') := L2.takes_of rfl rfl rfl rfl
  have ht := pt _ hX ⟨tk, rfl, rfl⟩
  have gs := good_start (K := K) (N := N) wS hds
  have hrun : runX N.length F ds = some res := by
    unfold runX2 at hrun
    split at hrun
    · exact hrun
    · cases hrun
  unfold runX at hrun
  have hq : t { nx := fun _ H' => Q .non H', rt := Q } (L2.start N vs) H := by
    split at hrun
    · rename_i d' s' e
      cases hrun
      refine mt _ _ H S gs _ _ e _ fun v H' S' fr _ hd => ?_
      exact hQ v H' S' ⟨fun b o e => fr.keep b o e (fun z => z), fr.s, fr.sub, fr.new⟩ hd
    · rename_i s' e
      cases hrun
      refine mt _ _ H S gs _ _ e _ fun σ' H' S' g' w' => ?_
      exact hQ .non H' S' ⟨fun b o e => g'.fr.keep b o e (fun z => z), g'.fr.s, g'.fr.sub, g'.fr.new⟩ .non
    · rename_i x' s' e
      cases hrun
      refine mt _ _ H S gs _ _ e _ fun σ' H' S' cls dd g' w' r' => ?_
      exact hQ H' S' cls dd ⟨fun b o e => g'.fr.keep b o e (fun z => z), g'.fr.s, g'.fr.sub, g'.fr.new⟩ r'
    · cases hrun
  refine wpAny_mono (ht.run [] s1 (L2.start N vs) H _ I hq) ?_ fun e s' hs => hs
  intro fl s' hs
  match fl, hs with
  | .ret u, ⟨v, σ', H', J, rv, q⟩ => exact ⟨v, H', J.os, J.bare, J.base, J.hok, rv, q⟩
  | .next, ⟨σ', H', J, q⟩ => exact ⟨V.non, H', J.os, J.bare, J.base, J.hok, rfl, q⟩
  | .brk, ⟨_, _, _, q⟩ => exact False.elim q
  | .cont, ⟨_, _, _, q⟩ => exact False.elim q
end DL
end

section
set_option Elab.async false
set_option linter.all false
set_option maxRecDepth 100000
set_option maxHeartbeats 3999999
/-! WEng22: raise C(..), C an own class with such an __init__ -/
namespace DL
open L2 PySem PyProof.Rows PySem.Spec
/-- what such an __init__ promises: the dict with its fields -/
def spI (C : Addr) (flds : List Str) : Sp := fun vs H Q _ => ∃ a ws, vs = .ref a :: ws ∧ ws.length = flds.length ∧ H a = some (exo a C none) ∧
  ∀ dx H', H dx = none → dx ≠ a → H' a = some (exo a C (some dx)) → H' dx = some (exd dx (flds.zip ws).reverse) → (∀ b, b ≠ a → b ≠ dx → H' b = H b) → Q .non H'
theorem spI_len {C : Addr} {flds : List Str} : ∀ vs H Q E, spI C flds vs H Q E → vs.length = ((("self" : Str) :: flds)).length := by
  rintro vs H Q E ⟨a, ws, rfl, h, _⟩
  rw [List.length_cons, List.length_cons, h]
/-- an own exception class as the module knows it -/
structure DefE (P : Program) (w : World) (K : Frag) (mg : Str → Option Value) (base : Heap) (k : Nat) (x : Str) (flds : List Str) : Prop where
  ex : ∃ (C fI : Addr) (fd : FuncData), OexC K C ∧ PySem.W.findIn K (.ref C) "__init__" = some (some (.ref fI)) ∧ PySem.W.typeIn K (.ref fI) = some (.type "function") ∧ FnOk P w K mg base CX0 k fI fd (("self" : Str) :: flds) (spI C flds) ∧ mg x = some (.ref C) ∧ Binds K fd (("self" : Str) :: flds) []
section
variable {τ : Type} {Γ : Gam} {B : Bd τ} {pos : Pos} {e : Expr} {es : List Expr}
def raiseM {τ : Type} (x : Str) (flds : List Str) (G : M τ (List D)) : ME τ Out := bndE (okE G) fun ds => fun s => if ds.length = flds.length then some (.error ⟨x, (flds.zip ds).reverse⟩, s) else none
theorem zip_fst {γ : Type} : ∀ {fs : List Str} {ws : List γ}, ws.length = fs.length → (fs.zip ws).map (·.1) = fs ∧ (fs.zip ws).map (·.2) = ws
  | [], [], _ => ⟨rfl, rfl⟩
  | [], _ :: _, h => by cases h
  | _ :: _, [], h => by cases h
  | f :: fs, w :: ws, h => by
    obtain ⟨h1, h2⟩ := zip_fst (fs := fs) (ws := ws) (by simpa using h)
    rw [List.zip_cons_cons, List.map_cons, List.map_cons, h1, h2]
    exact ⟨rfl, rfl⟩
theorem DqAll.append {K : Frag} {S : Hp} : ∀ {vs : List V} {ds : List D} {vs' : List V} {ds' : List D}, DqAll K S vs ds → DqAll K S vs' ds' → DqAll K S (vs ++ vs') (ds ++ ds')
  | _, _, _, _, .nil, h => h
  | _, _, _, _, .cons h hs, h' => .cons h (DqAll.append hs h')
theorem DqAll.reverse {K : Frag} {S : Hp} : ∀ {vs : List V} {ds : List D}, DqAll K S vs ds → DqAll K S vs.reverse ds.reverse
  | _, _, .nil => .nil
  | _, _, .cons h hs => by
    rw [List.reverse_cons, List.reverse_cons]
    exact DqAll.append (DqAll.reverse hs) (.cons h .nil)
theorem DSx.raise {x : Str} {p : Pos} {k : Nat} {flds : List Str} {G : M τ (List D)} (F : DefE Γ.P Γ.w Γ.K Γ.mg Γ.base k x flds) {j : Nat} (ok : Γ.Ok j) (hj : k + 1 ≤ j) (hf : flds.length ≤ 900) (hg : Γ.sc.names.lookup x = some .globalImplicit) (ha : DV Γ B (e :: es) G) (hdb : (x == ("__debug__" : Str)) = false := by decide)
    (he : ∀ X : Cx, starEach (e :: es) X.env = (false, eval e X.env) :: starEach es X.env := by intro _; rfl) (hpl : ∀ X : Cx, (backTo p (starEach es X.env)).any (·.1) = false := by intro _; rfl) {p1 : Pos} :
    DSx Γ B (.Raise (some (.Call (.Name x p1) (e :: es) [] p)) none pos) (raiseM x flds G) := fun W => by
  obtain ⟨C, fI, fd, T, h1, h2, F, hm, hb⟩ := F.ex
  obtain ⟨t, pa, m⟩ := ha
  refine ⟨_, fun X h tk => ps_raise (t := tMkO C (spI C flds) [] t) h.calm tk.tk (pmk_oex (x := x) (p := p1) (pos := p) (C := C) (fI := fI) (CX := CX0) (k := k) (fd := fd) (ps := ("self" : Str) :: flds) (sp := spI C flds) (ds := []) (dvs := []) (by rw [h.K]; exact T) (by rw [h.K]; exact h1) (by rw [h.K]; exact h2)
      (by rw [h.P, h.w, h.K, h.mg, h.base]; exact F) (by rw [h.A]; exact ok.room.mono hj) (by rw [h.K]; exact hb) .nil (fun _ _ _ _ _ _ _ z => z.elim) (gl_of h hg) (by rw [h.mg]; exact hm) (pa X h) hdb (he X) (hpl X)), fun s σ H S g r s' e D q => ?_⟩
  rcases bndE_some e with ⟨y, rfl, e1⟩ | ⟨ds, s1, e1, e2⟩
  · obtain ⟨a, z, _⟩ := okE_some e1
    cases z
  obtain ⟨ds', z, e1⟩ := okE_some e1
  cases z
  split at e2
  · rename_i hl
    cases e2
    refine m s σ H S g ds _ e1 _ fun vs H1 S1 g1 w1 r1 => ?_
    have hvl : vs.length = flds.length := by rw [r1.len, hl]
    refine ⟨by omega, fun a ha => ?_⟩
    rw [List.append_nil]
    refine ⟨a, vs, rfl, hvl, upd_same, fun dx H2 hdx hne e3 e4 e5 => ⟨rfl, dx, _, e3, e4, ?_, ?_⟩⟩
    · rw [upd_ne hne] at hdx
      exact hdx
    · have hdx' : H1 dx = none := by rw [upd_ne hne] at hdx; exact hdx
      have eH : upd (L2.del H2 a) dx (.xd (flds.zip vs).reverse) = upd H1 dx (.xd (flds.zip vs).reverse) := by
        funext b
        by_cases hb : b = dx
        · rw [hb, upd_same, upd_same]
        · rw [upd_ne hb, upd_ne hb]
          by_cases hb2 : b = a
          · rw [hb2, L2.del_same, ha]
          · rw [L2.del_ne hb2, e5 b hb2 hb, upd_ne hb2]
      rw [eH]
      have gr := Grow.fresh (o := .xd (flds.zip vs).reverse) g1.fr.sub hdx'
      refine q σ _ S1 _ _ (g1.grow gr) w1.same ⟨C, dx, _, hm, rfl, rfl, upd_same, ?_, ?_⟩
      · rw [List.map_reverse, List.map_reverse, (zip_fst hvl).1, (zip_fst hl).1]
      · rw [List.map_reverse, List.map_reverse, (zip_fst hvl).2, (zip_fst hl).2]
        exact DqAll.reverse r1
  · cases e2
end
end DL
end

section
set_option Elab.async false
set_option linter.all false
set_option maxRecDepth 100000
set_option maxHeartbeats 3999999
/-! WEng23: try with several clauses, each of them «except C as e» over one name -/
namespace DL
open L2 PySem PyProof.Rows PySem.Spec
/-- the ends of a clause: the name is gone -/
def goneD (i : Nat) (D : Ends) : Ends := { nx := fun σ' H' => D.nx (σ'.set i none) H', rt := D.rt, bk := fun σ' H' => D.bk (σ'.set i none) H', ct := fun σ' H' => D.ct (σ'.set i none) H' }
def wAsM (K : Frag) (i : Nat) (Wout : WX) (D : Ends) : List (Value × (Addr → Value → Option Addr → TS)) → WX
  | [] => Wout
  | (c, ts) :: r => fun cls d σ H => ∃ b, PySem.W.exmOne K cls c = some b ∧ (b = true → ∀ a, H a = none → ts a cls d (goneD i D) (σ.set i (some (.ref a))) H) ∧ (b = false → wAsM K i Wout D r cls d σ H)
inductive HdsAs (X : Cx) (n : Str) : List ExceptHandler → List (Value × (Addr → Value → Option Addr → TS)) → Prop
  | nil : HdsAs X n [] []
  | cons {x : Str} {c : Value} {ts : Addr → Value → Option Addr → TS} {b₀ : Stmt} {suite : List Stmt} {np pos' : Pos} {hds : List ExceptHandler} {l : List (Value × (Addr → Value → Option Addr → TS))} (hc : Names X x c)
      (hsu : ∀ (a : Addr) (oe : Obj) (cls : Value) (d : Option Addr) (pn : List (Addr × Obj)), Zc cls d oe → (∃ vs, oe.data = .fields vs) → PSs (X.suite a ((a, oe) :: pn)) (b₀ :: suite) (ts a cls d)) (r : HdsAs X n hds l) :
      HdsAs X n (.ExceptHandler (some (.Name x np)) (some n) (b₀ :: suite) pos' :: hds) ((c, ts) :: l)
section
variable {X : Cx} {n : Str} {i : Nat} {D : Ends} {Wout : WX} {a : Addr} {B : Heap} {sI : Shared} {pins : List (Addr × Obj)} {σ : L2.St} {H : Hp} {cls : Value} {d : Option Addr} {g : Array GenState} {dr : Drawn} {tk : Nat} {os : OsState} {h3 : Heap}
/-- the clauses, one after the other, behind an exception in the air -/
theorem hands (hs : X.stack = X.env :: X.outer) (hf : X.env.frame = some X.env.locals) (hN : X.N.Nodup) (hi : X.N[i]? = some n) (hln : X.env.kindOf n = some .local) (tk : L2.Takes X Wout)
    (J : Inv X pins σ H sI) (nb : ∀ b o, sI.heap.get? b = some o → b ∉ frs X.stack → B.get? b = some o) {s3 : Shared} (up : sI.heap.UpToSlots s3.heap) (fl : HandSPX.FlyingZ B (X.env :: X.outer) a (Zc cls d) s3.heap) (na : H a = none) (os : s3.os = sI.os) (ag : AllBare s3.gens) :
    ∀ {hds : List ExceptHandler} {l : List (Value × (Addr → Value → Option Addr → TS))}, HdsAs X n hds l → wAsM X.K i Wout D l cls d σ H → wpAny (model X.prog X.w) X.A (handleBy (.ref a) X.env hds) (SP X pins D) X.xe s3 := by
  have ok := J.ok
  have hloc : Loc X.env.scope n := .inl hln
  have J3 : Inv X pins σ H s3 := J.landed nb fl.1 up os ag
  obtain ⟨oe3, vs3, he3, hz3, hd3⟩ := fl.there
  have nfr : a ∉ frs (X.env :: X.outer) := fun hm => by
    obtain ⟨_, o', e', hnf⟩ := fl.2.2.1.mem hm
    rw [he3] at e'
    cases e'
    exact hnf _ hd3
  have nL : a ≠ X.env.locals := fun z => nfr (List.mem_filterMap.mpr ⟨X.env, List.mem_cons_self, by rw [hf, z]⟩)
  have nF : a ∉ X.fs := fun hm => by
    obtain ⟨e, he, q⟩ := List.mem_filterMap.mp hm
    exact nfr (List.mem_filterMap.mpr ⟨e, List.mem_cons_of_mem _ he, q⟩)
  intro hds l hk
  induction hk with
  | nil =>
    intro w
    refine wpAny_handleBy_nil ?_
    obtain ⟨k1, k2, k3, oe, vs, T, oT, ts', he, hz, hd, h1, hr⟩ := id fl
    unfold PySem.passOn
    refine wpAny_bind (wpAny_field he hd h1 ?_)
    rw [if_neg (show ¬ ((Value.ref T == Value.none) = true) from by simp)]
    have fin : wpAny (model X.prog X.w) X.A (setFlight (.ref a) X.env.frame) (fun _ s4 => wpAny (model X.prog X.w) X.A (throw (.ref a) : Sem Flow) (SP X pins D) X.xe s4) X.xe s3 := by
      rw [hf]
      obtain ⟨hp3, g3, d3, t3, os3⟩ := s3
      exact HandSPX.setFlight_upZ fl fun h4 hh4 up4 => wpAny_throw (tk _ _ ⟨a, B, sI, pins, σ, H, cls, d, rfl, J, nb, up.trans up4, .inr (.inr (by rw [hs]; exact hh4)), na, os, ag, w⟩)
    first
      | exact wpAny_bind (wpAny_pure (wpAny_bind fin))
      | exact wpAny_bind fin
  | @cons x c ts b₀ suite np pos' hds2 l2 hc hsu r ih =>
    rintro ⟨b, hb1, hyes, hno⟩
    refine wpAny_handleBy_cons (codeAny_handlers_test ?_) (by intro q; cases q)
    have S3 := J3.suite he3 hd3 na nL nF
    have LT : PySem.W.Looks (model X.prog X.w) s3.heap (typeOf (.ref a)) cls := fun A Q E s k q => wpAny_typeOf_ref (k _ _ he3) (by rw [hz3.1]; exact q)
    have LM := PySem.W.exm_one (M := model X.prog X.w) (J3.kIn) LT hb1
    have test : ∀ {Q : Value → Shared → Prop} {E : Value → Shared → Prop}, Q c s3 → wpAny (model X.prog X.w) (X.A.mark (some (.ref a))) (eval (.Name x np) X.env) Q E s3 := fun {Q E} q => by
      obtain ⟨hg, hdbg, hm | ⟨hm, hv, hnn⟩⟩ := hc
      · exact ld_glob (X := X.suite a ((a, oe3) :: (X.pn ++ pins))) S3 hg hm q hdbg
      · exact ld_blt (X := X.suite a ((a, oe3) :: (X.pn ++ pins))) S3 hg hm hv q hnn hdbg
    refine test (LM.here ?_)
    cases b with
    | false => exact ih (hno rfl)
    | true =>
      refine codeAny_handlers_suite_as ?_
      obtain ⟨hp3, g3, d3, t3, os3⟩ := s3
      refine HandSPX.lands_againZ fl fun h4 fl4 up4 => ?_
      have J4 : Inv X pins σ H ⟨h4, g3, d3, t3, os3⟩ := J.landed nb fl4.1 (up.trans up4) os ag
      obtain ⟨oe4, vs4, he4, hz4, hd4⟩ := fl4.there
      have S4 := J4.suite he4 hd4 na nL nF
      refine store_ok (X := X.suite a ((a, oe4) :: (X.pn ++ pins))) (v := .ref a) S4 hN hi hloc rfl (fun s5 S5 => ?_) (.inr hln)
      refine wpAny_mono ((hsu a oe4 cls d (X.pn ++ pins) hz4 ⟨_, hd4⟩).run [] s5 _ H _ S5 (hyes rfl a na)) (fun f s6 hsp => ?_) (fun _ _ z => False.elim z)
      have end_ : ∀ {σ6 : L2.St} {H6 : Hp} {Q : Shared → Prop}, Inv (X.suite a ((a, oe4) :: (X.pn ++ pins))) [] σ6 H6 s6 → (∀ s7, Inv X pins (σ6.set i none) H6 s7 → Q s7) →
          wpAny (model X.prog X.w) X.A (do bindName X.env n .none; unbindBehindTheSuite X.env n pos') (fun _ s7 => Q s7) X.xe s6 := fun {σ6 H6 Q} S6 hq => gone_ok (S6.unsuite ok) hN hi hln hq
      cases f with
      | next =>
        obtain ⟨σ6, H6, S6, q6⟩ := hsp
        exact end_ S6 fun s7 J7 => ⟨_, _, J7, q6⟩
      | brk =>
        obtain ⟨σ6, H6, S6, q6⟩ := hsp
        exact end_ S6 fun s7 J7 => ⟨_, _, J7, q6⟩
      | cont =>
        obtain ⟨σ6, H6, S6, q6⟩ := hsp
        exact end_ S6 fun s7 J7 => ⟨_, _, J7, q6⟩
      | ret u =>
        obtain ⟨v6, σ6, H6, S6, r6, q6⟩ := hsp
        exact end_ S6 fun s7 J7 => ⟨_, _, _, J7, r6, q6⟩
end
section
variable {X : Cx} {n : Str} {i : Nat} {body : List Stmt} {h₀ : ExceptHandler} {hds : List ExceptHandler} {l : List (Value × (Addr → Value → Option Addr → TS))} {pos : Pos} {tb : WX → TS} {Wout : WX}
theorem ps_try_asM (hs : X.stack = X.env :: X.outer) (hf : X.env.frame = some X.env.locals) (hN : X.N.Nodup) (hi : X.N[i]? = some n) (hln : X.env.kindOf n = some .local) (tk : L2.Takes X Wout)
    (hb : ∀ (W : WX) (pn : List (Addr × Obj)) (xe : Value → Shared → Prop), L2.Takes (X.tr pn xe) W → PassesOwn (model X.prog X.w) X.A X.env xe → PSs (X.tr pn xe) body (tb W))
    (hh : HdsAs X n (h₀ :: hds) l) : PS X (.Try body (h₀ :: hds) [] [] pos) (fun D σ H => tb (wAsM X.K i Wout D l) D σ H) := by
  refine ⟨fun pins s σ H D I h => ?_⟩
  have ok := I.ok
  have hfr : X.A.frames = some (X.env :: X.outer) := by rw [ok.frames, hs]
  refine wpAny_Try_except ?_
  refine wpAny_mono ((hb (wAsM X.K i Wout D l) (X.pn ++ pins) (fun e s₁ => wpAny (model X.prog X.w) X.A (noteFrame e X.env) (fun _ s₂ => wpAny (model X.prog X.w) X.A (setFlight e none) (fun _ s₃ =>
    wpAny (model X.prog X.w) X.A (handleBy e X.env (h₀ :: hds)) (SP X pins D) X.xe s₃) X.xe s₂) X.xe s₁) (fun u s' xx => ?_) PassesOwn.looking).run [] s σ H D (I.toTry _) h) (fun f s1 hsp => ?_) (fun e s1 he => he)
  · obtain ⟨a, B, sI, pins', σ', H', cls, d, rfl, J', nb, up, sky, na, os, ag, w⟩ := xx
    have J : Inv X pins σ' H' sI := J'.ofTry ok
    have sky' : L2.Sky B (X.env :: X.outer) a (Zc cls d) X.env.locals s'.heap := by rw [← hs]; exact sky
    show wpAny (model X.prog X.w) X.A (noteFrame (.ref a) X.env) _ _ _
    refine L2.Sky.land Zc.steady hfr hf sky' fun h3 fl3 up3 => ?_
    exact hands hs hf hN hi hln tk J nb (s3 := { s' with heap := h3 }) (up.trans up3) fl3 na os ag hh w
  · cases f with
    | next =>
      obtain ⟨σ', H', J', q⟩ := hsp
      exact wpAny_execs_nil ⟨σ', H', J'.ofTry ok, q⟩
    | brk =>
      obtain ⟨σ', H', J', q⟩ := hsp
      exact ⟨σ', H', J'.ofTry ok, q⟩
    | cont =>
      obtain ⟨σ', H', J', q⟩ := hsp
      exact ⟨σ', H', J'.ofTry ok, q⟩
    | ret u =>
      obtain ⟨v, σ', H', J', r, q⟩ := hsp
      exact ⟨v, σ', H', J'.ofTry ok, r, q⟩
end
end DL
end

section
set_option Elab.async false
set_option linter.all false
set_option maxRecDepth 100000
set_option maxHeartbeats 3999999
/-! WEng24: try/except in the mirrors; a def that lets nothing out -/
namespace DL
open L2 PySem PyProof.Rows PySem.Spec
section
variable {τ : Type}
/-- whether an exception of a class is one of another, by what the module says of pairs -/
def subE (prs : List (Str × Str × Bool)) (x h : Str) : Option Bool := (prs.find? fun p => p.1 == x && p.2.1 == h).map (·.2.2)
def PrsOk (K : Frag) (mg : Str → Option Value) (prs : List (Str × Str × Bool)) : Prop := ∀ p ∈ prs, ∀ C C', mg p.1 = some (.ref C) → mg p.2.1 = some (.ref C') → PySem.W.exmOne K (.ref C) (.ref C') = some p.2.2
theorem subE_ok {K : Frag} {mg : Str → Option Value} {prs : List (Str × Str × Bool)} (ok : PrsOk K mg prs) {x h : Str} {b : Bool} (e : subE prs x h = some b) {C C' : Addr} (h1 : mg x = some (.ref C)) (h2 : mg h = some (.ref C')) : PySem.W.exmOne K (.ref C) (.ref C') = some b := by
  obtain ⟨p, e1, rfl⟩ := Option.map_eq_some_iff.mp e
  have hp := List.find?_some e1
  obtain ⟨q1, q2⟩ := Bool.and_eq_true_iff.mp hp
  have q1 := eq_of_beq q1
  have q2 := eq_of_beq q2
  exact ok p (List.mem_of_find?_eq_some e1) C C' (by rw [q1]; exact h1) (by rw [q2]; exact h2)
def blankB : Option (Option Sl) → Bool
  | some none => true
  | _ => false
def catchM (prs : List (Str × Str × Bool)) (i : Nat) : List (Str × (Exn → M τ Out)) → Exn → ME τ Out
  | [] => fun x s => some (.error x, s)
  | (h, g) :: r => fun x s => match subE prs x.cls h with
    | none => none
    | some false => catchM prs i r x s
    | some true => if blankB s.env[i]? then (match g x s with
      | none => none
      | some (o, s') => if blankB s'.env[i]? then some (.ok o, s') else none) else none
def tryE (prs : List (Str × Str × Bool)) (i : Nat) (F : ME τ Out) (hs : List (Str × (Exn → M τ Out))) : ME τ Out := fun s => match F s with
  | none => none
  | some (.ok o, s') => some (.ok o, s')
  | some (.error x, s') => catchM prs i hs x s'
theorem blank_beq {o : Option (Option Sl)} (h : blankB o = true) : o = some none := by
  cases o with
  | none => cases h
  | some z =>
    cases z with
    | none => rfl
    | some y => cases h
theorem Good.blank {K : Frag} {B : Bd τ} {s : Stt τ} {σ : List (Option V)} {H S : Hp} (g : Good K B s σ H S) {i : Nat} (h : s.env[i]? = some none) (v : Option V) : Good K B s (σ.set i v) H S := by
  have ne : ∀ {j : Nat} {z : Sl}, s.env[j]? = some (some z) → i ≠ j := fun {j z} e q => by
    subst q
    rw [h] at e
    cases e
  refine ⟨g.fr, g.at_, by rw [List.length_set]; exact g.len, fun j z e => ?_, fun j k xs ys n e1 e2 => ?_⟩
  · rw [List.getElem?_set_ne (ne e)]
    exact g.slot j z e
  · rw [List.getElem?_set_ne (ne e1), List.getElem?_set_ne (ne e2)]
    exact g.disj j k xs ys n e1 e2
/-- one clause: its class, its suite's reading, what the suite does -/
def ClauseOk (Γ : Gam) (B : Bd τ) (i : Nat) (c : Value) (ts : Addr → Value → Option Addr → TS) (h : Str) (g : Exn → M τ Out) : Prop := Γ.mg h = some c ∧ (∃ C, c = .ref C) ∧
  ∀ a cls dd x s σ H S, Good Γ.K B s σ H S → Rsd Γ.K Γ.mg S x cls dd H → σ[i]? = some (some (.ref a)) → ∀ o s', g x s = some (o, s') → ∀ D : Ends, EndOk Γ.K B S o s' D → ts a cls dd D σ H
inductive ClausesOk (Γ : Gam) (B : Bd τ) (i : Nat) : List (Value × (Addr → Value → Option Addr → TS)) → List (Str × (Exn → M τ Out)) → Prop
  | nil : ClausesOk Γ B i [] []
  | cons {c : Value} {ts : Addr → Value → Option Addr → TS} {h : Str} {g : Exn → M τ Out} {l : List (Value × (Addr → Value → Option Addr → TS))} {r : List (Str × (Exn → M τ Out))} : ClauseOk Γ B i c ts h g → ClausesOk Γ B i l r → ClausesOk Γ B i ((c, ts) :: l) ((h, g) :: r)
def DHs (Γ : Gam) (B : Bd τ) (n : Str) (i : Nat) (hds : List ExceptHandler) (gs : List (Str × (Exn → M τ Out))) : Prop := ∃ l, (∀ X, Γ.Has X → HdsAs X n hds l) ∧ ClausesOk Γ B i l gs
theorem catch_ok {Γ : Gam} {B : Bd τ} {i : Nat} {prs : List (Str × Str × Bool)} (ok : PrsOk Γ.K Γ.mg prs) {Wout : WX} {D : Ends} {S0 : Hp} : ∀ {l : List (Value × (Addr → Value → Option Addr → TS))} {gs : List (Str × (Exn → M τ Out))}, ClausesOk Γ B i l gs →
    ∀ (x : Exn) (s s' : Stt τ) (r : Except Exn Out) (σ : L2.St) (H S : Hp) (cls : Value) (dd : Option Addr), Good Γ.K B s σ H S → Same S0 S → Rsd Γ.K Γ.mg S x cls dd H → catchM prs i gs x s = some (r, s') → EndS Γ B S0 s' r Wout D → wAsM Γ.K i Wout D l cls dd σ H := by
  intro l gs hc
  induction hc with
  | nil =>
    intro x s s' r σ H S cls dd g w rx e q
    cases e
    exact q σ H S cls dd g w rx
  | @cons c ts h gh l r hcl hr ih =>
    intro x s s' res σ H S cls dd g w rx e q
    obtain ⟨hm, ⟨C', rfl⟩, hsu⟩ := hcl
    obtain ⟨C, d1, fs, hx, rfl, rfl, hd, hfs⟩ := id rx
    unfold catchM at e
    split at e
    · cases e
    · rename_i e1
      exact ⟨false, subE_ok ok e1 hx hm, (by intro z; cases z), fun _ => ih x s s' res σ H S _ _ g w rx e q⟩
    · rename_i e1
      refine ⟨true, subE_ok ok e1 hx hm, fun _ a ha => ?_, (by intro z; cases z)⟩
      split at e
      · rename_i hb
        split at e
        · cases e
        · rename_i o s1 e2
          split at e
          · rename_i hb2
            cases e
            have hb := blank_beq hb
            have hb2 := blank_beq hb2
            have hi : i < σ.length := by
              rw [← g.len]
              exact (List.getElem?_eq_some_iff.mp hb).1
            refine hsu a _ _ x s (σ.set i (some (.ref a))) H S (g.blank hb _) rx (by rw [List.getElem?_set_self hi]) o s' e2 _ ?_
            cases o with
            | nx => exact fun σ' H' S' g' w' => q _ H' S' (g'.blank hb2 none) (w.trans w')
            | bk => exact fun σ' H' S' g' w' => q _ H' S' (g'.blank hb2 none) (w.trans w')
            | ct => exact fun σ' H' S' g' w' => q _ H' S' (g'.blank hb2 none) (w.trans w')
            | rt d => exact q
            | rn xs => exact q
          · cases e
      · cases e
section
variable {Γ : Gam} {B : Bd τ} {pos : Pos} {body : List Stmt} {h₀ : ExceptHandler} {hds : List ExceptHandler}
theorem DSx.tryAs {n : Str} {i : Nat} {prs : List (Str × Str × Bool)} {F : ME τ Out} {gs : List (Str × (Exn → M τ Out))} (nd : Γ.N.Nodup) (hi : Γ.N[i]? = some n) (hln : Γ.sc.names.lookup n = some .local) (ok : PrsOk Γ.K Γ.mg prs)
    (hb : DSsx Γ B body F) (hh : DHs Γ B n i (h₀ :: hds) gs) : DSx Γ B (.Try body (h₀ :: hds) [] [] pos) (tryE prs i F gs) := fun W => by
  obtain ⟨l, ph, ch⟩ := hh
  refine ⟨fun D σ H => (hb (wAsM Γ.K i W D l)).choose D σ H, fun X h tk => ?_, fun s σ H S g r s' e D q => ?_⟩
  · have := @ps_try_asM X n i body h₀ hds l pos (fun W' => (hb W').choose) W tk.st tk.fr (by rw [h.N]; exact nd) (by rw [h.N]; exact hi) (by show X.env.scope.names.lookup n = _; rw [h.sc]; exact hln) tk.tk
      (fun W' pn xe tk' ps => (hb W').choose_spec.1 (X.tr pn xe) ⟨h.P, h.w, h.K, h.mg, h.base, h.A, h.N, h.sc, h.calm, h.fn, ps⟩ ⟨tk', tk.st, tk.fr⟩) (ph X h)
    rw [h.K] at this
    exact this
  · have m := (hb (wAsM Γ.K i W D l)).choose_spec.2
    unfold tryE at e
    split at e
    · cases e
    · rename_i o s1 e1
      cases e
      exact m s σ H S g _ _ e1 D q
    · rename_i x s1 e1
      exact m s σ H S g _ _ e1 D fun σ' H' S' cls dd g' w' r' => catch_ok ok ch x s1 s' r σ' H' S' cls dd g' w' r' e q
end
end
end DL
end

section
set_option Elab.async false
set_option linter.all false
set_option maxRecDepth 100000
set_option maxHeartbeats 3999999
/-! WEng25: the clause «except C as e: t = [word, e.f]»; a def that lets nothing out -/
namespace DL
open L2 PySem PyProof.Rows PySem.Spec
section
variable {τ : Type}
/-- what the clause does: the exception's class is C itself -/
def clauseM (h : Str) (j : Nat) (word f : Str) (x : Exn) : M τ Out := fun s => if x.cls == h then (match x.fs.lookup f with
  | some d => (bnd (putM j (.new [.str word, d])) fun _ => ret .nx) s
  | none => none) else none
/-- an own exception class whose fields are read -/
structure DefF (K : Frag) (mg : Str → Option Value) (h f : Str) : Prop where
  ex : ∃ C, mg h = some (.ref C) ∧ XfC K C ∧ PySem.W.findIn K (.ref C) f = some none
theorem fs_lookup {K : Frag} {S : Hp} {f : Str} : ∀ {fs : List (Str × V)} {ds : List (Str × D)}, FsAt K S fs ds → ∀ {d : D}, ds.lookup f = some d → ∃ v, fs.lookup f = some v ∧ Dq K S v d
  | [], [], _, d, e => by cases e
  | [], _ :: _, h, d, e => by cases h.1
  | _ :: _, [], h, d, e => by cases e
  | (k, v) :: fs, (k', d') :: ds, h, d, e => by
    obtain ⟨h1, h2⟩ := h
    rw [List.map_cons, List.map_cons] at h1 h2
    obtain ⟨rfl, h1'⟩ := List.cons.inj h1
    cases h2 with
    | cons hv hr =>
      by_cases hk : f == k
      · simp only [List.lookup, hk] at e ⊢
        cases e
        exact ⟨v, rfl, hv⟩
      · have hk' : (f == k) = false := by simpa using hk
        simp only [List.lookup, hk'] at e ⊢
        exact fs_lookup ⟨h1', hr⟩ e
variable {Γ : Gam} {B : Bd τ}
theorem DHs.nil {n : Str} {i : Nat} : DHs Γ B n i [] [] := ⟨[], fun X h => .nil, .nil⟩
theorem DHs.cons {n : Str} {i : Nat} {h t word f : Str} {j jj : Nat} {np pos' p1 p2 p3 p4 p5 p6 : Pos} {hds : List ExceptHandler} {gs : List (Str × (Exn → M τ Out))} (F : DefF Γ.K Γ.mg h f) (nd : Γ.N.Nodup) (hi : Γ.N[i]? = some n) (hln : Γ.sc.names.lookup n = some .local) (hj : Γ.N[j]? = some t) (hx : Loc Γ.sc t) (hf : Γ.sc.names.lookup t = some .local)
    (hg : Γ.sc.names.lookup h = some .globalImplicit) (hd : (h == ("__debug__" : Str)) = false) (hs : DHs Γ B n i hds gs)
    (hsw : ∀ X : Cx, swapsWith (.List [.Constant (.str word) jj p2, .Attribute (.Name n p3) f p4] p5) (some (.Name t p1)) p6.line X.env = pure false := by intro _; rfl)
    (hb : ∀ X : Cx, attributeBase (.Name n p3) f X.env (eval (.Name n p3) X.env) = eval (.Name n p3) X.env := by intro _; rfl)
    (he1 : ∀ X : Cx, starEach [.Constant (.str word) jj p2, .Attribute (.Name n p3) f p4] X.env = (false, eval (.Constant (.str word) jj p2) X.env) :: starEach [.Attribute (.Name n p3) f p4] X.env := by intro _; rfl)
    (he2 : ∀ X : Cx, starEach [.Attribute (.Name n p3) f p4] X.env = (false, eval (.Attribute (.Name n p3) f p4) X.env) :: starEach [] X.env := by intro _; rfl)
    (hdb : (n == ("__debug__" : Str)) = false := by decide) (hcd : (n == ("__classdict__" : Str)) = false := by decide) :
    DHs Γ B n i (.ExceptHandler (some (.Name h np)) (some n) [.Assign [.Name t p1] (.List [.Constant (.str word) jj p2, .Attribute (.Name n p3) f p4] p5) p6] pos' :: hds) ((h, clauseM h j word f) :: gs) := by
  obtain ⟨C, hm, T, hno⟩ := F.ex
  obtain ⟨l, ph, ch⟩ := hs
  refine ⟨(.ref C, fun a cls d => tAsg (tLst (tCons (tC (.str word)) (tCons (tXf a cls d C f (tVar i)) tNil))) (gName j)) :: l, fun X h => ?_, .cons ⟨hm, ⟨C, rfl⟩, ?_⟩ ch⟩
  · refine .cons ⟨gl_of h hg, hd, .inl (by rw [h.mg]; exact hm)⟩ (fun a oe cls d pn hz hfl => ?_) (ph X h)
    refine pss_one (ps_set (by show X.N.Nodup; rw [h.N]; exact nd) (by show X.N[j]? = _; rw [h.N]; exact hj) (by show Loc X.env.scope t; rw [h.sc]; exact hx) (pe_lst (pa_cons pe_str (pa_cons (pe_xf (X := X) (by rw [h.K]; exact T) (by rw [h.K]; exact hno) hz hfl (pe_var (by show X.N[i]? = _; rw [h.N]; exact hi) (by show Vis X.env.scope n; rw [h.sc]; exact .inl hln) hdb hcd) (hb X)) pa_nil (he2 X)) (he1 X))) (hsw X) (.inr (by show X.env.scope.names.lookup t = _; rw [h.sc]; exact hf)))
  · intro a cls dd x s σ H S g rx hσ o s' e D q
    unfold clauseM at e
    split at e
    · rename_i hc
      split at e
      · rename_i d el
        obtain ⟨C2, d1, fs, hx2, rfl, rfl, hd1, hfs⟩ := rx
        have hc := eq_of_beq hc
        rw [hc, hm] at hx2
        cases hx2
        obtain ⟨v, lv, hv⟩ := fs_lookup hfs el
        refine ⟨.ref a, hσ, rfl, rfl, d1, fs, v, rfl, hd1, lv, ?_⟩
        refine ⟨by rw [sizeLine_eq]; show 2 ≤ 16777216; decide, fun p n => ?_⟩
        obtain ⟨g2, fr⟩ := Good.free (xs := [.str word, d]) g n (.cons (.str word) (.cons hv .nil))
        obtain ⟨_, s2, e3, e4⟩ := bnd_some e
        obtain ⟨rfl, rfl⟩ := ret_some e4
        obtain ⟨S2, w2, g3⟩ := put_of (o := .new [.str word, d]) g2 ⟨p, rfl, fr⟩ e3
        exact q _ _ S2 g3 w2
      · cases e
    · cases e
end
/-- what a def that may raise gives where it raises nothing -/
def okOf (f : List D → Option (Except Exn D)) : List D → Option D := fun ds => match f ds with
  | some (.ok d) => some d
  | _ => none
theorem DefX.toQ {P : Program} {w : World} {K : Frag} {mg : Str → Option Value} {base : Heap} {k : Nat} {x : Str} {ps : List Str} {f : List D → Option (Except Exn D)} (F : DefX P w K mg base k x ps f) : DefQ P w K mg base k x ps (okOf f) := by
  obtain ⟨a, fd, F, hm, hk, hb⟩ := F.ex
  have tr : ∀ {vs H Q E}, spP K (okOf f) vs H Q E → spX K mg f vs H Q (fun _ _ _ => False) := by
    rintro vs H Q E ⟨S, ds, d, w, hd, e, q⟩
    unfold okOf at e
    split at e
    · rename_i d' e'
      cases e
      exact ⟨S, ds, .ok d, w, hd, e', q⟩
    · cases e
  refine ⟨a, fd, ⟨fun vs H Q E h => F.len _ _ _ _ (tr h), fun A outer s H args us vs Q E hr gd e0 hb r h => ?_⟩, hm, hk, hb⟩
  refine codeAny_mono (F.run A outer s H args us vs Q _ hr gd e0 hb r (tr h)) fun res s' hq => ?_
  match res, hq with
  | .ok (.ret u), hq => exact hq
  | .ok .next, hq => exact False.elim hq
  | .ok .brk, hq => exact False.elim hq
  | .ok .cont, hq => exact False.elim hq
  | .error ex, hq =>
    obtain ⟨_, _, _, _, _, _, _, _, _, _, _, _, z⟩ := hq
    exact z.elim
end DL
end

section
set_option Elab.async false
set_option linter.all false
set_option maxRecDepth 100000
set_option maxHeartbeats 3999999
/-! WEng26: the own exception classes of the module, from what the written part says -/
namespace DL
open L2 PySem PyProof.Rows PySem.Spec
abbrev suStmt (p0 p1 p2 p3 p4 p5 : Pos) (m : Str) (j : Nat) : Stmt := .Expr (.Call (.Attribute (.Call (.Name "super" p0) [] [] p1) "__init__" p2) [.Constant (.str m) j p3] [] p4) p5
abbrev seStmt (f : Str) (q1 q2 q3 q4 : Pos) : Stmt := .Assign [.Attribute (.Name "self" q1) f q2] (.Name f q3) q4
section
variable {P : Program} {w : World} {K : PySem.W.Frag} {mg : Str → Option Value} {base : Heap} {k : Nat} {C fI : Addr} {qual : Str} {scope : Scope} {fd : FuncData} {p0 p1 p2 p3 p4 p5 q1 q2 q3 q4 r1 r2 r3 r4 : Pos} {m : Str} {j : Nat} {f g : Str}
theorem init1 (T : SuC K C fI qual ["self", f] [suStmt p0 p1 p2 p3 p4 p5 m j, seStmt f q1 q2 q3 q4] scope fd) (S : SuScope ["self", f] scope) (hP : P.main.file = "/claim/cut.py") (hT : (P.main.scope.names.lookup ("super" : Str)).isSome = false)
    (hsw : ∀ env : Env, swapsWith (.Call (.Attribute (.Call (.Name "super" p0) [] [] p1) "__init__" p2) [.Constant (.str m) j p3] [] p4) none p5.line env = pure false)
    (pl : Sem Bool) (hev : ∀ env : Env, eval (.Call (.Attribute (.Call (.Name "super" p0) [] [] p1) "__init__" p2) [.Constant (.str m) j p3] [] p4) env = (do
      let ov ← attributeBase (.Call (.Name "super" p0) [] [] p1) "__init__" env (eval (.Call (.Name "super" p0) [] [] p1) env)
      standAt p2.atName
      let (f, first) ← holding [ov] (getMethod ov "__init__" pl)
      callWith p4 f first (backTo p4 (starEach [.Constant (.str m) j p3] env)) []))
    (hs1 : ∀ env : Env, swapsWith (.Name f q3) (some (.Attribute (.Name "self" q1) f q2)) q4.line env = pure false)
    (hno : PySem.W.findIn K (.ref C) f = some none) (hd : (f == ("__debug__" : Str)) = false) (hc : (f == ("__classdict__" : Str)) = false) : FnOk P w K mg base CX0 (k + 1) fI fd ["self", f] (spI C [f]) := by
  refine fnSu T S hP hT hsw pl hev spI_len fun A outer s H vs Q E cdv cc hr hsp => ?_
  obtain ⟨a, ws, rfl, hl, ha, q⟩ := hsp
  match ws, hl with
  | [v], _ =>
    refine ⟨a, [v], rfl, ha, _, pss_one (ps_ost (pe_var (i := 0) rfl (.inl (S.par _ List.mem_cons_self))) (pe_var (i := 1) rfl (.inl (S.par _ (List.mem_cons_of_mem _ List.mem_cons_self))) hd hc) (hs1 _)), ?_⟩
    refine ⟨v, rfl, .ref a, rfl, a, C, rfl, T.ox, hno, .inl ⟨ha, fun dx n ne => ?_⟩⟩
    refine q dx _ n ne upd_same ?_ fun b hb hb2 => ?_
    · rw [upd_ne ne, upd_same]
      rfl
    · rw [upd_ne hb, upd_ne hb2]
theorem init2 (T : SuC K C fI qual ["self", f, g] [suStmt p0 p1 p2 p3 p4 p5 m j, seStmt f q1 q2 q3 q4, seStmt g r1 r2 r3 r4] scope fd) (S : SuScope ["self", f, g] scope) (hP : P.main.file = "/claim/cut.py") (hT : (P.main.scope.names.lookup ("super" : Str)).isSome = false)
    (hsw : ∀ env : Env, swapsWith (.Call (.Attribute (.Call (.Name "super" p0) [] [] p1) "__init__" p2) [.Constant (.str m) j p3] [] p4) none p5.line env = pure false)
    (pl : Sem Bool) (hev : ∀ env : Env, eval (.Call (.Attribute (.Call (.Name "super" p0) [] [] p1) "__init__" p2) [.Constant (.str m) j p3] [] p4) env = (do
      let ov ← attributeBase (.Call (.Name "super" p0) [] [] p1) "__init__" env (eval (.Call (.Name "super" p0) [] [] p1) env)
      standAt p2.atName
      let (f, first) ← holding [ov] (getMethod ov "__init__" pl)
      callWith p4 f first (backTo p4 (starEach [.Constant (.str m) j p3] env)) []))
    (hs1 : ∀ env : Env, swapsWith (.Name f q3) (some (.Attribute (.Name "self" q1) f q2)) q4.line env = pure false) (hs2 : ∀ env : Env, swapsWith (.Name g r3) (some (.Attribute (.Name "self" r1) g r2)) r4.line env = pure false)
    (hno : PySem.W.findIn K (.ref C) f = some none) (hno2 : PySem.W.findIn K (.ref C) g = some none) (hd : (f == ("__debug__" : Str)) = false) (hc : (f == ("__classdict__" : Str)) = false) (hd2 : (g == ("__debug__" : Str)) = false) (hc2 : (g == ("__classdict__" : Str)) = false) :
    FnOk P w K mg base CX0 (k + 1) fI fd ["self", f, g] (spI C [f, g]) := by
  refine fnSu T S hP hT hsw pl hev spI_len fun A outer s H vs Q E cdv cc hr hsp => ?_
  obtain ⟨a, ws, rfl, hl, ha, q⟩ := hsp
  match ws, hl with
  | [v, u], _ =>
    have vs0 := S.par ("self" : Str) List.mem_cons_self
    refine ⟨a, [v, u], rfl, ha, _, pss_cons (ps_ost (pe_var (i := 0) rfl (.inl vs0)) (pe_var (i := 1) rfl (.inl (S.par _ (List.mem_cons_of_mem _ List.mem_cons_self))) hd hc) (hs1 _))
      (pss_one (ps_ost (pe_var (i := 0) rfl (.inl vs0)) (pe_var (i := 2) rfl (.inl (S.par _ (List.mem_cons_of_mem _ (List.mem_cons_of_mem _ List.mem_cons_self)))) hd2 hc2) (hs2 _))), ?_⟩
    refine ⟨v, rfl, .ref a, rfl, a, C, rfl, T.ox, hno, .inl ⟨ha, fun dx n ne => ?_⟩⟩
    refine ⟨u, rfl, .ref a, rfl, a, C, rfl, T.ox, hno2, .inr ⟨dx, [(f, v)], upd_same, by rw [upd_ne ne, upd_same], by simp, ?_⟩⟩
    refine q dx _ n ne ?_ ?_ fun b hb hb2 => ?_
    · rw [upd_ne (Ne.symm ne), upd_same]
    · rw [upd_same]
      rfl
    · rw [upd_ne hb2, upd_ne hb, upd_ne hb2]
end
end DL
end

section
set_option Elab.async false
set_option linter.all false
set_option maxRecDepth 100000
set_option maxHeartbeats 3999999
/-! WEng27: the head's facts on own exception classes -/
namespace DL
open L2 PySem PyProof.Rows PySem.Spec
/-- an own exception class with its __init__, as the text says -/
structure ExD where
  x : Str
  flds : List Str
  qual : Str
  params : Arguments
  body : List Stmt
  scope : Scope
def clB (K : Frag) (C : Addr) : Bool := match K.lookup C with
  | some ⟨.type t, _, .cls cd, sl⟩ => (match cd.mro, sl.toList with
    | .ref C' :: bm, [_, _, _, _, some (.builtin n), _] => decide (t = "type") && (decide (C' = C) && (decide (n = "ValueError.__new__") && (!cd.hasDel && (cd.hasDict && HandSPX.refsVE bm))))
    | _, _ => false)
  | _ => false
theorem b2 {a b : Bool} (h : (a && b) = true) : a = true ∧ b = true := Bool.and_eq_true_iff.mp h
theorem clB_ok {K : Frag} {C : Addr} (h : clB K C = true) : ∃ nm q N bs bm sn sub ab col dd k0 k1 k2 k3 k5, K.lookup C = some (excClassObj nm q C N bs bm true sn sub ab col dd k0 k1 k2 k3 k5 "ValueError.__new__") ∧ HandSPX.refsVE bm = true := by
  unfold clB at h
  split at h
  · rename_i t dd cd sl ho
    split at h
    · rename_i C' bm k0 k1 k2 k3 n k5 hm hs
      obtain ⟨h1, h⟩ := b2 h
      obtain ⟨h2, h⟩ := b2 h
      obtain ⟨h3, h⟩ := b2 h
      obtain ⟨h4, h⟩ := b2 h
      obtain ⟨h5, h6⟩ := b2 h
      have k1' := of_decide_eq_true h1
      have k2' := of_decide_eq_true h2
      have k3' := of_decide_eq_true h3
      have k4' : cd.hasDel = false := by simpa using h4
      clear h1 h2 h3 h4
      subst k1' k2' k3'
      obtain ⟨nm, bs, mro, ns, qn, hd, sn, sub, ab, col, del⟩ := cd
      dsimp only at hm k4' h5
      subst hm k4' h5
      have hsl : sl = #[k0, k1, k2, k3, some (.builtin "ValueError.__new__"), k5] := by
        apply Array.toList_inj.mp
        rw [hs]
      subst hsl
      exact ⟨nm, qn, ns, bs, bm, sn, sub, ab, col, dd, k0, k1, k2, k3, k5, ho, h6⟩
    · cases h
  · cases h
def cellB (K : Frag) (cc C : Addr) : Bool := match K.lookup cc with
  | some ⟨_, _, .cell (some (.ref D)), _⟩ => decide (D = C)
  | _ => false
def fileB (K : Frag) (cd : Value) : Bool := match cd with
  | .ref a => (match K.lookup a with
    | some ⟨_, _, .fields vs, _⟩ => (match (vs[2]? : Option Value) with
      | some (.str f _) => decide (f = "/claim/cut.py")
      | _ => false)
    | _ => false)
  | _ => false
def noneB : Value → Bool
  | .none => true
  | _ => false
def inB (K : Frag) (fI C : Addr) : Bool := match K.lookup fI with
  | some ⟨_, _, .func fd, _⟩ => (match fd.closure with
    | [(n, cc)] => decide (n = "__class__") && (cellB K cc C && (fileB K fd.code && (PySem.W.codeIn K fd.code fd.qualname && (decide (fd.globals = mainGlobals) && (decide (fd.builtins = builtinsNs) && noneB fd.defaults)))))
    | _ => false)
  | _ => false
abbrev ExW : Type := Option (Str × Arguments × FuncBody × Scope)
def exW (K : Frag) (e : ExD) : ExW := match K.lookup (He.ma K (He.ga K e.x) "__init__") with
  | some ⟨_, _, .func fd, _⟩ => some (fd.qualname, fd.params, fd.body, fd.scope)
  | _ => none
def ExD.val (e : ExD) : ExW := some (e.qual, e.params, .stmts e.body, e.scope)
def exB (K : Frag) (e : ExD) : Bool :=
  clB K (He.ga K e.x) && (inB K (He.ma K (He.ga K e.x) "__init__") (He.ga K e.x) && ((He.Fa.glo e.x).ok K && (decide (PySem.W.findIn K (.ref (He.ga K e.x)) "__setattr__" = some (some (.builtin "object.__setattr__"))) &&
  (decide (PySem.W.typeIn K (.ref (He.ga K e.x)) = some (.type "type")) && (PySem.W.keepIn K (.ref (He.ga K e.x)) && (decide (PySem.W.findIn K (.ref (He.ga K e.x)) "__init__" = some (some (.ref (He.ma K (He.ga K e.x) "__init__")))) &&
  (decide (PySem.W.typeIn K (.ref (He.ma K (He.ga K e.x) "__init__")) = some (.type "function")) && (decide (PySem.W.subIn K (.ref (He.ga K e.x)) (.type "ValueError") = some true) && (decide (PySem.W.ks_superIn K (He.ga K e.x) (He.ga K e.x) "__init__" = some (some (.builtin "ValueError.__init__"))) &&
  (decide (PySem.W.mroIn K (He.ga K e.x) (.ref (He.ga K e.x)) = some true) && (decide (PySem.W.nsIn K cStatics "thirdparty.any" = some none) && (decide (PySem.W.nsIn K mainGlobals "super" = some none) && (xfB K (He.ga K e.x) && e.flds.all fun f => decide (PySem.W.findIn K (.ref (He.ga K e.x)) f = some none))))))))))))))
theorem exB_ok {K : Frag} {e : ExD} (h : exB K e = true) (hw : exW K e = e.val) (hN : ((e.params.posonlyargs ++ e.params.args).head?.map (·.arg)) = some "self") :
    ∃ (C fI : Addr) (fd : FuncData), C = He.ga K e.x ∧ (He.Fa.glo e.x).ok K = true ∧ SuC K C fI e.qual ("self" :: e.flds) e.body e.scope fd ∧ XfC K C ∧ (∀ f ∈ e.flds, PySem.W.findIn K (.ref C) f = some none) ∧ fd.params = e.params ∧ fd.defaults = .none := by
  unfold exB at h
  obtain ⟨h1, h⟩ := b2 h
  obtain ⟨h2, h⟩ := b2 h
  obtain ⟨h3, h⟩ := b2 h
  obtain ⟨h4, h⟩ := b2 h
  obtain ⟨h5, h⟩ := b2 h
  obtain ⟨h6, h⟩ := b2 h
  obtain ⟨h7, h⟩ := b2 h
  obtain ⟨h8, h⟩ := b2 h
  obtain ⟨h9, h⟩ := b2 h
  obtain ⟨h10, h⟩ := b2 h
  obtain ⟨h11, h⟩ := b2 h
  obtain ⟨h12, h⟩ := b2 h
  obtain ⟨h13, h⟩ := b2 h
  obtain ⟨h14, h15⟩ := b2 h
  have X := xfB_ok h14
  unfold inB at h2
  unfold exW ExD.val at hw
  split at h2
  · rename_i oc od fd osl lk
    rw [lk] at hw
    dsimp only at hw
    obtain ⟨name, qual, params, body, scope, globals, closure, dV, kV, doc, pm, an, code, ct, blt⟩ := fd
    dsimp only at h2 hw
    split at h2
    · rename_i n cc
      obtain ⟨g1, h2⟩ := b2 h2
      obtain ⟨g2, h2⟩ := b2 h2
      obtain ⟨g3, h2⟩ := b2 h2
      obtain ⟨g4, h2⟩ := b2 h2
      obtain ⟨g5, h2⟩ := b2 h2
      obtain ⟨g6, g7⟩ := b2 h2
      have e1 := of_decide_eq_true g1
      have e5 := of_decide_eq_true g5
      have e6 := of_decide_eq_true g6
      clear g1 g5 g6
      simp only [Option.some.injEq, Prod.mk.injEq] at hw
      obtain ⟨w1, w2, w3, w4⟩ := hw
      subst e1 e5 e6 w1 w2 w3 w4
      obtain ⟨cl, cld, csl, hcc⟩ : ∃ cl cld csl, K.lookup cc = some ⟨cl, cld, .cell (some (.ref (He.ga K e.x))), csl⟩ := by
        unfold cellB at g2
        split at g2
        · rename_i a1 a2 D a3 e2
          have := of_decide_eq_true g2
          subst this
          exact ⟨_, _, _, e2⟩
        · cases g2
      obtain ⟨cda, ccl, cdd, vs, ccs, tf, rfl, hcd, hvs⟩ : ∃ cda ccl cdd vs ccs tf, code = .ref cda ∧ K.lookup cda = some ⟨ccl, cdd, .fields vs, ccs⟩ ∧ vs[2]? = some (.str "/claim/cut.py" tf) := by
        unfold fileB at g3
        split at g3
        · rename_i a1
          split at g3
          · rename_i b1 b2 vs b3 e2
            split at g3
            · rename_i f tf e3
              have := of_decide_eq_true g3
              subst this
              exact ⟨_, _, _, _, _, _, rfl, e2, e3⟩
            · cases g3
          · cases g3
        · cases g3
      have hdn : dV = .none := by
        cases dV <;> first | rfl | cases g7
      subst hdn
      obtain ⟨ar, har, hself⟩ := Option.map_eq_some_iff.mp hN
      refine ⟨_, _, _, rfl, h3, ⟨⟨clB_ok h1 |> fun z => by
        obtain ⟨nm, q, N, bs, bm, sn, sub, ab, col, dd, k0, k1, k2, k3, k5, z1, z2⟩ := z
        exact ⟨nm, q, N, bs, bm, sn, sub, ab, col, dd, k0, k1, k2, k3, k5, z1, z2⟩, of_decide_eq_true h4, X.exC, of_decide_eq_true h5, h6⟩, of_decide_eq_true h7, of_decide_eq_true h8, of_decide_eq_true h9, of_decide_eq_true h10, of_decide_eq_true h11, of_decide_eq_true h12, of_decide_eq_true h13,
        oc, od, name, _, .none, kV, doc, pm, _, ct, an, osl, cc, cda, ccl, cl, cdd, cld, vs, ccs, csl, ar, "/claim/cut.py", tf, rfl, lk, g4, hcc, rfl, hcd, hvs, rfl, har, by rw [hself]; rfl⟩, X, fun f hf => of_decide_eq_true (List.all_eq_true.mp h15 f hf), rfl, rfl⟩
    · cases h2
  · cases h2
end DL
end

section
set_option Elab.async false
set_option linter.all false
set_option maxRecDepth 100000
set_option maxHeartbeats 3999999
/-! WEng28: the head with own exception classes -/
namespace DL
open L2 PySem PyProof.Rows PySem.Spec
abbrev AlE : Type := He.AlD × List ExW
def obsE (fa : List He.Fa) (cs : List (Str × D)) (ex : List ExD) (fn : List He.DefD) (K : Frag) : AlE := (((obsX fa cs fn K).1 && ex.all (exB K), (obsX fa cs fn K).2), ex.map (exW K))
def valE (ex : List ExD) (fn : List He.DefD) : AlE := (He.valD fn, ex.map ExD.val)
def SaysE (fa : List He.Fa) (cs : List (Str × D)) (ex : List ExD) (fn : List He.DefD) (K : Frag) : Prop := obsE fa cs ex fn K = valE ex fn
def obsEG (n : Nat) (fa : List He.Fa) (cs : List (Str × D)) (ex : List ExD) (fn : List He.DefD) (g : Addr → Option Obj) : AlE := obsE fa cs ex fn (He.frG g (cStatics :: He.asD g n))
def hookE (n : Nat) (fa : List He.Fa) (cs : List (Str × D)) (ex : List ExD) (fn : List He.DefD) : PySem.W.Hook where
  α := AlE
  obs := fun s => obsEG n fa cs ex fn s.heap.get?
  val := fun _ => valE ex fn
  says := fun _ h => ∃ K : Frag, K.In h ∧ SaysE fa cs ex fn K
  of := fun _ _ e => ⟨_, He.frG_in, e⟩
  keeps := fun _ _ _ ⟨K, hK, c⟩ k => ⟨K, PySem.W.Frag.In.keeps hK k, c⟩
theorem obsEG_eq {n : Nat} {fa : List He.Fa} {cs : List (Str × D)} {ex : List ExD} {fn : List He.DefD} {g : Addr → Option Obj} {s : Shared} (h : ∀ a, g a = s.heap.get? a) : obsEG n fa cs ex fn g = (hookE n fa cs ex fn).obs s := by
  obtain rfl : g = s.heap.get? := funext h
  rfl
section
variable {fa : List He.Fa} {cs : List (Str × D)} {ex : List ExD} {fn : List He.DefD} {K : Frag} {h : Heap} {mg : Str → Option Value}
theorem SaysE.both (c : SaysE fa cs ex fn K) : SaysX fa cs fn K ∧ (∀ e ∈ ex, exB K e = true ∧ exW K e = e.val) := by
  have c1 : ((obsX fa cs fn K).1 && ex.all (exB K)) = true := congrArg (fun z : AlE => z.1.1) c
  have c2 : (obsX fa cs fn K).2 = fn.map He.DefD.val := congrArg (fun z : AlE => z.1.2) c
  have c3 : ex.map (exW K) = ex.map ExD.val := congrArg (fun z : AlE => z.2) c
  obtain ⟨h1, h2⟩ := b2 c1
  refine ⟨?_, fun e he => ⟨List.all_eq_true.mp h2 e he, List.map_inj_left.mp c3 e he⟩⟩
  show obsX fa cs fn K = (true, fn.map He.DefD.val)
  rw [← h1, ← c2]
theorem SaysE.defF (c : SaysE fa cs ex fn K) (X : K.In h) (G : h.Ns mainGlobals mg) {e : ExD} (he : e ∈ ex) (hN : ((e.params.posonlyargs ++ e.params.args).head?.map (·.arg)) = some "self") {f : Str} (hf : f ∈ e.flds) : DefF K mg e.x f := by
  obtain ⟨h1, h2⟩ := c.both.2 e he
  obtain ⟨C, fI, fd, rfl, g1, T, x1, x2, _, _⟩ := exB_ok h1 h2 hN
  exact ⟨_, He.glo_ok X G g1, x1, x2 f hf⟩
theorem SaysE.prs (c : SaysE fa cs ex fn K) (X : K.In h) (G : h.Ns mainGlobals mg) {prs : List (Str × Str × Bool)} (hp : ∀ p ∈ prs, He.Fa.exm p.1 p.2.1 p.2.2 ∈ fa ∧ He.Fa.glo p.1 ∈ fa ∧ He.Fa.glo p.2.1 ∈ fa) : PrsOk K mg prs := fun p m C C' h1 h2 => by
  obtain ⟨q1, q2, q3⟩ := hp p m
  have all := (b2 (b2 (congrArg (fun z : He.AlD => z.1) c.both.1 : (((fa.all fun f => f.ok K) && fn.all fun d => d.ok K) && cs.all (conB K)) = true)).1).1
  have e1 := He.exm_ok (List.all_eq_true.mp all _ q1)
  have e2 := He.glo_ok X G (List.all_eq_true.mp all _ q2)
  have e3 := He.glo_ok X G (List.all_eq_true.mp all _ q3)
  rw [e2] at h1
  rw [e3] at h2
  cases h1
  cases h2
  exact e1
variable {P : Program} {w : World} {base : Heap} {k : Nat} {p0 p1 p2 p3 p4 p5 q1 q2 q3 q4 : Pos} {m : Str} {j : Nat} {f : Str}
theorem SaysE.defE1 (c : SaysE fa cs ex fn K) (X : K.In h) (G : h.Ns mainGlobals mg) {e : ExD} (he : e ∈ ex) (hN : ((e.params.posonlyargs ++ e.params.args).head?.map (·.arg)) = some "self") (hfl : e.flds = [f]) (hbody : e.body = [suStmt p0 p1 p2 p3 p4 p5 m j, seStmt f q1 q2 q3 q4]) (S : SuScope ["self", f] e.scope)
    (hP : P.main.file = "/claim/cut.py") (hT : (P.main.scope.names.lookup ("super" : Str)).isSome = false)
    (hsw : ∀ env : Env, swapsWith (.Call (.Attribute (.Call (.Name "super" p0) [] [] p1) "__init__" p2) [.Constant (.str m) j p3] [] p4) none p5.line env = pure false)
    (pl : Sem Bool) (hev : ∀ env : Env, eval (.Call (.Attribute (.Call (.Name "super" p0) [] [] p1) "__init__" p2) [.Constant (.str m) j p3] [] p4) env = (do
      let ov ← attributeBase (.Call (.Name "super" p0) [] [] p1) "__init__" env (eval (.Call (.Name "super" p0) [] [] p1) env)
      standAt p2.atName
      let (f, first) ← holding [ov] (getMethod ov "__init__" pl)
      callWith p4 f first (backTo p4 (starEach [.Constant (.str m) j p3] env)) []))
    (hs1 : ∀ env : Env, swapsWith (.Name f q3) (some (.Attribute (.Name "self" q1) f q2)) q4.line env = pure false)
    (hd : (f == ("__debug__" : Str)) = false) (hc : (f == ("__classdict__" : Str)) = false)
    (hb : ∀ fd : FuncData, fd.params = e.params → fd.defaults = .none → ∀ us : List Value, us.length = 2 → bindArgs fd ⟨us, []⟩ = pure ((["self", f] : List Str).zip us)) : DefE P w K mg base (k + 1) e.x [f] := by
  obtain ⟨h1, h2⟩ := c.both.2 e he
  obtain ⟨C, fI, fd, rfl, g1, T, x1, x2, y1, y2⟩ := exB_ok h1 h2 hN
  rw [hfl, hbody] at T
  refine ⟨_, fI, fd, T.ox, T.io, T.ti, init1 T S hP hT hsw pl hev hs1 (x2 f (by rw [hfl]; exact List.mem_cons_self)) hd hc, He.glo_ok X G g1, Binds.all fun us hl => hb fd y1 y2 us hl⟩
end
theorem walkE {l : PySem.W.OpenLaw} {k : Nat} {q : Program} {loose : List Str} {XP : (Str → Option Value) → Heap → Prop} {fa : List He.Fa} {cs : List (Str × D)} {ex : List ExD} {fn : List He.DefD} {d : DefRec} {m : Nat}
    (hn : l.most = some 63) (hdf : d.params.defaults = []) (hr : Room k callerA) (hname : d.name = ("law" : Str)) (hP : l.prog.main.file = "/claim/cut.py") (hT : (l.prog.main.scope.names.lookup ("super" : Str)).isSome = false)
    (F : ∀ (P : Program) (w : World) (K : Frag) (mg : Str → Option Value) (h : Heap), P.main.file = "/claim/cut.py" → (P.main.scope.names.lookup ("super" : Str)).isSome = false → K.In h → h.Ns mainGlobals mg → SaysE fa cs ex fn K → ∀ base : Heap, LawQ P w K mg base k "law" ["script"] (spLaw K)) :
    PySem.W.WalkO q loose XP (hookE m fa cs ex fn).says l.row.toRowW d [] (fun f vs => PySem.call f vs) := by
  refine Att.attach_call hn hdf ?_
  intro w s₀ s₁ mg mb fa o pm cd doc a vs ns G Y ho hd hcd hmg hobj hints hlen hg
  obtain ⟨K, KX, c⟩ := Y
  rw [hname] at hmg
  refine law_callG (x0 := "law") (x := "script") (sp := spLaw K) KX G.T.g G.T.b G.T.builtins G.T.nolimit hg hobj hints ?_ hr rfl hmg (fun base _ _ => F l.prog w K mg _ hP hT KX G.T.g c base) fun H hO hS => ⟨a, ns, rfl, hO, hS, hlen, fun _ => rfl⟩
  rw [sizeLine_eq]
  omega
end DL
end

section
set_option Elab.async false
set_option linter.all false
set_option maxRecDepth 100000
set_option maxHeartbeats 3999999
/-! WEng29: an operation whose left side may raise; a named name of the module and a datum at once -/
namespace DL
open L2 PySem PyProof.Rows PySem.Spec
section
variable {τ : Type} {Γ : Gam} {B : Bd τ} {pos : Pos} {a b : Expr}
/-- a result that is a datum already -/
def datO : Option Opd → Option D
  | some (.val z) => some z
  | _ => none
theorem datO_some {o : Option Opd} {z : D} (h : datO o = some z) : o = some (.val z) := by
  cases o with
  | none => cases h
  | some o =>
    cases o with
    | val y => cases h; rfl
    | slot i => cases h
    | new xs => cases h
def opX (f : D → D → Option Opd) (Fa : ME τ D) (Fb : M τ Opd) : ME τ D := bndE Fa fun d => okE (bnd Fb fun o2 => bnd (getO o2) fun y => lift (datO (f d y)))
theorem DOx.bin {op : Operator} {f : D → D → Option Opd} {Fa : ME τ D} {Fb : M τ Opd} (ho : OpD Γ (binaryOp op) f) (ha : DOx Γ B a Fa) (hb : DO Γ B b Fb) : DOx Γ B (.BinOp a op b pos) (opX f Fa Fb) := fun W => by
  obtain ⟨ta, pa, ma⟩ := ha W
  obtain ⟨tb, pb, mb⟩ := hb
  obtain ⟨r, ro, mo⟩ := ho
  refine ⟨_, fun X h tk => pe_op (ro X h) (pa X h tk) (pb X h), fun s σ H S g res s' e Q q => ?_⟩
  rcases bndE_some e with ⟨x, rfl, e1⟩ | ⟨d, s1, e1, e2⟩
  · exact ma s σ H S g _ _ e1 _ q
  obtain ⟨z, rfl, e3⟩ := okE_some e2
  obtain ⟨o2, s2, e4, e5⟩ := bnd_some e3
  obtain ⟨y, s3, e6, e7⟩ := bnd_some e5
  refine ma s σ H S g _ _ e1 _ fun v H1 S1 g1 w1 r1 => ?_
  refine mb s1 σ H1 S1 g1 o2 s2 e4 _ fun u H2 S2 g2 w2 r2 _ => ?_
  obtain ⟨rfl, vy⟩ := view_of g2 r2 e6
  obtain ⟨ez, rfl⟩ := lift_some e7
  refine mo H2 S2 v u d y _ g2.fr.sub (.inl (Dq.mono w2.same r1)) vy (datO_some ez) Q fun z H3 S3 rr => ?_
  obtain ⟨g3, w3, r3, _⟩ := rr.good g2
  exact q z H3 S3 g3 ((w1.trans w2).trans w3) r3
end
section
variable {P : Program} {w : World} {K : Frag} {mg : Str → Option Value} {base : Heap}
/-- a def that may raise, as the head has it -/
theorem Has.raises {x : Str} {st : Stmt} {N ps : List Str} {k np n : Nat} {F : ME Unit Out} (h : Has K mg x st ps) (Sc : FnScope N ps (defScope st)) (e1 : ps.length = np) (e2 : N.length = n)
    (body : ∀ (A : Around) (B : Bd Unit), Gam.Ok ⟨P, w, K, mg, base, A, N, defScope st, fun _ => true⟩ k → DSsx ⟨P, w, K, mg, base, A, N, defScope st, fun _ => true⟩ B (defBody st) F) : DefX P w K mg base (k + 1) x ps (runX2 np n F) := by
  obtain ⟨a, fd, F, h1, h2, h3⟩ := h
  subst e1 e2
  exact ⟨a, fd, fnX_ F Sc body, h1, h2, h3⟩
end
end DL
end

section
set_option Elab.async false
set_option linter.all false
set_option maxRecDepth 100000
set_option maxHeartbeats 3999999
open DL L2 PySem PyProof.Rows PySem.Spec
namespace LW
abbrev s_is_whole : Stmt := PySem.Challenge.pw_washedarms_k14_whole_free_rows_numbered.main.body.getD 8 (.Pass ⟨0, 0, 0, 0⟩)
abbrev s_is_within : Stmt := PySem.Challenge.pw_washedarms_k14_whole_free_rows_numbered.main.body.getD 9 (.Pass ⟨0, 0, 0, 0⟩)
abbrev s_is_tuple_of : Stmt := PySem.Challenge.pw_washedarms_k14_whole_free_rows_numbered.main.body.getD 10 (.Pass ⟨0, 0, 0, 0⟩)
abbrev s_need_number : Stmt := PySem.Challenge.pw_washedarms_k14_whole_free_rows_numbered.main.body.getD 11 (.Pass ⟨0, 0, 0, 0⟩)
abbrev s_is_tuple_to : Stmt := PySem.Challenge.pw_washedarms_k14_whole_free_rows_numbered.main.body.getD 21 (.Pass ⟨0, 0, 0, 0⟩)
abbrev s_first_descent : Stmt := PySem.Challenge.pw_washedarms_k14_whole_free_rows_numbered.main.body.getD 22 (.Pass ⟨0, 0, 0, 0⟩)
abbrev s_meets_fault : Stmt := PySem.Challenge.pw_washedarms_k14_whole_free_rows_numbered.main.body.getD 23 (.Pass ⟨0, 0, 0, 0⟩)
abbrev s_wash_fault : Stmt := PySem.Challenge.pw_washedarms_k14_whole_free_rows_numbered.main.body.getD 24 (.Pass ⟨0, 0, 0, 0⟩)
abbrev s_lab_fault : Stmt := PySem.Challenge.pw_washedarms_k14_whole_free_rows_numbered.main.body.getD 25 (.Pass ⟨0, 0, 0, 0⟩)
abbrev s_need_lab : Stmt := PySem.Challenge.pw_washedarms_k14_whole_free_rows_numbered.main.body.getD 26 (.Pass ⟨0, 0, 0, 0⟩)
abbrev s_need_state : Stmt := PySem.Challenge.pw_washedarms_k14_whole_free_rows_numbered.main.body.getD 27 (.Pass ⟨0, 0, 0, 0⟩)
abbrev s_is_stuffs : Stmt := PySem.Challenge.pw_washedarms_k14_whole_free_rows_numbered.main.body.getD 29 (.Pass ⟨0, 0, 0, 0⟩)
abbrev s_free_stop : Stmt := PySem.Challenge.pw_washedarms_k14_whole_free_rows_numbered.main.body.getD 30 (.Pass ⟨0, 0, 0, 0⟩)
abbrev s_row_end : Stmt := PySem.Challenge.pw_washedarms_k14_whole_free_rows_numbered.main.body.getD 31 (.Pass ⟨0, 0, 0, 0⟩)
abbrev s_row_stop : Stmt := PySem.Challenge.pw_washedarms_k14_whole_free_rows_numbered.main.body.getD 32 (.Pass ⟨0, 0, 0, 0⟩)
abbrev s_need_stuffs : Stmt := PySem.Challenge.pw_washedarms_k14_whole_free_rows_numbered.main.body.getD 33 (.Pass ⟨0, 0, 0, 0⟩)
abbrev s_row_counts : Stmt := PySem.Challenge.pw_washedarms_k14_whole_free_rows_numbered.main.body.getD 36 (.Pass ⟨0, 0, 0, 0⟩)
abbrev s_free_row_count : Stmt := PySem.Challenge.pw_washedarms_k14_whole_free_rows_numbered.main.body.getD 37 (.Pass ⟨0, 0, 0, 0⟩)
abbrev s_free_row_at : Stmt := PySem.Challenge.pw_washedarms_k14_whole_free_rows_numbered.main.body.getD 38 (.Pass ⟨0, 0, 0, 0⟩)
abbrev s_next_touch : Stmt := PySem.Challenge.pw_washedarms_k14_whole_free_rows_numbered.main.body.getD 39 (.Pass ⟨0, 0, 0, 0⟩)
abbrev s_free_row_place : Stmt := PySem.Challenge.pw_washedarms_k14_whole_free_rows_numbered.main.body.getD 40 (.Pass ⟨0, 0, 0, 0⟩)
abbrev s__law_mixed : Stmt := PySem.Challenge.pw_washedarms_k14_whole_free_rows_numbered.main.body.getD 42 (.Pass ⟨0, 0, 0, 0⟩)
abbrev s__law_folded : Stmt := PySem.Challenge.pw_washedarms_k14_whole_free_rows_numbered.main.body.getD 43 (.Pass ⟨0, 0, 0, 0⟩)
abbrev s__law_draw : Stmt := PySem.Challenge.pw_washedarms_k14_whole_free_rows_numbered.main.body.getD 44 (.Pass ⟨0, 0, 0, 0⟩)
abbrev s__law_begun : Stmt := PySem.Challenge.pw_washedarms_k14_whole_free_rows_numbered.main.body.getD 45 (.Pass ⟨0, 0, 0, 0⟩)
abbrev s__law_like : Stmt := PySem.Challenge.pw_washedarms_k14_whole_free_rows_numbered.main.body.getD 46 (.Pass ⟨0, 0, 0, 0⟩)
abbrev s__law_of : Stmt := PySem.Challenge.pw_washedarms_k14_whole_free_rows_numbered.main.body.getD 47 (.Pass ⟨0, 0, 0, 0⟩)
abbrev s__law_is_int : Stmt := PySem.Challenge.pw_washedarms_k14_whole_free_rows_numbered.main.body.getD 48 (.Pass ⟨0, 0, 0, 0⟩)
abbrev s__law_order : Stmt := PySem.Challenge.pw_washedarms_k14_whole_free_rows_numbered.main.body.getD 49 (.Pass ⟨0, 0, 0, 0⟩)
abbrev s__law_some : Stmt := PySem.Challenge.pw_washedarms_k14_whole_free_rows_numbered.main.body.getD 50 (.Pass ⟨0, 0, 0, 0⟩)
abbrev s__law_meets : Stmt := PySem.Challenge.pw_washedarms_k14_whole_free_rows_numbered.main.body.getD 51 (.Pass ⟨0, 0, 0, 0⟩)
abbrev s__law_washes : Stmt := PySem.Challenge.pw_washedarms_k14_whole_free_rows_numbered.main.body.getD 52 (.Pass ⟨0, 0, 0, 0⟩)
abbrev s__law_lab : Stmt := PySem.Challenge.pw_washedarms_k14_whole_free_rows_numbered.main.body.getD 53 (.Pass ⟨0, 0, 0, 0⟩)
abbrev s__law_counts : Stmt := PySem.Challenge.pw_washedarms_k14_whole_free_rows_numbered.main.body.getD 54 (.Pass ⟨0, 0, 0, 0⟩)
abbrev s__law_stop : Stmt := PySem.Challenge.pw_washedarms_k14_whole_free_rows_numbered.main.body.getD 55 (.Pass ⟨0, 0, 0, 0⟩)
abbrev s__law_all_rows : Stmt := PySem.Challenge.pw_washedarms_k14_whole_free_rows_numbered.main.body.getD 56 (.Pass ⟨0, 0, 0, 0⟩)
abbrev s__law_number : Stmt := PySem.Challenge.pw_washedarms_k14_whole_free_rows_numbered.main.body.getD 57 (.Pass ⟨0, 0, 0, 0⟩)
abbrev s__law_goes : Stmt := PySem.Challenge.pw_washedarms_k14_whole_free_rows_numbered.main.body.getD 58 (.Pass ⟨0, 0, 0, 0⟩)
abbrev s__law_told : Stmt := PySem.Challenge.pw_washedarms_k14_whole_free_rows_numbered.main.body.getD 59 (.Pass ⟨0, 0, 0, 0⟩)
abbrev s__law_row_right : Stmt := PySem.Challenge.pw_washedarms_k14_whole_free_rows_numbered.main.body.getD 60 (.Pass ⟨0, 0, 0, 0⟩)
abbrev s__law_numbers_right : Stmt := PySem.Challenge.pw_washedarms_k14_whole_free_rows_numbered.main.body.getD 61 (.Pass ⟨0, 0, 0, 0⟩)
abbrev s__law_refused : Stmt := PySem.Challenge.pw_washedarms_k14_whole_free_rows_numbered.main.body.getD 62 (.Pass ⟨0, 0, 0, 0⟩)
abbrev s_law : Stmt := PySem.Challenge.pw_washedarms_k14_whole_free_rows_numbered.main.body.getD 63 (.Pass ⟨0, 0, 0, 0⟩)
abbrev exI (s : Stmt) : Stmt := match s with
  | .ClassDef (body := b) .. => b.headD (.Pass ⟨0, 0, 0, 0⟩)
  | _ => s
def e_BadNumber : ExD := ⟨"BadNumber", ["value"], "BadNumber.__init__", defArgs (exI (PySem.Challenge.pw_washedarms_k14_whole_free_rows_numbered.main.body.getD 2 (.Pass ⟨0, 0, 0, 0⟩))), defBody (exI (PySem.Challenge.pw_washedarms_k14_whole_free_rows_numbered.main.body.getD 2 (.Pass ⟨0, 0, 0, 0⟩))), defScope (exI (PySem.Challenge.pw_washedarms_k14_whole_free_rows_numbered.main.body.getD 2 (.Pass ⟨0, 0, 0, 0⟩)))⟩
def e_BadLength : ExD := ⟨"BadLength", ["value"], "BadLength.__init__", defArgs (exI (PySem.Challenge.pw_washedarms_k14_whole_free_rows_numbered.main.body.getD 3 (.Pass ⟨0, 0, 0, 0⟩))), defBody (exI (PySem.Challenge.pw_washedarms_k14_whole_free_rows_numbered.main.body.getD 3 (.Pass ⟨0, 0, 0, 0⟩))), defScope (exI (PySem.Challenge.pw_washedarms_k14_whole_free_rows_numbered.main.body.getD 3 (.Pass ⟨0, 0, 0, 0⟩)))⟩
def e_BadLab : ExD := ⟨"BadLab", ["word", "place"], "BadLab.__init__", defArgs (exI (PySem.Challenge.pw_washedarms_k14_whole_free_rows_numbered.main.body.getD 4 (.Pass ⟨0, 0, 0, 0⟩))), defBody (exI (PySem.Challenge.pw_washedarms_k14_whole_free_rows_numbered.main.body.getD 4 (.Pass ⟨0, 0, 0, 0⟩))), defScope (exI (PySem.Challenge.pw_washedarms_k14_whole_free_rows_numbered.main.body.getD 4 (.Pass ⟨0, 0, 0, 0⟩)))⟩
def e_BadState : ExD := ⟨"BadState", ["value"], "BadState.__init__", defArgs (exI (PySem.Challenge.pw_washedarms_k14_whole_free_rows_numbered.main.body.getD 5 (.Pass ⟨0, 0, 0, 0⟩))), defBody (exI (PySem.Challenge.pw_washedarms_k14_whole_free_rows_numbered.main.body.getD 5 (.Pass ⟨0, 0, 0, 0⟩))), defScope (exI (PySem.Challenge.pw_washedarms_k14_whole_free_rows_numbered.main.body.getD 5 (.Pass ⟨0, 0, 0, 0⟩)))⟩
def e_BadRow : ExD := ⟨"BadRow", ["value"], "BadRow.__init__", defArgs (exI (PySem.Challenge.pw_washedarms_k14_whole_free_rows_numbered.main.body.getD 6 (.Pass ⟨0, 0, 0, 0⟩))), defBody (exI (PySem.Challenge.pw_washedarms_k14_whole_free_rows_numbered.main.body.getD 6 (.Pass ⟨0, 0, 0, 0⟩))), defScope (exI (PySem.Challenge.pw_washedarms_k14_whole_free_rows_numbered.main.body.getD 6 (.Pass ⟨0, 0, 0, 0⟩)))⟩
def exs : List ExD := [e_BadNumber, e_BadLength, e_BadLab, e_BadState, e_BadRow]
def prsT : List (Str × Str × Bool) := [("BadNumber", "BadNumber", true), ("BadNumber", "BadLength", false), ("BadNumber", "BadLab", false), ("BadNumber", "BadState", false), ("BadNumber", "BadRow", false), ("BadLength", "BadNumber", false), ("BadLength", "BadLength", true), ("BadLength", "BadLab", false), ("BadLength", "BadState", false), ("BadLength", "BadRow", false), ("BadLab", "BadNumber", false), ("BadLab", "BadLength", false), ("BadLab", "BadLab", true), ("BadLab", "BadState", false), ("BadLab", "BadRow", false), ("BadState", "BadNumber", false), ("BadState", "BadLength", false), ("BadState", "BadLab", false), ("BadState", "BadState", true), ("BadState", "BadRow", false), ("BadRow", "BadNumber", false), ("BadRow", "BadLength", false), ("BadRow", "BadLab", false), ("BadRow", "BadState", false), ("BadRow", "BadRow", true)]
structure Top (P : Program) (w : World) (base : Heap) (K : Frag) (mg : Str → Option Value) : Prop where
  n_all : mg "all" = none
  n_bool : mg "bool" = none
  n_enumerate : mg "enumerate" = none
  n_int : mg "int" = none
  n_isinstance : mg "isinstance" = none
  n_len : mg "len" = none
  n_list : mg "list" = none
  n_min : mg "min" = none
  n_range : mg "range" = none
  n_repr : mg "repr" = none
  n_sorted : mg "sorted" = none
  n_sum : mg "sum" = none
  n_tuple : mg "tuple" = none
  g_MOST_ARMS : ∃ t, mg "MOST_ARMS" = some (.int (3) t)
  g_MOST_LONG : ∃ t, mg "MOST_LONG" = some (.int (200) t)
  g_MOST_RESULTS : ∃ t, mg "MOST_RESULTS" = some (.int (3) t)
  g_MOST_STATES : ∃ t, mg "MOST_STATES" = some (.int (8) t)
  g_MOST_STUFFS : ∃ t, mg "MOST_STUFFS" = some (.int (8) t)
  g_MOST_TICKS : ∃ t, mg "MOST_TICKS" = some (.int (6) t)
  g_MOST_TOOLS : ∃ t, mg "MOST_TOOLS" = some (.int (3) t)
  g_MOST_WASHES : ∃ t, mg "MOST_WASHES" = some (.int (3) t)
  g_MOST_ZONES : ∃ t, mg "MOST_ZONES" = some (.int (4) t)
  h_is_whole : Has K mg "is_whole" s_is_whole ["value"]
  h_is_within : Has K mg "is_within" s_is_within ["value", "low", "high"]
  h_is_tuple_of : Has K mg "is_tuple_of" s_is_tuple_of ["value", "many"]
  h_need_number : Has K mg "need_number" s_need_number ["value", "low", "high"]
  h_is_tuple_to : Has K mg "is_tuple_to" s_is_tuple_to ["value", "low", "high"]
  h_first_descent : Has K mg "first_descent" s_first_descent ["value", "limit"]
  h_meets_fault : Has K mg "meets_fault" s_meets_fault ["meets"]
  h_wash_fault : Has K mg "wash_fault" s_wash_fault ["wash", "states"]
  h_lab_fault : Has K mg "lab_fault" s_lab_fault ["value"]
  h_need_lab : Has K mg "need_lab" s_need_lab ["lab"]
  h_need_state : Has K mg "need_state" s_need_state ["lab", "state"]
  h_is_stuffs : Has K mg "is_stuffs" s_is_stuffs ["lab", "value"]
  h_free_stop : Has K mg "free_stop" s_free_stop ["lab", "state", "stuffs"]
  h_row_end : Has K mg "row_end" s_row_end ["lab", "state", "stuffs"]
  h_row_stop : Has K mg "row_stop" s_row_stop ["lab", "state", "stuffs"]
  h_need_stuffs : Has K mg "need_stuffs" s_need_stuffs ["lab", "state", "stuffs"]
  h_row_counts : Has K mg "row_counts" s_row_counts ["lab", "length"]
  h_free_row_count : Has K mg "free_row_count" s_free_row_count ["lab", "state", "length"]
  h_free_row_at : Has K mg "free_row_at" s_free_row_at ["lab", "state", "length", "number"]
  h_next_touch : Has K mg "next_touch" s_next_touch ["row", "counts", "number"]
  h_free_row_place : Has K mg "free_row_place" s_free_row_place ["lab", "state", "stuffs"]
  h__law_mixed : Has K mg "_law_mixed" s__law_mixed ["cell", "n"]
  h__law_folded : Has K mg "_law_folded" s__law_folded ["script"]
  h__law_draw : Has K mg "_law_draw" s__law_draw ["m", "limit"]
  h__law_begun : Has K mg "_law_begun" s__law_begun ["script"]
  h__law_like : Has K mg "_law_like" s__law_like ["got", "due"]
  h__law_of : Has K mg "_law_of" s__law_of ["m", "some"]
  h__law_is_int : Has K mg "_law_is_int" s__law_is_int ["thing", "low", "high"]
  h__law_order : Has K mg "_law_order" s__law_order ["m", "many"]
  h__law_some : Has K mg "_law_some" s__law_some ["m", "many", "most"]
  h__law_meets : Has K mg "_law_meets" s__law_meets ["m", "states", "stuffs"]
  h__law_washes : Has K mg "_law_washes" s__law_washes ["m", "states", "many"]
  h__law_lab : Has K mg "_law_lab" s__law_lab ["m", "states", "stuffs"]
  h__law_counts : Has K mg "_law_counts" s__law_counts ["lab", "length"]
  h__law_stop : Has K mg "_law_stop" s__law_stop ["lab", "state", "stuffs"]
  h__law_all_rows : Has K mg "_law_all_rows" s__law_all_rows ["lab", "state", "length"]
  h__law_number : Has K mg "_law_number" s__law_number ["counts", "lab", "state", "stuffs"]
  h__law_goes : Has K mg "_law_goes" s__law_goes ["m", "lab", "state", "length"]
  h__law_told : Has K mg "_law_told" s__law_told ["lab", "kind", "state", "one", "two"]
  h__law_row_right : Has K mg "_law_row_right" s__law_row_right ["lab", "counts", "state", "row"]
  h__law_numbers_right : Has K mg "_law_numbers_right" s__law_numbers_right ["m", "lab", "counts", "state", "length"]
  h__law_refused : Has K mg "_law_refused" s__law_refused ["m", "lab", "state", "row"]
  h_law : Has K mg "law" s_law ["script"]
  e_BadLength : DefE P w K mg base 1 "BadLength" ["value"]
  e_BadNumber : DefE P w K mg base 1 "BadNumber" ["value"]
  e_BadRow : DefE P w K mg base 1 "BadRow" ["value"]
  e_BadState : DefE P w K mg base 1 "BadState" ["value"]
  f_BadLength_value : DefF K mg "BadLength" "value"
  f_BadNumber_value : DefF K mg "BadNumber" "value"
  f_BadRow_value : DefF K mg "BadRow" "value"
  f_BadState_value : DefF K mg "BadState" "value"
  prs : PrsOk K mg prsT
section
variable {P : Program} {w : World} {K : Frag} {mg : Str → Option Value} {base : Heap}
def F_is_whole : M Unit Out := (retM (andV (isiM "int" (nameM 0)) (notV (isiM "bool" (nameM 0)))))
def m_is_whole : List D → Option D := runP2 1 1 F_is_whole
theorem d_is_whole (T : Top P w base K mg) : DefQ P w K mg base 1 "is_whole" ["value"] m_is_whole :=
  Has.pure (N := ["value"]) T.h_is_whole ⟨rfl, rfl, rfl, by decide +kernel, rfl, by decide +kernel, by decide +kernel⟩ rfl rfl fun A B ok =>
    (DSs.one (DS.ret (DO.and (DO.isi (by decide) (nm 0) rfl T.n_isinstance rfl T.n_int rfl) (DO.one (DO.not (DO.isi (by decide) (nm 0) rfl T.n_isinstance rfl T.n_bool rfl))))))
def F_is_within : M Unit Out := (retM (andV (callP m_is_whole (consD (nameM 0) nilM)) (chainM leD leD (nameM 1) (nameM 0) (nameM 2))))
def m_is_within : List D → Option D := runP2 3 3 F_is_within
theorem d_is_within (T : Top P w base K mg) : DefQ P w K mg base 2 "is_within" ["value", "low", "high"] m_is_within :=
  Has.pure (N := ["value", "low", "high"]) T.h_is_within ⟨rfl, rfl, rfl, by decide +kernel, rfl, by decide +kernel, by decide +kernel⟩ rfl rfl fun A B ok =>
    (DSs.one (DS.ret (DO.and (DO.callQ (d_is_whole T) ok (by decide) (DV.cons (nm 0) DV.nil)) (DO.one (DO.chain od_le od_le (nm 1) (nm 0) (nm 2))))))
def F_is_tuple_of : M Unit Out := (retM (andV (isiM "tuple" (nameM 0)) (op2 eqD (callM lenD (consO (nameM 0) nilM)) (nameM 1))))
def m_is_tuple_of : List D → Option D := runP2 2 2 F_is_tuple_of
theorem d_is_tuple_of (T : Top P w base K mg) : DefQ P w K mg base 1 "is_tuple_of" ["value", "many"] m_is_tuple_of :=
  Has.pure (N := ["value", "many"]) T.h_is_tuple_of ⟨rfl, rfl, rfl, by decide +kernel, rfl, by decide +kernel, by decide +kernel⟩ rfl rfl fun A B ok =>
    (DSs.one (DS.ret (DO.and (DO.isi (by decide) (nm 0) rfl T.n_isinstance rfl T.n_tuple rfl) (DO.one (DO.cmp (od_eq ok) (DO.callB cd_len rfl T.n_len rfl (DA.cons (nm 0) DA.nil)) (nm 1) rfl)))))
def F_need_number : ME Unit Out := (seqE (ifE (notT (bnd (callP m_is_within (consD (nameM 0) (consD (nameM 1) (consD (nameM 2) nilM)))) boolO)) (raiseM "BadNumber" ["value"] (consD (nameM 0) nilM)) (retE .nx)) (okE (retM (nameM 0))))
def m_need_number : List D → Option (Except Exn D) := runX2 3 3 F_need_number
theorem d_need_number (T : Top P w base K mg) : DefX P w K mg base 3 "need_number" ["value", "low", "high"] m_need_number :=
  Has.raises (N := ["value", "low", "high"]) T.h_need_number ⟨rfl, rfl, rfl, by decide +kernel, rfl, by decide +kernel, by decide +kernel⟩ rfl rfl fun A B ok =>
    (DSsx.cons (DSx.if_ (DT.not (DT.val (DO.callQ (d_is_within T) ok (by decide) (DV.cons (nm 0) (DV.cons (nm 1) (DV.cons (nm 2) DV.nil)))))) (DSsx.one (DSx.raise T.e_BadNumber ok (by decide) (by decide) rfl (DV.cons (nm 0) DV.nil))) DSsx.nil) (DSsx.of (DSs.one (DS.ret (nm 0)))))
def F_is_tuple_to : M Unit Out := (retM (andV (isiM "tuple" (nameM 0)) (chainM leD leD (nameM 1) (callM lenD (consO (nameM 0) nilM)) (nameM 2))))
def m_is_tuple_to : List D → Option D := runP2 3 3 F_is_tuple_to
theorem d_is_tuple_to (T : Top P w base K mg) : DefQ P w K mg base 1 "is_tuple_to" ["value", "low", "high"] m_is_tuple_to :=
  Has.pure (N := ["value", "low", "high"]) T.h_is_tuple_to ⟨rfl, rfl, rfl, by decide +kernel, rfl, by decide +kernel, by decide +kernel⟩ rfl rfl fun A B ok =>
    (DSs.one (DS.ret (DO.and (DO.isi (by decide) (nm 0) rfl T.n_isinstance rfl T.n_tuple rfl) (DO.one (DO.chain od_le od_le (nm 1) (DO.callB cd_len rfl T.n_len rfl (DA.cons (nm 0) DA.nil)) (nm 2))))))
def F_first_descent : M Unit Out := (seqM (asgM 2 (negM (ret (.val (PyData.int 1))))) (seqM (loopM (enumM (nameM 0)) (tupG 2 (gsCons (setM 3) (gsCons (setM 4) gsNil))) (seqM (ifM (notT (bnd (callP m_is_within (consD (nameM 4) (consD (op2 addD (nameM 2) (ret (.val (PyData.int 1)))) (consD (op2 subD (nameM 1) (ret (.val (PyData.int 1)))) nilM)))) boolO)) (retM (nameM 3)) (ret .nx)) (asgM 2 (nameM 4)))) (retM (ret (.val PyData.none)))))
def m_first_descent : List D → Option D := runP2 2 5 F_first_descent
theorem d_first_descent (T : Top P w base K mg) : DefQ P w K mg base 3 "first_descent" ["value", "limit"] m_first_descent :=
  Has.pure (N := ["value", "limit", "last", "index", "thing"]) T.h_first_descent ⟨rfl, rfl, rfl, by decide +kernel, rfl, by decide +kernel, by decide +kernel⟩ rfl rfl fun A B ok =>
    (DSs.cons (DS.set (i := 2) ok.nd rfl (by first | exact Or.inl rfl | exact Or.inr rfl) (Or.inl rfl) (DO.neg DO.int)) (DSs.cons (DS.for_ (DI.enum (nm 0) rfl T.n_enumerate) (DG.tup (DGs.cons (DG.name (i := 3) ok.nd rfl (by first | exact Or.inl rfl | exact Or.inr rfl) (by first | exact Or.inl rfl | exact Or.inr rfl)) (DGs.cons (DG.name (i := 4) ok.nd rfl (by first | exact Or.inl rfl | exact Or.inr rfl) (by first | exact Or.inl rfl | exact Or.inr rfl)) DGs.nil))) (DSs.cons (DS.if_ (DT.not (DT.val (DO.callQ (d_is_within T) ok (by decide) (DV.cons (nm 4) (DV.cons (DO.bin od_add (nm 2) DO.int) (DV.cons (DO.bin od_sub (nm 1) DO.int) DV.nil)))))) (DSs.one (DS.ret (nm 3))) DSs.nil) (DSs.one (DS.set (i := 2) ok.nd rfl (by first | exact Or.inl rfl | exact Or.inr rfl) (Or.inl rfl) (nm 4))))) (DSs.one (DS.ret DO.non))))
def F_meets_fault : M Unit Out := (seqM (ifM (notT (bnd (callP m_is_tuple_to (consD (nameM 0) (consD (ret (.val (PyData.int 1))) (consD (ret (.val (PyData.int 8))) nilM)))) boolO)) (retM (tupM (consD (ret (.val (PyData.int 0))) nilM))) (ret .nx)) (seqM (asgM 1 (ret (.val (PyData.int 0)))) (seqM (loopM (enumM (nameM 0)) (tupG 2 (gsCons (setM 2) (gsCons (setM 3) gsNil))) (seqM (ifM (andT (bnd (op2 eqD (nameM 2) (ret (.val (PyData.int 0)))) boolO) (notT (bnd (callP m_is_tuple_to (consD (nameM 3) (consD (ret (.val (PyData.int 1))) (consD (ret (.val (PyData.int 8))) nilM)))) boolO))) (retM (tupM (consD (ret (.val (PyData.int 0))) (consD (ret (.val (PyData.int 0))) nilM)))) (ret .nx)) (seqM (asgM 1 (iteM (bnd (op2 eqD (nameM 2) (ret (.val (PyData.int 0)))) boolO) (callM lenD (consO (nameM 3) nilM)) (nameM 1))) (seqM (ifM (notT (bnd (callP m_is_tuple_of (consD (nameM 3) (consD (nameM 1) nilM))) boolO)) (retM (tupM (consD (ret (.val (PyData.int 0))) (consD (nameM 2) nilM)))) (ret .nx)) (loopM (enumM (nameM 3)) (tupG 2 (gsCons (setM 4) (gsCons (setM 5) gsNil))) (ifM (orT (andT (bnd (op2 isD (nameM 5) (ret (.val PyData.none))) boolO) (bnd (op2 eqD (nameM 2) (ret (.val (PyData.int 0)))) boolO)) (andT (bnd (op2 isNotD (nameM 5) (ret (.val PyData.none))) boolO) (notT (bnd (callP m_is_within (consD (nameM 5) (consD (ret (.val (PyData.int 0))) (consD (op2 subD (callM lenD (consO (nameM 0) nilM)) (ret (.val (PyData.int 1)))) nilM)))) boolO)))) (retM (tupM (consD (ret (.val (PyData.int 0))) (consD (nameM 2) (consD (nameM 4) nilM))))) (ret .nx))))))) (retM (ret (.val PyData.none))))))
def m_meets_fault : List D → Option D := runP2 1 6 F_meets_fault
theorem d_meets_fault (T : Top P w base K mg) : DefQ P w K mg base 3 "meets_fault" ["meets"] m_meets_fault :=
  Has.pure (N := ["meets", "stuffs", "state", "row", "stuff", "entry"]) T.h_meets_fault ⟨rfl, rfl, rfl, by decide +kernel, rfl, by decide +kernel, by decide +kernel⟩ rfl rfl fun A B ok =>
    (DSs.cons (DS.if_ (DT.not (DT.val (DO.callQ (d_is_tuple_to T) ok (by decide) (DV.cons (nm 0) (DV.cons DO.int (DV.cons (gi T.g_MOST_STATES) DV.nil)))))) (DSs.one (DS.ret (DO.tup (DV.cons DO.int DV.nil)))) DSs.nil) (DSs.cons (DS.set (i := 1) ok.nd rfl (by first | exact Or.inl rfl | exact Or.inr rfl) (Or.inl rfl) DO.int) (DSs.cons (DS.for_ (DI.enum (nm 0) rfl T.n_enumerate) (DG.tup (DGs.cons (DG.name (i := 2) ok.nd rfl (by first | exact Or.inl rfl | exact Or.inr rfl) (by first | exact Or.inl rfl | exact Or.inr rfl)) (DGs.cons (DG.name (i := 3) ok.nd rfl (by first | exact Or.inl rfl | exact Or.inr rfl) (by first | exact Or.inl rfl | exact Or.inr rfl)) DGs.nil))) (DSs.cons (DS.if_ (DW.pt (DW.and (DT.cmp (od_eq ok) (nm 2) DO.int rfl) (DW.and1 (DT.not (DT.val (DO.callQ (d_is_tuple_to T) ok (by decide) (DV.cons (nm 3) (DV.cons DO.int (DV.cons (gi T.g_MOST_STUFFS) DV.nil))))))))) (DSs.one (DS.ret (DO.tup (DV.cons DO.int (DV.cons DO.int DV.nil))))) DSs.nil) (DSs.cons (DS.set (i := 1) ok.nd rfl (by first | exact Or.inl rfl | exact Or.inr rfl) (Or.inl rfl) (DO.ite (DT.cmp (od_eq ok) (nm 2) DO.int rfl) (DO.callB cd_len rfl T.n_len rfl (DA.cons (nm 3) DA.nil)) (nm 1))) (DSs.cons (DS.if_ (DT.not (DT.val (DO.callQ (d_is_tuple_of T) ok (by decide) (DV.cons (nm 3) (DV.cons (nm 1) DV.nil))))) (DSs.one (DS.ret (DO.tup (DV.cons DO.int (DV.cons (nm 2) DV.nil))))) DSs.nil) (DSs.one (DS.for_ (DI.enum (nm 3) rfl T.n_enumerate) (DG.tup (DGs.cons (DG.name (i := 4) ok.nd rfl (by first | exact Or.inl rfl | exact Or.inr rfl) (by first | exact Or.inl rfl | exact Or.inr rfl)) (DGs.cons (DG.name (i := 5) ok.nd rfl (by first | exact Or.inl rfl | exact Or.inr rfl) (by first | exact Or.inl rfl | exact Or.inr rfl)) DGs.nil))) (DSs.one (DS.if_ (DW.pt (DW.or (DW.pt (DW.and (DT.cmp od_is (nm 5) DO.non rfl) (DW.and1 (DT.cmp (od_eq ok) (nm 2) DO.int rfl)))) (DW.or1 (DW.pt (DW.and (DT.cmp od_isNot (nm 5) DO.non rfl) (DW.and1 (DT.not (DT.val (DO.callQ (d_is_within T) ok (by decide) (DV.cons (nm 5) (DV.cons DO.int (DV.cons (DO.bin od_sub (DO.callB cd_len rfl T.n_len rfl (DA.cons (nm 0) DA.nil)) DO.int) DV.nil)))))))))))) (DSs.one (DS.ret (DO.tup (DV.cons DO.int (DV.cons (nm 2) (DV.cons (nm 4) DV.nil)))))) DSs.nil)))))))) (DSs.one (DS.ret DO.non)))))
def F_wash_fault : M Unit Out := (seqM (ifM (notT (bnd (callP m_is_tuple_of (consD (nameM 0) (consD (ret (.val (PyData.int 3))) nilM))) boolO)) (retM (tupM nilM)) (ret .nx)) (seqM (unpM (nameM 0) (tupG 3 (gsCons (setM 2) (gsCons (setM 3) (gsCons (setM 4) gsNil))))) (seqM (ifM (notT (bnd (callP m_is_tuple_of (consD (nameM 2) (consD (nameM 1) nilM))) boolO)) (retM (tupM (consD (ret (.val (PyData.int 0))) nilM))) (ret .nx)) (seqM (loopM (enumM (nameM 2)) (tupG 2 (gsCons (setM 5) (gsCons (setM 6) gsNil))) (seqM (ifM (notT (bnd (callP m_is_tuple_to (consD (nameM 6) (consD (ret (.val (PyData.int 1))) (consD (ret (.val (PyData.int 3))) nilM)))) boolO)) (retM (tupM (consD (ret (.val (PyData.int 0))) (consD (nameM 5) nilM)))) (ret .nx)) (seqM (asgM 7 (callP m_first_descent (consD (nameM 6) (consD (nameM 1) nilM)))) (ifM (bnd (op2 isNotD (nameM 7) (ret (.val PyData.none))) boolO) (retM (tupM (consD (ret (.val (PyData.int 0))) (consD (nameM 5) (consD (nameM 7) nilM))))) (ret .nx))))) (seqM (ifM (notT (bnd (callP m_is_within (consD (nameM 3) (consD (ret (.val (PyData.int 1))) (consD (ret (.val (PyData.int 6))) nilM)))) boolO)) (retM (tupM (consD (ret (.val (PyData.int 1))) nilM))) (ret .nx)) (seqM (ifM (notT (bnd (callP m_is_within (consD (nameM 4) (consD (nameM 3) (consD (ret (.val (PyData.int 6))) nilM)))) boolO)) (retM (tupM (consD (ret (.val (PyData.int 2))) nilM))) (ret .nx)) (retM (ret (.val PyData.none)))))))))
def m_wash_fault : List D → Option D := runP2 2 8 F_wash_fault
theorem d_wash_fault (T : Top P w base K mg) : DefQ P w K mg base 4 "wash_fault" ["wash", "states"] m_wash_fault :=
  Has.pure (N := ["wash", "states", "after", "low", "high", "state", "results", "wrong"]) T.h_wash_fault ⟨rfl, rfl, rfl, by decide +kernel, rfl, by decide +kernel, by decide +kernel⟩ rfl rfl fun A B ok =>
    (DSs.cons (DS.if_ (DT.not (DT.val (DO.callQ (d_is_tuple_of T) ok (by decide) (DV.cons (nm 0) (DV.cons DO.int DV.nil))))) (DSs.one (DS.ret (DO.tup DV.nil))) DSs.nil) (DSs.cons (DS.unp (nm 0) (DG.tup (DGs.cons (DG.name (i := 2) ok.nd rfl (by first | exact Or.inl rfl | exact Or.inr rfl) (by first | exact Or.inl rfl | exact Or.inr rfl)) (DGs.cons (DG.name (i := 3) ok.nd rfl (by first | exact Or.inl rfl | exact Or.inr rfl) (by first | exact Or.inl rfl | exact Or.inr rfl)) (DGs.cons (DG.name (i := 4) ok.nd rfl (by first | exact Or.inl rfl | exact Or.inr rfl) (by first | exact Or.inl rfl | exact Or.inr rfl)) DGs.nil))))) (DSs.cons (DS.if_ (DT.not (DT.val (DO.callQ (d_is_tuple_of T) ok (by decide) (DV.cons (nm 2) (DV.cons (nm 1) DV.nil))))) (DSs.one (DS.ret (DO.tup (DV.cons DO.int DV.nil)))) DSs.nil) (DSs.cons (DS.for_ (DI.enum (nm 2) rfl T.n_enumerate) (DG.tup (DGs.cons (DG.name (i := 5) ok.nd rfl (by first | exact Or.inl rfl | exact Or.inr rfl) (by first | exact Or.inl rfl | exact Or.inr rfl)) (DGs.cons (DG.name (i := 6) ok.nd rfl (by first | exact Or.inl rfl | exact Or.inr rfl) (by first | exact Or.inl rfl | exact Or.inr rfl)) DGs.nil))) (DSs.cons (DS.if_ (DT.not (DT.val (DO.callQ (d_is_tuple_to T) ok (by decide) (DV.cons (nm 6) (DV.cons DO.int (DV.cons (gi T.g_MOST_RESULTS) DV.nil)))))) (DSs.one (DS.ret (DO.tup (DV.cons DO.int (DV.cons (nm 5) DV.nil))))) DSs.nil) (DSs.cons (DS.set (i := 7) ok.nd rfl (by first | exact Or.inl rfl | exact Or.inr rfl) (Or.inl rfl) (DO.callQ (d_first_descent T) ok (by decide) (DV.cons (nm 6) (DV.cons (nm 1) DV.nil)))) (DSs.one (DS.if_ (DT.cmp od_isNot (nm 7) DO.non rfl) (DSs.one (DS.ret (DO.tup (DV.cons DO.int (DV.cons (nm 5) (DV.cons (nm 7) DV.nil)))))) DSs.nil))))) (DSs.cons (DS.if_ (DT.not (DT.val (DO.callQ (d_is_within T) ok (by decide) (DV.cons (nm 3) (DV.cons DO.int (DV.cons (gi T.g_MOST_TICKS) DV.nil)))))) (DSs.one (DS.ret (DO.tup (DV.cons DO.int DV.nil)))) DSs.nil) (DSs.cons (DS.if_ (DT.not (DT.val (DO.callQ (d_is_within T) ok (by decide) (DV.cons (nm 4) (DV.cons (nm 3) (DV.cons (gi T.g_MOST_TICKS) DV.nil)))))) (DSs.one (DS.ret (DO.tup (DV.cons DO.int DV.nil)))) DSs.nil) (DSs.one (DS.ret DO.non))))))))
def F_lab_fault : M Unit Out := (seqM (ifM (notT (bnd (callP m_is_tuple_of (consD (nameM 0) (consD (ret (.val (PyData.int 5))) nilM))) boolO)) (retM (tupM (consD (ret (.val (PyData.str "lab"))) (consD (tupM nilM) nilM)))) (ret .nx)) (seqM (unpM (nameM 0) (tupG 5 (gsCons (setM 1) (gsCons (setM 2) (gsCons (setM 3) (gsCons (setM 4) (gsCons (setM 5) gsNil))))))) (seqM (asgM 6 (callP m_meets_fault (consD (nameM 1) nilM))) (seqM (ifM (bnd (op2 isNotD (nameM 6) (ret (.val PyData.none))) boolO) (retM (tupM (consD (ret (.val (PyData.str "meets"))) (consD (nameM 6) nilM)))) (ret .nx)) (seqM (ifM (notT (bnd (callP m_is_tuple_to (consD (nameM 2) (consD (ret (.val (PyData.int 0))) (consD (ret (.val (PyData.int 3))) nilM)))) boolO)) (retM (tupM (consD (ret (.val (PyData.str "washes"))) (consD (tupM (consD (ret (.val (PyData.int 1))) nilM)) nilM)))) (ret .nx)) (seqM (loopM (enumM (nameM 2)) (tupG 2 (gsCons (setM 7) (gsCons (setM 8) gsNil))) (seqM (asgM 6 (callP m_wash_fault (consD (nameM 8) (consD (callM lenD (consO (nameM 1) nilM)) nilM)))) (ifM (bnd (op2 isNotD (nameM 6) (ret (.val PyData.none))) boolO) (retM (tupM (consD (ret (.val (PyData.str "washes"))) (consD (op2 addD (tupM (consD (ret (.val (PyData.int 1))) (consD (nameM 7) nilM))) (nameM 6)) nilM)))) (ret .nx)))) (seqM (ifM (notT (bnd (callP m_is_within (consD (nameM 3) (consD (ret (.val (PyData.int 1))) (consD (ret (.val (PyData.int 3))) nilM)))) boolO)) (retM (tupM (consD (ret (.val (PyData.str "tools"))) (consD (tupM (consD (ret (.val (PyData.int 2))) nilM)) nilM)))) (ret .nx)) (seqM (ifM (notT (bnd (callP m_is_within (consD (nameM 4) (consD (ret (.val (PyData.int 1))) (consD (ret (.val (PyData.int 3))) nilM)))) boolO)) (retM (tupM (consD (ret (.val (PyData.str "arms"))) (consD (tupM (consD (ret (.val (PyData.int 3))) nilM)) nilM)))) (ret .nx)) (seqM (ifM (notT (bnd (callP m_is_within (consD (nameM 5) (consD (ret (.val (PyData.int 0))) (consD (ret (.val (PyData.int 4))) nilM)))) boolO)) (retM (tupM (consD (ret (.val (PyData.str "zones"))) (consD (tupM (consD (ret (.val (PyData.int 4))) nilM)) nilM)))) (ret .nx)) (retM (ret (.val PyData.none))))))))))))
def m_lab_fault : List D → Option D := runP2 1 9 F_lab_fault
theorem d_lab_fault (T : Top P w base K mg) : DefQ P w K mg base 5 "lab_fault" ["value"] m_lab_fault :=
  Has.pure (N := ["value", "meets", "washes", "tools", "arms", "zones", "place", "number", "wash"]) T.h_lab_fault ⟨rfl, rfl, rfl, by decide +kernel, rfl, by decide +kernel, by decide +kernel⟩ rfl rfl fun A B ok =>
    (DSs.cons (DS.if_ (DT.not (DT.val (DO.callQ (d_is_tuple_of T) ok (by decide) (DV.cons (nm 0) (DV.cons DO.int DV.nil))))) (DSs.one (DS.ret (DO.tup (DV.cons DO.str (DV.cons (DO.tup DV.nil) DV.nil))))) DSs.nil) (DSs.cons (DS.unp (nm 0) (DG.tup (DGs.cons (DG.name (i := 1) ok.nd rfl (by first | exact Or.inl rfl | exact Or.inr rfl) (by first | exact Or.inl rfl | exact Or.inr rfl)) (DGs.cons (DG.name (i := 2) ok.nd rfl (by first | exact Or.inl rfl | exact Or.inr rfl) (by first | exact Or.inl rfl | exact Or.inr rfl)) (DGs.cons (DG.name (i := 3) ok.nd rfl (by first | exact Or.inl rfl | exact Or.inr rfl) (by first | exact Or.inl rfl | exact Or.inr rfl)) (DGs.cons (DG.name (i := 4) ok.nd rfl (by first | exact Or.inl rfl | exact Or.inr rfl) (by first | exact Or.inl rfl | exact Or.inr rfl)) (DGs.cons (DG.name (i := 5) ok.nd rfl (by first | exact Or.inl rfl | exact Or.inr rfl) (by first | exact Or.inl rfl | exact Or.inr rfl)) DGs.nil))))))) (DSs.cons (DS.set (i := 6) ok.nd rfl (by first | exact Or.inl rfl | exact Or.inr rfl) (Or.inl rfl) (DO.callQ (d_meets_fault T) ok (by decide) (DV.cons (nm 1) DV.nil))) (DSs.cons (DS.if_ (DT.cmp od_isNot (nm 6) DO.non rfl) (DSs.one (DS.ret (DO.tup (DV.cons DO.str (DV.cons (nm 6) DV.nil))))) DSs.nil) (DSs.cons (DS.if_ (DT.not (DT.val (DO.callQ (d_is_tuple_to T) ok (by decide) (DV.cons (nm 2) (DV.cons DO.int (DV.cons (gi T.g_MOST_WASHES) DV.nil)))))) (DSs.one (DS.ret (DO.tup (DV.cons DO.str (DV.cons (DO.tup (DV.cons DO.int DV.nil)) DV.nil))))) DSs.nil) (DSs.cons (DS.for_ (DI.enum (nm 2) rfl T.n_enumerate) (DG.tup (DGs.cons (DG.name (i := 7) ok.nd rfl (by first | exact Or.inl rfl | exact Or.inr rfl) (by first | exact Or.inl rfl | exact Or.inr rfl)) (DGs.cons (DG.name (i := 8) ok.nd rfl (by first | exact Or.inl rfl | exact Or.inr rfl) (by first | exact Or.inl rfl | exact Or.inr rfl)) DGs.nil))) (DSs.cons (DS.set (i := 6) ok.nd rfl (by first | exact Or.inl rfl | exact Or.inr rfl) (Or.inl rfl) (DO.callQ (d_wash_fault T) ok (by decide) (DV.cons (nm 8) (DV.cons (DO.callB cd_len rfl T.n_len rfl (DA.cons (nm 1) DA.nil)) DV.nil)))) (DSs.one (DS.if_ (DT.cmp od_isNot (nm 6) DO.non rfl) (DSs.one (DS.ret (DO.tup (DV.cons DO.str (DV.cons (DO.bin od_add (DO.tup (DV.cons DO.int (DV.cons (nm 7) DV.nil))) (nm 6)) DV.nil))))) DSs.nil)))) (DSs.cons (DS.if_ (DT.not (DT.val (DO.callQ (d_is_within T) ok (by decide) (DV.cons (nm 3) (DV.cons DO.int (DV.cons (gi T.g_MOST_TOOLS) DV.nil)))))) (DSs.one (DS.ret (DO.tup (DV.cons DO.str (DV.cons (DO.tup (DV.cons DO.int DV.nil)) DV.nil))))) DSs.nil) (DSs.cons (DS.if_ (DT.not (DT.val (DO.callQ (d_is_within T) ok (by decide) (DV.cons (nm 4) (DV.cons DO.int (DV.cons (gi T.g_MOST_ARMS) DV.nil)))))) (DSs.one (DS.ret (DO.tup (DV.cons DO.str (DV.cons (DO.tup (DV.cons DO.int DV.nil)) DV.nil))))) DSs.nil) (DSs.cons (DS.if_ (DT.not (DT.val (DO.callQ (d_is_within T) ok (by decide) (DV.cons (nm 5) (DV.cons DO.int (DV.cons (gi T.g_MOST_ZONES) DV.nil)))))) (DSs.one (DS.ret (DO.tup (DV.cons DO.str (DV.cons (DO.tup (DV.cons DO.int DV.nil)) DV.nil))))) DSs.nil) (DSs.one (DS.ret DO.non)))))))))))
def F_need_lab : M Unit Out := (seqM (asgM 1 (callP m_lab_fault (consD (nameM 0) nilM))) (seqM (ifM (bnd (op2 isNotD (nameM 1) (ret (.val PyData.none))) boolO) stuck (ret .nx)) (retM (nameM 0))))
def m_need_lab : List D → Option D := runP2 1 2 F_need_lab
theorem d_need_lab (T : Top P w base K mg) : DefQ P w K mg base 6 "need_lab" ["lab"] m_need_lab :=
  Has.pure (N := ["lab", "fault"]) T.h_need_lab ⟨rfl, rfl, rfl, by decide +kernel, rfl, by decide +kernel, by decide +kernel⟩ rfl rfl fun A B ok =>
    (DSs.cons (DS.set (i := 1) ok.nd rfl (by first | exact Or.inl rfl | exact Or.inr rfl) (Or.inl rfl) (DO.callQ (d_lab_fault T) ok (by decide) (DV.cons (nm 0) DV.nil))) (DSs.cons (DS.if_ (DT.cmp od_isNot (nm 1) DO.non rfl) (DSs.one DS.never) DSs.nil) (DSs.one (DS.ret (nm 0)))))
def F_need_state : ME Unit Out := (seqE (ifE (notT (bnd (callP m_is_within (consD (nameM 1) (consD (ret (.val (PyData.int 0))) (consD (op2 subD (callM lenD (consO (op2 ixD (nameM 0) (ret (.val (PyData.int 0)))) nilM)) (ret (.val (PyData.int 1)))) nilM)))) boolO)) (raiseM "BadState" ["value"] (consD (nameM 1) nilM)) (retE .nx)) (okE (retM (nameM 1))))
def m_need_state : List D → Option (Except Exn D) := runX2 2 2 F_need_state
theorem d_need_state (T : Top P w base K mg) : DefX P w K mg base 3 "need_state" ["lab", "state"] m_need_state :=
  Has.raises (N := ["lab", "state"]) T.h_need_state ⟨rfl, rfl, rfl, by decide +kernel, rfl, by decide +kernel, by decide +kernel⟩ rfl rfl fun A B ok =>
    (DSsx.cons (DSx.if_ (DT.not (DT.val (DO.callQ (d_is_within T) ok (by decide) (DV.cons (nm 1) (DV.cons DO.int (DV.cons (DO.bin od_sub (DO.callB cd_len rfl T.n_len rfl (DA.cons (DO.ix od_ix (nm 0) DO.int) DA.nil)) DO.int) DV.nil)))))) (DSsx.one (DSx.raise T.e_BadState ok (by decide) (by decide) rfl (DV.cons (nm 1) DV.nil))) DSsx.nil) (DSsx.of (DSs.one (DS.ret (nm 1)))))
def F_is_stuffs : M Unit Out := (retM (andV (isiM "tuple" (nameM 1)) (callM allD (consO (lcM [2] (iterM (nameM 1)) (setM 2) (ret true) (callP m_is_within (consD (nameM 2) (consD (ret (.val (PyData.int 0))) (consD (op2 subD (callM lenD (consO (op2 ixD (op2 ixD (nameM 0) (ret (.val (PyData.int 0)))) (ret (.val (PyData.int 0)))) nilM)) (ret (.val (PyData.int 1)))) nilM))))) nilM))))
def m_is_stuffs : List D → Option D := runP2 2 3 F_is_stuffs
theorem d_is_stuffs (T : Top P w base K mg) : DefQ P w K mg base 3 "is_stuffs" ["lab", "value"] m_is_stuffs :=
  Has.pure (N := ["lab", "value", "stuff"]) T.h_is_stuffs ⟨rfl, rfl, rfl, by decide +kernel, rfl, by decide +kernel, by decide +kernel⟩ rfl rfl fun A B ok =>
    (DSs.one (DS.ret (DO.and (DO.isi (by decide) (nm 1) rfl T.n_isinstance rfl T.n_tuple rfl) (DO.one (DO.callB cd_all rfl T.n_all rfl (DA.cons (DO.lc (own := [("stuff", 2)]) ok.nd (DI.seq (nm 1)) (blkOk_by (by dsimp only [Gam.blk]; decide +kernel)) (DG.name (i := 2) ok.blk.nd rfl (by first | exact Or.inl rfl | exact Or.inr rfl) (by first | exact Or.inl rfl | exact Or.inr rfl)) (by decide) DTs.nil (DO.callQ (d_is_within T) ok.blk (by decide) (DV.cons (nm 2) (DV.cons DO.int (DV.cons (DO.bin od_sub (DO.callB cd_len rfl T.n_len rfl (DA.cons (DO.ix od_ix (DO.ix od_ix (nm 0) DO.int) DO.int) DA.nil)) DO.int) DV.nil))))) DA.nil))))))
def F_free_stop : M Unit Out := (seqM (loopM (rangeM (consO (callM lenD (consO (nameM 2) nilM)) nilM)) (setM 3) (seqM (asgM 4 (op2 ixD (op2 ixD (op2 ixD (nameM 0) (ret (.val (PyData.int 0)))) (nameM 1)) (op2 ixD (nameM 2) (nameM 3)))) (seqM (ifM (bnd (op2 isD (nameM 4) (ret (.val PyData.none))) boolO) (retM (tupM (consD (nameM 3) (consD (nameM 1) nilM)))) (ret .nx)) (asgM 1 (nameM 4))))) (retM (tupM (consD (callM lenD (consO (nameM 2) nilM)) (consD (nameM 1) nilM)))))
def m_free_stop : List D → Option D := runP2 3 5 F_free_stop
theorem d_free_stop (T : Top P w base K mg) : DefQ P w K mg base 1 "free_stop" ["lab", "state", "stuffs"] m_free_stop :=
  Has.pure (N := ["lab", "state", "stuffs", "place", "behind"]) T.h_free_stop ⟨rfl, rfl, rfl, by decide +kernel, rfl, by decide +kernel, by decide +kernel⟩ rfl rfl fun A B ok =>
    (DSs.cons (DS.for_ (DI.range1 (DA.cons (DO.callB cd_len rfl T.n_len rfl (DA.cons (nm 2) DA.nil)) DA.nil) rfl T.n_range) (DG.name (i := 3) ok.nd rfl (by first | exact Or.inl rfl | exact Or.inr rfl) (by first | exact Or.inl rfl | exact Or.inr rfl)) (DSs.cons (DS.set (i := 4) ok.nd rfl (by first | exact Or.inl rfl | exact Or.inr rfl) (Or.inl rfl) (DO.ix od_ix (DO.ix od_ix (DO.ix od_ix (nm 0) DO.int) (nm 1)) (DO.ix od_ix (nm 2) (nm 3)))) (DSs.cons (DS.if_ (DT.cmp od_is (nm 4) DO.non rfl) (DSs.one (DS.ret (DO.tup (DV.cons (nm 3) (DV.cons (nm 1) DV.nil))))) DSs.nil) (DSs.one (DS.set (i := 1) ok.nd rfl (by first | exact Or.inl rfl | exact Or.inr rfl) (Or.inl rfl) (nm 4)))))) (DSs.one (DS.ret (DO.tup (DV.cons (DO.callB cd_len rfl T.n_len rfl (DA.cons (nm 2) DA.nil)) (DV.cons (nm 1) DV.nil))))))
def F_need_stuffs : ME Unit Out := (seqE (okE (dropM (callP m_need_lab (consD (nameM 0) nilM)))) (seqE (bndE (callX m_need_state (okE (consD (nameM 0) (consD (nameM 1) nilM)))) fun _ => retE .nx) (ifE (notT (bnd (callP m_is_stuffs (consD (nameM 0) (consD (nameM 2) nilM))) boolO)) (raiseM "BadRow" ["value"] (consD (nameM 2) nilM)) (retE .nx))))
def m_need_stuffs : List D → Option (Except Exn D) := runX2 3 3 F_need_stuffs
theorem d_need_stuffs (T : Top P w base K mg) : DefX P w K mg base 7 "need_stuffs" ["lab", "state", "stuffs"] m_need_stuffs :=
  Has.raises (N := ["lab", "state", "stuffs"]) T.h_need_stuffs ⟨rfl, rfl, rfl, by decide +kernel, rfl, by decide +kernel, by decide +kernel⟩ rfl rfl fun A B ok =>
    (DSsx.cons (DSx.of (DS.expr (DO.callQ (d_need_lab T) ok (by decide) (DV.cons (nm 0) DV.nil)))) (DSsx.cons (DSx.expr (DOx.call (d_need_state T) ok (by decide) rfl (DVx.of (DV.cons (nm 0) (DV.cons (nm 1) DV.nil))))) (DSsx.one (DSx.if_ (DT.not (DT.val (DO.callQ (d_is_stuffs T) ok (by decide) (DV.cons (nm 0) (DV.cons (nm 2) DV.nil))))) (DSsx.one (DSx.raise T.e_BadRow ok (by decide) (by decide) rfl (DV.cons (nm 2) DV.nil))) DSsx.nil))))
def F_row_end : ME Unit Out := (seqE (bndE (callX m_need_stuffs (okE (consD (nameM 0) (consD (nameM 1) (consD (nameM 2) nilM))))) fun _ => retE .nx) (okE (seqM (unpM (callP m_free_stop (consD (nameM 0) (consD (nameM 1) (consD (nameM 2) nilM)))) (tupG 2 (gsCons (setM 3) (gsCons (setM 4) gsNil)))) (retM (iteM (bnd (op2 eqD (nameM 3) (callM lenD (consO (nameM 2) nilM))) boolO) (nameM 4) (ret (.val PyData.none)))))))
def m_row_end : List D → Option (Except Exn D) := runX2 3 5 F_row_end
theorem d_row_end (T : Top P w base K mg) : DefX P w K mg base 8 "row_end" ["lab", "state", "stuffs"] m_row_end :=
  Has.raises (N := ["lab", "state", "stuffs", "place", "last"]) T.h_row_end ⟨rfl, rfl, rfl, by decide +kernel, rfl, by decide +kernel, by decide +kernel⟩ rfl rfl fun A B ok =>
    (DSsx.cons (DSx.expr (DOx.call (d_need_stuffs T) ok (by decide) rfl (DVx.of (DV.cons (nm 0) (DV.cons (nm 1) (DV.cons (nm 2) DV.nil)))))) (DSsx.of (DSs.cons (DS.unp (DO.callQ (d_free_stop T) ok (by decide) (DV.cons (nm 0) (DV.cons (nm 1) (DV.cons (nm 2) DV.nil)))) (DG.tup (DGs.cons (DG.name (i := 3) ok.nd rfl (by first | exact Or.inl rfl | exact Or.inr rfl) (by first | exact Or.inl rfl | exact Or.inr rfl)) (DGs.cons (DG.name (i := 4) ok.nd rfl (by first | exact Or.inl rfl | exact Or.inr rfl) (by first | exact Or.inl rfl | exact Or.inr rfl)) DGs.nil)))) (DSs.one (DS.ret (DO.ite (DT.cmp (od_eq ok) (nm 3) (DO.callB cd_len rfl T.n_len rfl (DA.cons (nm 2) DA.nil)) rfl) (nm 4) DO.non))))))
def F_row_stop : ME Unit Out := (seqE (bndE (callX m_need_stuffs (okE (consD (nameM 0) (consD (nameM 1) (consD (nameM 2) nilM))))) fun _ => retE .nx) (okE (seqM (asgM 3 (op2 ixD (callP m_free_stop (consD (nameM 0) (consD (nameM 1) (consD (nameM 2) nilM)))) (ret (.val (PyData.int 0))))) (retM (iteM (bnd (op2 ltD (nameM 3) (callM lenD (consO (nameM 2) nilM))) boolO) (nameM 3) (ret (.val PyData.none)))))))
def m_row_stop : List D → Option (Except Exn D) := runX2 3 4 F_row_stop
theorem d_row_stop (T : Top P w base K mg) : DefX P w K mg base 8 "row_stop" ["lab", "state", "stuffs"] m_row_stop :=
  Has.raises (N := ["lab", "state", "stuffs", "place"]) T.h_row_stop ⟨rfl, rfl, rfl, by decide +kernel, rfl, by decide +kernel, by decide +kernel⟩ rfl rfl fun A B ok =>
    (DSsx.cons (DSx.expr (DOx.call (d_need_stuffs T) ok (by decide) rfl (DVx.of (DV.cons (nm 0) (DV.cons (nm 1) (DV.cons (nm 2) DV.nil)))))) (DSsx.of (DSs.cons (DS.set (i := 3) ok.nd rfl (by first | exact Or.inl rfl | exact Or.inr rfl) (Or.inl rfl) (DO.ix od_ix (DO.callQ (d_free_stop T) ok (by decide) (DV.cons (nm 0) (DV.cons (nm 1) (DV.cons (nm 2) DV.nil)))) DO.int)) (DSs.one (DS.ret (DO.ite (DT.cmp od_lt (nm 3) (DO.callB cd_len rfl T.n_len rfl (DA.cons (nm 2) DA.nil)) rfl) (nm 3) DO.non))))))
def F_row_counts : M Unit Out := (seqM (asgM 2 (lstM (consD (op2 mulD (lstM (consD (ret (.val (PyData.int 1))) nilM)) (callM lenD (consO (op2 ixD (nameM 0) (ret (.val (PyData.int 0)))) nilM))) nilM))) (seqM (loopM (rangeM (consO (nameM 1) nilM)) (setM 3) (seqM (asgM 4 (op2 ixD (nameM 2) (negM (ret (.val (PyData.int 1)))))) (bnd (ownAt 2) fun _ => appM 2 (lcM [6] (iterM (op2 ixD (nameM 0) (ret (.val (PyData.int 0))))) (setM 6) (ret true) (callM sumD (consO (lcM [5] (iterM (nameM 6)) (setM 5) (bnd (op2 isNotD (nameM 5) (ret (.val PyData.none))) boolO) (op2 ixD (nameM 4) (nameM 5))) nilM)))))) (retM (nameM 2))))
def m_row_counts : List D → Option D := runP2 2 7 F_row_counts
theorem d_row_counts (T : Top P w base K mg) : DefQ P w K mg base 1 "row_counts" ["lab", "length"] m_row_counts :=
  Has.pure (N := ["lab", "length", "found", "turn", "last", "after", "row"]) T.h_row_counts ⟨rfl, rfl, rfl, by decide +kernel, rfl, by decide +kernel, by decide +kernel⟩ rfl rfl fun A B ok =>
    (DSs.cons (DS.set (i := 2) ok.nd rfl (by first | exact Or.inl rfl | exact Or.inr rfl) (Or.inl rfl) (DO.lst (DV.cons (DO.bin od_mul (DO.lst (DV.cons DO.int DV.nil)) (DO.callB cd_len rfl T.n_len rfl (DA.cons (DO.ix od_ix (nm 0) DO.int) DA.nil))) DV.nil))) (DSs.cons (DS.for_ (DI.range1 (DA.cons (nm 1) DA.nil) rfl T.n_range) (DG.name (i := 3) ok.nd rfl (by first | exact Or.inl rfl | exact Or.inr rfl) (by first | exact Or.inl rfl | exact Or.inr rfl)) (DSs.cons (DS.set (i := 4) ok.nd rfl (by first | exact Or.inl rfl | exact Or.inr rfl) (Or.inl rfl) (DO.ix od_ix (nm 2) (DO.neg DO.int))) (DSs.one (DS.app (i := 2) rfl (by first | exact Or.inl rfl | exact Or.inr (Or.inl rfl) | exact Or.inr (Or.inr rfl)) (DO.lc (own := [("row", 6)]) ok.nd (DI.seq (DO.ix od_ix (nm 0) DO.int)) (blkOk_by (by dsimp only [Gam.blk]; decide +kernel)) (DG.name (i := 6) ok.blk.nd rfl (by first | exact Or.inl rfl | exact Or.inr rfl) (by first | exact Or.inl rfl | exact Or.inr rfl)) (by decide) DTs.nil (DO.callB cd_sum rfl T.n_sum rfl (DA.cons (DO.lc (own := [("after", 5)]) ok.blk.nd (DI.seq (nm 6)) (blkOk_by (by dsimp only [Gam.blk]; decide +kernel)) (DG.name (i := 5) ok.blk.blk.nd rfl (by first | exact Or.inl rfl | exact Or.inr rfl) (by first | exact Or.inl rfl | exact Or.inr rfl)) (by decide) (DTs.one (DT.cmp od_isNot (nm 5) DO.non rfl)) (DO.ix od_ix (nm 4) (nm 5))) DA.nil))))))) (DSs.one (DS.ret (nm 2)))))
def F_free_row_count : ME Unit Out := (seqE (okE (dropM (callP m_need_lab (consD (nameM 0) nilM)))) (seqE (bndE (callX m_need_state (okE (consD (nameM 0) (consD (nameM 1) nilM)))) fun _ => retE .nx) (seqE (ifE (notT (bnd (callP m_is_within (consD (nameM 2) (consD (ret (.val (PyData.int 0))) (consD (ret (.val (PyData.int 200))) nilM)))) boolO)) (raiseM "BadLength" ["value"] (consD (nameM 2) nilM)) (retE .nx)) (okE (retM (op2 ixD (op2 ixD (callP m_row_counts (consD (nameM 0) (consD (nameM 2) nilM))) (nameM 2)) (nameM 1)))))))
def m_free_row_count : List D → Option (Except Exn D) := runX2 3 3 F_free_row_count
theorem d_free_row_count (T : Top P w base K mg) : DefX P w K mg base 7 "free_row_count" ["lab", "state", "length"] m_free_row_count :=
  Has.raises (N := ["lab", "state", "length"]) T.h_free_row_count ⟨rfl, rfl, rfl, by decide +kernel, rfl, by decide +kernel, by decide +kernel⟩ rfl rfl fun A B ok =>
    (DSsx.cons (DSx.of (DS.expr (DO.callQ (d_need_lab T) ok (by decide) (DV.cons (nm 0) DV.nil)))) (DSsx.cons (DSx.expr (DOx.call (d_need_state T) ok (by decide) rfl (DVx.of (DV.cons (nm 0) (DV.cons (nm 1) DV.nil))))) (DSsx.cons (DSx.if_ (DT.not (DT.val (DO.callQ (d_is_within T) ok (by decide) (DV.cons (nm 2) (DV.cons DO.int (DV.cons (gi T.g_MOST_LONG) DV.nil)))))) (DSsx.one (DSx.raise T.e_BadLength ok (by decide) (by decide) rfl (DV.cons (nm 2) DV.nil))) DSsx.nil) (DSsx.of (DSs.one (DS.ret (DO.ix od_ix (DO.ix od_ix (DO.callQ (d_row_counts T) ok (by decide) (DV.cons (nm 0) (DV.cons (nm 2) DV.nil))) (nm 2)) (nm 1))))))))
def F_next_touch : M Unit Out := (seqM (asgM 3 (nameM 2)) (seqM (loopM (enumM (nameM 0)) (tupG 2 (gsCons (setM 4) (gsCons (setM 5) gsNil))) (seqM (asgM 6 (iteM (bnd (op2 isD (nameM 5) (ret (.val PyData.none))) boolO) (ret (.val (PyData.int 0))) (op2 ixD (nameM 1) (nameM 5)))) (seqM (ifM (bnd (op2 ltD (nameM 3) (nameM 6)) boolO) (retM (tupM (consD (nameM 4) (consD (nameM 3) nilM)))) (ret .nx)) (asgM 3 (op2 subD (nameM 3) (nameM 6)))))) (retM (tupM (consD (op2 subD (callM lenD (consO (nameM 0) nilM)) (ret (.val (PyData.int 1)))) (consD (nameM 3) nilM))))))
def m_next_touch : List D → Option D := runP2 3 7 F_next_touch
theorem d_next_touch (T : Top P w base K mg) : DefQ P w K mg base 1 "next_touch" ["row", "counts", "number"] m_next_touch :=
  Has.pure (N := ["row", "counts", "number", "left", "stuff", "after", "many"]) T.h_next_touch ⟨rfl, rfl, rfl, by decide +kernel, rfl, by decide +kernel, by decide +kernel⟩ rfl rfl fun A B ok =>
    (DSs.cons (DS.set (i := 3) ok.nd rfl (by first | exact Or.inl rfl | exact Or.inr rfl) (Or.inl rfl) (nm 2)) (DSs.cons (DS.for_ (DI.enum (nm 0) rfl T.n_enumerate) (DG.tup (DGs.cons (DG.name (i := 4) ok.nd rfl (by first | exact Or.inl rfl | exact Or.inr rfl) (by first | exact Or.inl rfl | exact Or.inr rfl)) (DGs.cons (DG.name (i := 5) ok.nd rfl (by first | exact Or.inl rfl | exact Or.inr rfl) (by first | exact Or.inl rfl | exact Or.inr rfl)) DGs.nil))) (DSs.cons (DS.set (i := 6) ok.nd rfl (by first | exact Or.inl rfl | exact Or.inr rfl) (Or.inl rfl) (DO.ite (DT.cmp od_is (nm 5) DO.non rfl) DO.int (DO.ix od_ix (nm 1) (nm 5)))) (DSs.cons (DS.if_ (DT.cmp od_lt (nm 3) (nm 6) rfl) (DSs.one (DS.ret (DO.tup (DV.cons (nm 4) (DV.cons (nm 3) DV.nil))))) DSs.nil) (DSs.one (DS.set (i := 3) ok.nd rfl (by first | exact Or.inl rfl | exact Or.inr rfl) (Or.inl rfl) (DO.bin od_sub (nm 3) (nm 6))))))) (DSs.one (DS.ret (DO.tup (DV.cons (DO.bin od_sub (DO.callB cd_len rfl T.n_len rfl (DA.cons (nm 0) DA.nil)) DO.int) (DV.cons (nm 3) DV.nil)))))))
def F_free_row_at : ME Unit Out := (seqE (bndE (callX m_need_number (consX (okE (valM (nameM 3))) (consX (okE (valM (ret (.val (PyData.int 0))))) (consX (opX subD (callX m_free_row_count (okE (consD (nameM 0) (consD (nameM 1) (consD (nameM 2) nilM))))) (ret (.val (PyData.int 1)))) (okE nilM))))) fun _ => retE .nx) (okE (seqM (parM [4, 5, 6, 7] (consN (callP m_row_counts (consD (nameM 0) (consD (nameM 2) nilM))) (consN (tupM nilM) (consN (nameM 1) (consN (nameM 3) nilM))))) (seqM (loopM (rangeM (consO (nameM 2) nilM)) (setM 8) (seqM (unpM (callP m_next_touch (consD (op2 ixD (op2 ixD (nameM 0) (ret (.val (PyData.int 0)))) (nameM 6)) (consD (op2 ixD (nameM 4) (op2 subD (op2 subD (nameM 2) (nameM 8)) (ret (.val (PyData.int 1))))) (consD (nameM 7) nilM)))) (tupG 2 (gsCons (setM 9) (gsCons (setM 7) gsNil)))) (seqM (asgM 5 (op2 addD (nameM 5) (tupM (consD (nameM 9) nilM)))) (asgM 6 (op2 ixD (op2 ixD (op2 ixD (nameM 0) (ret (.val (PyData.int 0)))) (nameM 6)) (nameM 9)))))) (retM (nameM 5))))))
def m_free_row_at : List D → Option (Except Exn D) := runX2 4 10 F_free_row_at
theorem d_free_row_at (T : Top P w base K mg) : DefX P w K mg base 8 "free_row_at" ["lab", "state", "length", "number"] m_free_row_at :=
  Has.raises (N := ["lab", "state", "length", "number", "counts", "found", "here", "left", "place", "stuff"]) T.h_free_row_at ⟨rfl, rfl, rfl, by decide +kernel, rfl, by decide +kernel, by decide +kernel⟩ rfl rfl fun A B ok =>
    (DSsx.cons (DSx.expr (DOx.call (d_need_number T) ok (by decide) rfl (DVx.cons (DOx.of (nm 3)) (DVx.cons (DOx.of DO.int) (DVx.cons (DOx.bin od_sub (DOx.call (d_free_row_count T) ok (by decide) rfl (DVx.of (DV.cons (nm 0) (DV.cons (nm 1) (DV.cons (nm 2) DV.nil))))) DO.int) (DVx.of DV.nil)))))) (DSsx.of (DSs.cons (DS.unpN (DN.cons (DO.callQ (d_row_counts T) ok (by decide) (DV.cons (nm 0) (DV.cons (nm 2) DV.nil))) (DN.cons (DO.tup DV.nil) (DN.cons (nm 1) (DN.cons (nm 3) DN.nil)))) (DNm.cons (i := 4) ok.nd rfl (by first | exact Or.inl rfl | exact Or.inr rfl) (Or.inl rfl) (DNm.cons (i := 5) ok.nd rfl (by first | exact Or.inl rfl | exact Or.inr rfl) (Or.inl rfl) (DNm.cons (i := 6) ok.nd rfl (by first | exact Or.inl rfl | exact Or.inr rfl) (Or.inl rfl) (DNm.cons (i := 7) ok.nd rfl (by first | exact Or.inl rfl | exact Or.inr rfl) (Or.inl rfl) DNm.nil)))) (by decide) (hw := (fun X h => by unfold swappedStores Env.blockKind Env.kindOf; rw [h.sc]; rfl))) (DSs.cons (DS.for_ (DI.range1 (DA.cons (nm 2) DA.nil) rfl T.n_range) (DG.name (i := 8) ok.nd rfl (by first | exact Or.inl rfl | exact Or.inr rfl) (by first | exact Or.inl rfl | exact Or.inr rfl)) (DSs.cons (DS.unp (DO.callQ (d_next_touch T) ok (by decide) (DV.cons (DO.ix od_ix (DO.ix od_ix (nm 0) DO.int) (nm 6)) (DV.cons (DO.ix od_ix (nm 4) (DO.bin od_sub (DO.bin od_sub (nm 2) (nm 8)) DO.int)) (DV.cons (nm 7) DV.nil)))) (DG.tup (DGs.cons (DG.name (i := 9) ok.nd rfl (by first | exact Or.inl rfl | exact Or.inr rfl) (by first | exact Or.inl rfl | exact Or.inr rfl)) (DGs.cons (DG.name (i := 7) ok.nd rfl (by first | exact Or.inl rfl | exact Or.inr rfl) (by first | exact Or.inl rfl | exact Or.inr rfl)) DGs.nil)))) (DSs.cons (DS.set (i := 5) ok.nd rfl (by first | exact Or.inl rfl | exact Or.inr rfl) (Or.inl rfl) (DO.bin od_add (nm 5) (DO.tup (DV.cons (nm 9) DV.nil)))) (DSs.one (DS.set (i := 6) ok.nd rfl (by first | exact Or.inl rfl | exact Or.inr rfl) (Or.inl rfl) (DO.ix od_ix (DO.ix od_ix (DO.ix od_ix (nm 0) DO.int) (nm 6)) (nm 9))))))) (DSs.one (DS.ret (nm 5)))))))
def F_free_row_place : ME Unit Out := (seqE (okE (dropM (callP m_need_lab (consD (nameM 0) nilM)))) (seqE (bndE (callX m_need_state (okE (consD (nameM 0) (consD (nameM 1) nilM)))) fun _ => retE .nx) (seqE (ifE (orT (notT (bnd (callP m_is_stuffs (consD (nameM 0) (consD (nameM 2) nilM))) boolO)) (orT (bnd (op2 gtD (callM lenD (consO (nameM 2) nilM)) (ret (.val (PyData.int 200)))) boolO) (bnd (op2 ltD (op2 ixD (callP m_free_stop (consD (nameM 0) (consD (nameM 1) (consD (nameM 2) nilM)))) (ret (.val (PyData.int 0)))) (callM lenD (consO (nameM 2) nilM))) boolO))) (raiseM "BadRow" ["value"] (consD (nameM 2) nilM)) (retE .nx)) (okE (seqM (parM [3, 4, 5] (consN (callP m_row_counts (consD (nameM 0) (consD (callM lenD (consO (nameM 2) nilM)) nilM))) (consN (ret (.val (PyData.int 0))) (consN (nameM 1) nilM)))) (seqM (loopM (enumM (nameM 2)) (tupG 2 (gsCons (setM 6) (gsCons (setM 7) gsNil))) (seqM (asgM 8 (lcM [9] (iterM (sliceM slD (op2 ixD (op2 ixD (nameM 0) (ret (.val (PyData.int 0)))) (nameM 5)) (ret none) (bnd (nameM 7) intO))) (setM 9) (bnd (op2 isNotD (nameM 9) (ret (.val PyData.none))) boolO) (nameM 9))) (seqM (asgM 4 (op2 addD (nameM 4) (callM sumD (consO (lcM [9] (iterM (nameM 8)) (setM 9) (ret true) (op2 ixD (op2 ixD (nameM 3) (op2 subD (op2 subD (callM lenD (consO (nameM 2) nilM)) (nameM 6)) (ret (.val (PyData.int 1))))) (nameM 9))) nilM)))) (asgM 5 (op2 ixD (op2 ixD (op2 ixD (nameM 0) (ret (.val (PyData.int 0)))) (nameM 5)) (nameM 7)))))) (retM (nameM 4))))))))
def m_free_row_place : List D → Option (Except Exn D) := runX2 3 10 F_free_row_place
theorem d_free_row_place (T : Top P w base K mg) : DefX P w K mg base 7 "free_row_place" ["lab", "state", "stuffs"] m_free_row_place :=
  Has.raises (N := ["lab", "state", "stuffs", "counts", "found", "here", "place", "stuff", "below", "after"]) T.h_free_row_place ⟨rfl, rfl, rfl, by decide +kernel, rfl, by decide +kernel, by decide +kernel⟩ rfl rfl fun A B ok =>
    (DSsx.cons (DSx.of (DS.expr (DO.callQ (d_need_lab T) ok (by decide) (DV.cons (nm 0) DV.nil)))) (DSsx.cons (DSx.expr (DOx.call (d_need_state T) ok (by decide) rfl (DVx.of (DV.cons (nm 0) (DV.cons (nm 1) DV.nil))))) (DSsx.cons (DSx.if_ (DW.pt (DW.or (DT.not (DT.val (DO.callQ (d_is_stuffs T) ok (by decide) (DV.cons (nm 0) (DV.cons (nm 2) DV.nil))))) (DW.or (DT.cmp od_gt (DO.callB cd_len rfl T.n_len rfl (DA.cons (nm 2) DA.nil)) (gi T.g_MOST_LONG) rfl) (DW.or1 (DT.cmp od_lt (DO.ix od_ix (DO.callQ (d_free_stop T) ok (by decide) (DV.cons (nm 0) (DV.cons (nm 1) (DV.cons (nm 2) DV.nil)))) DO.int) (DO.callB cd_len rfl T.n_len rfl (DA.cons (nm 2) DA.nil)) rfl))))) (DSsx.one (DSx.raise T.e_BadRow ok (by decide) (by decide) rfl (DV.cons (nm 2) DV.nil))) DSsx.nil) (DSsx.of (DSs.cons (DS.unpN (DN.cons (DO.callQ (d_row_counts T) ok (by decide) (DV.cons (nm 0) (DV.cons (DO.callB cd_len rfl T.n_len rfl (DA.cons (nm 2) DA.nil)) DV.nil))) (DN.cons DO.int (DN.cons (nm 1) DN.nil))) (DNm.cons (i := 3) ok.nd rfl (by first | exact Or.inl rfl | exact Or.inr rfl) (Or.inl rfl) (DNm.cons (i := 4) ok.nd rfl (by first | exact Or.inl rfl | exact Or.inr rfl) (Or.inl rfl) (DNm.cons (i := 5) ok.nd rfl (by first | exact Or.inl rfl | exact Or.inr rfl) (Or.inl rfl) DNm.nil))) (by decide) (hw := (fun X h => by unfold swappedStores Env.blockKind Env.kindOf; rw [h.sc]; rfl))) (DSs.cons (DS.for_ (DI.enum (nm 2) rfl T.n_enumerate) (DG.tup (DGs.cons (DG.name (i := 6) ok.nd rfl (by first | exact Or.inl rfl | exact Or.inr rfl) (by first | exact Or.inl rfl | exact Or.inr rfl)) (DGs.cons (DG.name (i := 7) ok.nd rfl (by first | exact Or.inl rfl | exact Or.inr rfl) (by first | exact Or.inl rfl | exact Or.inr rfl)) DGs.nil))) (DSs.cons (DS.setLc (i := 8) (own := [("after", 9)]) ok.nd (fun X h => by rw [h.sc]; rfl) rfl rfl rfl (by decide +kernel) (DI.seq (DO.slice od_sl (DO.ix od_ix (DO.ix od_ix (nm 0) DO.int) (nm 5)) DP.none (DP.some (nm 7)))) (blkOk_by (by dsimp only [Gam.blk]; decide +kernel)) (DG.name (i := 9) ok.blk.nd rfl (by first | exact Or.inl rfl | exact Or.inr rfl) (by first | exact Or.inl rfl | exact Or.inr rfl)) (by decide) (DTs.one (DT.cmp od_isNot (nm 9) DO.non rfl)) (nm 9)) (DSs.cons (DS.set (i := 4) ok.nd rfl (by first | exact Or.inl rfl | exact Or.inr rfl) (Or.inl rfl) (DO.bin od_add (nm 4) (DO.callB cd_sum rfl T.n_sum rfl (DA.cons (DO.lc (own := [("after", 9)]) ok.nd (DI.seq (nm 8)) (blkOk_by (by dsimp only [Gam.blk]; decide +kernel)) (DG.name (i := 9) ok.blk.nd rfl (by first | exact Or.inl rfl | exact Or.inr rfl) (by first | exact Or.inl rfl | exact Or.inr rfl)) (by decide) DTs.nil (DO.ix od_ix (DO.ix od_ix (nm 3) (DO.bin od_sub (DO.bin od_sub (DO.callB cd_len rfl T.n_len rfl (DA.cons (nm 2) DA.nil)) (nm 6)) DO.int)) (nm 9))) DA.nil)))) (DSs.one (DS.set (i := 5) ok.nd rfl (by first | exact Or.inl rfl | exact Or.inr rfl) (Or.inl rfl) (DO.ix od_ix (DO.ix od_ix (DO.ix od_ix (nm 0) DO.int) (nm 5)) (nm 7))))))) (DSs.one (DS.ret (nm 4)))))))))
def F__law_mixed : M Unit Out := (seqM (asgM 2 (op2 addD (op2 addD (op2 modD (callM intD (consO (op2 mulD (op2 mulD (nameM 0) (op2 addD (ret (.val (PyData.int 1))) (op2 mulD (ret (.val (PyData.int 2))) (nameM 1)))) (ret (.val (PyData.int 48271)))) nilM)) (ret (.val (PyData.int 2147483647)))) (op2 mulD (op2 mulD (ret (.val (PyData.int 7919))) (nameM 1)) (nameM 1))) (op2 mulD (ret (.val (PyData.int 104729))) (nameM 1)))) (retM (op2 fdivD (op2 modD (callM intD (consO (op2 mulD (nameM 2) (ret (.val (PyData.int 69621)))) nilM)) (ret (.val (PyData.int 2147483629)))) (ret (.val (PyData.int 7))))))
def m__law_mixed : List D → Option D := runP2 2 3 F__law_mixed
theorem d__law_mixed (T : Top P w base K mg) : DefQ P w K mg base 1 "_law_mixed" ["cell", "n"] m__law_mixed :=
  Has.pure (N := ["cell", "n", "blend"]) T.h__law_mixed ⟨rfl, rfl, rfl, by decide +kernel, rfl, by decide +kernel, by decide +kernel⟩ rfl rfl fun A B ok =>
    (DSs.cons (DS.set (i := 2) ok.nd rfl (by first | exact Or.inl rfl | exact Or.inr rfl) (Or.inl rfl) (DO.bin od_add (DO.bin od_add (DO.bin od_mod (DO.callTy cd_int rfl T.n_int rfl (DA.cons (DO.bin od_mul (DO.bin od_mul (nm 0) (DO.bin od_add DO.int (DO.bin od_mul DO.int (nm 1)))) DO.int) DA.nil)) DO.int) (DO.bin od_mul (DO.bin od_mul DO.int (nm 1)) (nm 1))) (DO.bin od_mul DO.int (nm 1)))) (DSs.one (DS.ret (DO.bin od_fdiv (DO.bin od_mod (DO.callTy cd_int rfl T.n_int rfl (DA.cons (DO.bin od_mul (nm 2) DO.int) DA.nil)) DO.int) DO.int))))
def F__law_folded : M Unit Out := (seqM (asgM 1 (lcM [2] (rangeM (consO (ret (.val (PyData.int 64))) nilM)) (setM 2) (ret true) (op2 addD (ret (.val (PyData.int 17))) (nameM 2)))) (seqM (loopM (bnd (scrL 0) fun xs => ret (enumL 0 xs)) (tupG 2 (gsCons (setM 2) (gsCons (setM 3) gsNil))) (bnd (valM (op2 modD (callM intD (consO (op2 addD (op2 mulD (op2 ixD (nameM 1) (op2 modD (callM intD (consO (nameM 2) nilM)) (ret (.val (PyData.int 64))))) (ret (.val (PyData.int 48271)))) (nameM 3)) nilM)) (ret (.val (PyData.int 2147483647))))) fun d => bnd (ownAt 1) fun _ => setIxM 1 (DL.ret (Opd.val d)) (op2 modD (callM intD (consO (nameM 2) nilM)) (ret (.val (PyData.int 64)))))) (seqM (loopM (rangeM (consO (ret (.val (PyData.int 1))) (consO (ret (.val (PyData.int 64))) nilM))) (setM 2) (bnd (valM (op2 modD (callM intD (consO (op2 addD (op2 ixD (nameM 1) (nameM 2)) (op2 mulD (op2 ixD (nameM 1) (op2 subD (nameM 2) (ret (.val (PyData.int 1))))) (ret (.val (PyData.int 16807))))) nilM)) (ret (.val (PyData.int 2147483647))))) fun d => bnd (ownAt 1) fun _ => setIxM 1 (DL.ret (Opd.val d)) (nameM 2))) (retM (nameM 1)))))
def m__law_folded : List Int → Option D := runS 4 F__law_folded
theorem d__law_folded (T : Top P w base K mg) : DefS P w K mg base 1 "_law_folded" ["script"] m__law_folded :=
  Has.scr (N := ["script", "found", "n", "cell"]) T.h__law_folded ⟨rfl, rfl, rfl, by decide +kernel, rfl, by decide +kernel, by decide +kernel⟩ rfl fun A B ok =>
    (DSs.cons (DS.setLc (i := 1) (own := [("n", 2)]) ok.nd (fun X h => by rw [h.sc]; rfl) rfl rfl rfl (by decide +kernel) (DI.range1 (DA.cons DO.int DA.nil) rfl T.n_range) (blkOk_by (by dsimp only [Gam.blk]; decide +kernel)) (DG.name (i := 2) ok.blk.nd rfl (by first | exact Or.inl rfl | exact Or.inr rfl) (by first | exact Or.inl rfl | exact Or.inr rfl)) (by decide) DTs.nil (DO.bin od_add DO.int (nm 2))) (DSs.cons (DS.for_ (DI.enumScr (i := 0) rfl (by first | exact Or.inl rfl | exact Or.inr (Or.inl rfl) | exact Or.inr (Or.inr rfl)) rfl T.n_enumerate) (DG.tup (DGs.cons (DG.name (i := 2) ok.nd rfl (by first | exact Or.inl rfl | exact Or.inr rfl) (by first | exact Or.inl rfl | exact Or.inr rfl)) (DGs.cons (DG.name (i := 3) ok.nd rfl (by first | exact Or.inl rfl | exact Or.inr rfl) (by first | exact Or.inl rfl | exact Or.inr rfl)) DGs.nil))) (DSs.one (DS.setIx (i := 1) rfl (by first | exact Or.inl rfl | exact Or.inr (Or.inl rfl) | exact Or.inr (Or.inr rfl)) (DO.bin od_mod (DO.callTy cd_int rfl T.n_int rfl (DA.cons (DO.bin od_add (DO.bin od_mul (DO.ix od_ix (nm 1) (DO.bin od_mod (DO.callTy cd_int rfl T.n_int rfl (DA.cons (nm 2) DA.nil)) DO.int)) DO.int) (nm 3)) DA.nil)) DO.int) (DO.bin od_mod (DO.callTy cd_int rfl T.n_int rfl (DA.cons (nm 2) DA.nil)) DO.int)))) (DSs.cons (DS.for_ (DI.range2 (DA.cons DO.int (DA.cons DO.int DA.nil)) rfl T.n_range) (DG.name (i := 2) ok.nd rfl (by first | exact Or.inl rfl | exact Or.inr rfl) (by first | exact Or.inl rfl | exact Or.inr rfl)) (DSs.one (DS.setIx (i := 1) rfl (by first | exact Or.inl rfl | exact Or.inr (Or.inl rfl) | exact Or.inr (Or.inr rfl)) (DO.bin od_mod (DO.callTy cd_int rfl T.n_int rfl (DA.cons (DO.bin od_add (DO.ix od_ix (nm 1) (nm 2)) (DO.bin od_mul (DO.ix od_ix (nm 1) (DO.bin od_sub (nm 2) DO.int)) DO.int)) DA.nil)) DO.int) (nm 2)))) (DSs.one (DS.ret (nm 1))))))
def m__law_draw : List D → DrawSt → Option (D × DrawSt) := drawF m__law_mixed
theorem d__law_draw (T : Top P w base K mg) : DefD P w K mg base 2 "_law_draw" ["m", "limit"] m__law_draw := by
  obtain ⟨am, fm, Fm, hmm, hkm, hbm⟩ := (d__law_mixed (P := P) (w := w) (base := base) T).ex
  obtain ⟨a, fd, Fn, h1, h2, h3⟩ := T.h__law_draw
  have Sc : FnScope ["m", "limit", "n", "lot", "here", "cell"] ["m", "limit"] (defScope s__law_draw) := ⟨rfl, rfl, rfl, by decide +kernel, rfl, by decide +kernel, by decide +kernel⟩
  refine ⟨a, fd, fnAny Fn Sc ?_ fun A vs H Q E hsp ok => ?_, h1, h2, h3⟩
  · rintro vs H Q E ⟨pm, pg, pc, S, us, ds, st, d, st', rfl, _, _, _, h, e, _⟩
    unfold m__law_draw drawF at e
    split at e
    · rw [List.length_cons, h.len]; rfl
    · cases e
  obtain ⟨pm, pg, pc, S, us, ds, st, d, st', rfl, wS, nr, at_, hds, hrun, hQ⟩ := hsp
  refine ⟨tDraw K m__law_mixed, fun X h => ?_, ?_⟩
  · have hu : X.A.units + 65 < cLine := by rw [h.A]; exact ok.hu
    have F' : FnG X.prog X.w X.K X.mg X.base 1 am fm ["cell", "n"] (spP X.K m__law_mixed) := by rw [h.P, h.w, h.K, h.mg, h.base]; exact Fm
    have gl : ∀ x : Str, (defScope s__law_draw).names.lookup x = some .globalImplicit → Gl X x := fun x hg => gl_of h hg
    have v : ∀ (i : Nat) (x : Str) (pos : Pos), (["m", "limit", "n", "lot", "here", "cell"] : List Str)[i]? = some x → (defScope s__law_draw).names.lookup x = some .local → (x == ("__debug__" : Str)) = false → (x == ("__classdict__" : Str)) = false → PE X (.Name x pos) (tVar i) := fun i x pos e1 e2 e3 e4 =>
      pe_var (by rw [h.N]; exact e1) (by rw [h.sc]; exact Or.inl e2) e3 e4
    have nd : X.N.Nodup := by rw [h.N]; exact ok.nd
    have ni : ∀ (i : Nat) (x : Str), (["m", "limit", "n", "lot", "here", "cell"] : List Str)[i]? = some x → X.N[i]? = some x := fun i x e => by rw [h.N]; exact e
    have lo : ∀ x : Str, (defScope s__law_draw).names.lookup x = some .local → Loc X.env.scope x := fun x e => by rw [h.sc]; exact Or.inl e
    have fnl : ∀ x : Str, (defScope s__law_draw).names.lookup x = some .local → X.fn x = true ∨ X.env.scope.names.lookup x = some .local := fun x e => by rw [h.sc]; exact Or.inr e
    have mi : X.mg "int" = none := by rw [h.mg]; exact T.n_int
    have ml : X.mg "len" = none := by rw [h.mg]; exact T.n_len
    have cal : ∀ {e : Expr} {es : List Expr} {p pos : Pos} {t : TA}, PA X (e :: es) t → starEach (e :: es) X.env = (false, eval e X.env) :: starEach es X.env → (backTo pos (starEach es X.env)).any (·.1) = false → PE X (.Call (.Name "_law_mixed" p) (e :: es) [] pos) (tCall (spP X.K m__law_mixed) [] E0 t) :=
      fun ha he hp => pe_callG F' (by rw [h.A]; exact ok.room.mono (by decide)) (by rw [h.A]; exact ok.gd) (gl "_law_mixed" rfl) (by rw [h.mg]; exact hmm) (by rw [h.K]; exact hkm) (by rw [h.K]; exact hbm) ha (by decide) he hp
    have key : PSs X (defBody s__law_draw) (tDraw X.K m__law_mixed) := pss_cons (X := X) (ps_set nd (ni 2 "n" rfl) (lo "n" rfl) (pe_dget (by omega) (v 0 "m" _ rfl rfl (by decide) (by decide)) pe_str (fun _ _ => rfl)) rfl (fnl "n" rfl))
      (pss_cons (ps_dput (by omega) (v 0 "m" _ rfl rfl (by decide) (by decide)) pe_str (pe_op op_add (v 2 "n" _ rfl rfl (by decide) (by decide)) pe_int) rfl)
      (pss_cons (ps_if (pt_cmpR (op_neD (by omega)) (pe_dget (by omega) (v 0 "m" _ rfl rfl (by decide) (by decide)) pe_str (fun _ _ => rfl)) (pe_lst pa_nil) rfl)
        (pss_cons (ps_set nd (ni 3 "lot" rfl) (lo "lot" rfl) (pe_dget (by omega) (v 0 "m" _ rfl rfl (by decide) (by decide)) pe_str (fun _ _ => rfl)) rfl (fnl "lot" rfl))
        (pss_cons (ps_set nd (ni 4 "here" rfl) (lo "here" rfl) (pe_op op_mod (pe_callTy call_int1 (gl "int" rfl) mi rfl (pa_cons (v 2 "n" _ rfl rfl (by decide) (by decide)) pa_nil)) (pe_callB call_len (gl "len" rfl) ml PySem.boot_len (pa_cons (v 3 "lot" _ rfl rfl (by decide) (by decide)) pa_nil))) rfl (fnl "here" rfl))
        (pss_cons (ps_set nd (ni 5 "cell" rfl) (lo "cell" rfl) (pe_ix ix_list (v 3 "lot" _ rfl rfl (by decide) (by decide)) (v 4 "here" _ rfl rfl (by decide) (by decide)) (fun _ _ => rfl)) rfl (fnl "cell" rfl))
        (pss_one (ps_if (pt_cmpR op_gt (v 5 "cell" _ rfl rfl (by decide) (by decide)) pe_int rfl)
          (pss_cons (ps_asg (pe_op op_fdivW (v 5 "cell" _ rfl rfl (by decide) (by decide)) (v 1 "limit" _ rfl rfl (by decide) (by decide))) (pg_sub (v 3 "lot" _ rfl rfl (by decide) (by decide)) (v 4 "here" _ rfl rfl (by decide) (by decide)) set_list (fun _ => rfl)))
          (pss_one (ps_ret (pe_op op_mod (pe_callTy call_int1 (gl "int" rfl) mi rfl (pa_cons (v 5 "cell" _ rfl rfl (by decide) (by decide)) pa_nil)) (v 1 "limit" _ rfl rfl (by decide) (by decide))))))
          pss_nil))))) pss_nil)
      (pss_cons (ps_set nd (ni 3 "lot" rfl) (lo "lot" rfl) (pe_dget (by omega) (v 0 "m" _ rfl rfl (by decide) (by decide)) pe_str (fun _ _ => rfl)) rfl (fnl "lot" rfl))
      (pss_one (ps_ret (pe_op op_mod (pe_callTy call_int1 (gl "int" rfl) mi rfl (pa_cons
        (cal (pa_cons (cal (pa_cons (pe_op op_add (pe_ix ix_list (v 3 "lot" _ rfl rfl (by decide) (by decide)) (pe_op op_mod (pe_callTy call_int1 (gl "int" rfl) mi rfl (pa_cons (v 2 "n" _ rfl rfl (by decide) (by decide)) pa_nil)) pe_int) (fun _ _ => rfl))
          (pe_op op_mul pe_int (pe_op op_fdivW (v 2 "n" _ rfl rfl (by decide) (by decide)) pe_int))) (pa_cons (v 2 "n" _ rfl rfl (by decide) (by decide)) pa_nil)) rfl rfl)
          (pa_cons (pe_op op_add (v 2 "n" _ rfl rfl (by decide) (by decide)) pe_int) pa_nil)) rfl rfl) pa_nil)) (v 1 "limit" _ rfl rfl (by decide) (by decide))))))))
    rw [h.K] at key
    exact key
  · have hrun' := hrun
    unfold m__law_draw drawF at hrun'
    split at hrun'
    · cases hds with
      | cons r0 rs =>
        cases rs
        cases r0
        exact draw_run wS nr at_ hrun rfl hQ
    · cases hrun'
theorem d__law_begun (T : Top P w base K mg) : LawQ P w K mg base 2 "_law_begun" ["script"] (spB K m__law_folded) := by
  obtain ⟨am, fm, Fm, hmm, hkm, hbm⟩ := (d__law_folded (P := P) (w := w) (base := base) T).ex
  obtain ⟨a, fd, Fn, h1, h2, h3⟩ := T.h__law_begun
  have Sc : FnScope ["script", "m", "cell"] ["script"] (defScope s__law_begun) := ⟨rfl, rfl, rfl, by decide +kernel, rfl, by decide +kernel, by decide +kernel⟩
  refine ⟨a, fd, fnAny Fn Sc ?_ fun A vs H Q E hsp ok => ?_, h1, h2, h3⟩
  · rintro vs H Q E ⟨a, ns, cells, rfl, _⟩
    rfl
  obtain ⟨a, ns, cells, rfl, hO, hq, hl, hf, hQ⟩ := hsp
  refine ⟨tBegun K m__law_folded, fun X h => ?_, begun_run hO hq hl hf rfl hQ⟩
  have hu : X.A.units + 65 < cLine := by rw [h.A]; exact ok.hu
  have F' : FnG X.prog X.w X.K X.mg X.base 1 am fm ["script"] (spS X.K m__law_folded) := by rw [h.P, h.w, h.K, h.mg, h.base]; exact Fm
  have gl : ∀ x : Str, (defScope s__law_begun).names.lookup x = some .globalImplicit → Gl X x := fun x hg => gl_of h hg
  have v : ∀ (i : Nat) (x : Str) (pos : Pos), (["script", "m", "cell"] : List Str)[i]? = some x → (defScope s__law_begun).names.lookup x = some .local → (x == ("__debug__" : Str)) = false → (x == ("__classdict__" : Str)) = false → PE X (.Name x pos) (tVar i) := fun i x pos e1 e2 e3 e4 =>
    pe_var (by rw [h.N]; exact e1) (by rw [h.sc]; exact Or.inl e2) e3 e4
  have nd : X.N.Nodup := by rw [h.N]; exact ok.nd
  have ni : ∀ (i : Nat) (x : Str), (["script", "m", "cell"] : List Str)[i]? = some x → X.N[i]? = some x := fun i x e => by rw [h.N]; exact e
  have lo : Loc X.env.scope "m" := by rw [h.sc]; exact Or.inl rfl
  have fnl : X.fn ("m" : Str) = true ∨ X.env.scope.names.lookup ("m" : Str) = some NameKind.local := by rw [h.sc]; exact Or.inr rfl
  have cal : ∀ {e : Expr} {es : List Expr} {p pos : Pos} {t : TA}, PA X (e :: es) t → starEach (e :: es) X.env = (false, eval e X.env) :: starEach es X.env → (backTo pos (starEach es X.env)).any (·.1) = false → PE X (.Call (.Name "_law_folded" p) (e :: es) [] pos) (tCall (spS X.K m__law_folded) [] E0 t) :=
    fun ha he hp => pe_callG F' (by rw [h.A]; exact ok.room.mono (by decide)) (by rw [h.A]; exact ok.gd) (gl "_law_folded" rfl) (by rw [h.mg]; exact hmm) (by rw [h.K]; exact hkm) (by rw [h.K]; exact hbm) ha (by decide) he hp
  have key : PSs X (defBody s__law_begun) (tBegun X.K m__law_folded) :=
    pss_cons (ps_set nd (ni 1 "m" rfl) lo (pe_disp (pps_cons pe_str (cal (pa_cons (v 0 "script" _ rfl rfl (by decide) (by decide)) pa_nil) rfl rfl) (pps_cons pe_str (pe_lst pa_nil) (pps_cons pe_str pe_int pps_nil))) rfl rfl (fun z => by cases z) (by decide)) rfl fnl)
    (pss_cons (ps_dput (by omega) (v 1 "m" _ rfl rfl (by decide) (by decide)) pe_str
      (pe_lc (own := [("cell", 2)]) (g := gName 2) (tt := tYes) h.calm nd (pi_list (v 0 "script" _ rfl rfl (by decide) (by decide))) (by rw [h.N, h.sc]; exact blkOk_by (N := ["script", "m", "cell"]) (sc := defScope s__law_begun) (by decide +kernel)) (fun _ _ _ _ _ => pg_name nd (ni 2 "cell" rfl) (Or.inl rfl) (.inr rfl)) (fun _ _ _ _ _ => pts_nil)
        (fun _ _ _ _ _ => pe_ifExp (pt_cmpR op_ge (pe_var (i := 2) (ni 2 "cell" rfl) (Or.inl rfl)) (pe_op op_pow pe_int pe_int) rfl) (pe_var (i := 2) (ni 2 "cell" rfl) (Or.inl rfl)) pe_int)) rfl)
    (pss_one (ps_ret (v 1 "m" _ rfl rfl (by decide) (by decide)))))
  rw [h.K] at key
  exact key
def F__law_like : M Unit Out := (retM (op2 eqD (callM reprD (consO (nameM 0) nilM)) (callM reprD (consO (nameM 1) nilM))))
def m__law_like : List D → Option D := runP2 2 2 F__law_like
theorem d__law_like (T : Top P w base K mg) : DefQ P w K mg base 1 "_law_like" ["got", "due"] m__law_like :=
  Has.pure (N := ["got", "due"]) T.h__law_like ⟨rfl, rfl, rfl, by decide +kernel, rfl, by decide +kernel, by decide +kernel⟩ rfl rfl fun A B ok =>
    (DSs.one (DS.ret (DO.cmp (od_eq ok) (DO.callB (cd_repr ok) rfl T.n_repr rfl (DA.cons (nm 0) DA.nil)) (DO.callB (cd_repr ok) rfl T.n_repr rfl (DA.cons (nm 1) DA.nil)) rfl)))
def F__law_of : M DrawSt Out := (retM (op2 ixD (nameM 1) (callD 0 m__law_draw (consD (callM lenD (consO (nameM 1) nilM)) nilM))))
def m__law_of : List D → DrawSt → Option (D × DrawSt) := runD2 2 2 F__law_of
theorem d__law_of (T : Top P w base K mg) : DefD P w K mg base 3 "_law_of" ["m", "some"] m__law_of :=
  Has.draw (N := ["m", "some"]) T.h__law_of ⟨rfl, rfl, rfl, by decide +kernel, rfl, by decide +kernel, by decide +kernel⟩ rfl rfl fun A B hB ok =>
    (DSs.one (DS.ret (DO.ix od_ix (nm 1) (DO.callD (i := 0) (d__law_draw T) hB ok (by decide) (DV.cons (DO.callB cd_len rfl T.n_len rfl (DA.cons (nm 1) DA.nil)) DV.nil)))))
def F__law_is_int : M Unit Out := (retM (andV (isiM "int" (nameM 0)) (andV (notV (isiM "bool" (nameM 0))) (chainM leD leD (nameM 1) (nameM 0) (nameM 2)))))
def m__law_is_int : List D → Option D := runP2 3 3 F__law_is_int
theorem d__law_is_int (T : Top P w base K mg) : DefQ P w K mg base 1 "_law_is_int" ["thing", "low", "high"] m__law_is_int :=
  Has.pure (N := ["thing", "low", "high"]) T.h__law_is_int ⟨rfl, rfl, rfl, by decide +kernel, rfl, by decide +kernel, by decide +kernel⟩ rfl rfl fun A B ok =>
    (DSs.one (DS.ret (DO.and (DO.isi (by decide) (nm 0) rfl T.n_isinstance rfl T.n_int rfl) (DO.and (DO.not (DO.isi (by decide) (nm 0) rfl T.n_isinstance rfl T.n_bool rfl)) (DO.one (DO.chain od_le od_le (nm 1) (nm 0) (nm 2)))))))
def F__law_order : M DrawSt Out := (seqM (asgM 2 (listRgM (consO (nameM 1) nilM))) (retM (lcM [3] (rangeM (consO (nameM 1) nilM)) (setM 3) (ret true) (popM 2 (callD 0 m__law_draw (consD (callM lenD (consO (nameM 2) nilM)) nilM))))))
def m__law_order : List D → DrawSt → Option (D × DrawSt) := runD2 2 4 F__law_order
theorem d__law_order (T : Top P w base K mg) : DefD P w K mg base 3 "_law_order" ["m", "many"] m__law_order :=
  Has.draw (N := ["m", "many", "left", "turn"]) T.h__law_order ⟨rfl, rfl, rfl, by decide +kernel, rfl, by decide +kernel, by decide +kernel⟩ rfl rfl fun A B hB ok =>
    (DSs.cons (DS.set (i := 2) ok.nd rfl (by first | exact Or.inl rfl | exact Or.inr rfl) (Or.inl rfl) (DO.listRg1 (nm 1) rfl T.n_list rfl T.n_range)) (DSs.one (DS.ret (DO.lc (own := [("turn", 3)]) ok.nd (DI.range1 (DA.cons (nm 1) DA.nil) rfl T.n_range) (blkOk_by (by dsimp only [Gam.blk]; decide +kernel)) (DG.name (i := 3) ok.blk.nd rfl (by first | exact Or.inl rfl | exact Or.inr rfl) (by first | exact Or.inl rfl | exact Or.inr rfl)) (by decide) DTs.nil (DO.pop (i := 2) rfl (by first | exact Or.inl rfl | exact Or.inr (Or.inl rfl) | exact Or.inr (Or.inr rfl)) (DO.callD (i := 0) (d__law_draw T) hB ok.blk (by decide) (DV.cons (DO.callB cd_len rfl T.n_len rfl (DA.cons (nm 2) DA.nil)) DV.nil)))))))
def F__law_some : M DrawSt Out := (retM (callM tupleD (consO (callM sortedD (consO (sliceM slD (callD 0 m__law_order (consD (nameM 1) nilM)) (ret none) (bnd (op2 addD (ret (.val (PyData.int 1))) (callD 0 m__law_draw (consD (callM minD (consO (nameM 2) (consO (nameM 1) nilM))) nilM))) intO)) nilM)) nilM)))
def m__law_some : List D → DrawSt → Option (D × DrawSt) := runD2 3 3 F__law_some
theorem d__law_some (T : Top P w base K mg) : DefD P w K mg base 4 "_law_some" ["m", "many", "most"] m__law_some :=
  Has.draw (N := ["m", "many", "most"]) T.h__law_some ⟨rfl, rfl, rfl, by decide +kernel, rfl, by decide +kernel, by decide +kernel⟩ rfl rfl fun A B hB ok =>
    (DSs.one (DS.ret (DO.callTy cd_tuple rfl T.n_tuple rfl (DA.cons (DO.callB cd_sorted rfl T.n_sorted rfl (DA.cons (DO.slice od_sl (DO.callD (i := 0) (d__law_order T) hB ok (by decide) (DV.cons (nm 1) DV.nil)) DP.none (DP.some (DO.bin od_add DO.int (DO.callD (i := 0) (d__law_draw T) hB ok (by decide) (DV.cons (DO.callB cd_min rfl T.n_min rfl (DA.cons (nm 2) (DA.cons (nm 1) DA.nil))) DV.nil))))) DA.nil)) DA.nil))))
def F__law_meets : M DrawSt Out := (seqM (parM [3, 4] (consN (lstM nilM) (consN (op2 addD (ret (.val (PyData.int 1))) (callD 0 m__law_draw (consD (ret (.val (PyData.int 2))) nilM))) nilM))) (seqM (loopM (rangeM (consO (nameM 1) nilM)) (setM 5) (seqM (asgM 6 (lstM nilM)) (seqM (loopM (rangeM (consO (nameM 2) nilM)) (setM 7) (seqM (asgM 8 (op2 ltD (callD 0 m__law_draw (consD (ret (.val (PyData.int 3))) nilM)) (nameM 4))) (bnd (ownAt 6) fun _ => appM 6 (iteM (andT (bnd (op2 gtD (nameM 5) (ret (.val (PyData.int 0)))) boolO) (bnd (nameM 8) boolO)) (ret (.val PyData.none)) (callD 0 m__law_draw (consD (nameM 1) nilM)))))) (bnd (ownAt 3) fun _ => appM 3 (callM tupleD (consO (nameM 6) nilM)))))) (retM (callM tupleD (consO (nameM 3) nilM)))))
def m__law_meets : List D → DrawSt → Option (D × DrawSt) := runD2 3 9 F__law_meets
theorem d__law_meets (T : Top P w base K mg) : DefD P w K mg base 3 "_law_meets" ["m", "states", "stuffs"] m__law_meets :=
  Has.draw (N := ["m", "states", "stuffs", "rows", "odds", "state", "row", "stuff", "barred"]) T.h__law_meets ⟨rfl, rfl, rfl, by decide +kernel, rfl, by decide +kernel, by decide +kernel⟩ rfl rfl fun A B hB ok =>
    (DSs.cons (DS.par2 (i := 3) (j := 4) ok.nd rfl rfl (by decide) rfl rfl (DN.cons (DO.lst DV.nil) (DN.cons (DO.bin od_add DO.int (DO.callD (i := 0) (d__law_draw T) hB ok (by decide) (DV.cons DO.int DV.nil))) DN.nil)) (fun X h => by unfold swappedStores Env.blockKind Env.kindOf; rw [h.sc]; rfl)) (DSs.cons (DS.for_ (DI.range1 (DA.cons (nm 1) DA.nil) rfl T.n_range) (DG.name (i := 5) ok.nd rfl (by first | exact Or.inl rfl | exact Or.inr rfl) (by first | exact Or.inl rfl | exact Or.inr rfl)) (DSs.cons (DS.set (i := 6) ok.nd rfl (by first | exact Or.inl rfl | exact Or.inr rfl) (Or.inl rfl) (DO.lst DV.nil)) (DSs.cons (DS.for_ (DI.range1 (DA.cons (nm 2) DA.nil) rfl T.n_range) (DG.name (i := 7) ok.nd rfl (by first | exact Or.inl rfl | exact Or.inr rfl) (by first | exact Or.inl rfl | exact Or.inr rfl)) (DSs.cons (DS.set (i := 8) ok.nd rfl (by first | exact Or.inl rfl | exact Or.inr rfl) (Or.inl rfl) (DO.cmp od_lt (DO.callD (i := 0) (d__law_draw T) hB ok (by decide) (DV.cons DO.int DV.nil)) (nm 4) rfl)) (DSs.one (DS.app (i := 6) rfl (by first | exact Or.inl rfl | exact Or.inr (Or.inl rfl) | exact Or.inr (Or.inr rfl)) (DO.ite (DW.pt (DW.and (DT.cmp od_gt (nm 5) DO.int rfl) (DW.and1 (DT.val (nm 8))))) DO.non (DO.callD (i := 0) (d__law_draw T) hB ok (by decide) (DV.cons (nm 1) DV.nil))))))) (DSs.one (DS.app (i := 3) rfl (by first | exact Or.inl rfl | exact Or.inr (Or.inl rfl) | exact Or.inr (Or.inr rfl)) (DO.callTy cd_tuple rfl T.n_tuple rfl (DA.cons (nm 6) DA.nil))))))) (DSs.one (DS.ret (DO.callTy cd_tuple rfl T.n_tuple rfl (DA.cons (nm 3) DA.nil))))))
def F__law_washes : M DrawSt Out := (seqM (asgM 3 (lstM nilM)) (seqM (loopM (rangeM (consO (nameM 2) nilM)) (setM 4) (seqM (parM [5, 6] (consN (callD 0 m__law_draw (consD (ret (.val (PyData.int 5))) nilM)) (consN (lstM nilM) nilM))) (seqM (loopM (rangeM (consO (nameM 1) nilM)) (setM 7) (seqM (asgM 8 (callD 0 m__law_some (consD (nameM 1) (consD (ret (.val (PyData.int 3))) nilM)))) (bnd (ownAt 6) fun _ => appM 6 (iteM (bnd (op2 eqD (nameM 5) (ret (.val (PyData.int 0)))) boolO) (tupM (consD (ret (.val (PyData.int 0))) nilM)) (iteM (bnd (op2 eqD (nameM 5) (ret (.val (PyData.int 1)))) boolO) (sliceM slD (nameM 8) (ret none) (bnd (ret (.val (PyData.int 1))) intO)) (nameM 8)))))) (seqM (asgM 9 (op2 addD (ret (.val (PyData.int 1))) (callD 0 m__law_draw (consD (ret (.val (PyData.int 6))) nilM)))) (bnd (ownAt 3) fun _ => appM 3 (tupM (consD (callM tupleD (consO (nameM 6) nilM)) (consD (nameM 9) (consD (callM minD (consO (ret (.val (PyData.int 6))) (consO (op2 addD (nameM 9) (callD 0 m__law_draw (consD (ret (.val (PyData.int 3))) nilM))) nilM))) nilM))))))))) (retM (callM tupleD (consO (nameM 3) nilM)))))
def m__law_washes : List D → DrawSt → Option (D × DrawSt) := runD2 3 10 F__law_washes
theorem d__law_washes (T : Top P w base K mg) : DefD P w K mg base 5 "_law_washes" ["m", "states", "many"] m__law_washes :=
  Has.draw (N := ["m", "states", "many", "found", "turn", "kind", "after", "state", "some", "low"]) T.h__law_washes ⟨rfl, rfl, rfl, by decide +kernel, rfl, by decide +kernel, by decide +kernel⟩ rfl rfl fun A B hB ok =>
    (DSs.cons (DS.set (i := 3) ok.nd rfl (by first | exact Or.inl rfl | exact Or.inr rfl) (Or.inl rfl) (DO.lst DV.nil)) (DSs.cons (DS.for_ (DI.range1 (DA.cons (nm 2) DA.nil) rfl T.n_range) (DG.name (i := 4) ok.nd rfl (by first | exact Or.inl rfl | exact Or.inr rfl) (by first | exact Or.inl rfl | exact Or.inr rfl)) (DSs.cons (DS.par2 (i := 5) (j := 6) ok.nd rfl rfl (by decide) rfl rfl (DN.cons (DO.callD (i := 0) (d__law_draw T) hB ok (by decide) (DV.cons DO.int DV.nil)) (DN.cons (DO.lst DV.nil) DN.nil)) (fun X h => by unfold swappedStores Env.blockKind Env.kindOf; rw [h.sc]; rfl)) (DSs.cons (DS.for_ (DI.range1 (DA.cons (nm 1) DA.nil) rfl T.n_range) (DG.name (i := 7) ok.nd rfl (by first | exact Or.inl rfl | exact Or.inr rfl) (by first | exact Or.inl rfl | exact Or.inr rfl)) (DSs.cons (DS.set (i := 8) ok.nd rfl (by first | exact Or.inl rfl | exact Or.inr rfl) (Or.inl rfl) (DO.callD (i := 0) (d__law_some T) hB ok (by decide) (DV.cons (nm 1) (DV.cons DO.int DV.nil)))) (DSs.one (DS.app (i := 6) rfl (by first | exact Or.inl rfl | exact Or.inr (Or.inl rfl) | exact Or.inr (Or.inr rfl)) (DO.ite (DT.cmp (od_eq ok) (nm 5) DO.int rfl) (DO.tup (DV.cons DO.int DV.nil)) (DO.ite (DT.cmp (od_eq ok) (nm 5) DO.int rfl) (DO.slice od_sl (nm 8) DP.none (DP.some DO.int)) (nm 8))))))) (DSs.cons (DS.set (i := 9) ok.nd rfl (by first | exact Or.inl rfl | exact Or.inr rfl) (Or.inl rfl) (DO.bin od_add DO.int (DO.callD (i := 0) (d__law_draw T) hB ok (by decide) (DV.cons DO.int DV.nil)))) (DSs.one (DS.app (i := 3) rfl (by first | exact Or.inl rfl | exact Or.inr (Or.inl rfl) | exact Or.inr (Or.inr rfl)) (DO.tup (DV.cons (DO.callTy cd_tuple rfl T.n_tuple rfl (DA.cons (nm 6) DA.nil)) (DV.cons (nm 9) (DV.cons (DO.callB cd_min rfl T.n_min rfl (DA.cons DO.int (DA.cons (DO.bin od_add (nm 9) (DO.callD (i := 0) (d__law_draw T) hB ok (by decide) (DV.cons DO.int DV.nil))) DA.nil))) DV.nil)))))))))) (DSs.one (DS.ret (DO.callTy cd_tuple rfl T.n_tuple rfl (DA.cons (nm 3) DA.nil))))))
def F__law_lab : M DrawSt Out := (seqM (asgM 3 (callD 0 m__law_meets (consD (nameM 1) (consD (nameM 2) nilM)))) (retM (tupM (consD (nameM 3) (consD (callD 0 m__law_washes (consD (nameM 1) (consD (callD 0 m__law_draw (consD (ret (.val (PyData.int 4))) nilM)) nilM))) (consD (op2 addD (ret (.val (PyData.int 1))) (callD 0 m__law_draw (consD (ret (.val (PyData.int 3))) nilM))) (consD (op2 addD (ret (.val (PyData.int 1))) (callD 0 m__law_draw (consD (ret (.val (PyData.int 3))) nilM))) (consD (callD 0 m__law_draw (consD (ret (.val (PyData.int 5))) nilM)) nilM))))))))
def m__law_lab : List D → DrawSt → Option (D × DrawSt) := runD2 3 4 F__law_lab
theorem d__law_lab (T : Top P w base K mg) : DefD P w K mg base 6 "_law_lab" ["m", "states", "stuffs"] m__law_lab :=
  Has.draw (N := ["m", "states", "stuffs", "meets"]) T.h__law_lab ⟨rfl, rfl, rfl, by decide +kernel, rfl, by decide +kernel, by decide +kernel⟩ rfl rfl fun A B hB ok =>
    (DSs.cons (DS.set (i := 3) ok.nd rfl (by first | exact Or.inl rfl | exact Or.inr rfl) (Or.inl rfl) (DO.callD (i := 0) (d__law_meets T) hB ok (by decide) (DV.cons (nm 1) (DV.cons (nm 2) DV.nil)))) (DSs.one (DS.ret (DO.tup (DV.cons (nm 3) (DV.cons (DO.callD (i := 0) (d__law_washes T) hB ok (by decide) (DV.cons (nm 1) (DV.cons (DO.callD (i := 0) (d__law_draw T) hB ok (by decide) (DV.cons DO.int DV.nil)) DV.nil))) (DV.cons (DO.bin od_add DO.int (DO.callD (i := 0) (d__law_draw T) hB ok (by decide) (DV.cons DO.int DV.nil))) (DV.cons (DO.bin od_add DO.int (DO.callD (i := 0) (d__law_draw T) hB ok (by decide) (DV.cons DO.int DV.nil))) (DV.cons (DO.callD (i := 0) (d__law_draw T) hB ok (by decide) (DV.cons DO.int DV.nil)) DV.nil)))))))))
def F__law_counts : M Unit Out := (seqM (asgM 2 (lstM (consD (op2 mulD (lstM (consD (ret (.val (PyData.int 1))) nilM)) (callM lenD (consO (op2 ixD (nameM 0) (ret (.val (PyData.int 0)))) nilM))) nilM))) (seqM (loopM (rangeM (consO (nameM 1) nilM)) (setM 3) (seqM (asgM 4 (lstM nilM)) (seqM (loopM (iterM (op2 ixD (nameM 0) (ret (.val (PyData.int 0))))) (setM 5) (bnd (ownAt 4) fun _ => appM 4 (callM sumD (consO (lcM [6] (iterM (nameM 5)) (setM 6) (bnd (op2 isNotD (nameM 6) (ret (.val PyData.none))) boolO) (op2 ixD (op2 ixD (nameM 2) (negM (ret (.val (PyData.int 1))))) (nameM 6))) nilM)))) (bnd (ownAt 2) fun _ => appM 2 (nameM 4))))) (retM (nameM 2))))
def m__law_counts : List D → Option D := runP2 2 7 F__law_counts
theorem d__law_counts (T : Top P w base K mg) : DefQ P w K mg base 1 "_law_counts" ["lab", "length"] m__law_counts :=
  Has.pure (N := ["lab", "length", "found", "turn", "row", "touched", "after"]) T.h__law_counts ⟨rfl, rfl, rfl, by decide +kernel, rfl, by decide +kernel, by decide +kernel⟩ rfl rfl fun A B ok =>
    (DSs.cons (DS.set (i := 2) ok.nd rfl (by first | exact Or.inl rfl | exact Or.inr rfl) (Or.inl rfl) (DO.lst (DV.cons (DO.bin od_mul (DO.lst (DV.cons DO.int DV.nil)) (DO.callB cd_len rfl T.n_len rfl (DA.cons (DO.ix od_ix (nm 0) DO.int) DA.nil))) DV.nil))) (DSs.cons (DS.for_ (DI.range1 (DA.cons (nm 1) DA.nil) rfl T.n_range) (DG.name (i := 3) ok.nd rfl (by first | exact Or.inl rfl | exact Or.inr rfl) (by first | exact Or.inl rfl | exact Or.inr rfl)) (DSs.cons (DS.set (i := 4) ok.nd rfl (by first | exact Or.inl rfl | exact Or.inr rfl) (Or.inl rfl) (DO.lst DV.nil)) (DSs.cons (DS.for_ (DI.seq (DO.ix od_ix (nm 0) DO.int)) (DG.name (i := 5) ok.nd rfl (by first | exact Or.inl rfl | exact Or.inr rfl) (by first | exact Or.inl rfl | exact Or.inr rfl)) (DSs.one (DS.app (i := 4) rfl (by first | exact Or.inl rfl | exact Or.inr (Or.inl rfl) | exact Or.inr (Or.inr rfl)) (DO.callB cd_sum rfl T.n_sum rfl (DA.cons (DO.lc (own := [("after", 6)]) ok.nd (DI.seq (nm 5)) (blkOk_by (by dsimp only [Gam.blk]; decide +kernel)) (DG.name (i := 6) ok.blk.nd rfl (by first | exact Or.inl rfl | exact Or.inr rfl) (by first | exact Or.inl rfl | exact Or.inr rfl)) (by decide) (DTs.one (DT.cmp od_isNot (nm 6) DO.non rfl)) (DO.ix od_ix (DO.ix od_ix (nm 2) (DO.neg DO.int)) (nm 6))) DA.nil))))) (DSs.one (DS.app (i := 2) rfl (by first | exact Or.inl rfl | exact Or.inr (Or.inl rfl) | exact Or.inr (Or.inr rfl)) (nm 4)))))) (DSs.one (DS.ret (nm 2)))))
def F__law_stop : M Unit Out := (seqM (loopM (rangeM (consO (callM lenD (consO (nameM 2) nilM)) nilM)) (setM 3) (seqM (asgM 4 (op2 ixD (op2 ixD (op2 ixD (nameM 0) (ret (.val (PyData.int 0)))) (nameM 1)) (op2 ixD (nameM 2) (nameM 3)))) (seqM (ifM (bnd (op2 isD (nameM 4) (ret (.val PyData.none))) boolO) (retM (tupM (consD (nameM 3) (consD (nameM 1) nilM)))) (ret .nx)) (asgM 1 (nameM 4))))) (retM (tupM (consD (callM lenD (consO (nameM 2) nilM)) (consD (nameM 1) nilM)))))
def m__law_stop : List D → Option D := runP2 3 5 F__law_stop
theorem d__law_stop (T : Top P w base K mg) : DefQ P w K mg base 1 "_law_stop" ["lab", "state", "stuffs"] m__law_stop :=
  Has.pure (N := ["lab", "state", "stuffs", "n", "after"]) T.h__law_stop ⟨rfl, rfl, rfl, by decide +kernel, rfl, by decide +kernel, by decide +kernel⟩ rfl rfl fun A B ok =>
    (DSs.cons (DS.for_ (DI.range1 (DA.cons (DO.callB cd_len rfl T.n_len rfl (DA.cons (nm 2) DA.nil)) DA.nil) rfl T.n_range) (DG.name (i := 3) ok.nd rfl (by first | exact Or.inl rfl | exact Or.inr rfl) (by first | exact Or.inl rfl | exact Or.inr rfl)) (DSs.cons (DS.set (i := 4) ok.nd rfl (by first | exact Or.inl rfl | exact Or.inr rfl) (Or.inl rfl) (DO.ix od_ix (DO.ix od_ix (DO.ix od_ix (nm 0) DO.int) (nm 1)) (DO.ix od_ix (nm 2) (nm 3)))) (DSs.cons (DS.if_ (DT.cmp od_is (nm 4) DO.non rfl) (DSs.one (DS.ret (DO.tup (DV.cons (nm 3) (DV.cons (nm 1) DV.nil))))) DSs.nil) (DSs.one (DS.set (i := 1) ok.nd rfl (by first | exact Or.inl rfl | exact Or.inr rfl) (Or.inl rfl) (nm 4)))))) (DSs.one (DS.ret (DO.tup (DV.cons (DO.callB cd_len rfl T.n_len rfl (DA.cons (nm 2) DA.nil)) (DV.cons (nm 1) DV.nil))))))
def F__law_all_rows : M Unit Out := (seqM (asgM 3 (lstM (consD (tupM (consD (tupM nilM) (consD (nameM 1) nilM))) nilM))) (seqM (loopM (rangeM (consO (nameM 2) nilM)) (setM 4) (seqM (asgM 5 (lstM nilM)) (seqM (loopM (iterM (nameM 3)) (tupG 2 (gsCons (setM 6) (gsCons (setM 7) gsNil))) (loopM (rangeM (consO (callM lenD (consO (op2 ixD (op2 ixD (nameM 0) (ret (.val (PyData.int 0)))) (ret (.val (PyData.int 0)))) nilM)) nilM)) (setM 8) (seqM (asgM 9 (op2 ixD (op2 ixD (op2 ixD (nameM 0) (ret (.val (PyData.int 0)))) (nameM 7)) (nameM 8))) (ifM (bnd (op2 isNotD (nameM 9) (ret (.val PyData.none))) boolO) (bnd (ownAt 5) fun _ => appM 5 (tupM (consD (op2 addD (nameM 6) (tupM (consD (nameM 8) nilM))) (consD (nameM 9) nilM)))) (ret .nx))))) (asgM 3 (nameM 5))))) (retM (lcM [6, 7] (iterM (nameM 3)) (tupG 2 (gsCons (setM 6) (gsCons (setM 7) gsNil))) (ret true) (nameM 6)))))
def m__law_all_rows : List D → Option D := runP2 3 10 F__law_all_rows
theorem d__law_all_rows (T : Top P w base K mg) : DefQ P w K mg base 1 "_law_all_rows" ["lab", "state", "length"] m__law_all_rows :=
  Has.pure (N := ["lab", "state", "length", "rows", "turn", "longer", "row", "here", "stuff", "after"]) T.h__law_all_rows ⟨rfl, rfl, rfl, by decide +kernel, rfl, by decide +kernel, by decide +kernel⟩ rfl rfl fun A B ok =>
    (DSs.cons (DS.set (i := 3) ok.nd rfl (by first | exact Or.inl rfl | exact Or.inr rfl) (Or.inl rfl) (DO.lst (DV.cons (DO.tup (DV.cons (DO.tup DV.nil) (DV.cons (nm 1) DV.nil))) DV.nil))) (DSs.cons (DS.for_ (DI.range1 (DA.cons (nm 2) DA.nil) rfl T.n_range) (DG.name (i := 4) ok.nd rfl (by first | exact Or.inl rfl | exact Or.inr rfl) (by first | exact Or.inl rfl | exact Or.inr rfl)) (DSs.cons (DS.set (i := 5) ok.nd rfl (by first | exact Or.inl rfl | exact Or.inr rfl) (Or.inl rfl) (DO.lst DV.nil)) (DSs.cons (DS.for_ (DI.seq (nm 3)) (DG.tup (DGs.cons (DG.name (i := 6) ok.nd rfl (by first | exact Or.inl rfl | exact Or.inr rfl) (by first | exact Or.inl rfl | exact Or.inr rfl)) (DGs.cons (DG.name (i := 7) ok.nd rfl (by first | exact Or.inl rfl | exact Or.inr rfl) (by first | exact Or.inl rfl | exact Or.inr rfl)) DGs.nil))) (DSs.one (DS.for_ (DI.range1 (DA.cons (DO.callB cd_len rfl T.n_len rfl (DA.cons (DO.ix od_ix (DO.ix od_ix (nm 0) DO.int) DO.int) DA.nil)) DA.nil) rfl T.n_range) (DG.name (i := 8) ok.nd rfl (by first | exact Or.inl rfl | exact Or.inr rfl) (by first | exact Or.inl rfl | exact Or.inr rfl)) (DSs.cons (DS.set (i := 9) ok.nd rfl (by first | exact Or.inl rfl | exact Or.inr rfl) (Or.inl rfl) (DO.ix od_ix (DO.ix od_ix (DO.ix od_ix (nm 0) DO.int) (nm 7)) (nm 8))) (DSs.one (DS.if_ (DT.cmp od_isNot (nm 9) DO.non rfl) (DSs.one (DS.app (i := 5) rfl (by first | exact Or.inl rfl | exact Or.inr (Or.inl rfl) | exact Or.inr (Or.inr rfl)) (DO.tup (DV.cons (DO.bin od_add (nm 6) (DO.tup (DV.cons (nm 8) DV.nil))) (DV.cons (nm 9) DV.nil))))) DSs.nil)))))) (DSs.one (DS.set (i := 3) ok.nd rfl (by first | exact Or.inl rfl | exact Or.inr rfl) (Or.inl rfl) (nm 5)))))) (DSs.one (DS.ret (DO.lc (own := [("row", 6), ("here", 7)]) ok.nd (DI.seq (nm 3)) (blkOk_by (by dsimp only [Gam.blk]; decide +kernel)) (DG.tup (DGs.cons (DG.name (i := 6) ok.blk.nd rfl (by first | exact Or.inl rfl | exact Or.inr rfl) (by first | exact Or.inl rfl | exact Or.inr rfl)) (DGs.cons (DG.name (i := 7) ok.blk.nd rfl (by first | exact Or.inl rfl | exact Or.inr rfl) (by first | exact Or.inl rfl | exact Or.inr rfl)) DGs.nil))) (by decide) DTs.nil (nm 6))))))
def F__law_number : M Unit Out := (seqM (asgM 4 (ret (.val (PyData.int 0)))) (seqM (loopM (rangeM (consO (callM lenD (consO (nameM 3) nilM)) nilM)) (setM 5) (seqM (loopM (rangeM (consO (op2 ixD (nameM 3) (nameM 5)) nilM)) (setM 6) (seqM (asgM 7 (op2 ixD (op2 ixD (op2 ixD (nameM 1) (ret (.val (PyData.int 0)))) (nameM 2)) (nameM 6))) (asgM 4 (op2 addD (nameM 4) (iteM (bnd (op2 isD (nameM 7) (ret (.val PyData.none))) boolO) (ret (.val (PyData.int 0))) (op2 ixD (op2 ixD (nameM 0) (op2 subD (op2 subD (callM lenD (consO (nameM 3) nilM)) (nameM 5)) (ret (.val (PyData.int 1))))) (nameM 7))))))) (asgM 2 (op2 ixD (op2 ixD (op2 ixD (nameM 1) (ret (.val (PyData.int 0)))) (nameM 2)) (op2 ixD (nameM 3) (nameM 5)))))) (retM (nameM 4))))
def m__law_number : List D → Option D := runP2 4 8 F__law_number
theorem d__law_number (T : Top P w base K mg) : DefQ P w K mg base 1 "_law_number" ["counts", "lab", "state", "stuffs"] m__law_number :=
  Has.pure (N := ["counts", "lab", "state", "stuffs", "found", "n", "stuff", "after"]) T.h__law_number ⟨rfl, rfl, rfl, by decide +kernel, rfl, by decide +kernel, by decide +kernel⟩ rfl rfl fun A B ok =>
    (DSs.cons (DS.set (i := 4) ok.nd rfl (by first | exact Or.inl rfl | exact Or.inr rfl) (Or.inl rfl) DO.int) (DSs.cons (DS.for_ (DI.range1 (DA.cons (DO.callB cd_len rfl T.n_len rfl (DA.cons (nm 3) DA.nil)) DA.nil) rfl T.n_range) (DG.name (i := 5) ok.nd rfl (by first | exact Or.inl rfl | exact Or.inr rfl) (by first | exact Or.inl rfl | exact Or.inr rfl)) (DSs.cons (DS.for_ (DI.range1 (DA.cons (DO.ix od_ix (nm 3) (nm 5)) DA.nil) rfl T.n_range) (DG.name (i := 6) ok.nd rfl (by first | exact Or.inl rfl | exact Or.inr rfl) (by first | exact Or.inl rfl | exact Or.inr rfl)) (DSs.cons (DS.set (i := 7) ok.nd rfl (by first | exact Or.inl rfl | exact Or.inr rfl) (Or.inl rfl) (DO.ix od_ix (DO.ix od_ix (DO.ix od_ix (nm 1) DO.int) (nm 2)) (nm 6))) (DSs.one (DS.set (i := 4) ok.nd rfl (by first | exact Or.inl rfl | exact Or.inr rfl) (Or.inl rfl) (DO.bin od_add (nm 4) (DO.ite (DT.cmp od_is (nm 7) DO.non rfl) DO.int (DO.ix od_ix (DO.ix od_ix (nm 0) (DO.bin od_sub (DO.bin od_sub (DO.callB cd_len rfl T.n_len rfl (DA.cons (nm 3) DA.nil)) (nm 5)) DO.int)) (nm 7)))))))) (DSs.one (DS.set (i := 2) ok.nd rfl (by first | exact Or.inl rfl | exact Or.inr rfl) (Or.inl rfl) (DO.ix od_ix (DO.ix od_ix (DO.ix od_ix (nm 1) DO.int) (nm 2)) (DO.ix od_ix (nm 3) (nm 5))))))) (DSs.one (DS.ret (nm 4)))))
def F__law_goes : M DrawSt Out := (seqM (asgM 4 (tupM nilM)) (seqM (loopM (rangeM (consO (nameM 3) nilM)) (setM 5) (seqM (asgM 6 (lcM [7] (rangeM (consO (callM lenD (consO (op2 ixD (op2 ixD (nameM 1) (ret (.val (PyData.int 0)))) (ret (.val (PyData.int 0)))) nilM)) nilM)) (setM 7) (bnd (op2 isNotD (op2 ixD (op2 ixD (op2 ixD (nameM 1) (ret (.val (PyData.int 0)))) (nameM 2)) (nameM 7)) (ret (.val PyData.none))) boolO) (nameM 7))) (seqM (ifM (bnd (op2 eqD (nameM 6) (lstM nilM)) boolO) (ret .bk) (ret .nx)) (seqM (asgM 7 (callD 0 m__law_of (consD (nameM 6) nilM))) (parM [4, 2] (consN (op2 addD (nameM 4) (tupM (consD (nameM 7) nilM))) (consN (op2 ixD (op2 ixD (op2 ixD (nameM 1) (ret (.val (PyData.int 0)))) (nameM 2)) (nameM 7)) nilM))))))) (retM (nameM 4))))
def m__law_goes : List D → DrawSt → Option (D × DrawSt) := runD2 4 8 F__law_goes
theorem d__law_goes (T : Top P w base K mg) : DefD P w K mg base 4 "_law_goes" ["m", "lab", "state", "length"] m__law_goes :=
  Has.draw (N := ["m", "lab", "state", "length", "found", "turn", "some", "stuff"]) T.h__law_goes ⟨rfl, rfl, rfl, by decide +kernel, rfl, by decide +kernel, by decide +kernel⟩ rfl rfl fun A B hB ok =>
    (DSs.cons (DS.set (i := 4) ok.nd rfl (by first | exact Or.inl rfl | exact Or.inr rfl) (Or.inl rfl) (DO.tup DV.nil)) (DSs.cons (DS.for_ (DI.range1 (DA.cons (nm 3) DA.nil) rfl T.n_range) (DG.name (i := 5) ok.nd rfl (by first | exact Or.inl rfl | exact Or.inr rfl) (by first | exact Or.inl rfl | exact Or.inr rfl)) (DSs.cons (DS.setLc (i := 6) (own := [("stuff", 7)]) ok.nd (fun X h => by rw [h.sc]; rfl) rfl rfl rfl (by decide +kernel) (DI.range1 (DA.cons (DO.callB cd_len rfl T.n_len rfl (DA.cons (DO.ix od_ix (DO.ix od_ix (nm 1) DO.int) DO.int) DA.nil)) DA.nil) rfl T.n_range) (blkOk_by (by dsimp only [Gam.blk]; decide +kernel)) (DG.name (i := 7) ok.blk.nd rfl (by first | exact Or.inl rfl | exact Or.inr rfl) (by first | exact Or.inl rfl | exact Or.inr rfl)) (by decide) (DTs.one (DT.cmp od_isNot (DO.ix od_ix (DO.ix od_ix (DO.ix od_ix (nm 1) DO.int) (nm 2)) (nm 7)) DO.non rfl)) (nm 7)) (DSs.cons (DS.if_ (DT.cmp (od_eq ok) (nm 6) (DO.lst DV.nil) rfl) (DSs.one DS.brk) DSs.nil) (DSs.cons (DS.set (i := 7) ok.nd rfl (by first | exact Or.inl rfl | exact Or.inr rfl) (Or.inl rfl) (DO.callD (i := 0) (d__law_of T) hB ok (by decide) (DV.cons (nm 6) DV.nil))) (DSs.one (DS.unpN (DN.cons (DO.bin od_add (nm 4) (DO.tup (DV.cons (nm 7) DV.nil))) (DN.cons (DO.ix od_ix (DO.ix od_ix (DO.ix od_ix (nm 1) DO.int) (nm 2)) (nm 7)) DN.nil)) (DNm.cons (i := 4) ok.nd rfl (by first | exact Or.inl rfl | exact Or.inr rfl) (Or.inl rfl) (DNm.cons (i := 2) ok.nd rfl (by first | exact Or.inl rfl | exact Or.inr rfl) (Or.inl rfl) DNm.nil)) (by decide) (hw := (fun X h => by unfold swappedStores Env.blockKind Env.kindOf; rw [h.sc]; rfl)))))))) (DSs.one (DS.ret (nm 4)))))
def F__law_told : ME Unit Out := (seqE (tryE prsT 6 (ifE (bnd (op2 eqD (nameM 1) (ret (.val (PyData.int 0)))) boolO) (asgE 5 (callX m_free_row_count (okE (consD (nameM 0) (consD (nameM 2) (consD (nameM 3) nilM)))))) (ifE (bnd (op2 eqD (nameM 1) (ret (.val (PyData.int 1)))) boolO) (asgE 5 (callX m_free_row_at (okE (consD (nameM 0) (consD (nameM 2) (consD (nameM 3) (consD (nameM 4) nilM))))))) (ifE (bnd (op2 eqD (nameM 1) (ret (.val (PyData.int 2)))) boolO) (asgE 5 (callX m_free_row_place (okE (consD (nameM 0) (consD (nameM 2) (consD (nameM 3) nilM)))))) (ifE (bnd (op2 eqD (nameM 1) (ret (.val (PyData.int 3)))) boolO) (asgE 5 (callX m_row_end (okE (consD (nameM 0) (consD (nameM 2) (consD (nameM 3) nilM)))))) (asgE 5 (callX m_row_stop (okE (consD (nameM 0) (consD (nameM 2) (consD (nameM 3) nilM)))))))))) [("BadState", clauseM "BadState" 5 "state" "value"), ("BadLength", clauseM "BadLength" 5 "length" "value"), ("BadNumber", clauseM "BadNumber" 5 "number" "value"), ("BadRow", clauseM "BadRow" 5 "row" "value")]) (okE (retM (nameM 5))))
def m__law_told : List D → Option (Except Exn D) := runX2 5 7 F__law_told
theorem d__law_told (T : Top P w base K mg) : DefX P w K mg base 9 "_law_told" ["lab", "kind", "state", "one", "two"] m__law_told :=
  Has.raises (N := ["lab", "kind", "state", "one", "two", "told", "e"]) T.h__law_told ⟨rfl, rfl, rfl, by decide +kernel, rfl, by decide +kernel, by decide +kernel⟩ rfl rfl fun A B ok =>
    (DSsx.cons (DSx.tryAs (n := "e") (i := 6) (prs := prsT) ok.nd rfl rfl T.prs (DSsx.one (DSx.if_ (DT.cmp (od_eq ok) (nm 1) DO.int rfl) (DSsx.one (DSx.set (i := 5) ok.nd rfl (by first | exact Or.inl rfl | exact Or.inr rfl) (Or.inl rfl) (DOx.call (d_free_row_count T) ok (by decide) rfl (DVx.of (DV.cons (nm 0) (DV.cons (nm 2) (DV.cons (nm 3) DV.nil))))))) (DSsx.one (DSx.if_ (DT.cmp (od_eq ok) (nm 1) DO.int rfl) (DSsx.one (DSx.set (i := 5) ok.nd rfl (by first | exact Or.inl rfl | exact Or.inr rfl) (Or.inl rfl) (DOx.call (d_free_row_at T) ok (by decide) rfl (DVx.of (DV.cons (nm 0) (DV.cons (nm 2) (DV.cons (nm 3) (DV.cons (nm 4) DV.nil)))))))) (DSsx.one (DSx.if_ (DT.cmp (od_eq ok) (nm 1) DO.int rfl) (DSsx.one (DSx.set (i := 5) ok.nd rfl (by first | exact Or.inl rfl | exact Or.inr rfl) (Or.inl rfl) (DOx.call (d_free_row_place T) ok (by decide) rfl (DVx.of (DV.cons (nm 0) (DV.cons (nm 2) (DV.cons (nm 3) DV.nil))))))) (DSsx.one (DSx.if_ (DT.cmp (od_eq ok) (nm 1) DO.int rfl) (DSsx.one (DSx.set (i := 5) ok.nd rfl (by first | exact Or.inl rfl | exact Or.inr rfl) (Or.inl rfl) (DOx.call (d_row_end T) ok (by decide) rfl (DVx.of (DV.cons (nm 0) (DV.cons (nm 2) (DV.cons (nm 3) DV.nil))))))) (DSsx.one (DSx.set (i := 5) ok.nd rfl (by first | exact Or.inl rfl | exact Or.inr rfl) (Or.inl rfl) (DOx.call (d_row_stop T) ok (by decide) rfl (DVx.of (DV.cons (nm 0) (DV.cons (nm 2) (DV.cons (nm 3) DV.nil))))))))))))))) (DHs.cons (j := 5) T.f_BadState_value ok.nd rfl rfl rfl (Or.inl rfl) rfl rfl rfl (DHs.cons (j := 5) T.f_BadLength_value ok.nd rfl rfl rfl (Or.inl rfl) rfl rfl rfl (DHs.cons (j := 5) T.f_BadNumber_value ok.nd rfl rfl rfl (Or.inl rfl) rfl rfl rfl (DHs.cons (j := 5) T.f_BadRow_value ok.nd rfl rfl rfl (Or.inl rfl) rfl rfl rfl DHs.nil))))) (DSsx.of (DSs.one (DS.ret (nm 5)))))
def F__law_row_right : M Unit Out := (seqM (unpM (callP m__law_stop (consD (nameM 0) (consD (nameM 2) (consD (nameM 3) nilM)))) (tupG 2 (gsCons (setM 4) (gsCons (setM 5) gsNil)))) (seqM (asgM 6 (op2 eqD (nameM 4) (callM lenD (consO (nameM 3) nilM)))) (seqM (asgM 7 (lstM (consD (iteM (bnd (nameM 6) boolO) (nameM 5) (ret (.val PyData.none))) (consD (iteM (bnd (nameM 6) boolO) (ret (.val PyData.none)) (nameM 4)) (consD (iteM (bnd (nameM 6) boolO) (callP m__law_number (consD (nameM 1) (consD (nameM 0) (consD (nameM 2) (consD (nameM 3) nilM))))) (lstM (consD (ret (.val (PyData.str "row"))) (consD (nameM 3) nilM)))) nilM))))) (seqM (asgM 8 (lstM (consD (callP (okOf m__law_told) (consD (nameM 0) (consD (ret (.val (PyData.int 3))) (consD (nameM 2) (consD (nameM 3) (consD (ret (.val (PyData.int 0))) nilM)))))) (consD (callP (okOf m__law_told) (consD (nameM 0) (consD (ret (.val (PyData.int 4))) (consD (nameM 2) (consD (nameM 3) (consD (ret (.val (PyData.int 0))) nilM)))))) (consD (callP (okOf m__law_told) (consD (nameM 0) (consD (ret (.val (PyData.int 2))) (consD (nameM 2) (consD (nameM 3) (consD (ret (.val (PyData.int 0))) nilM)))))) nilM))))) (retM (callP m__law_like (consD (nameM 8) (consD (nameM 7) nilM))))))))
def m__law_row_right : List D → Option D := runP2 4 9 F__law_row_right
theorem d__law_row_right (T : Top P w base K mg) : DefQ P w K mg base 10 "_law_row_right" ["lab", "counts", "state", "row"] m__law_row_right :=
  Has.pure (N := ["lab", "counts", "state", "row", "place", "last", "goes", "due", "told"]) T.h__law_row_right ⟨rfl, rfl, rfl, by decide +kernel, rfl, by decide +kernel, by decide +kernel⟩ rfl rfl fun A B ok =>
    (DSs.cons (DS.unp (DO.callQ (d__law_stop T) ok (by decide) (DV.cons (nm 0) (DV.cons (nm 2) (DV.cons (nm 3) DV.nil)))) (DG.tup (DGs.cons (DG.name (i := 4) ok.nd rfl (by first | exact Or.inl rfl | exact Or.inr rfl) (by first | exact Or.inl rfl | exact Or.inr rfl)) (DGs.cons (DG.name (i := 5) ok.nd rfl (by first | exact Or.inl rfl | exact Or.inr rfl) (by first | exact Or.inl rfl | exact Or.inr rfl)) DGs.nil)))) (DSs.cons (DS.set (i := 6) ok.nd rfl (by first | exact Or.inl rfl | exact Or.inr rfl) (Or.inl rfl) (DO.cmp (od_eq ok) (nm 4) (DO.callB cd_len rfl T.n_len rfl (DA.cons (nm 3) DA.nil)) rfl)) (DSs.cons (DS.set (i := 7) ok.nd rfl (by first | exact Or.inl rfl | exact Or.inr rfl) (Or.inl rfl) (DO.lst (DV.cons (DO.ite (DT.val (nm 6)) (nm 5) DO.non) (DV.cons (DO.ite (DT.val (nm 6)) DO.non (nm 4)) (DV.cons (DO.ite (DT.val (nm 6)) (DO.callQ (d__law_number T) ok (by decide) (DV.cons (nm 1) (DV.cons (nm 0) (DV.cons (nm 2) (DV.cons (nm 3) DV.nil))))) (DO.lst (DV.cons DO.str (DV.cons (nm 3) DV.nil)))) DV.nil))))) (DSs.cons (DS.set (i := 8) ok.nd rfl (by first | exact Or.inl rfl | exact Or.inr rfl) (Or.inl rfl) (DO.lst (DV.cons (DO.callQ (DefX.toQ (d__law_told T)) ok (by decide) (DV.cons (nm 0) (DV.cons DO.int (DV.cons (nm 2) (DV.cons (nm 3) (DV.cons DO.int DV.nil)))))) (DV.cons (DO.callQ (DefX.toQ (d__law_told T)) ok (by decide) (DV.cons (nm 0) (DV.cons DO.int (DV.cons (nm 2) (DV.cons (nm 3) (DV.cons DO.int DV.nil)))))) (DV.cons (DO.callQ (DefX.toQ (d__law_told T)) ok (by decide) (DV.cons (nm 0) (DV.cons DO.int (DV.cons (nm 2) (DV.cons (nm 3) (DV.cons DO.int DV.nil)))))) DV.nil))))) (DSs.one (DS.ret (DO.callQ (d__law_like T) ok (by decide) (DV.cons (nm 8) (DV.cons (nm 7) DV.nil)))))))))
def F__law_numbers_right : M DrawSt Out := (seqM (asgM 5 (op2 ixD (op2 ixD (nameM 2) (nameM 4)) (nameM 3))) (seqM (ifM (notT (bnd (callP m__law_like (consD (callP (okOf m__law_told) (consD (nameM 1) (consD (ret (.val (PyData.int 0))) (consD (nameM 3) (consD (nameM 4) (consD (ret (.val (PyData.int 0))) nilM)))))) (consD (nameM 5) nilM))) boolO)) (retM (ret (.val (PyData.bool false)))) (ret .nx)) (seqM (loopM (iterM (tupM (consD (nameM 5) (consD (negM (ret (.val (PyData.int 1)))) (consD (op2 addD (nameM 5) (callD 0 m__law_draw (consD (ret (.val (PyData.int 9))) nilM))) (consD (ret (.val PyData.none)) (consD (ret (.val (PyData.bool true))) nilM))))))) (setM 6) (ifM (notT (bnd (callP m__law_like (consD (callP (okOf m__law_told) (consD (nameM 1) (consD (ret (.val (PyData.int 1))) (consD (nameM 3) (consD (nameM 4) (consD (nameM 6) nilM)))))) (consD (lstM (consD (ret (.val (PyData.str "number"))) (consD (nameM 6) nilM))) nilM))) boolO)) (retM (ret (.val (PyData.bool false)))) (ret .nx))) (seqM (ifM (bnd (op2 eqD (nameM 5) (ret (.val (PyData.int 0)))) boolO) (retM (ret (.val (PyData.bool true)))) (ret .nx)) (seqM (asgM 7 (callD 0 m__law_draw (consD (nameM 5) nilM))) (seqM (loopM (iterM (tupM (consD (ret (.val (PyData.int 0))) (consD (op2 subD (nameM 5) (ret (.val (PyData.int 1)))) (consD (nameM 7) (consD (callM minD (consO (op2 addD (nameM 7) (ret (.val (PyData.int 1)))) (consO (op2 subD (nameM 5) (ret (.val (PyData.int 1)))) nilM))) nilM)))))) (setM 6) (seqM (asgM 8 (callP (okOf m__law_told) (consD (nameM 1) (consD (ret (.val (PyData.int 1))) (consD (nameM 3) (consD (nameM 4) (consD (nameM 6) nilM))))))) (seqM (ifM (orT (notT (bnd (isiM "tuple" (nameM 8)) boolO)) (bnd (op2 neD (callM lenD (consO (nameM 8) nilM)) (nameM 4)) boolO)) (retM (ret (.val (PyData.bool false)))) (ret .nx)) (seqM (ifM (bnd (op2 neD (lcM [9] (iterM (nameM 8)) (setM 9) (notT (bnd (callP m__law_is_int (consD (nameM 9) (consD (ret (.val (PyData.int 0))) (consD (op2 subD (callM lenD (consO (op2 ixD (op2 ixD (nameM 1) (ret (.val (PyData.int 0)))) (ret (.val (PyData.int 0)))) nilM)) (ret (.val (PyData.int 1)))) nilM)))) boolO)) (ret (.val (PyData.int 1)))) (lstM nilM)) boolO) (retM (ret (.val (PyData.bool false)))) (ret .nx)) (seqM (ifM (bnd (op2 neD (op2 ixD (callP m__law_stop (consD (nameM 1) (consD (nameM 3) (consD (nameM 8) nilM)))) (ret (.val (PyData.int 0)))) (nameM 4)) boolO) (retM (ret (.val (PyData.bool false)))) (ret .nx)) (ifM (orT (bnd (op2 neD (callP m__law_number (consD (nameM 2) (consD (nameM 1) (consD (nameM 3) (consD (nameM 8) nilM))))) (nameM 6)) boolO) (notT (bnd (callP m__law_row_right (consD (nameM 1) (consD (nameM 2) (consD (nameM 3) (consD (nameM 8) nilM))))) boolO))) (retM (ret (.val (PyData.bool false)))) (ret .nx))))))) (retM (ret (.val (PyData.bool true))))))))))
def m__law_numbers_right : List D → DrawSt → Option (D × DrawSt) := runD2 5 10 F__law_numbers_right
theorem d__law_numbers_right (T : Top P w base K mg) : DefD P w K mg base 11 "_law_numbers_right" ["m", "lab", "counts", "state", "length"] m__law_numbers_right :=
  Has.draw (N := ["m", "lab", "counts", "state", "length", "many", "number", "last", "row", "stuff"]) T.h__law_numbers_right ⟨rfl, rfl, rfl, by decide +kernel, rfl, by decide +kernel, by decide +kernel⟩ rfl rfl fun A B hB ok =>
    (DSs.cons (DS.set (i := 5) ok.nd rfl (by first | exact Or.inl rfl | exact Or.inr rfl) (Or.inl rfl) (DO.ix od_ix (DO.ix od_ix (nm 2) (nm 4)) (nm 3))) (DSs.cons (DS.if_ (DT.not (DT.val (DO.callQ (d__law_like T) ok (by decide) (DV.cons (DO.callQ (DefX.toQ (d__law_told T)) ok (by decide) (DV.cons (nm 1) (DV.cons DO.int (DV.cons (nm 3) (DV.cons (nm 4) (DV.cons DO.int DV.nil)))))) (DV.cons (nm 5) DV.nil))))) (DSs.one (DS.ret DO.bl)) DSs.nil) (DSs.cons (DS.for_ (DI.seq (DO.tup (DV.cons (nm 5) (DV.cons (DO.neg DO.int) (DV.cons (DO.bin od_add (nm 5) (DO.callD (i := 0) (d__law_draw T) hB ok (by decide) (DV.cons DO.int DV.nil))) (DV.cons DO.non (DV.cons DO.bl DV.nil))))))) (DG.name (i := 6) ok.nd rfl (by first | exact Or.inl rfl | exact Or.inr rfl) (by first | exact Or.inl rfl | exact Or.inr rfl)) (DSs.one (DS.if_ (DT.not (DT.val (DO.callQ (d__law_like T) ok (by decide) (DV.cons (DO.callQ (DefX.toQ (d__law_told T)) ok (by decide) (DV.cons (nm 1) (DV.cons DO.int (DV.cons (nm 3) (DV.cons (nm 4) (DV.cons (nm 6) DV.nil)))))) (DV.cons (DO.lst (DV.cons DO.str (DV.cons (nm 6) DV.nil))) DV.nil))))) (DSs.one (DS.ret DO.bl)) DSs.nil))) (DSs.cons (DS.if_ (DT.cmp (od_eq ok) (nm 5) DO.int rfl) (DSs.one (DS.ret DO.bl)) DSs.nil) (DSs.cons (DS.set (i := 7) ok.nd rfl (by first | exact Or.inl rfl | exact Or.inr rfl) (Or.inl rfl) (DO.callD (i := 0) (d__law_draw T) hB ok (by decide) (DV.cons (nm 5) DV.nil))) (DSs.cons (DS.for_ (DI.seq (DO.tup (DV.cons DO.int (DV.cons (DO.bin od_sub (nm 5) DO.int) (DV.cons (nm 7) (DV.cons (DO.callB cd_min rfl T.n_min rfl (DA.cons (DO.bin od_add (nm 7) DO.int) (DA.cons (DO.bin od_sub (nm 5) DO.int) DA.nil))) DV.nil)))))) (DG.name (i := 6) ok.nd rfl (by first | exact Or.inl rfl | exact Or.inr rfl) (by first | exact Or.inl rfl | exact Or.inr rfl)) (DSs.cons (DS.set (i := 8) ok.nd rfl (by first | exact Or.inl rfl | exact Or.inr rfl) (Or.inl rfl) (DO.callQ (DefX.toQ (d__law_told T)) ok (by decide) (DV.cons (nm 1) (DV.cons DO.int (DV.cons (nm 3) (DV.cons (nm 4) (DV.cons (nm 6) DV.nil))))))) (DSs.cons (DS.if_ (DW.pt (DW.or (DT.not (DT.val (DO.isi (by decide) (nm 8) rfl T.n_isinstance rfl T.n_tuple rfl))) (DW.or1 (DT.cmp (od_ne ok) (DO.callB cd_len rfl T.n_len rfl (DA.cons (nm 8) DA.nil)) (nm 4) rfl)))) (DSs.one (DS.ret DO.bl)) DSs.nil) (DSs.cons (DS.if_ (DT.cmp (od_ne ok) (DO.lc (own := [("stuff", 9)]) ok.nd (DI.seq (nm 8)) (blkOk_by (by dsimp only [Gam.blk]; decide +kernel)) (DG.name (i := 9) ok.blk.nd rfl (by first | exact Or.inl rfl | exact Or.inr rfl) (by first | exact Or.inl rfl | exact Or.inr rfl)) (by decide) (DTs.one (DT.not (DT.val (DO.callQ (d__law_is_int T) ok.blk (by decide) (DV.cons (nm 9) (DV.cons DO.int (DV.cons (DO.bin od_sub (DO.callB cd_len rfl T.n_len rfl (DA.cons (DO.ix od_ix (DO.ix od_ix (nm 1) DO.int) DO.int) DA.nil)) DO.int) DV.nil))))))) DO.int) (DO.lst DV.nil) rfl) (DSs.one (DS.ret DO.bl)) DSs.nil) (DSs.cons (DS.if_ (DT.cmp (od_ne ok) (DO.ix od_ix (DO.callQ (d__law_stop T) ok (by decide) (DV.cons (nm 1) (DV.cons (nm 3) (DV.cons (nm 8) DV.nil)))) DO.int) (nm 4) rfl) (DSs.one (DS.ret DO.bl)) DSs.nil) (DSs.one (DS.if_ (DW.pt (DW.or (DT.cmp (od_ne ok) (DO.callQ (d__law_number T) ok (by decide) (DV.cons (nm 2) (DV.cons (nm 1) (DV.cons (nm 3) (DV.cons (nm 8) DV.nil))))) (nm 6) rfl) (DW.or1 (DT.not (DT.val (DO.callQ (d__law_row_right T) ok (by decide) (DV.cons (nm 1) (DV.cons (nm 2) (DV.cons (nm 3) (DV.cons (nm 8) DV.nil)))))))))) (DSs.one (DS.ret DO.bl)) DSs.nil))))))) (DSs.one (DS.ret DO.bl))))))))
def F__law_refused : M DrawSt Out := (seqM (asgM 4 (callM lenD (consO (op2 ixD (op2 ixD (nameM 1) (ret (.val (PyData.int 0)))) (ret (.val (PyData.int 0)))) nilM))) (seqM (loopM (iterM (tupM (consD (ret (.val PyData.none)) (consD (callM listD (consO (nameM 3) nilM)) (consD (op2 addD (nameM 3) (tupM (consD (nameM 4) nilM))) (consD (op2 addD (nameM 3) (tupM (consD (negM (ret (.val (PyData.int 1)))) nilM))) (consD (op2 addD (nameM 3) (tupM (consD (ret (.val PyData.none)) nilM))) (consD (tupM (consD (ret (.val (PyData.bool true))) nilM)) (consD (tupM (consD (ret (.val (PyData.str "0"))) nilM)) (consD (ret (.val (PyData.int 3))) (consD (ret (.val (PyData.str "row"))) nilM))))))))))) (setM 5) (loopM (iterM (tupM (consD (ret (.val (PyData.int 2))) (consD (ret (.val (PyData.int 3))) (consD (ret (.val (PyData.int 4))) nilM))))) (setM 6) (ifM (notT (bnd (callP m__law_like (consD (callP (okOf m__law_told) (consD (nameM 1) (consD (nameM 6) (consD (nameM 2) (consD (nameM 5) (consD (ret (.val (PyData.int 0))) nilM)))))) (consD (lstM (consD (ret (.val (PyData.str "row"))) (consD (nameM 5) nilM))) nilM))) boolO)) (retM (ret (.val (PyData.bool false)))) (ret .nx)))) (seqM (loopM (iterM (tupM (consD (callM lenD (consO (op2 ixD (nameM 1) (ret (.val (PyData.int 0)))) nilM)) (consD (negM (ret (.val (PyData.int 1)))) (consD (ret (.val PyData.none)) (consD (ret (.val (PyData.bool true))) (consD (ret (.val (PyData.str "0"))) (consD (tupM (consD (ret (.val (PyData.int 0))) nilM)) nilM)))))))) (setM 5) (seqM (asgM 7 (lcM [6] (rangeM (consO (ret (.val (PyData.int 5))) nilM)) (setM 6) (ret true) (callP (okOf m__law_told) (consD (nameM 1) (consD (nameM 6) (consD (nameM 5) (consD (ret (.val PyData.none)) (consD (ret (.val PyData.none)) nilM)))))))) (ifM (notT (bnd (callP m__law_like (consD (nameM 7) (consD (op2 mulD (lstM (consD (lstM (consD (ret (.val (PyData.str "state"))) (consD (nameM 5) nilM))) nilM)) (ret (.val (PyData.int 5)))) nilM))) boolO)) (retM (ret (.val (PyData.bool false)))) (ret .nx)))) (seqM (loopM (iterM (tupM (consD (negM (ret (.val (PyData.int 1)))) (consD (ret (.val (PyData.int 201))) (consD (ret (.val PyData.none)) (consD (ret (.val (PyData.bool true))) (consD (ret (.val (PyData.str "5"))) (consD (op2 powD (ret (.val (PyData.int 10))) (ret (.val (PyData.int 30)))) nilM)))))))) (setM 5) (seqM (asgM 7 (lstM (consD (callP (okOf m__law_told) (consD (nameM 1) (consD (ret (.val (PyData.int 0))) (consD (nameM 2) (consD (nameM 5) (consD (ret (.val (PyData.int 0))) nilM)))))) (consD (callP (okOf m__law_told) (consD (nameM 1) (consD (ret (.val (PyData.int 1))) (consD (nameM 2) (consD (nameM 5) (consD (ret (.val PyData.none)) nilM)))))) nilM)))) (ifM (notT (bnd (callP m__law_like (consD (nameM 7) (consD (op2 mulD (lstM (consD (lstM (consD (ret (.val (PyData.str "length"))) (consD (nameM 5) nilM))) nilM)) (ret (.val (PyData.int 2)))) nilM))) boolO)) (retM (ret (.val (PyData.bool false)))) (ret .nx)))) (retM (ret (.val (PyData.bool true))))))))
def m__law_refused : List D → DrawSt → Option (D × DrawSt) := runD2 4 8 F__law_refused
theorem d__law_refused (T : Top P w base K mg) : DefD P w K mg base 10 "_law_refused" ["m", "lab", "state", "row"] m__law_refused :=
  Has.draw (N := ["m", "lab", "state", "row", "stuffs", "odd", "kind", "told"]) T.h__law_refused ⟨rfl, rfl, rfl, by decide +kernel, rfl, by decide +kernel, by decide +kernel⟩ rfl rfl fun A B hB ok =>
    (DSs.cons (DS.set (i := 4) ok.nd rfl (by first | exact Or.inl rfl | exact Or.inr rfl) (Or.inl rfl) (DO.callB cd_len rfl T.n_len rfl (DA.cons (DO.ix od_ix (DO.ix od_ix (nm 1) DO.int) DO.int) DA.nil))) (DSs.cons (DS.for_ (DI.seq (DO.tup (DV.cons DO.non (DV.cons (DO.callTy cd_list rfl T.n_list rfl (DA.cons (nm 3) DA.nil)) (DV.cons (DO.bin od_add (nm 3) (DO.tup (DV.cons (nm 4) DV.nil))) (DV.cons (DO.bin od_add (nm 3) (DO.tup (DV.cons (DO.neg DO.int) DV.nil))) (DV.cons (DO.bin od_add (nm 3) (DO.tup (DV.cons DO.non DV.nil))) (DV.cons (DO.tup (DV.cons DO.bl DV.nil)) (DV.cons (DO.tup (DV.cons DO.str DV.nil)) (DV.cons DO.int (DV.cons DO.str DV.nil))))))))))) (DG.name (i := 5) ok.nd rfl (by first | exact Or.inl rfl | exact Or.inr rfl) (by first | exact Or.inl rfl | exact Or.inr rfl)) (DSs.one (DS.for_ (DI.seq (DO.tup (DV.cons DO.int (DV.cons DO.int (DV.cons DO.int DV.nil))))) (DG.name (i := 6) ok.nd rfl (by first | exact Or.inl rfl | exact Or.inr rfl) (by first | exact Or.inl rfl | exact Or.inr rfl)) (DSs.one (DS.if_ (DT.not (DT.val (DO.callQ (d__law_like T) ok (by decide) (DV.cons (DO.callQ (DefX.toQ (d__law_told T)) ok (by decide) (DV.cons (nm 1) (DV.cons (nm 6) (DV.cons (nm 2) (DV.cons (nm 5) (DV.cons DO.int DV.nil)))))) (DV.cons (DO.lst (DV.cons DO.str (DV.cons (nm 5) DV.nil))) DV.nil))))) (DSs.one (DS.ret DO.bl)) DSs.nil))))) (DSs.cons (DS.for_ (DI.seq (DO.tup (DV.cons (DO.callB cd_len rfl T.n_len rfl (DA.cons (DO.ix od_ix (nm 1) DO.int) DA.nil)) (DV.cons (DO.neg DO.int) (DV.cons DO.non (DV.cons DO.bl (DV.cons DO.str (DV.cons (DO.tup (DV.cons DO.int DV.nil)) DV.nil)))))))) (DG.name (i := 5) ok.nd rfl (by first | exact Or.inl rfl | exact Or.inr rfl) (by first | exact Or.inl rfl | exact Or.inr rfl)) (DSs.cons (DS.setLc (i := 7) (own := [("kind", 6)]) ok.nd (fun X h => by rw [h.sc]; rfl) rfl rfl rfl (by decide +kernel) (DI.range1 (DA.cons DO.int DA.nil) rfl T.n_range) (blkOk_by (by dsimp only [Gam.blk]; decide +kernel)) (DG.name (i := 6) ok.blk.nd rfl (by first | exact Or.inl rfl | exact Or.inr rfl) (by first | exact Or.inl rfl | exact Or.inr rfl)) (by decide) DTs.nil (DO.callQ (DefX.toQ (d__law_told T)) ok.blk (by decide) (DV.cons (nm 1) (DV.cons (nm 6) (DV.cons (nm 5) (DV.cons DO.non (DV.cons DO.non DV.nil))))))) (DSs.one (DS.if_ (DT.not (DT.val (DO.callQ (d__law_like T) ok (by decide) (DV.cons (nm 7) (DV.cons (DO.bin od_mul (DO.lst (DV.cons (DO.lst (DV.cons DO.str (DV.cons (nm 5) DV.nil))) DV.nil)) DO.int) DV.nil))))) (DSs.one (DS.ret DO.bl)) DSs.nil)))) (DSs.cons (DS.for_ (DI.seq (DO.tup (DV.cons (DO.neg DO.int) (DV.cons DO.int (DV.cons DO.non (DV.cons DO.bl (DV.cons DO.str (DV.cons (DO.bin od_pow DO.int DO.int) DV.nil)))))))) (DG.name (i := 5) ok.nd rfl (by first | exact Or.inl rfl | exact Or.inr rfl) (by first | exact Or.inl rfl | exact Or.inr rfl)) (DSs.cons (DS.set (i := 7) ok.nd rfl (by first | exact Or.inl rfl | exact Or.inr rfl) (Or.inl rfl) (DO.lst (DV.cons (DO.callQ (DefX.toQ (d__law_told T)) ok (by decide) (DV.cons (nm 1) (DV.cons DO.int (DV.cons (nm 2) (DV.cons (nm 5) (DV.cons DO.int DV.nil)))))) (DV.cons (DO.callQ (DefX.toQ (d__law_told T)) ok (by decide) (DV.cons (nm 1) (DV.cons DO.int (DV.cons (nm 2) (DV.cons (nm 5) (DV.cons DO.non DV.nil)))))) DV.nil)))) (DSs.one (DS.if_ (DT.not (DT.val (DO.callQ (d__law_like T) ok (by decide) (DV.cons (nm 7) (DV.cons (DO.bin od_mul (DO.lst (DV.cons (DO.lst (DV.cons DO.str (DV.cons (nm 5) DV.nil))) DV.nil)) DO.int) DV.nil))))) (DSs.one (DS.ret DO.bl)) DSs.nil)))) (DSs.one (DS.ret DO.bl))))))
def F_law : M DrawSt Out := (seqM (loopM (rangeM (consO (ret (.val (PyData.int 2))) nilM)) (setM 2) (seqM (asgM 3 (callD 1 m__law_lab (consD (op2 addD (ret (.val (PyData.int 1))) (callD 1 m__law_draw (consD (ret (.val (PyData.int 6))) nilM))) (consD (op2 addD (ret (.val (PyData.int 1))) (callD 1 m__law_draw (consD (ret (.val (PyData.int 5))) nilM))) nilM)))) (seqM (parM [4, 5] (consN (callD 1 m__law_draw (consD (callM lenD (consO (op2 ixD (nameM 3) (ret (.val (PyData.int 0)))) nilM)) nilM)) (consN (callP m__law_counts (consD (nameM 3) (consD (ret (.val (PyData.int 201))) nilM))) nilM))) (seqM (asgM 6 (callD 1 m__law_of (consD (lstM (consD (callD 1 m__law_draw (consD (ret (.val (PyData.int 4))) nilM)) (consD (callD 1 m__law_draw (consD (ret (.val (PyData.int 40))) nilM)) (consD (ret (.val (PyData.int 200))) (consD (callD 1 m__law_draw (consD (ret (.val (PyData.int 201))) nilM)) nilM))))) nilM))) (seqM (ifM (notT (bnd (callD 1 m__law_numbers_right (consD (nameM 3) (consD (nameM 5) (consD (nameM 4) (consD (nameM 6) nilM))))) boolO)) (retM (ret (.val (PyData.bool false)))) (ret .nx)) (seqM (asgM 7 (callD 1 m__law_draw (consD (ret (.val (PyData.int 4))) nilM))) (seqM (asgM 8 (callP m__law_all_rows (consD (nameM 3) (consD (nameM 4) (consD (nameM 7) nilM))))) (seqM (asgM 9 (lcM [10] (rangeM (consO (callM lenD (consO (nameM 8) nilM)) nilM)) (setM 10) (ret true) (callP (okOf m__law_told) (consD (nameM 3) (consD (ret (.val (PyData.int 1))) (consD (nameM 4) (consD (nameM 7) (consD (nameM 10) nilM)))))))) (seqM (ifM (notT (bnd (callP m__law_like (consD (nameM 9) (consD (nameM 8) nilM))) boolO)) (retM (ret (.val (PyData.bool false)))) (ret .nx)) (seqM (asgM 11 (callD 1 m__law_goes (consD (nameM 3) (consD (nameM 4) (consD (callD 1 m__law_draw (consD (ret (.val (PyData.int 30))) nilM)) nilM))))) (seqM (asgM 12 (op2 addD (op2 addD (sliceM slD (nameM 11) (ret none) (bnd (callD 1 m__law_draw (consD (op2 addD (callM lenD (consO (nameM 11) nilM)) (ret (.val (PyData.int 1)))) nilM)) intO)) (tupM (consD (callD 1 m__law_draw (consD (callM lenD (consO (op2 ixD (op2 ixD (nameM 3) (ret (.val (PyData.int 0)))) (ret (.val (PyData.int 0)))) nilM)) nilM)) nilM))) (sliceM slD (nameM 11) (bnd (op2 fdivD (callM lenD (consO (nameM 11) nilM)) (ret (.val (PyData.int 2)))) intO) (ret none)))) (seqM (ifM (orT (notT (bnd (callP m__law_row_right (consD (nameM 3) (consD (nameM 5) (consD (nameM 4) (consD (nameM 11) nilM))))) boolO)) (notT (bnd (callP m__law_row_right (consD (nameM 3) (consD (nameM 5) (consD (nameM 4) (consD (nameM 12) nilM))))) boolO))) (retM (ret (.val (PyData.bool false)))) (ret .nx)) (ifM (notT (bnd (callD 1 m__law_refused (consD (nameM 3) (consD (nameM 4) (consD (nameM 11) nilM)))) boolO)) (retM (ret (.val (PyData.bool false)))) (ret .nx)))))))))))))) (seqM (asgM 11 (callD 1 m__law_goes (consD (nameM 3) (consD (ret (.val (PyData.int 0))) (consD (op2 addD (ret (.val (PyData.int 199))) (callD 1 m__law_draw (consD (ret (.val (PyData.int 4))) nilM))) nilM))))) (seqM (asgM 8 (iteM (bnd (op2 gtD (callM lenD (consO (nameM 11) nilM)) (ret (.val (PyData.int 200)))) boolO) (lstM (consD (ret (.val (PyData.str "row"))) (consD (nameM 11) nilM))) (callP m__law_number (consD (nameM 5) (consD (nameM 3) (consD (ret (.val (PyData.int 0))) (consD (nameM 11) nilM))))))) (seqM (unpM (callP m__law_stop (consD (nameM 3) (consD (ret (.val (PyData.int 0))) (consD (nameM 11) nilM)))) (tupG 2 (gsCons (setM 13) (gsCons (setM 14) gsNil)))) (seqM (asgM 9 (lcM [15] (iterM (lstM (consD (ret (.val (PyData.int 2))) (consD (ret (.val (PyData.int 3))) (consD (ret (.val (PyData.int 4))) nilM))))) (setM 15) (ret true) (callP (okOf m__law_told) (consD (nameM 3) (consD (nameM 15) (consD (ret (.val (PyData.int 0))) (consD (nameM 11) (consD (ret (.val (PyData.int 0))) nilM)))))))) (retM (andV (op2 eqD (nameM 13) (callM lenD (consO (nameM 11) nilM))) (callP m__law_like (consD (nameM 9) (consD (lstM (consD (nameM 8) (consD (nameM 14) (consD (ret (.val PyData.none)) nilM)))) nilM))))))))))
theorem dd_law (T : Top P w base K mg) {A : Around} {B : Bd DrawSt} (hB : ∃ pm pg pc, B.dr = drawDr pm pg pc) (ok : Gam.Ok ⟨P, w, K, mg, base, A, ["script", "m", "turn", "lab", "state", "counts", "length", "small", "due", "told", "number", "row", "bent", "place", "last", "kind"], defScope s_law, fun _ => true⟩ 11) :
    DSs ⟨P, w, K, mg, base, A, ["script", "m", "turn", "lab", "state", "counts", "length", "small", "due", "told", "number", "row", "bent", "place", "last", "kind"], defScope s_law, fun _ => true⟩ B (defBody s_law).tail F_law :=
  (DSs.cons (DS.for_ (DI.range1 (DA.cons DO.int DA.nil) rfl T.n_range) (DG.name (i := 2) ok.nd rfl (by first | exact Or.inl rfl | exact Or.inr rfl) (by first | exact Or.inl rfl | exact Or.inr rfl)) (DSs.cons (DS.set (i := 3) ok.nd rfl (by first | exact Or.inl rfl | exact Or.inr rfl) (Or.inl rfl) (DO.callD (i := 1) (d__law_lab T) hB ok (by decide) (DV.cons (DO.bin od_add DO.int (DO.callD (i := 1) (d__law_draw T) hB ok (by decide) (DV.cons DO.int DV.nil))) (DV.cons (DO.bin od_add DO.int (DO.callD (i := 1) (d__law_draw T) hB ok (by decide) (DV.cons DO.int DV.nil))) DV.nil)))) (DSs.cons (DS.unpN (DN.cons (DO.callD (i := 1) (d__law_draw T) hB ok (by decide) (DV.cons (DO.callB cd_len rfl T.n_len rfl (DA.cons (DO.ix od_ix (nm 3) DO.int) DA.nil)) DV.nil)) (DN.cons (DO.callQ (d__law_counts T) ok (by decide) (DV.cons (nm 3) (DV.cons DO.int DV.nil))) DN.nil)) (DNm.cons (i := 4) ok.nd rfl (by first | exact Or.inl rfl | exact Or.inr rfl) (Or.inl rfl) (DNm.cons (i := 5) ok.nd rfl (by first | exact Or.inl rfl | exact Or.inr rfl) (Or.inl rfl) DNm.nil)) (by decide) (hw := (fun X h => by unfold swappedStores Env.blockKind Env.kindOf; rw [h.sc]; rfl))) (DSs.cons (DS.set (i := 6) ok.nd rfl (by first | exact Or.inl rfl | exact Or.inr rfl) (Or.inl rfl) (DO.callD (i := 1) (d__law_of T) hB ok (by decide) (DV.cons (DO.lst (DV.cons (DO.callD (i := 1) (d__law_draw T) hB ok (by decide) (DV.cons DO.int DV.nil)) (DV.cons (DO.callD (i := 1) (d__law_draw T) hB ok (by decide) (DV.cons DO.int DV.nil)) (DV.cons DO.int (DV.cons (DO.callD (i := 1) (d__law_draw T) hB ok (by decide) (DV.cons DO.int DV.nil)) DV.nil))))) DV.nil))) (DSs.cons (DS.if_ (DT.not (DT.val (DO.callD (i := 1) (d__law_numbers_right T) hB ok (by decide) (DV.cons (nm 3) (DV.cons (nm 5) (DV.cons (nm 4) (DV.cons (nm 6) DV.nil))))))) (DSs.one (DS.ret DO.bl)) DSs.nil) (DSs.cons (DS.set (i := 7) ok.nd rfl (by first | exact Or.inl rfl | exact Or.inr rfl) (Or.inl rfl) (DO.callD (i := 1) (d__law_draw T) hB ok (by decide) (DV.cons DO.int DV.nil))) (DSs.cons (DS.set (i := 8) ok.nd rfl (by first | exact Or.inl rfl | exact Or.inr rfl) (Or.inl rfl) (DO.callQ (d__law_all_rows T) ok (by decide) (DV.cons (nm 3) (DV.cons (nm 4) (DV.cons (nm 7) DV.nil))))) (DSs.cons (DS.setLc (i := 9) (own := [("number", 10)]) ok.nd (fun X h => by rw [h.sc]; rfl) rfl rfl rfl (by decide +kernel) (DI.range1 (DA.cons (DO.callB cd_len rfl T.n_len rfl (DA.cons (nm 8) DA.nil)) DA.nil) rfl T.n_range) (blkOk_by (by dsimp only [Gam.blk]; decide +kernel)) (DG.name (i := 10) ok.blk.nd rfl (by first | exact Or.inl rfl | exact Or.inr rfl) (by first | exact Or.inl rfl | exact Or.inr rfl)) (by decide) DTs.nil (DO.callQ (DefX.toQ (d__law_told T)) ok.blk (by decide) (DV.cons (nm 3) (DV.cons DO.int (DV.cons (nm 4) (DV.cons (nm 7) (DV.cons (nm 10) DV.nil))))))) (DSs.cons (DS.if_ (DT.not (DT.val (DO.callQ (d__law_like T) ok (by decide) (DV.cons (nm 9) (DV.cons (nm 8) DV.nil))))) (DSs.one (DS.ret DO.bl)) DSs.nil) (DSs.cons (DS.set (i := 11) ok.nd rfl (by first | exact Or.inl rfl | exact Or.inr rfl) (Or.inl rfl) (DO.callD (i := 1) (d__law_goes T) hB ok (by decide) (DV.cons (nm 3) (DV.cons (nm 4) (DV.cons (DO.callD (i := 1) (d__law_draw T) hB ok (by decide) (DV.cons DO.int DV.nil)) DV.nil))))) (DSs.cons (DS.set (i := 12) ok.nd rfl (by first | exact Or.inl rfl | exact Or.inr rfl) (Or.inl rfl) (DO.bin od_add (DO.bin od_add (DO.slice od_sl (nm 11) DP.none (DP.some (DO.callD (i := 1) (d__law_draw T) hB ok (by decide) (DV.cons (DO.bin od_add (DO.callB cd_len rfl T.n_len rfl (DA.cons (nm 11) DA.nil)) DO.int) DV.nil)))) (DO.tup (DV.cons (DO.callD (i := 1) (d__law_draw T) hB ok (by decide) (DV.cons (DO.callB cd_len rfl T.n_len rfl (DA.cons (DO.ix od_ix (DO.ix od_ix (nm 3) DO.int) DO.int) DA.nil)) DV.nil)) DV.nil))) (DO.slice od_sl (nm 11) (DP.some (DO.bin od_fdiv (DO.callB cd_len rfl T.n_len rfl (DA.cons (nm 11) DA.nil)) DO.int)) DP.none))) (DSs.cons (DS.if_ (DW.pt (DW.or (DT.not (DT.val (DO.callQ (d__law_row_right T) ok (by decide) (DV.cons (nm 3) (DV.cons (nm 5) (DV.cons (nm 4) (DV.cons (nm 11) DV.nil))))))) (DW.or1 (DT.not (DT.val (DO.callQ (d__law_row_right T) ok (by decide) (DV.cons (nm 3) (DV.cons (nm 5) (DV.cons (nm 4) (DV.cons (nm 12) DV.nil)))))))))) (DSs.one (DS.ret DO.bl)) DSs.nil) (DSs.one (DS.if_ (DT.not (DT.val (DO.callD (i := 1) (d__law_refused T) hB ok (by decide) (DV.cons (nm 3) (DV.cons (nm 4) (DV.cons (nm 11) DV.nil)))))) (DSs.one (DS.ret DO.bl)) DSs.nil)))))))))))))) (DSs.cons (DS.set (i := 11) ok.nd rfl (by first | exact Or.inl rfl | exact Or.inr rfl) (Or.inl rfl) (DO.callD (i := 1) (d__law_goes T) hB ok (by decide) (DV.cons (nm 3) (DV.cons DO.int (DV.cons (DO.bin od_add DO.int (DO.callD (i := 1) (d__law_draw T) hB ok (by decide) (DV.cons DO.int DV.nil))) DV.nil))))) (DSs.cons (DS.set (i := 8) ok.nd rfl (by first | exact Or.inl rfl | exact Or.inr rfl) (Or.inl rfl) (DO.ite (DT.cmp od_gt (DO.callB cd_len rfl T.n_len rfl (DA.cons (nm 11) DA.nil)) DO.int rfl) (DO.lst (DV.cons DO.str (DV.cons (nm 11) DV.nil))) (DO.callQ (d__law_number T) ok (by decide) (DV.cons (nm 5) (DV.cons (nm 3) (DV.cons DO.int (DV.cons (nm 11) DV.nil))))))) (DSs.cons (DS.unp (DO.callQ (d__law_stop T) ok (by decide) (DV.cons (nm 3) (DV.cons DO.int (DV.cons (nm 11) DV.nil)))) (DG.tup (DGs.cons (DG.name (i := 13) ok.nd rfl (by first | exact Or.inl rfl | exact Or.inr rfl) (by first | exact Or.inl rfl | exact Or.inr rfl)) (DGs.cons (DG.name (i := 14) ok.nd rfl (by first | exact Or.inl rfl | exact Or.inr rfl) (by first | exact Or.inl rfl | exact Or.inr rfl)) DGs.nil)))) (DSs.cons (DS.setLc (i := 9) (own := [("kind", 15)]) ok.nd (fun X h => by rw [h.sc]; rfl) rfl rfl rfl (by decide +kernel) (DI.seq (DO.lst (DV.cons DO.int (DV.cons DO.int (DV.cons DO.int DV.nil))))) (blkOk_by (by dsimp only [Gam.blk]; decide +kernel)) (DG.name (i := 15) ok.blk.nd rfl (by first | exact Or.inl rfl | exact Or.inr rfl) (by first | exact Or.inl rfl | exact Or.inr rfl)) (by decide) DTs.nil (DO.callQ (DefX.toQ (d__law_told T)) ok.blk (by decide) (DV.cons (nm 3) (DV.cons (nm 15) (DV.cons DO.int (DV.cons (nm 11) (DV.cons DO.int DV.nil))))))) (DSs.one (DS.ret (DO.and (DO.cmp (od_eq ok) (nm 13) (DO.callB cd_len rfl T.n_len rfl (DA.cons (nm 11) DA.nil)) rfl) (DO.one (DO.callQ (d__law_like T) ok (by decide) (DV.cons (nm 9) (DV.cons (DO.lst (DV.cons (nm 8) (DV.cons (nm 14) (DV.cons DO.non DV.nil)))) DV.nil))))))))))))
theorem d_law (T : Top P w base K mg) (hT : RunsTrue 14 m__law_folded F_law) : LawQ P w K mg base 12 "law" ["script"] (spLaw K) := by
  obtain ⟨am, fm, Fm, hmm, hkm, hbm⟩ := d__law_begun (P := P) (w := w) (base := base) T
  obtain ⟨a, fd, Fn, h1, h2, h3⟩ := T.h_law
  have Sc : FnScope ["script", "m", "turn", "lab", "state", "counts", "length", "small", "due", "told", "number", "row", "bent", "place", "last", "kind"] ["script"] (defScope s_law) := ⟨rfl, rfl, rfl, by decide +kernel, rfl, by decide +kernel, by decide +kernel⟩
  refine ⟨a, fd, fnAny (k := 11) Fn Sc ?_ fun A vs H Q E hsp ok => ?_, h1, h2, h3⟩
  · rintro vs H Q E ⟨a, ns, rfl, _⟩
    rfl
  obtain ⟨a, ns, rfl, hO, hq, hlen, hQ⟩ := hsp
  obtain ⟨cells, s', e1, e2⟩ := hT ns hlen
  refine ⟨tSeq (tAsg (tCall (spB K m__law_folded) [] E0 (tCons (tVar 0) tNil)) (gName 1)) (tEx fun t => ∀ X, Gam.Has ⟨P, w, K, mg, base, A, ["script", "m", "turn", "lab", "state", "counts", "length", "small", "due", "told", "number", "row", "bent", "place", "last", "kind"], defScope s_law, fun _ => true⟩ X → PSs X (defBody s_law).tail t), fun X h => ?_, ?_⟩
  · have F' : FnG X.prog X.w X.K X.mg X.base 2 am fm ["script"] (spB X.K m__law_folded) := by rw [h.P, h.w, h.K, h.mg, h.base]; exact Fm
    have v0 : ∀ pos : Pos, PE X (.Name "script" pos) (tVar 0) := fun pos => pe_var (by rw [h.N]; rfl) (by rw [h.sc]; exact Or.inl rfl)
    have cal : ∀ {p pos p2 : Pos}, PE X (.Call (.Name "_law_begun" p) [.Name "script" p2] [] pos) (tCall (spB X.K m__law_folded) [] E0 (tCons (tVar 0) tNil)) := fun {p pos p2} =>
      pe_callG F' (by rw [h.A]; exact ok.room.mono (by decide)) (by rw [h.A]; exact ok.gd) (gl_of h (x := "_law_begun") rfl) (by rw [h.mg]; exact hmm) (by rw [h.K]; exact hkm) (by rw [h.K]; exact hbm) (pa_cons (v0 p2) pa_nil rfl) (by decide) rfl rfl
    have key : PSs X (defBody s_law) (tSeq (tAsg (tCall (spB X.K m__law_folded) [] E0 (tCons (tVar 0) tNil)) (gName 1)) (tEx fun t => ∀ X, Gam.Has ⟨P, w, K, mg, base, A, ["script", "m", "turn", "lab", "state", "counts", "length", "small", "due", "told", "number", "row", "bent", "place", "last", "kind"], defScope s_law, fun _ => true⟩ X → PSs X (defBody s_law).tail t)) :=
      pss_cons (ps_set (i := 1) (by rw [h.N]; exact ok.nd) (by rw [h.N]; rfl) (by rw [h.sc]; first | exact Or.inl rfl | exact Or.inr rfl) cal rfl (h.fn "m" rfl)) (pss_ex fun t pt => pt X h)
    rw [h.K] at key
    exact key
  · refine ⟨_, rfl, a, ns, cells, rfl, hO, hq, hlen, e1, fun pm pg pc H1 w1 at1 nr => ?_⟩
    obtain ⟨t, pt, mt⟩ := dd_law (P := P) (w := w) (base := base) T (A := A) (B := ⟨drawDr pm pg pc, H1, H⟩) ⟨pm, pg, pc, rfl⟩ ok
    exact ⟨t, pt, law_run hO hq w1 at1 nr mt e2 hQ _ rfl⟩
end
end LW
end

section
set_option Elab.async false
set_option linter.all false
set_option maxRecDepth 100000
set_option maxHeartbeats 999999
/-! WMath0: the mirrors, applied to a state: rules for simp; what a mirror comes to (Ev), its loops and comprehensions -/
namespace DL
open PySem (PyData Str)
variable {τ α β : Type} {s : Stt τ}
section
@[simp] theorem bnd_s (m : M τ α) (f : α → M τ β) : bnd m f s = (match m s with | none => none | some (a, s') => f a s') := rfl
@[simp] theorem ret_s (a : α) : ret a s = some (a, s) := rfl
@[simp] theorem stuck_s : (stuck : M τ α) s = none := rfl
@[simp] theorem lift_s1 (a : α) : lift (some a) s = some (a, s) := rfl
@[simp] theorem lift_s0 : (lift none : M τ α) s = none := rfl
@[simp] theorem getO_v (x : D) : getO (.val x) s = some (x, s) := rfl
@[simp] theorem getO_n (xs : List D) : getO (.new xs) s = some (.list xs, s) := rfl
@[simp] theorem getO_s (i : Nat) : getO (.slot i) s = (match s.env[i]? with | some (some (.d x)) => some (x, s) | some (some (.own xs)) => some (.list xs, s) | _ => none) := rfl
@[simp] theorem toD_v (x : D) : toD (.val x) s = some (x, s) := rfl
@[simp] theorem toD_n (xs : List D) : toD (.new xs) s = some (.list xs, s) := rfl
@[simp] theorem toD_s (i : Nat) : toD (.slot i) s = (match s.env[i]? with | some (some (.d x)) => some (x, s) | some (some (.own xs)) => some (.list xs, { s with env := s.env.set i (some (.d (.list xs))) }) | _ => none) := rfl
@[simp] theorem valM_s (F : M τ Opd) : valM F s = bnd F toD s := rfl
@[simp] theorem lateM_s (F : M τ Opd) : lateM F s = (match F s with | none => none | some (.new xs, s') => some (.val (.list xs), s') | some (.val x, s') => some (.val x, s') | some (.slot i, s') => some (.slot i, s')) := by
  unfold lateM bnd
  cases F s with
  | none => rfl
  | some p => obtain ⟨o, s'⟩ := p; cases o <;> rfl
@[simp] theorem nameM_s (i : Nat) : nameM i s = (match s.env[i]? with | some (some (.d _)) => some (.slot i, s) | some (some (.own _)) => some (.slot i, s) | _ => none) := rfl
@[simp] theorem op2_s (op : D → D → Option Opd) (Fa Fb : M τ Opd) : op2 op Fa Fb s = bnd (lateM Fa) (fun o1 => bnd Fb fun o2 => bnd (getO o1) fun x => bnd (getO o2) fun y => lift (op x y)) s := rfl
@[simp] theorem boolO_s (o : Opd) : boolO o s = (match getO o s with | some (.bool b, s') => some (b, s') | _ => none) := by
  unfold boolO bnd
  cases getO o s with
  | none => rfl
  | some p => obtain ⟨x, s'⟩ := p; cases x <;> rfl
@[simp] theorem chainM_s (f f' : D → D → Option Opd) (Fa Fb Fc : M τ Opd) : chainM f f' Fa Fb Fc s = bnd (lateM Fa) (fun o1 => bnd (lateM Fb) fun o2 => bnd (getO o1) fun x => bnd (getO o2) fun y => bnd (lift (f x y)) fun o => bnd (boolO o) fun k =>
  if k then bnd Fc fun o3 => bnd (getO o2) fun y => bnd (getO o3) fun z => lift (f' y z) else ret (.val (.bool false))) s := rfl
@[simp] theorem andT_s (F G : M τ Bool) : andT F G s = (match F s with | none => none | some (k, s') => if k then G s' else some (false, s')) := by
  unfold andT bnd
  cases F s with
  | none => rfl
  | some p => obtain ⟨k, s'⟩ := p; cases k <;> rfl
@[simp] theorem orT_s (F G : M τ Bool) : orT F G s = (match F s with | none => none | some (k, s') => if k then some (true, s') else G s') := by
  unfold orT bnd
  cases F s with
  | none => rfl
  | some p => obtain ⟨k, s'⟩ := p; cases k <;> rfl
@[simp] theorem notT_s (F : M τ Bool) : notT F s = (match F s with | none => none | some (k, s') => some (!k, s')) := by
  unfold notT bnd
  cases F s with
  | none => rfl
  | some p => rfl
@[simp] theorem andV_s (F G : M τ Opd) : andV F G s = (match bnd F boolO s with | none => none | some (k, s') => if k then G s' else some (.val (.bool false), s')) := by
  show bnd (bnd F boolO) _ s = _
  generalize bnd F boolO = W
  unfold bnd
  cases W s with
  | none => rfl
  | some p => obtain ⟨k, s'⟩ := p; cases k <;> rfl
@[simp] theorem orV_s (F G : M τ Opd) : orV F G s = (match bnd F boolO s with | none => none | some (k, s') => if k then some (.val (.bool true), s') else G s') := by
  show bnd (bnd F boolO) _ s = _
  generalize bnd F boolO = W
  unfold bnd
  cases W s with
  | none => rfl
  | some p => obtain ⟨k, s'⟩ := p; cases k <;> rfl
@[simp] theorem notV_s (F : M τ Opd) : notV F s = (match bnd F boolO s with | none => none | some (k, s') => some (.val (.bool (!k)), s')) := by
  show bnd (bnd F boolO) _ s = _
  generalize bnd F boolO = W
  unfold bnd
  cases W s with
  | none => rfl
  | some p => rfl
@[simp] theorem iteM_s (T : M τ Bool) (F G : M τ Opd) : iteM T F G s = (match T s with | none => none | some (k, s') => if k then F s' else G s') := by
  unfold iteM bnd
  cases T s with
  | none => rfl
  | some p => obtain ⟨k, s'⟩ := p; cases k <;> rfl
@[simp] theorem nilM_s : (nilM : M τ (List α)) s = some ([], s) := rfl
@[simp] theorem consO_s (F : M τ Opd) (G : M τ (List Opd)) : consO F G s = bnd (lateM F) (fun o => bnd G fun os => ret (o :: os)) s := rfl
@[simp] theorem consN_s (F : M τ Opd) (G : M τ (List Opd)) : consN F G s = bnd F (fun o => bnd G fun os => ret (o :: os)) s := rfl
@[simp] theorem consD_s (F : M τ Opd) (G : M τ (List D)) : consD F G s = bnd (valM F) (fun o => bnd G fun os => ret (o :: os)) s := rfl
@[simp] theorem consB_s (F : M τ Opd) (G : M τ (List (Option D))) : consB F G s = bnd (valM F) (fun d => bnd G fun ds => ret (some d :: ds)) s := rfl
@[simp] theorem consHd_s (i : Nat) (G : M τ (List (Option D))) : consHd i G s = bnd (hAt i) (fun _ => bnd G fun ds => ret (none :: ds)) s := rfl
@[simp] theorem hAt_s (i : Nat) : (hAt i : M τ Unit) s = (match s.env[i]? with | some (some .h) => some ((), s) | _ => none) := rfl
@[simp] theorem tupM_s (G : M τ (List D)) : tupM G s = (match G s with | none => none | some (ds, s') => if decide (ds.length ≤ 16777216) then some (.val (.tuple ds), s') else none) := by
  unfold tupM bnd fitsL
  rw [PySem.sizeLine_eq]
  cases G s with
  | none => rfl
  | some p =>
    obtain ⟨k, s'⟩ := p
    dsimp only
    split <;> rfl
@[simp] theorem lstM_s (G : M τ (List D)) : lstM G s = (match G s with | none => none | some (ds, s') => if decide (ds.length ≤ 16777216) then some (.new ds, s') else none) := by
  unfold lstM bnd fitsL
  rw [PySem.sizeLine_eq]
  cases G s with
  | none => rfl
  | some p =>
    obtain ⟨k, s'⟩ := p
    dsimp only
    split <;> rfl
@[simp] theorem intO_s (o : Opd) : intO o s = (match getO o s with | some (.int i, s') => some (some i, s') | _ => none) := by
  unfold intO bnd
  cases getO o s with
  | none => rfl
  | some p => obtain ⟨x, s'⟩ := p; cases x <;> rfl
@[simp] theorem numO_s (o : Opd) : numO o s = (match getO o s with | some (.int i, s') => some (i, s') | _ => none) := by
  unfold numO bnd
  cases getO o s with
  | none => rfl
  | some p => obtain ⟨x, s'⟩ := p; cases x <;> rfl
@[simp] theorem sliceM_s (f : D → Option Int → Option Int → Option Opd) (F : M τ Opd) (L U : M τ (Option Int)) : sliceM f F L U s = bnd (lateM F) (fun o => bnd L fun l => bnd U fun u => bnd (getO o) fun x => lift (f x l u)) s := rfl
@[simp] theorem getL_nil : (getL [] : M τ (List D)) s = some ([], s) := rfl
@[simp] theorem getL_cons (o : Opd) (os : List Opd) : getL (o :: os) s = bnd (getO o) (fun x => bnd (getL os) fun xs => ret (x :: xs)) s := rfl
@[simp] theorem callM_s (f : List D → Option Opd) (G : M τ (List Opd)) : callM f G s = bnd G (fun os => bnd (getL os) fun xs => lift (f xs)) s := rfl
@[simp] theorem callP_s (f : List D → Option D) (G : M τ (List D)) : callP f G s = (match G s with | none => none | some (ds, s') => match f ds with | none => none | some d => some (.val d, s')) := by
  unfold callP bnd lift
  cases G s with
  | none => rfl
  | some p =>
    obtain ⟨k, s'⟩ := p
    dsimp only
    cases f k <;> rfl
@[simp] theorem callN_s (f : List D → Option (List D)) (G : M τ (List D)) : callN f G s = (match G s with | none => none | some (ds, s') => match f ds with | none => none | some d => some (.new d, s')) := by
  unfold callN bnd lift
  cases G s with
  | none => rfl
  | some p =>
    obtain ⟨k, s'⟩ := p
    dsimp only
    cases f k <;> rfl
@[simp] theorem isiM_s (T : String) (F : M τ Opd) : isiM T F s = bnd F (fun o => bnd (getO o) fun x => ret (.val (.bool (isiB (tyD x) T)))) s := rfl
@[simp] theorem seqO_l (xs : List D) : seqO (.list xs) s = some (xs, s) := rfl
@[simp] theorem seqO_t (xs : List D) : seqO (.tuple xs) s = some (xs, s) := rfl
@[simp] theorem iterM_s (F : M τ Opd) : iterM F s = bnd (valM F) seqO s := rfl
@[simp] theorem enumM_s (F : M τ Opd) : enumM F s = bnd (iterM F) (fun xs => ret (enumL 0 xs)) s := rfl
@[simp] theorem intsM_s (G : M τ (List Opd)) : intsM G s = bnd G (fun os => getL os) s := rfl
@[simp] theorem rangeM_s (G : M τ (List Opd)) : rangeM G s = (match bnd (intsM G) (fun ds => lift (rng2 ds)) s with | none => none | some (ab, s') => if rgOk ab.1 ab.2 then some (rgD ab.1 ab.2, s') else none) := by
  unfold rangeM bnd
  cases intsM G s with
  | none => rfl
  | some p =>
    obtain ⟨k, s'⟩ := p
    dsimp only
    cases lift (rng2 k) s' with
    | none => rfl
    | some q =>
      obtain ⟨ab, s2⟩ := q
      dsimp only
      split <;> rfl
@[simp] theorem listRgM_s (G : M τ (List Opd)) : listRgM G s = (match bnd (intsM G) (fun ds => lift (rng2 ds)) s with | none => none | some (ab, s') => if rgOk ab.1 ab.2 then some (.new (rgD ab.1 ab.2), s') else none) := by
  unfold listRgM bnd
  cases intsM G s with
  | none => rfl
  | some p =>
    obtain ⟨k, s'⟩ := p
    dsimp only
    cases lift (rng2 k) s' with
    | none => rfl
    | some q =>
      obtain ⟨ab, s2⟩ := q
      dsimp only
      split <;> rfl
@[simp] theorem rngAt_s (i : Nat) : (rngAt i : M τ (List D)) s = (match s.env[i]? with | some (some (.r lo hi)) => if rgOk lo hi then some (rgD lo hi, s) else none | _ => none) := rfl
@[simp] theorem setM_s (i : Nat) (d : D) : setM i d s = some ((), { s with env := s.env.set i (some (.d d)) }) := rfl
@[simp] theorem gsNil_s : (gsNil [] : M τ Unit) s = some ((), s) := rfl
@[simp] theorem gsCons_s (G : D → M τ Unit) (Gs : List D → M τ Unit) (d : D) (ds : List D) : gsCons G Gs (d :: ds) s = bnd (G d) (fun _ => Gs ds) s := rfl
@[simp] theorem tupG_s (n : Nat) (Gs : List D → M τ Unit) (ds : List D) : tupG n Gs (.tuple ds) s = (if ds.length = n then Gs ds s else none) := by
  unfold tupG
  dsimp only
  split <;> rfl
@[simp] theorem dropM_s (F : M τ Opd) : dropM F s = bnd F (fun _ => ret .nx) s := rfl
@[simp] theorem retM_s (F : M τ Opd) : retM F s = bnd (valM F) (fun d => ret (.rt d)) s := rfl
@[simp] theorem ifM_s (T : M τ Bool) (F G : M τ Out) : ifM T F G s = (match T s with | none => none | some (k, s') => if k then F s' else G s') := by
  unfold ifM bnd
  cases T s with
  | none => rfl
  | some p => obtain ⟨k, s'⟩ := p; cases k <;> rfl
@[simp] theorem putM_n (i : Nat) (xs : List D) : putM i (.new xs) s = some ((), { s with env := s.env.set i (some (.own xs)) }) := rfl
@[simp] theorem putM_v (i : Nat) (d : D) : putM i (.val d) s = some ((), { s with env := s.env.set i (some (.d d)) }) := rfl
@[simp] theorem putM_s (i j : Nat) : putM i (.slot j) s = bnd (toD (.slot j)) (setM i) s := rfl
@[simp] theorem asgM_s (i : Nat) (F : M τ Opd) : asgM i F s = bnd F (fun o => bnd (putM i o) fun _ => ret .nx) s := rfl
@[simp] theorem retF_s (F : M τ Opd) : retF F s = (match F s with | some (.new xs, s') => some (.rn xs, s') | some (.slot i, s') => (match s'.env[i]? with | some (some (.own xs)) => some (.rn xs, s') | _ => none) | _ => none) := by
  unfold retF bnd
  cases F s with
  | none => rfl
  | some p => obtain ⟨x, s'⟩ := p; cases x <;> rfl
@[simp] theorem unpM_s (F : M τ Opd) (G : D → M τ Unit) : unpM F G s = bnd (valM F) (fun d => bnd (G d) fun _ => ret .nx) s := rfl
@[simp] theorem augM_s (i : Nat) (f : D → D → Option Opd) (F : M τ Opd) : augM i f F s = (match s.env[i]? with | some (some (.d x)) => (bnd F fun o => bnd (getO o) fun y => bnd (lift (f x y)) fun r => bnd (putM i r) fun _ => ret .nx) s | _ => none) := rfl
@[simp] theorem appM_s (i : Nat) (F : M τ Opd) : appM i F s = (match valM F s with | none => none | some (d, s') => (match s'.env[i]? with | some (some (.own xs)) => if xs.length < 16777216 then some (.nx, { s' with env := s'.env.set i (some (.own (xs ++ [d]))) }) else none | _ => none)) := by
  rw [← PySem.sizeLine_eq]
  unfold appM bnd
  cases valM F s with
  | none => rfl
  | some p => rfl
@[simp] theorem ownAt_s (i : Nat) : (ownAt i : M τ Unit) s = (match s.env[i]? with | some (some (.own _)) => some ((), s) | _ => none) := rfl
@[simp] theorem popM_s (i : Nat) (F : M τ Opd) : popM i F s = bnd (ownAt i) (fun _ => bnd F fun o => bnd (getO o) fun y => popIx i y) s := rfl
@[simp] theorem fixM_nil : (fixM [] : M τ (List Opd)) s = some ([], s) := rfl
@[simp] theorem fixM_slot (i : Nat) (os : List Opd) : fixM (.slot i :: os) s = bnd (toD (.slot i)) (fun d => bnd (fixM os) fun os' => ret (.val d :: os')) s := by
  show bnd (bnd (toD (.slot i)) fun d => ret (.val d)) (fun o' => bnd (fixM os) fun os' => ret (o' :: os')) s = _
  unfold bnd
  cases toD (.slot i) s with
  | none => rfl
  | some p => rfl
@[simp] theorem fixM_val (x : D) (os : List Opd) : fixM (.val x :: os) s = bnd (fixM os) (fun os' => ret (.val x :: os')) s := rfl
@[simp] theorem fixM_new (x : List D) (os : List Opd) : fixM (.new x :: os) s = bnd (fixM os) (fun os' => ret (.new x :: os')) s := rfl
@[simp] theorem setsM_nil : (setsM [] [] : M τ Unit) s = some ((), s) := rfl
@[simp] theorem setsM_cons (i : Nat) (is : List Nat) (o : Opd) (os : List Opd) : setsM (i :: is) (o :: os) s = bnd (putM i o) (fun _ => setsM is os) s := rfl
@[simp] theorem parM_s (is : List Nat) (G : M τ (List Opd)) : parM is G s = bnd G (fun os => bnd (fixM os) fun os' => bnd (setsM is os') fun _ => ret .nx) s := rfl
@[simp] theorem negM_s (F : M τ Opd) : negM F s = (match bnd F getO s with | some (.int i, s') => some (.val (.int (-i)), s') | _ => none) := by
  show bnd F (fun o => bnd (getO o) fun x => match x with | .int i => ret (Opd.val (.int (-i))) | _ => stuck) s = _
  unfold bnd
  cases F s with
  | none => rfl
  | some p =>
    obtain ⟨o, s'⟩ := p
    dsimp only
    cases getO o s' with
    | none => rfl
    | some q => obtain ⟨x, s2⟩ := q; cases x <;> rfl
@[simp] theorem seqM_s (F G : M τ Out) : seqM F G s = (match F s with | none => none | some (.nx, s') => G s' | some (.bk, s') => some (.bk, s') | some (.ct, s') => some (.ct, s') | some (.rt d, s') => some (.rt d, s') | some (.rn d, s') => some (.rn d, s')) := by
  unfold seqM bnd
  cases F s with
  | none => rfl
  | some p => obtain ⟨o, s'⟩ := p; cases o <;> rfl
@[simp] theorem extM_s (i : Nat) (F : M τ Opd) : extM i F s = (match lateM F s with | none => none | some (o, s1) => (match getO o s1 with | some (.list ys, s') => (match s'.env[i]? with | some (some (.own xs)) => if xs.length + ys.length ≤ 16777216 then some (.nx, { s' with env := s'.env.set i (some (.own (xs ++ ys))) }) else none | _ => none) | _ => none)) := by
  rw [← PySem.sizeLine_eq]
  unfold extM bnd
  cases lateM F s with
  | none => rfl
  | some p =>
    obtain ⟨o, s1⟩ := p
    dsimp only
    cases getO o s1 with
    | none => rfl
    | some q =>
      obtain ⟨y, s2⟩ := q
      dsimp only
      cases he : s2.env[i]? with
      | none => cases y <;> first | rfl | (dsimp only; rw [he])
      | some z =>
        cases z with
        | none => cases y <;> first | rfl | (dsimp only; rw [he])
        | some z => cases z <;> cases y <;> first | rfl | (dsimp only; rw [he])
end
section
variable {s : Stt TabS}
@[simp] theorem callT_s (f : List D → Option D) (G : M TabS (List (Option D))) : callT f G s = (match G s with | none => none | some (os, s') => (match f (os.map fun o => o.getD (tabD s'.dr)) with | some d => if nolst d then some (.val d, s') else none | none => none)) := by
  unfold callT bnd
  cases G s with
  | none => rfl
  | some p => rfl
@[simp] theorem rowAt_s (a : Int) : rowAt a s = (match L2.atI s.dr a with | some _ => some ((), s) | none => none) := rfl
@[simp] theorem tabGet_s (a b : Int) : tabGet a b s = (match (L2.atI s.dr a).bind fun row => L2.atI row b with | some d => some (.val d, s) | none => none) := rfl
@[simp] theorem tabIx_s (i : Nat) (Fa Fb : M TabS Opd) : tabIx i Fa Fb s = bnd (hAt i) (fun _ => bnd Fa fun oa => bnd (numO oa) fun a => bnd (rowAt a) fun _ => bnd Fb fun ob => bnd (numO ob) fun b => tabGet a b) s := rfl
@[simp] theorem tabSet_s (i : Nat) (F Fa Fb : M TabS Opd) : tabSet i F Fa Fb s = bnd (valM F) (fun d => bnd (hAt i) fun _ => bnd Fa fun oa => bnd (numO oa) fun a => bnd (rowAt a) fun _ => bnd Fb fun ob => bnd (numO ob) fun b => tabPut d a b) s := rfl
@[simp] theorem setRgM_s {τ : Type} {s : Stt τ} (i : Nat) (F : M τ Opd) : setRgM i F s = bnd F (fun o => bnd (numO o) fun n => fun s => some (.nx, { s with env := s.env.set i (some (.r 0 n)) })) s := rfl
end
end DL
end

section
set_option Elab.async false
set_option linter.all false
set_option maxRecDepth 100000
set_option maxHeartbeats 999999
/-! WMath1: operators on data; what a mirror comes to (Ev): blocks, loops, comprehensions -/
namespace DL
open PySem (PyData Str)
variable {τ α β : Type}
/-! ### plain data -/
def pd : Nat → D → Bool
  | _, .none => true
  | _, .bool _ => true
  | _, .int _ => true
  | _, .str x => PyData.strOk x
  | n + 1, .list xs => xs.all (pd n)
  | n + 1, .tuple xs => xs.all (pd n)
  | _, _ => false
theorem canAll : ∀ xs : List D, (∀ x ∈ xs, PyData.canLay0 x = true) → PyData.canLayAll0 xs = true
  | [], _ => by simp [PyData.canLayAll0]
  | x :: xs, h => by
    unfold PyData.canLayAll0
    rw [h x List.mem_cons_self, canAll xs fun y m => h y (List.mem_cons_of_mem _ m)]
    rfl
theorem depthAll_le {n : Nat} : ∀ xs : List D, (∀ x ∈ xs, PyData.depth x ≤ n) → PyData.depthAll xs ≤ n
  | [], _ => by simp [PyData.depthAll]
  | x :: xs, h => by
    unfold PyData.depthAll
    exact Nat.max_le.mpr ⟨h x List.mem_cons_self, depthAll_le xs fun y m => h y (List.mem_cons_of_mem _ m)⟩
theorem pd_can : ∀ (n : Nat) (d : D), pd n d = true → PyData.canLay0 d = true ∧ PyData.depth d ≤ n
  | n, .none, _ => ⟨rfl, by simp [PyData.depth]⟩
  | n, .bool _, _ => ⟨rfl, by simp [PyData.depth]⟩
  | n, .int _, _ => ⟨rfl, by simp [PyData.depth]⟩
  | 0, .list xs, h => by simp [pd] at h
  | 0, .tuple xs, h => by simp [pd] at h
  | n + 1, .list xs, h => by
    have h' : ∀ x ∈ xs, pd n x = true := by simpa [pd] using h
    refine ⟨?_, ?_⟩
    · unfold PyData.canLay0
      exact canAll xs fun x m => (pd_can n x (h' x m)).1
    · unfold PyData.depth
      have := depthAll_le (n := n) xs fun x m => (pd_can n x (h' x m)).2
      omega
  | n + 1, .tuple xs, h => by
    have h' : ∀ x ∈ xs, pd n x = true := by simpa [pd] using h
    refine ⟨?_, ?_⟩
    · unfold PyData.canLay0
      exact canAll xs fun x m => (pd_can n x (h' x m)).1
    · unfold PyData.depth
      have := depthAll_le (n := n) xs fun x m => (pd_can n x (h' x m)).2
      omega
  | n, .str x, h => by
    have h' : PyData.strOk x = true := by simpa [pd] using h
    exact ⟨h', by simp [PyData.depth]⟩
  | 0, .dict _, h => by simp [pd] at h
  | n + 1, .dict _, h => by simp [pd] at h
theorem shaped_pd {n : Nat} {d : D} (h : pd n d = true) (hn : n ≤ 64 := by decide) : PySem.SeqAt.shaped d = true := by
  obtain ⟨h1, h2⟩ := pd_can n d h
  unfold PySem.SeqAt.shaped
  rw [h1, decide_eq_true (Nat.le_trans h2 hn)]
  rfl
/-! ### operators -/
@[simp] theorem addD_i (i j : Int) : addD (.int i) (.int j) = some (.val (.int (i + j))) := rfl
@[simp] theorem addD_t (xs ys : List D) : addD (.tuple xs) (.tuple ys) = if xs.length + ys.length ≤ 16777216 then some (.val (.tuple (xs ++ ys))) else none := by
  rw [← PySem.sizeLine_eq]
  show orO catT (orO catL catS) _ _ = _
  unfold orO catT
  dsimp only
  split <;> rename_i h
  · split at h
    · rename_i hz; rw [if_pos hz]; exact h.symm
    · cases h
  · split at h
    · cases h
    · rename_i hz; rw [if_neg hz]; rfl
@[simp] theorem addD_l (xs ys : List D) : addD (.list xs) (.list ys) = if xs.length + ys.length ≤ 16777216 then some (.new (xs ++ ys)) else none := by
  rw [← PySem.sizeLine_eq]
  show orO catL catS _ _ = _
  unfold orO catL
  dsimp only
  split <;> rename_i h
  · split at h
    · rename_i hz; rw [if_pos hz]; exact h.symm
    · cases h
  · split at h
    · cases h
    · rename_i hz; rw [if_neg hz]; rfl
@[simp] theorem subD_i (i j : Int) : subD (.int i) (.int j) = some (.val (.int (i - j))) := rfl
@[simp] theorem ltD_i (i j : Int) : ltD (.int i) (.int j) = some (.val (.bool (decide (i < j)))) := rfl
@[simp] theorem leD_i (i j : Int) : leD (.int i) (.int j) = some (.val (.bool (decide (i ≤ j)))) := rfl
@[simp] theorem gtD_i (i j : Int) : gtD (.int i) (.int j) = some (.val (.bool (decide (j < i)))) := rfl
@[simp] theorem geD_i (i j : Int) : geD (.int i) (.int j) = some (.val (.bool (decide (j ≤ i)))) := rfl
@[simp] theorem mulD_i (i j : Int) : mulD (.int i) (.int j) = if mulOk i j then some (.val (.int (i * j))) else none := by
  show orO (opI mulOk fun i j => .int (i * j)) (orO repT (orO rep1 repL)) _ _ = _
  unfold orO opI
  dsimp only
  split <;> rename_i h
  · split at h
    · rename_i hz; rw [if_pos hz]; exact h.symm
    · cases h
  · split at h
    · cases h
    · rename_i hz; rw [if_neg hz]; rfl
theorem log2_lt {n k : Nat} (hk : 0 < k) (h : n < 2 ^ k) : n.log2 < k := by
  by_cases h0 : n = 0
  · subst h0; show Nat.log2 0 < k; rw [show Nat.log2 0 = 0 from rfl]; exact hk
  · exact (Nat.log2_lt h0).mpr h
theorem mulOk_small {i j : Int} (hi : i.natAbs < 2 ^ 64) (hj : j.natAbs < 2 ^ 64) : mulOk i j = true := by
  have h1 := log2_lt (by decide) hi
  have h2 := log2_lt (by decide) hj
  exact decide_eq_true (by omega)
@[simp] theorem isD_n (x : D) : isD x .none = some (.val (.bool (isNoneB x))) := rfl
@[simp] theorem isNotD_n (x : D) : isNotD x .none = some (.val (.bool (!isNoneB x))) := rfl
@[simp] theorem isNoneB_n : isNoneB .none = true := rfl
@[simp] theorem isNoneB_b (b : Bool) : isNoneB (.bool b) = false := rfl
@[simp] theorem isNoneB_i (b : Int) : isNoneB (.int b) = false := rfl
@[simp] theorem isNoneB_t (b : List D) : isNoneB (.tuple b) = false := rfl
@[simp] theorem isNoneB_l (b : List D) : isNoneB (.list b) = false := rfl
@[simp] theorem isNoneB_s (b : Str) : isNoneB (.str b) = false := rfl
@[simp] theorem lenD_l (xs : List D) : lenD [.list xs] = some (.val (.int (xs.length : Nat))) := rfl
@[simp] theorem lenD_t (xs : List D) : lenD [.tuple xs] = some (.val (.int (xs.length : Nat))) := rfl
@[simp] theorem tupleD_l (xs : List D) : tupleD [.list xs] = some (.val (.tuple xs)) := rfl
@[simp] theorem tupleD_t (xs : List D) : tupleD [.tuple xs] = some (.val (.tuple xs)) := rfl
@[simp] theorem listD_l (xs : List D) : listD [.list xs] = some (.new xs) := rfl
@[simp] theorem listD_t (xs : List D) : listD [.tuple xs] = some (.new xs) := rfl
@[simp] theorem intD_i (i : Int) : intD [.int i] = some (.val (.int i)) := rfl
@[simp] theorem minD_i (i j : Int) : minD [.int i, .int j] = some (.val (.int (if j < i then j else i))) := rfl
@[simp] theorem maxD_i (i j : Int) : maxD [.int i, .int j] = some (.val (.int (if j > i then j else i))) := rfl
@[simp] theorem ixD_l (xs : List D) (i : Int) : ixD (.list xs) (.int i) = (L2.atI xs i).map .val := rfl
@[simp] theorem ixD_t (xs : List D) (i : Int) : ixD (.tuple xs) (.int i) = (L2.atI xs i).map .val := rfl
theorem ixN_nat {n i : Nat} : L2.ixN n (i : Int) = if i < n then some i else none := by
  unfold L2.ixN
  rw [if_pos (by omega)]
  by_cases h : i < n
  · rw [if_pos (by omega), if_pos h]
    rfl
  · rw [if_neg (by omega), if_neg h]
@[simp] theorem atI_nat {γ : Type} (xs : List γ) (i : Nat) : L2.atI xs (i : Int) = xs[i]? := by
  unfold L2.atI
  rw [ixN_nat]
  by_cases h : i < xs.length
  · rw [if_pos h]; rfl
  · rw [if_neg h, List.getElem?_eq_none (by omega)]; rfl
@[simp] theorem atI_0 {γ : Type} (xs : List γ) : L2.atI xs 0 = xs[0]? := atI_nat xs 0
@[simp] theorem atI_1 {γ : Type} (xs : List γ) : L2.atI xs 1 = xs[1]? := atI_nat xs 1
@[simp] theorem atI_2 {γ : Type} (xs : List γ) : L2.atI xs 2 = xs[2]? := atI_nat xs 2
@[simp] theorem atI_3 {γ : Type} (xs : List γ) : L2.atI xs 3 = xs[3]? := atI_nat xs 3
@[simp] theorem atI_4 {γ : Type} (xs : List γ) : L2.atI xs 4 = xs[4]? := atI_nat xs 4
theorem atI_toNat {γ : Type} (xs : List γ) (i : Int) (h : 0 ≤ i) : L2.atI xs i = xs[i.toNat]? := by
  rw [← atI_nat, Int.toNat_of_nonneg h]
theorem eqD_sh {x y : D} (hx : PySem.SeqAt.shaped x = true) (hy : PySem.SeqAt.shaped y = true) : eqD x y = some (.val (.bool (PyData.eqv x y))) := by
  unfold eqD
  rw [hx, hy]
  rfl
theorem neD_sh {x y : D} (hx : PySem.SeqAt.shaped x = true) (hy : PySem.SeqAt.shaped y = true) : neD x y = some (.val (.bool (!PyData.eqv x y))) := by
  unfold neD
  rw [hx, hy]
  rfl
@[simp] theorem eqD_i (i j : Int) : eqD (.int i) (.int j) = some (.val (.bool (decide (i = j)))) := by
  rw [eqD_sh (shaped_pd (n := 0) rfl) (shaped_pd (n := 0) rfl)]
  simp only [PyData.eqv]
  rfl
@[simp] theorem neD_i (i j : Int) : neD (.int i) (.int j) = some (.val (.bool (!decide (i = j)))) := by
  rw [neD_sh (shaped_pd (n := 0) rfl) (shaped_pd (n := 0) rfl)]
  simp only [PyData.eqv]
  rfl
theorem eqD_nil {xs : List D} (h : PySem.SeqAt.shaped (.list xs) = true) : eqD (.list xs) (.list []) = some (.val (.bool xs.isEmpty)) := by
  rw [eqD_sh h (shaped_pd (n := 1) rfl)]
  cases xs <;> rfl
theorem neD_nil {xs : List D} (h : PySem.SeqAt.shaped (.list xs) = true) : neD (.list xs) (.list []) = some (.val (.bool (!xs.isEmpty))) := by
  rw [neD_sh h (shaped_pd (n := 1) rfl)]
  cases xs <;> rfl
@[simp] theorem ty_t (xs : List D) : tyD (.tuple xs) = "tuple" := rfl
@[simp] theorem ty_l (xs : List D) : tyD (.list xs) = "list" := rfl
@[simp] theorem ty_i (i : Int) : tyD (.int i) = "int" := rfl
@[simp] theorem ty_b (i : Bool) : tyD (.bool i) = "bool" := rfl
@[simp] theorem ty_n : tyD .none = "NoneType" := rfl
@[simp] theorem isiB_tt : isiB "tuple" "tuple" = true := by decide
@[simp] theorem isiB_ii : isiB "int" "int" = true := by decide
@[simp] theorem isiB_ib : isiB "int" "bool" = false := by decide
@[simp] theorem isiB_lt : isiB "list" "tuple" = false := by decide
@[simp] theorem rng2_1 (n : Int) : rng2 [.int n] = some (0, n) := rfl
@[simp] theorem rng2_2 (a b : Int) : rng2 [.int a, .int b] = some (a, b) := rfl
def rgN (n : Nat) : List D := (List.range n).map fun i => .int (i : Nat)
theorem rgD_nat (n : Nat) : rgD 0 (n : Int) = rgN n := by
  unfold rgD rgN
  rw [Int.sub_zero, Int.toNat_natCast]
  exact List.map_congr_left fun i _ => by rw [Int.zero_add]
theorem rgOk_small {a b : Int} (h1 : 0 ≤ a) (h2 : a ≤ 1000000) (h3 : 0 ≤ b) (h4 : b ≤ 1000000) : rgOk a b = true := by
  unfold rgOk
  simp only [Bool.and_eq_true, decide_eq_true_eq]
  omega
theorem enumL_map {γ : Type} (f : γ → D) : ∀ (k : Nat) (xs : List γ), enumL k (xs.map f) = (xs.zipIdx k).map fun p => .tuple [.int (p.2 : Nat), f p.1]
  | _, [] => rfl
  | k, x :: xs => by
    rw [List.map_cons, enumL, List.zipIdx_cons, List.map_cons, enumL_map f (k + 1) xs]
/-! ### what a mirror comes to -/
structure Ev (F : M τ α) (s : Stt τ) (P : α → Stt τ → Prop) : Prop where
  ex : ∃ a s', F s = some (a, s') ∧ P a s'
def Res (x : Option (α × Stt τ)) (P : α → Stt τ → Prop) : Prop := match x with
  | some (a, s') => P a s'
  | none => False
@[simp] theorem Res_some (a : α) (s : Stt τ) (P : α → Stt τ → Prop) : Res (some (a, s)) P = P a s := rfl
@[simp] theorem Res_none (P : α → Stt τ → Prop) : Res none P = False := rfl
theorem Ev.run {F : M τ α} {s : Stt τ} {P : α → Stt τ → Prop} (h : Res (F s) P) : Ev F s P := by
  cases e : F s with
  | none => rw [e] at h; exact h.elim
  | some p => rw [e] at h; exact ⟨p.1, p.2, e, h⟩
theorem Ev.mono {F : M τ α} {s : Stt τ} {P Q : α → Stt τ → Prop} (h : Ev F s P) (q : ∀ a s', P a s' → Q a s') : Ev F s Q := by
  obtain ⟨a, s', e, p⟩ := h
  exact ⟨a, s', e, q a s' p⟩
theorem Ev.bnd {m : M τ α} {f : α → M τ β} {s : Stt τ} {P : β → Stt τ → Prop} (h : Ev m s fun a s' => Ev (f a) s' P) : Ev (DL.bnd m f) s P := by
  obtain ⟨a, s1, e1, b, s2, e2, p⟩ := h
  exact ⟨b, s2, by unfold DL.bnd; rw [e1]; exact e2, p⟩
theorem Ev.ret {a : α} {s : Stt τ} {P : α → Stt τ → Prop} (h : P a s) : Ev (DL.ret a) s P := ⟨a, s, rfl, h⟩
def thenP (G : M τ Out) (P : Out → Stt τ → Prop) : Out → Stt τ → Prop
  | .nx, s => Ev G s P
  | o, s => P o s
@[simp] theorem thenP_nx (G : M τ Out) (P : Out → Stt τ → Prop) (s : Stt τ) : thenP G P .nx s = Ev G s P := rfl
@[simp] theorem thenP_rt (G : M τ Out) (P : Out → Stt τ → Prop) (s : Stt τ) (d : D) : thenP G P (.rt d) s = P (.rt d) s := rfl
@[simp] theorem thenP_bk (G : M τ Out) (P : Out → Stt τ → Prop) (s : Stt τ) : thenP G P .bk s = P .bk s := rfl
@[simp] theorem thenP_ct (G : M τ Out) (P : Out → Stt τ → Prop) (s : Stt τ) : thenP G P .ct s = P .ct s := rfl
theorem Ev.seq {F G : M τ Out} {s : Stt τ} {P : Out → Stt τ → Prop} (h : Ev F s (thenP G P)) : Ev (seqM F G) s P := by
  refine Ev.bnd (h.mono fun o s' q => ?_)
  cases o with
  | nx => exact q
  | _ => exact Ev.ret q
theorem Ev.seqN {F G : M τ Out} {s : Stt τ} {P : Out → Stt τ → Prop} (h : Ev F s fun o s' => o = .nx ∧ Ev G s' P) : Ev (seqM F G) s P :=
  Ev.seq (h.mono fun o s' q => by obtain ⟨rfl, q⟩ := q; exact q)
/-- behind a turn -/
def turnP (I : Stt τ → Prop) (P : Out → Stt τ → Prop) : Out → Stt τ → Prop
  | .nx, s => I s
  | .ct, s => I s
  | .bk, s => P .nx s
  | .rt d, s => P (.rt d) s
  | .rn xs, s => P (.rn xs) s
@[simp] theorem turnP_nx (I : Stt τ → Prop) (P : Out → Stt τ → Prop) (s : Stt τ) : turnP I P .nx s = I s := rfl
@[simp] theorem turnP_ct (I : Stt τ → Prop) (P : Out → Stt τ → Prop) (s : Stt τ) : turnP I P .ct s = I s := rfl
@[simp] theorem turnP_bk (I : Stt τ → Prop) (P : Out → Stt τ → Prop) (s : Stt τ) : turnP I P .bk s = P .nx s := rfl
@[simp] theorem turnP_rt (I : Stt τ → Prop) (P : Out → Stt τ → Prop) (s : Stt τ) (d : D) : turnP I P (.rt d) s = P (.rt d) s := rfl
@[simp] theorem turnP_rn (I : Stt τ → Prop) (P : Out → Stt τ → Prop) (s : Stt τ) (d : List D) : turnP I P (.rn d) s = P (.rn d) s := rfl
theorem Ev.for_ {G : D → M τ Unit} {body : M τ Out} {P : Out → Stt τ → Prop} (I : Nat → Stt τ → Prop) {xs : List D} (hs : ∀ (i : Nat) (x : D) (s : Stt τ), xs[i]? = some x → I i s → Ev (DL.bnd (G x) fun _ => body) s (turnP (I (i + 1)) P))
    (hd : ∀ s, I xs.length s → P .nx s) {s : Stt τ} (h0 : I 0 s) : Ev (forM G body xs) s P := by
  have key : ∀ (ys : List D) (k : Nat) (s : Stt τ), (∀ i, ys[i]? = xs[k + i]?) → k + ys.length = xs.length → I k s → Ev (forM G body ys) s P := by
    intro ys
    induction ys with
    | nil =>
      intro k s _ hl hi
      have : k = xs.length := by simpa using hl
      subst this
      exact Ev.ret (hd s hi)
    | cons y ys ih =>
      intro k s he hl hi
      have hy : xs[k]? = some y := (he 0).symm
      unfold forM
      have h1 := hs k y s hy hi
      obtain ⟨o, s2, e2, q⟩ := h1
      obtain ⟨u, s1, e3, e4⟩ := bnd_some e2
      refine Ev.bnd ⟨u, s1, e3, Ev.bnd ⟨o, s2, e4, ?_⟩⟩
      have nxt : I (k + 1) s2 → Ev (forM G body ys) s2 P := fun hi2 => ih (k + 1) s2 (fun i => by have := he (i + 1); rw [show k + 1 + i = k + (i + 1) by omega, ← this]; rfl) (by simp only [List.length_cons] at hl; omega) hi2
      cases o with
      | nx => exact nxt q
      | ct => exact nxt q
      | bk => exact Ev.ret q
      | rt d => exact Ev.ret q
      | rn zs => exact Ev.ret q
  exact key xs 0 s (fun i => by rw [Nat.zero_add]) (by omega) h0
theorem Ev.loop {Fi : M τ (List D)} {G : D → M τ Unit} {body : M τ Out} {s : Stt τ} {P : Out → Stt τ → Prop} (h : Ev Fi s fun xs s' => Ev (forM G body xs) s' P) : Ev (loopM Fi G body) s P := Ev.bnd h
theorem Ev.rng {i : Nat} {lo hi : Int} {s : Stt τ} {P : List D → Stt τ → Prop} (h : s.env[i]? = some (some (.r lo hi))) (ok : rgOk lo hi = true) (hp : P (rgD lo hi) s) : Ev (rngAt i) s P := ⟨rgD lo hi, s, by
  unfold rngAt
  rw [h]
  dsimp only
  rw [if_pos ok], hp⟩
/-- a comprehension: I speaks of the turns done and of the list so far; e0: the slots without the block's own -/
theorem Ev.lc {ws : List Nat} {Fi : M τ (List D)} {G : D → M τ Unit} {T : M τ Bool} {E : M τ Opd} {s : Stt τ} {P : Opd → Stt τ → Prop}
    (h : Ev Fi s fun xs s1 => xs.length ≤ 16777216 ∧ ∃ I : Nat → List D → Stt τ → Prop, I 0 [] { s1 with env := wipeE s1.env ws } ∧
      (∀ (i : Nat) (x : D) (acc : List D) (s2 : Stt τ), xs[i]? = some x → I i acc s2 → Ev (turnM G T (valM E) x acc) s2 fun acc' s3 => I (i + 1) acc' { s3 with env := wipeE s3.env ws }) ∧
      ∀ acc s2, I xs.length acc s2 → P (.new acc) { s2 with env := restE s1.env ws s2.env }) : Ev (lcM ws Fi G T E) s P := by
  obtain ⟨xs, s1, e1, hl, I, h0, hs, hd⟩ := h
  have key : ∀ (ys : List D) (k : Nat) (acc : List D) (s2 : Stt τ), (∀ i, ys[i]? = xs[k + i]?) → k + ys.length = xs.length → I k acc s2 → ∃ acc' s3, lcLoop ws G T (valM E) ys acc s2 = some (acc', s3) ∧ I xs.length acc' s3 := by
    intro ys
    induction ys with
    | nil =>
      intro k acc s2 _ hl hi
      have : k = xs.length := by simpa using hl
      subst this
      exact ⟨acc, s2, rfl, hi⟩
    | cons y ys ih =>
      intro k acc s2 he hl hi
      have hy : xs[k]? = some y := (he 0).symm
      obtain ⟨acc', s3, e3, hi3⟩ := hs k y acc s2 hy hi
      obtain ⟨acc2, s4, e4, hi4⟩ := ih (k + 1) acc' _ (fun i => by have := he (i + 1); rw [show k + 1 + i = k + (i + 1) by omega, ← this]; rfl) (by simp only [List.length_cons] at hl; omega) hi3
      refine ⟨acc2, s4, ?_, hi4⟩
      unfold lcLoop
      rw [e3]
      exact e4
  obtain ⟨acc, s3, e3, hi⟩ := key xs 0 [] _ (fun i => by rw [Nat.zero_add]) (by omega) h0
  refine ⟨.new acc, _, ?_, hd acc s3 hi⟩
  unfold lcM DL.bnd
  rw [e1]
  dsimp only
  have : fitsL xs = true := by
    unfold fitsL
    rw [PySem.sizeLine_eq]
    exact decide_eq_true hl
  rw [if_pos this, e3]
/-- .. which leaves the state as it is: g says what each item gives -/
theorem lc_val {ws : List Nat} {Fi : M τ (List D)} {G : D → M τ Unit} {T : M τ Bool} {E : M τ Opd} {s s1 : Stt τ} {xs : List D} (g : D → Option D) (h1 : Fi s = some (xs, s1)) (hl : xs.length ≤ 16777216) (hr : restE s1.env ws (wipeE s1.env ws) = s1.env)
    (ht : ∀ x ∈ xs, ∀ acc, ∃ env, turnM G T (valM E) x acc { s1 with env := wipeE s1.env ws } = some (acc ++ (g x).toList, { s1 with env := env }) ∧ wipeE env ws = wipeE s1.env ws) :
    lcM ws Fi G T E s = some (.new (xs.filterMap g), s1) := by
  have e : Ev (lcM ws Fi G T E) s fun o s' => o = .new (xs.filterMap g) ∧ s' = s1 := by
    refine Ev.lc ⟨xs, s1, h1, hl, fun i acc s2 => acc = (xs.take i).filterMap g ∧ s2 = { s1 with env := wipeE s1.env ws }, ⟨rfl, rfl⟩, ?_, ?_⟩
    · rintro i x acc s2 hx ⟨rfl, rfl⟩
      obtain ⟨env, e1, e2⟩ := ht x (List.mem_of_getElem? hx) ((xs.take i).filterMap g)
      refine ⟨_, _, e1, ?_, ?_⟩
      · obtain ⟨hi, hx'⟩ := List.getElem?_eq_some_iff.mp hx
        rw [List.take_succ, hx, List.filterMap_append]
        cases hg : g x <;> simp [hg]
      · dsimp only
        rw [e2]
    · rintro acc s2 ⟨rfl, rfl⟩
      rw [List.take_length]
      refine ⟨rfl, ?_⟩
      dsimp only
      rw [hr]
  obtain ⟨o, s', e1, rfl, rfl⟩ := e
  exact e1
@[simp] theorem turnM_s (G : D → M τ Unit) (T : M τ Bool) (E : M τ D) (x : D) (acc : List D) (s : Stt τ) : turnM G T E x acc s = (match DL.bnd (G x) (fun _ => T) s with | none => none | some (k, s') => if k then (match E s' with | none => none | some (d, s2) => some (acc ++ [d], s2)) else some (acc, s')) := by
  show DL.bnd (G x) (fun _ => DL.bnd T fun k => if k then DL.bnd E fun d => DL.ret (acc ++ [d]) else DL.ret acc) s = _
  unfold DL.bnd
  cases G x s with
  | none => rfl
  | some p =>
    obtain ⟨u, s1⟩ := p
    dsimp only
    cases T s1 with
    | none => rfl
    | some q =>
      obtain ⟨k, s2⟩ := q
      cases k with
      | false => rfl
      | true =>
        dsimp only
        rw [if_pos rfl, if_pos rfl]
        cases E s2 <;> rfl
@[simp] theorem wipeE_nil (env : List (Option Sl)) : wipeE env [] = env := rfl
@[simp] theorem wipeE_cons (env : List (Option Sl)) (v : Nat) (vs : List Nat) : wipeE env (v :: vs) = (wipeE env vs).set v none := rfl
@[simp] theorem restE_nil (env0 env : List (Option Sl)) : restE env0 [] env = env := rfl
@[simp] theorem restE_cons (env0 env : List (Option Sl)) (v : Nat) (vs : List Nat) : restE env0 (v :: vs) env = (restE env0 vs env).set v (keepD env0[v]?) := rfl
@[simp] theorem keepD_d (x : D) : keepD (some (some (.d x))) = some (.d x) := rfl
@[simp] theorem keepD_n : keepD (some none) = none := rfl
@[simp] theorem keepD_0 : keepD none = none := rfl
theorem Ev.asg {i : Nat} {F : M τ Opd} {s : Stt τ} {P : Out → Stt τ → Prop} (h : Ev F s fun o s' => Ev (putM i o) s' fun _ s2 => P .nx s2) : Ev (asgM i F) s P :=
  Ev.bnd (h.mono fun o s' q => Ev.bnd (q.mono fun _ s2 q2 => Ev.ret q2))
theorem Ev.if_ {T : M τ Bool} {F G : M τ Out} {s : Stt τ} {P : Out → Stt τ → Prop} (h : Ev T s fun k s' => Ev (if k then F else G) s' P) : Ev (ifM T F G) s P := Ev.bnd h
theorem lc_eq {ws : List Nat} {Fi : M τ (List D)} {G : D → M τ Unit} {T : M τ Bool} {E : M τ Opd} {s s1 : Stt τ} {xs : List D} (g : D → Option D) (h1 : Fi s = some (xs, s1)) (hl : xs.length ≤ 16777216) (hr : restE s1.env ws (wipeE s1.env ws) = s1.env)
    (ht : ∀ x ∈ xs, ∀ acc, Ev (turnM G T (valM E) x acc) { s1 with env := wipeE s1.env ws } fun acc' s3 => acc' = acc ++ (g x).toList ∧ wipeE s3.env ws = wipeE s1.env ws ∧ s3.dr = s1.dr) : lcM ws Fi G T E s = some (.new (xs.filterMap g), s1) := by
  refine lc_val g h1 hl hr fun x hx acc => ?_
  obtain ⟨acc', s3, e3, rfl, h2, h3⟩ := ht x hx acc
  obtain ⟨env, dr⟩ := s3
  obtain rfl : dr = s1.dr := h3
  exact ⟨env, e3, h2⟩
theorem Ev.lcv {ws : List Nat} {Fi : M τ (List D)} {G : D → M τ Unit} {T : M τ Bool} {E : M τ Opd} {s : Stt τ} {P : Opd → Stt τ → Prop} (g : D → Option D)
    (h : Ev Fi s fun xs s1 => xs.length ≤ 16777216 ∧ restE s1.env ws (wipeE s1.env ws) = s1.env ∧
      (∀ x ∈ xs, ∀ acc, Ev (turnM G T (valM E) x acc) { s1 with env := wipeE s1.env ws } fun acc' s3 => acc' = acc ++ (g x).toList ∧ wipeE s3.env ws = wipeE s1.env ws ∧ s3.dr = s1.dr) ∧ P (.new (xs.filterMap g)) s1) : Ev (lcM ws Fi G T E) s P := by
  obtain ⟨xs, s1, e1, hl, hr, ht, hp⟩ := h
  refine ⟨_, _, lc_val g e1 hl hr fun x hx acc => ?_, hp⟩
  obtain ⟨acc', s3, e3, rfl, h2, h3⟩ := ht x hx acc
  obtain ⟨env, dr⟩ := s3
  obtain rfl : dr = s1.dr := h3
  exact ⟨env, e3, h2⟩
theorem Ev.lcw {ws : List Nat} {Fi : M τ (List D)} {G : D → M τ Unit} {T : M τ Bool} {E : M τ Opd} {s : Stt τ} {P : Opd → Stt τ → Prop} (g : D → Option D) (e0 : List (Option Sl)) (d0 : τ)
    (h : Ev Fi s fun xs s1 => xs.length ≤ 16777216 ∧ s1.dr = d0 ∧ wipeE s1.env ws = e0 ∧ restE s1.env ws e0 = s1.env ∧
      (∀ x ∈ xs, ∀ acc, Ev (turnM G T (valM E) x acc) ⟨e0, d0⟩ fun acc' s3 => acc' = acc ++ (g x).toList ∧ wipeE s3.env ws = e0 ∧ s3.dr = d0) ∧ P (.new (xs.filterMap g)) s1) : Ev (lcM ws Fi G T E) s P := by
  refine Ev.lcv g (h.mono fun xs s1 q => ?_)
  obtain ⟨h1, rfl, rfl, h3, h4, h5⟩ := q
  exact ⟨h1, h3, h4, h5⟩
def rowT (n : Nat) (f : Nat → D) : List D := (List.range n).map f
@[simp] theorem rowT_len (n : Nat) (f : Nat → D) : (rowT n f).length = n := by unfold rowT; simp
theorem rowT_get {n i : Nat} {f : Nat → D} (h : i < n) : (rowT n f)[i]? = some (f i) := by
  unfold rowT
  rw [List.getElem?_map, List.getElem?_range h]
  rfl
theorem rowT_some {n i : Nat} {f : Nat → D} {x : D} (h : (rowT n f)[i]? = some x) : i < n ∧ x = f i := by
  have hi : i < n := by
    have := (List.getElem?_eq_some_iff.mp h).1
    simpa using this
  rw [rowT_get hi] at h
  exact ⟨hi, (Option.some.inj h).symm⟩
theorem rowT_mem {n : Nat} {f : Nat → D} {x : D} (h : x ∈ rowT n f) : ∃ i, i < n ∧ x = f i := by
  obtain ⟨i, hi, rfl⟩ := List.mem_map.mp h
  exact ⟨i, List.mem_range.mp hi, rfl⟩
theorem enumT_some {k i : Nat} {xs : List D} {x : D} (h : (enumL k xs)[i]? = some x) : ∃ y, xs[i]? = some y ∧ x = .tuple [.int ((k + i : Nat)), y] := enumL_get k xs i x h
theorem enumT_mem {xs : List D} {x : D} (h : x ∈ enumL 0 xs) : ∃ i y, xs[i]? = some y ∧ x = .tuple [.int ((i : Nat)), y] := by
  obtain ⟨i, hi⟩ := List.mem_iff_getElem?.mp h
  obtain ⟨y, h1, h2⟩ := enumT_some hi
  rw [Nat.zero_add] at h2
  exact ⟨i, y, h1, h2⟩
theorem Ev.rangeM {G : M τ (List Opd)} {lo hi : Int} {s : Stt τ} {P : List D → Stt τ → Prop} (h : DL.bnd (intsM G) (fun ds => lift (rng2 ds)) s = some ((lo, hi), s)) (ok : rgOk lo hi = true) (hp : P (rgD lo hi) s) : Ev (DL.rangeM G) s P := ⟨rgD lo hi, s, by
  rw [rangeM_s, h]
  dsimp only
  rw [if_pos ok], hp⟩
theorem Ev.tuple {F : M τ Opd} {s : Stt τ} {P : Opd → Stt τ → Prop} (h : Ev F s fun o s' => ∃ xs, o = .new xs ∧ P (.val (.tuple xs)) s') : Ev (callM tupleD (consO F nilM)) s P := by
  obtain ⟨o, s', e, xs, rfl, hp⟩ := h
  exact ⟨_, s', by simp [e], hp⟩
theorem Ev.retM {F : M τ Opd} {s : Stt τ} {P : Out → Stt τ → Prop} (h : Ev F s fun o s' => Ev (toD o) s' fun d s2 => P (.rt d) s2) : Ev (DL.retM F) s P := by
  obtain ⟨o, s', e, d, s2, e2, hp⟩ := h
  exact ⟨_, s2, by simp [e, e2], hp⟩
theorem Ev.toDv {x : D} {s : Stt τ} {P : D → Stt τ → Prop} (h : P x s) : Ev (toD (.val x)) s P := ⟨x, s, rfl, h⟩
theorem Ev.toDn {x : List D} {s : Stt τ} {P : D → Stt τ → Prop} (h : P (.list x) s) : Ev (toD (.new x)) s P := ⟨_, s, rfl, h⟩
/-! ### a def's answer -/
theorem runP2_of {np n : Nat} {F : M Unit Out} {ds : List D} {d : D} (hl : ds.length = np) (h : Ev F ⟨ds.map (fun d => some (.d d)) ++ List.replicate (n - ds.length) none, ()⟩ fun o _ => o = .rt d ∨ (o = .nx ∧ d = .none)) : runP2 np n F ds = some d := by
  obtain ⟨o, s', e, h⟩ := h
  unfold runP2 runP
  rw [if_pos hl, e]
  rcases h with rfl | ⟨rfl, rfl⟩ <;> rfl
theorem runD2_of {np n : Nat} {F : M DrawSt Out} {ds : List D} {st : DrawSt} {P : D → DrawSt → Prop} (hl : ds.length + 1 = np) (h : Ev F ⟨some .h :: (ds.map (fun d => some (.d d)) ++ List.replicate (n - (ds.length + 1)) none), st⟩ fun o s' => ∃ d, o = .rt d ∧ P d s'.dr) : ∃ d st', runD2 np n F ds st = some (d, st') ∧ P d st' := by
  obtain ⟨o, s', e, d, rfl, h⟩ := h
  refine ⟨d, s'.dr, ?_, h⟩
  unfold runD2 runD
  rw [if_pos hl, e]
theorem runP2_ex {np n : Nat} {F : M Unit Out} {ds : List D} {Q : D → Prop} (hl : ds.length = np) (h : Ev F ⟨ds.map (fun d => some (.d d)) ++ List.replicate (n - ds.length) none, ()⟩ fun o _ => ∃ d, (o = .rt d ∨ (o = .nx ∧ d = .none)) ∧ Q d) : ∃ d, runP2 np n F ds = some d ∧ Q d := by
  obtain ⟨o, s', e, d, h, q⟩ := h
  exact ⟨d, runP2_of hl ⟨o, s', e, h⟩, q⟩
end DL
end

section
set_option Elab.async false
set_option linter.all false
set_option maxRecDepth 100000
set_option maxHeartbeats 999999
/-! WMathE: the mirrors with two ends, applied to a state -/
open DL
open PySem (PyData Str)
namespace LW
variable {τ α β : Type}
@[simp] theorem okE_s (F : M τ α) (s : Stt τ) : okE F s = (match F s with
    | none => none
    | some (a, s') => some (.ok a, s')) := by
  unfold okE
  cases F s with
  | none => rfl
  | some p => rfl
@[simp] theorem retE_s (a : α) (s : Stt τ) : retE a s = some (.ok a, s) := rfl
@[simp] theorem bndE_s (F : ME τ α) (f : α → ME τ β) (s : Stt τ) : bndE F f s = (match F s with
    | none => none
    | some (.error x, s') => some (.error x, s')
    | some (.ok a, s') => f a s') := rfl
@[simp] theorem ansE_s (o : Option (Except Exn α)) (s : Stt τ) : ansE o s = (match o with
    | none => none
    | some r => some (r, s)) := by
  cases o <;> rfl
@[simp] theorem seqE_s (F G : ME τ Out) (s : Stt τ) : seqE F G s = (match F s with
    | none => none
    | some (.error x, s') => some (.error x, s')
    | some (.ok .nx, s') => G s'
    | some (.ok .bk, s') => some (.ok .bk, s')
    | some (.ok .ct, s') => some (.ok .ct, s')
    | some (.ok (.rt d), s') => some (.ok (.rt d), s')
    | some (.ok (.rn xs), s') => some (.ok (.rn xs), s')) := by
  unfold seqE bndE
  cases F s with
  | none => rfl
  | some p =>
    obtain ⟨r, s'⟩ := p
    cases r with
    | error x => rfl
    | ok o => cases o <;> rfl
@[simp] theorem ifE_s (T : M τ Bool) (F G : ME τ Out) (s : Stt τ) : ifE T F G s = (match T s with
    | none => none
    | some (true, s') => F s'
    | some (false, s') => G s') := by
  unfold ifE bndE okE
  cases T s with
  | none => rfl
  | some p =>
    obtain ⟨b, s'⟩ := p
    cases b <;> rfl
@[simp] theorem callX_s (f : List D → Option (Except Exn D)) (G : ME τ (List D)) (s : Stt τ) : callX f G s = (match G s with
    | none => none
    | some (.error x, s') => some (.error x, s')
    | some (.ok ds, s') => (match f ds with
      | none => none
      | some r => some (r, s'))) := by
  unfold callX bndE
  cases G s with
  | none => rfl
  | some p =>
    obtain ⟨r, s'⟩ := p
    cases r with
    | error x => rfl
    | ok ds =>
      show ansE (f ds) s' = (match f ds with
        | none => none
        | some r => some (r, s'))
      unfold ansE
      cases f ds <;> rfl
@[simp] theorem raiseM_s (x : Str) (flds : List Str) (G : M τ (List D)) (s : Stt τ) : raiseM x flds G s = (match G s with
    | none => none
    | some (ds, s') => if ds.length = flds.length then some (.error ⟨x, (flds.zip ds).reverse⟩, s') else none) := by
  unfold raiseM bndE okE
  cases G s with
  | none => rfl
  | some p => rfl
@[simp] theorem asgE_s (i : Nat) (F : ME τ D) (s : Stt τ) : asgE i F s = (match F s with
    | none => none
    | some (.error x, s') => some (.error x, s')
    | some (.ok d, s') => (match setM i d s' with
      | none => none
      | some (_, s2) => some (.ok .nx, s2))) := by
  unfold asgE bndE okE
  cases F s with
  | none => rfl
  | some p =>
    obtain ⟨r, s'⟩ := p
    cases r with
    | error x => rfl
    | ok d =>
      dsimp only
      cases setM i d s' with
      | none => rfl
      | some q => rfl
theorem runX2_of {np n : Nat} {F : ME Unit Out} {ds : List D} {s' : Stt Unit} {r : Except Exn Out} {a : Except Exn D} (hl : ds.length = np) (h : F ⟨ds.map (fun d => some (.d d)) ++ List.replicate (n - ds.length) none, ()⟩ = some (r, s')) (hr : (match r with
    | .ok (.rt d) => some (.ok d)
    | .ok .nx => some (.ok .none)
    | .error x => some (.error x)
    | _ => none) = some a) : runX2 np n F ds = some a := by
  unfold runX2 runX
  rw [if_pos hl, h]
  cases r with
  | error x => exact hr
  | ok o => cases o <;> first | exact hr | cases hr
end LW
end

section
set_option Elab.async false
set_option linter.all false
set_option maxRecDepth 100000
set_option maxHeartbeats 3999999
set_option exponentiation.threshold 5001
open DL
namespace LW
/-! ### the drawn numbers -/
theorem mulOk_of {i j : Int} (hi : i.natAbs < 2 ^ 4000) (hj : j.natAbs < 2 ^ 4000) : mulOk i j = true := by
  have b : ∀ x : Int, x.natAbs < 2 ^ 4000 → x.natAbs.log2 < 4000 := fun x h => by
    by_cases h0 : x.natAbs = 0
    · rw [h0]; decide
    · exact (Nat.log2_lt h0).mpr h
  unfold mulOk
  have h1 := b i hi
  have h2 := b j hj
  exact decide_eq_true (by omega)
theorem lt_mul {a b : Int} {p q r : Nat} (ha : a.natAbs < 2 ^ p) (hb : b.natAbs < 2 ^ q) (h : p + q ≤ r) : (a * b).natAbs < 2 ^ r := by
  rw [Int.natAbs_mul]
  refine Nat.lt_of_lt_of_le (Nat.mul_lt_mul'' ha hb) ?_
  rw [← Nat.pow_add]
  exact Nat.pow_le_pow_right (by decide) h
theorem le_pow {a : Int} {p q : Nat} (ha : a.natAbs < 2 ^ p) (h : p ≤ q) : a.natAbs < 2 ^ q := Nat.lt_of_lt_of_le ha (Nat.pow_le_pow_right (by decide) h)
/-- the number that the cells mix to -/
def mixI (x n : Int) : Int := ((x * (1 + 2 * n) * 48271) % 2147483647 + 7919 * n * n + 104729 * n) * 69621 % 2147483629 / 7
theorem mixed_ok {x n : Int} (hx : x.natAbs < 2 ^ 200) (hn : n.natAbs < 2 ^ 62) : m__law_mixed [.int x, .int n] = some (.int (mixI x n)) := by
  have hn2 : (1 + 2 * n).natAbs < 2 ^ 64 := by omega
  have k1 : mulOk 2 n = true := mulOk_of (by decide) (le_pow hn (by decide))
  have k2 : mulOk x (1 + 2 * n) = true := mulOk_of (le_pow hx (by decide)) (le_pow hn2 (by decide))
  have k3 : mulOk (x * (1 + 2 * n)) 48271 = true := mulOk_of (lt_mul hx hn2 (by decide)) (by decide)
  have k4 : mulOk 7919 n = true := mulOk_of (by decide) (le_pow hn (by decide))
  have k5 : mulOk (7919 * n) n = true := mulOk_of (lt_mul (p := 13) (by decide) hn (by decide)) (le_pow hn (by decide))
  have k6 : mulOk 104729 n = true := mulOk_of (by decide) (le_pow hn (by decide))
  have b1 : ((x * (1 + 2 * n) * 48271) % 2147483647).natAbs < 2 ^ 31 := by omega
  have b2 : (7919 * n * n).natAbs < 2 ^ 137 := lt_mul (p := 75) (q := 62) (lt_mul (p := 13) (by decide) hn (by decide)) hn (by decide)
  have b3 : (104729 * n).natAbs < 2 ^ 79 := lt_mul (p := 17) (by decide) hn (by decide)
  have k7 : mulOk ((x * (1 + 2 * n) * 48271) % 2147483647 + 7919 * n * n + 104729 * n) 69621 = true := mulOk_of (le_pow (p := 140) (by omega) (by decide)) (by decide)
  have k8 : Nat.log2 7 < 9000 := by decide
  simp [m__law_mixed, runP2, runP, F__law_mixed, seqM, asgM, bnd, op2, lateM, nameM, getO, lift, ret, callM, intD, consO, nilM, getL, valM, toD, putM, setM, retM, mulD, orO, opI, addD, modD, modOk, fdivD, divOk, k1, k2, k3, k4, k5, k6, k7, k8, mixI]
theorem mixI_lt (x n : Int) : 0 ≤ mixI x n ∧ mixI x n < 2 ^ 31 := by
  unfold mixI
  generalize (x * (1 + 2 * n) * 48271 % 2147483647 + 7919 * n * n + 104729 * n) * 69621 = y
  omega
/-- the drawn numbers stand well, at most k are drawn -/
structure StOk (k : Nat) (st : DrawSt) : Prop where
  len : st.cells.length = 64
  small : ∀ c ∈ st.cells, 0 ≤ c ∧ c < 2 ^ 31
  lo : 0 ≤ st.spot
  hi : st.spot ≤ k
theorem ixN_mod {n : Nat} {i : Int} (h : 0 < n) : ∃ j, L2.ixN n (i % n) = some j ∧ j < n := by
  have h1 : 0 ≤ i % (n : Int) := Int.emod_nonneg _ (by omega)
  have h2 : i % (n : Int) < n := Int.emod_lt_of_pos _ (by omega)
  refine ⟨(i % (n : Int)).toNat, ?_, by omega⟩
  unfold L2.ixN
  rw [if_pos h1, if_pos h2]
theorem drawC_ok {k : Nat} {st st1 : DrawSt} (h : StOk k st) (hk : k ≤ 1000000) {L : Int} (hL : 0 < L) : ∃ r, drawC m__law_mixed L st st1 = some (.int r, st1) ∧ 0 ≤ r ∧ r < L := by
  obtain ⟨h1, h2, h3, h4⟩ := h
  obtain ⟨j, e1, e2⟩ := ixN_mod (n := 64) (i := st.spot) (by decide)
  obtain ⟨c, e3⟩ : ∃ c, st.cells[j]? = some c := ⟨_, List.getElem?_eq_getElem (by omega)⟩
  obtain ⟨b1, b2⟩ := h2 c (List.mem_of_getElem? e3)
  have at_ : L2.atI st.cells (st.spot % 64) = some c := by
    unfold L2.atI
    rw [h1]
    show (L2.ixN 64 (st.spot % ((64 : Nat) : Int))).bind _ = _
    rw [e1]
    exact e3
  have m1 := mixed_ok (x := c + 31 * (st.spot / 64)) (n := st.spot) (by omega) (by omega)
  have m2 := mixed_ok (x := mixI (c + 31 * (st.spot / 64)) st.spot) (n := st.spot + 7) (by have := mixI_lt (c + 31 * (st.spot / 64)) st.spot; omega) (by omega)
  refine ⟨mixI (mixI (c + 31 * (st.spot / 64)) st.spot) (st.spot + 7) % L, ?_, Int.emod_nonneg _ (by omega), Int.emod_lt_of_pos _ hL⟩
  unfold drawC
  rw [at_]
  simp [m1, m2]
theorem draw_ok {k : Nat} {st : DrawSt} (h : StOk k st) (hk : k ≤ 1000000) {L : Int} (hL : 0 < L) (hL2 : L < 2 ^ 4000) : ∃ r st', m__law_draw [.int L] st = some (.int r, st') ∧ 0 ≤ r ∧ r < L ∧ StOk (k + 1) st' := by
  have hl : L.natAbs.log2 < 9000 := by
    have : L.natAbs.log2 < 4000 := (Nat.log2_lt (by omega)).mpr (by omega)
    omega
  have ok1 : StOk (k + 1) ⟨st.cells, st.great, st.spot + 1⟩ := ⟨h.len, h.small, by have := h.lo; show 0 ≤ st.spot + 1; omega, by have := h.hi; show st.spot + 1 ≤ _; omega⟩
  obtain ⟨r, hr, r0, r1⟩ := drawC_ok (st1 := ⟨st.cells, st.great, st.spot + 1⟩) h hk hL
  unfold m__law_draw drawF
  simp only [decide_eq_true hL, decide_eq_true hl, Bool.and_self, if_true]
  cases hg : st.great.isEmpty with
  | true =>
    simp only [if_true]
    exact ⟨r, _, hr, r0, r1, ok1⟩
  | false =>
    simp only [Bool.false_eq_true, if_false]
    have hn : 0 < st.great.length := by
      cases q : st.great with
      | nil => rw [q] at hg; cases hg
      | cons _ _ => simp
    obtain ⟨j, e1, e2⟩ := ixN_mod (n := st.great.length) (i := st.spot) hn
    rw [e1]
    simp only [List.getElem?_eq_getElem e2]
    by_cases hc : 0 < st.great[j]
    · rw [if_pos hc]
      exact ⟨_, _, rfl, Int.emod_nonneg _ (by omega), Int.emod_lt_of_pos _ hL, ⟨h.len, h.small, by have := h.lo; show 0 ≤ st.spot + 1; omega, by have := h.hi; show st.spot + 1 ≤ _; omega⟩⟩
    · rw [if_neg hc]
      exact ⟨r, _, hr, r0, r1, ok1⟩
end LW
end

section
set_option Elab.async false
set_option linter.all false
set_option maxRecDepth 100000
set_option maxHeartbeats 3999999
set_option exponentiation.threshold 5001
open DL
namespace LW
/-! ### the cells that a script folds to -/
def bodyA : M Unit Out := (bnd (valM (op2 modD (callM intD (consO (op2 addD (op2 mulD (op2 ixD (nameM 1) (op2 modD (callM intD (consO (nameM 2) nilM)) (ret (.val (PySem.PyData.int 64))))) (ret (.val (PySem.PyData.int 48271)))) (nameM 3)) nilM)) (ret (.val (PySem.PyData.int 2147483647))))) fun d => bnd (ownAt 1) fun _ => setIxM 1 (DL.ret (Opd.val d)) (op2 modD (callM intD (consO (nameM 2) nilM)) (ret (.val (PySem.PyData.int 64)))))
def bodyB : M Unit Out := (bnd (valM (op2 modD (callM intD (consO (op2 addD (op2 ixD (nameM 1) (nameM 2)) (op2 mulD (op2 ixD (nameM 1) (op2 subD (nameM 2) (ret (.val (PySem.PyData.int 1))))) (ret (.val (PySem.PyData.int 16807))))) nilM)) (ret (.val (PySem.PyData.int 2147483647))))) fun d => bnd (ownAt 1) fun _ => setIxM 1 (DL.ret (Opd.val d)) (nameM 2))
def tgA : D → M Unit Unit := tupG 2 (gsCons (setM 2) (gsCons (setM 3) gsNil))
def Cells (cs : List Int) : Prop := cs.length = 64 ∧ ∀ c ∈ cs, 0 ≤ c ∧ c < 2 ^ 31
theorem Cells.set {cs : List Int} (h : Cells cs) (j : Nat) {v : Int} (h1 : 0 ≤ v) (h2 : v < 2 ^ 31) : Cells (cs.set j v) := by
  refine ⟨by rw [List.length_set]; exact h.1, fun c hc => ?_⟩
  rcases List.mem_or_eq_of_mem_set hc with q | q
  · exact h.2 c q
  · rw [q]; exact ⟨h1, h2⟩
theorem Cells.get {cs : List Int} (h : Cells cs) {j : Nat} (hj : j < 64) : ∃ c, cs[j]? = some c ∧ 0 ≤ c ∧ c < 2 ^ 31 := by
  have e : cs[j]? = some (cs[j]'(by rw [h.1]; exact hj)) := List.getElem?_eq_getElem _
  exact ⟨_, e, h.2 _ (List.mem_of_getElem? e)⟩
theorem atI_ints {cs : List Int} {i : Int} {j : Nat} {c : Int} (h : Cells cs) (e : L2.ixN 64 i = some j) (ec : cs[j]? = some c) : L2.atI (cs.map PySem.PyData.int) i = some (.int c) := by
  unfold L2.atI
  rw [List.length_map, h.1, e]
  show (cs.map PySem.PyData.int)[j]? = _
  rw [List.getElem?_map, ec]
  rfl
theorem stepA {ns cs : List Int} {k : Nat} {c : Int} (h : Cells cs) : ∃ cs', Cells cs' ∧ bodyA ⟨[some (.s ns), some (.own (cs.map .int)), some (.d (.int (k : Nat))), some (.d (.int c))], ()⟩ =
    some (.nx, ⟨[some (.s ns), some (.own (cs'.map .int)), some (.d (.int (k : Nat))), some (.d (.int c))], ()⟩) := by
  obtain ⟨j, e1, e2⟩ := ixN_mod (n := 64) (i := (k : Nat)) (by decide)
  have e1' : L2.ixN 64 ((k : Int) % 64) = some j := e1
  obtain ⟨x, e3, x0, x1⟩ := h.get e2
  have m1 : mulOk x 48271 = true := mulOk_of (by omega) (by decide)
  have a1 := atI_ints h e1' e3
  refine ⟨cs.set j ((x * 48271 + c) % 2147483647), h.set j (by omega) (by omega), ?_⟩
  simp [bodyA, setIxM, ownAt, bnd, op2, lateM, nameM, getO, lift, ret, callM, intD, consO, nilM, getL, valM, toD, mulD, orO, opI, addD, modD, modOk, ixD, a1, m1, h.1, e1', List.map_set]
theorem loopA {ns : List Int} : ∀ (ms : List Int) (k : Nat) (cs : List Int) (w2 w3 : Option Sl), Cells cs → ∃ cs' u2 u3, Cells cs' ∧ forM tgA bodyA (enumL k (ms.map .int)) ⟨[some (.s ns), some (.own (cs.map .int)), w2, w3], ()⟩ = some (.nx, ⟨[some (.s ns), some (.own (cs'.map .int)), u2, u3], ()⟩)
  | [], k, cs, w2, w3, h => ⟨cs, w2, w3, h, rfl⟩
  | m :: ms, k, cs, w2, w3, h => by
    obtain ⟨cs1, h1, e1⟩ := stepA (ns := ns) (k := k) (c := m) h
    obtain ⟨cs', u2, u3, h2, e2⟩ := loopA ms (k + 1) cs1 (some (.d (.int (k : Nat)))) (some (.d (.int m))) h1
    refine ⟨cs', u2, u3, h2, ?_⟩
    rw [List.map_cons]
    unfold DL.enumL DL.forM
    have e0 : tgA (.tuple [.int (k : Nat), .int m]) ⟨[some (.s ns), some (.own (cs.map .int)), w2, w3], ()⟩ = some ((), ⟨[some (.s ns), some (.own (cs.map .int)), some (.d (.int (k : Nat))), some (.d (.int m))], ()⟩) := rfl
    simp only [bnd, e0, e1]
    exact e2
theorem stepB {ns cs : List Int} {i : Int} {w3 : Option Sl} (h : Cells cs) (i1 : 1 ≤ i) (i2 : i < 64) : ∃ cs', Cells cs' ∧ bodyB ⟨[some (.s ns), some (.own (cs.map .int)), some (.d (.int i)), w3], ()⟩ =
    some (.nx, ⟨[some (.s ns), some (.own (cs'.map .int)), some (.d (.int i)), w3], ()⟩) := by
  have e1 : L2.ixN 64 i = some i.toNat := by
    unfold L2.ixN
    rw [if_pos (by omega), if_pos (by omega)]
  have e2 : L2.ixN 64 (i - 1) = some (i - 1).toNat := by
    unfold L2.ixN
    rw [if_pos (by omega), if_pos (by omega)]
  obtain ⟨x, e3, x0, x1⟩ := h.get (j := i.toNat) (by omega)
  obtain ⟨y, e4, y0, y1⟩ := h.get (j := (i - 1).toNat) (by omega)
  have m1 : mulOk y 16807 = true := mulOk_of (by omega) (by decide)
  have a1 := atI_ints h e1 e3
  have a2 := atI_ints h e2 e4
  refine ⟨cs.set i.toNat ((x + y * 16807) % 2147483647), h.set _ (by omega) (by omega), ?_⟩
  simp [bodyB, setIxM, ownAt, bnd, op2, lateM, nameM, getO, lift, ret, callM, intD, consO, nilM, getL, valM, toD, mulD, orO, opI, addD, subD, modD, modOk, ixD, a1, a2, m1, h.1, e1, List.map_set]
theorem loopB {ns : List Int} : ∀ (ms : List Int) (cs : List Int) (w2 w3 : Option Sl), (∀ m ∈ ms, 1 ≤ m ∧ m < 64) → Cells cs → ∃ cs' u2, Cells cs' ∧ forM (setM 2) bodyB (ms.map .int) ⟨[some (.s ns), some (.own (cs.map .int)), w2, w3], ()⟩ = some (.nx, ⟨[some (.s ns), some (.own (cs'.map .int)), u2, w3], ()⟩)
  | [], cs, w2, w3, hm, h => ⟨cs, w2, h, rfl⟩
  | m :: ms, cs, w2, w3, hm, h => by
    obtain ⟨m1, m2⟩ := hm m (by simp)
    obtain ⟨cs1, h1, e1⟩ := stepB (ns := ns) (i := m) (w3 := w3) h m1 m2
    obtain ⟨cs', u2, h2, e2⟩ := loopB ms cs1 (some (.d (.int m))) w3 (fun z hz => hm z (by simp [hz])) h1
    refine ⟨cs', u2, h2, ?_⟩
    rw [List.map_cons]
    unfold DL.forM
    have e0 : setM 2 (.int m) (⟨[some (.s ns), some (.own (cs.map .int)), w2, w3], ()⟩ : Stt Unit) = some ((), ⟨[some (.s ns), some (.own (cs.map .int)), some (.d (.int m)), w3], ()⟩) := rfl
    simp only [bnd, e0, e1]
    exact e2
def cells0 : List Int := (List.range 64).map fun n : Nat => 17 + (n : Int)
theorem fold0 (ns : List Int) : asgM 1 (lcM [2] (rangeM (consO (ret (.val (PySem.PyData.int 64))) nilM)) (setM 2) (ret true) (op2 addD (ret (.val (PySem.PyData.int 17))) (nameM 2))) (⟨[some (.s ns), none, none, none], ()⟩ : Stt Unit) = some (.nx, ⟨[some (.s ns), some (.own (cells0.map .int)), none, none], ()⟩) := by kernel_rfl
theorem rg63 (s : Stt Unit) : rangeM (consO (ret (.val (PySem.PyData.int 1))) (consO (ret (.val (PySem.PyData.int 64))) nilM)) s = some (((List.range 63).map fun n : Nat => 1 + (n : Int)).map .int, s) := by kernel_rfl
theorem foldF : F__law_folded = seqM (asgM 1 (lcM [2] (rangeM (consO (ret (.val (PySem.PyData.int 64))) nilM)) (setM 2) (ret true) (op2 addD (ret (.val (PySem.PyData.int 17))) (nameM 2)))) (seqM (loopM (bnd (scrL 0) fun xs => ret (enumL 0 xs)) tgA bodyA) (seqM (loopM (rangeM (consO (ret (.val (PySem.PyData.int 1))) (consO (ret (.val (PySem.PyData.int 64))) nilM))) (setM 2) bodyB) (retM (nameM 1)))) := by kernel_rfl
theorem cells0_ok : Cells cells0 := by
  refine ⟨by unfold cells0; rw [List.length_map, List.length_range], fun c hc => ?_⟩
  unfold cells0 at hc
  obtain ⟨n, hn, rfl⟩ := List.mem_map.mp hc
  have := List.mem_range.mp hn
  omega
theorem fold_rest (ns : List Int) {c0 : List Int} (h0 : Cells c0) : ∃ cs v2 u3, Cells cs ∧ (seqM (loopM (bnd (scrL 0) fun xs => ret (enumL 0 xs)) tgA bodyA) (seqM (loopM (rangeM (consO (ret (.val (PySem.PyData.int 1))) (consO (ret (.val (PySem.PyData.int 64))) nilM))) (setM 2) bodyB) (retM (nameM 1)))) (⟨[some (.s ns), some (.own (c0.map .int)), none, none], ()⟩ : Stt Unit) = some (.rt (.list (cs.map .int)), ⟨[some (.s ns), some (.d (.list (cs.map .int))), v2, u3], ()⟩) := by
  obtain ⟨c1, u2, u3, h1, e1⟩ := loopA (ns := ns) ns 0 c0 none none h0
  obtain ⟨c2, v2, h2, e2⟩ := loopB (ns := ns) ((List.range 63).map fun n : Nat => 1 + (n : Int)) c1 u2 u3 (fun m hm => by
    obtain ⟨n, hn, rfl⟩ := List.mem_map.mp hm
    have := List.mem_range.mp hn
    omega) h1
  have s1 : (loopM (bnd (scrL 0) fun xs => ret (enumL 0 xs)) tgA bodyA) (⟨[some (.s ns), some (.own (c0.map .int)), none, none], ()⟩ : Stt Unit) = some (.nx, ⟨[some (.s ns), some (.own (c1.map .int)), u2, u3], ()⟩) := by
    simp only [loopM, bnd, scrL, scrAt, ret, List.getElem?_cons_zero]
    exact e1
  have s2 : (loopM (rangeM (consO (ret (.val (PySem.PyData.int 1))) (consO (ret (.val (PySem.PyData.int 64))) nilM))) (setM 2) bodyB) (⟨[some (.s ns), some (.own (c1.map .int)), u2, u3], ()⟩ : Stt Unit) = some (.nx, ⟨[some (.s ns), some (.own (c2.map .int)), v2, u3], ()⟩) := by
    unfold loopM
    simp only [bnd, rg63]
    exact e2
  refine ⟨c2, v2, u3, h2, ?_⟩
  simp only [seqM, bnd, s1, s2]
  simp [retM, valM, bnd, nameM, toD, ret]
theorem folded_ok (ns : List Int) : ∃ cs, m__law_folded ns = some (.list (cs.map .int)) ∧ Cells cs := by
  obtain ⟨cs, v2, u3, h, e⟩ := fold_rest ns cells0_ok
  refine ⟨cs, ?_, h⟩
  have e0 : F__law_folded (⟨[some (.s ns), none, none, none], ()⟩ : Stt Unit) = some (.rt (.list (cs.map .int)), ⟨[some (.s ns), some (.d (.list (cs.map .int))), v2, u3], ()⟩) := by
    rw [foldF]
    unfold seqM bnd
    rw [fold0]
    exact e
  unfold m__law_folded runS
  simp only [List.replicate]
  rw [e0]
end LW
end

section
set_option Elab.async false
set_option linter.all false
set_option maxRecDepth 100000
set_option maxHeartbeats 999999
set_option exponentiation.threshold 5001
open DL
open PySem (PyData Str)
namespace LW
/-! ### texts of plain data are short -/
def plainB : D → Bool
  | .none => true
  | .bool _ => true
  | .int i => decide (-1 ≤ i) && decide (i < 10 ^ 150)
  | .str x => decide ((PyData.shown (.str x)).length ≤ 150) && PyData.strOk (PyData.shown (.str x))
  | .list xs => plains xs
  | .tuple xs => plains xs
  | _ => false
where plains : List D → Bool
  | [] => true
  | x :: xs => plainB x && plains xs
def big : D → Nat
  | .int _ => 150
  | .str _ => 150
  | .list xs => bigs xs + 6
  | .tuple xs => bigs xs + 6
  | _ => 6
where bigs : List D → Nat
  | [] => 0
  | x :: xs => big x + 2 + bigs xs
def pil (ts : List Str) : Nat := (ts.map fun t => t.length + 2).sum
theorem textFrom_le : ∀ (ts : List Str) (k : Nat) (acc : Str), (PySem.textFrom k acc ts).length ≤ acc.length + pil ts
  | [], k, acc => by show acc.length ≤ acc.length + 0; omega
  | t :: r, k, acc => by
    show (PySem.textFrom (k + 1) (acc ++ (if k > 0 then ", " else "" : String) ++ t) r).length ≤ _
    refine Nat.le_trans (textFrom_le r (k + 1) _) ?_
    rw [PySem.strLen_append, PySem.strLen_append]
    have h2 : (((if k > 0 then ", " else "" : String) : Str)).length ≤ 2 := by split <;> decide
    show _ ≤ acc.length + ((t.length + 2) + pil r)
    omega
theorem join_le : ∀ ts : List Str, (Str.join ", " ts).length ≤ pil ts
  | [] => Nat.zero_le _
  | [x] => by show x.length ≤ (x.length + 2) + 0; omega
  | x :: y :: r => by
    have h := join_le (y :: r)
    show (x ++ ", " ++ Str.join ", " (y :: r)).length ≤ (x.length + 2) + pil (y :: r)
    rw [PySem.strLen_append, PySem.strLen_append]
    have h2 : (((", " : String) : Str)).length = 2 := rfl
    omega
mutual
theorem shown_le : ∀ d : D, plainB d = true → d.shown.length ≤ big d ∧ d.showable = true ∧ d.hasDict = false
  | .none, _ => ⟨by decide, rfl, rfl⟩
  | .bool b, _ => ⟨by cases b <;> decide, rfl, rfl⟩
  | .int i, h => by
    unfold plainB at h
    obtain ⟨h1, h2⟩ := Bool.and_eq_true_iff.mp h
    have h1 := of_decide_eq_true h1
    have h2 := of_decide_eq_true h2
    refine ⟨?_, ?_, rfl⟩
    · by_cases hm : i = -1
      · subst hm
        show (PyData.shown (.int (-1))).length ≤ 150
        decide +kernel
      · exact PyProof.Rows.toString_length_le (by omega) (by show 0 < 150; decide) h2
    show decide (i.natAbs.log2 < 1920) = true
    by_cases h0 : i.natAbs = 0
    · rw [h0]; decide
    · have : i.natAbs.log2 < 1920 := (Nat.log2_lt h0).mpr (Nat.lt_of_lt_of_le (m := 10 ^ 150) (by omega) (by decide))
      exact decide_eq_true this
  | .list xs, h => by
    unfold plainB at h
    obtain ⟨h1, h2, h3⟩ := showns_le xs h
    refine ⟨?_, h2, h3⟩
    show (PySem.textFrom 0 "[" (PyData.shownAll xs) ++ "]").length ≤ big.bigs xs + 6
    rw [PySem.strLen_append]
    have h4 := textFrom_le (PyData.shownAll xs) 0 "["
    have h5 : (((("[" : String) : Str))).length = 1 := rfl
    have h6 : (((("]" : String) : Str))).length = 1 := rfl
    omega
  | .tuple xs, h => by
    unfold plainB at h
    obtain ⟨h1, h2, h3⟩ := showns_le xs h
    refine ⟨?_, h2, h3⟩
    show (PySem.tupleText (PyData.shownAll xs)).length ≤ big.bigs xs + 6
    unfold PySem.tupleText
    rw [PySem.strLen_append, PySem.strLen_append]
    have h4 := join_le (PyData.shownAll xs)
    have h5 : (((("(" : String) : Str))).length = 1 := rfl
    have h6 : (((if (PyData.shownAll xs).length == 1 then ",)" else ")" : String) : Str)).length ≤ 2 := by split <;> decide
    omega
  | .str x, h => by
    unfold plainB at h
    obtain ⟨h1, h2⟩ := Bool.and_eq_true_iff.mp h
    exact ⟨of_decide_eq_true h1, rfl, rfl⟩
  | .dict _, h => by
    unfold plainB at h
    cases h
theorem showns_le : ∀ xs : List D, plainB.plains xs = true → pil (PyData.shownAll xs) ≤ big.bigs xs ∧ PyData.showableAll xs = true ∧ PyData.hasDictAll xs = false
  | [], _ => ⟨Nat.le_refl _, rfl, rfl⟩
  | x :: xs, h => by
    unfold plainB.plains at h
    obtain ⟨h1, h2⟩ := Bool.and_eq_true_iff.mp h
    obtain ⟨a1, a2, a3⟩ := shown_le x h1
    obtain ⟨b1, b2, b3⟩ := showns_le xs h2
    refine ⟨?_, ?_, ?_⟩
    · show (x.shown.length + 2) + pil (PyData.shownAll xs) ≤ big x + 2 + big.bigs xs
      omega
    · show (x.showable && PyData.showableAll xs) = true
      rw [a2, b2]
      rfl
    · show (x.hasDict || PyData.hasDictAll xs) = false
      rw [a3, b3]
      rfl
end
theorem ok_of (s : String) : PyData.strOk (PySem.Str.ofString s) = true := by
  rw [PySem.Str.ofString_eq_toList]
  unfold PyData.strOk
  rw [← Array.all_toList]
  refine List.all_eq_true.mpr fun n hn => ?_
  obtain ⟨c, hc, rfl⟩ := List.mem_map.mp (by simpa using hn)
  have h := c.valid
  have e : c.toNat = c.val.toNat := rfl
  rcases h with h | ⟨_, h⟩
  · exact decide_eq_true (by rw [e]; omega)
  · exact decide_eq_true (by rw [e]; omega)
theorem ok_app (x y : Str) : PyData.strOk (x ++ y) = (PyData.strOk x && PyData.strOk y) := by
  show (x.cps ++ y.cps).all _ = _
  rw [Array.all_append]
  rfl
theorem ok_from : ∀ (ts : List Str) (k : Nat) (acc : Str), PyData.strOk acc = true → (∀ t ∈ ts, PyData.strOk t = true) → PyData.strOk (PySem.textFrom k acc ts) = true
  | [], k, acc, h, _ => h
  | t :: r, k, acc, h, hs => by
    refine ok_from r (k + 1) _ ?_ fun z hz => hs z (by simp [hz])
    rw [ok_app, ok_app, h, hs t (by simp)]
    have : PyData.strOk ((if k > 0 then ", " else "" : String) : Str) = true := ok_of _
    rw [this]
    rfl
theorem ok_join : ∀ ts : List Str, (∀ t ∈ ts, PyData.strOk t = true) → PyData.strOk (Str.join ", " ts) = true
  | [], _ => by
    show PyData.strOk Str.empty = true
    decide +kernel
  | [x], h => h x (by simp)
  | x :: y :: r, h => by
    show PyData.strOk (x ++ ", " ++ Str.join ", " (y :: r)) = true
    rw [ok_app, ok_app, h x (by simp), ok_join (y :: r) fun z hz => h z (by simp [List.mem_cons.mp hz])]
    have : PyData.strOk ((", " : String) : Str) = true := ok_of _
    rw [this]
    rfl
mutual
theorem shown_strOk : ∀ d : D, plainB d = true → PyData.strOk d.shown = true
  | .none, _ => ok_of _
  | .bool b, _ => by cases b <;> exact ok_of _
  | .int i, _ => ok_of _
  | .list xs, h => by
    unfold plainB at h
    show PyData.strOk (PySem.textFrom 0 "[" (PyData.shownAll xs) ++ "]") = true
    rw [ok_app, ok_from _ _ _ (ok_of _) (showns_strOk xs h)]
    exact ok_of _
  | .tuple xs, h => by
    unfold plainB at h
    show PyData.strOk (PySem.tupleText (PyData.shownAll xs)) = true
    unfold PySem.tupleText
    rw [ok_app, ok_app, ok_join _ (showns_strOk xs h)]
    have h1 : PyData.strOk (("(" : String) : Str) = true := ok_of _
    have h2 : PyData.strOk ((if (PyData.shownAll xs).length == 1 then ",)" else ")" : String) : Str) = true := ok_of _
    rw [h1, h2]
    rfl
  | .str x, h => by
    unfold plainB at h
    exact (Bool.and_eq_true_iff.mp h).2
  | .dict _, h => by
    unfold plainB at h
    cases h
theorem showns_strOk : ∀ xs : List D, plainB.plains xs = true → ∀ t ∈ PyData.shownAll xs, PyData.strOk t = true
  | [], _, t, ht => by cases ht
  | x :: xs, h, t, ht => by
    unfold plainB.plains at h
    obtain ⟨h1, h2⟩ := Bool.and_eq_true_iff.mp h
    have ht' : t ∈ x.shown :: PyData.shownAll xs := ht
    rcases List.mem_cons.mp ht' with rfl | q
    · exact shown_strOk x h1
    · exact showns_strOk xs h2 t q
end
theorem repr_ok {d : D} (h : plainB d = true) (h1 : d.depth ≤ 64) (h2 : big d ≤ 16777216) : reprOk d = true := by
  obtain ⟨a1, a2, a3⟩ := shown_le d h
  unfold reprOk
  rw [a2, a3, decide_eq_true h1, decide_eq_true (Nat.le_trans a1 (by rw [PySem.sizeLine_eq]; exact h2))]
  rfl
theorem like_ok {d : D} (h : plainB d = true) (h1 : d.depth ≤ 64) (h2 : big d ≤ 16777216) : m__law_like [d, d] = some (.bool true) := by
  have hr := repr_ok h h1 h2
  have hs : PySem.SeqAt.shaped (.str d.shown) = true := by
    show (PyData.strOk d.shown && decide (0 ≤ 64)) = true
    rw [shown_strOk d h]
    rfl
  simp [m__law_like, runP2, runP, F__law_like, retM, valM, bnd, op2, lateM, nameM, getO, toD, lift, ret, callM, reprD, consO, nilM, getL, hr, eqD, hs, PyData.eqv]
/-! plain data by depth and size -/
structure Pl (d b : Nat) (x : D) : Prop where
  p : plainB x = true
  d : PyData.depth x ≤ d
  b : big x ≤ b
theorem plains_of : ∀ {xs : List D}, (∀ x ∈ xs, plainB x = true) → plainB.plains xs = true
  | [], _ => by unfold plainB.plains; rfl
  | x :: xs, h => by
    unfold plainB.plains
    rw [h x List.mem_cons_self, plains_of fun y m => h y (List.mem_cons_of_mem _ m)]
    rfl
theorem bigs_of {b : Nat} : ∀ {xs : List D}, (∀ x ∈ xs, big x ≤ b) → big.bigs xs ≤ xs.length * (b + 2)
  | [], _ => by unfold big.bigs; omega
  | x :: xs, h => by
    unfold big.bigs
    have h1 := h x List.mem_cons_self
    have h2 := bigs_of fun y m => h y (List.mem_cons_of_mem _ m)
    rw [List.length_cons, Nat.add_mul]
    omega
theorem depths_of {n : Nat} : ∀ xs : List D, (∀ x ∈ xs, PyData.depth x ≤ n) → PyData.depthAll xs ≤ n
  | [], _ => by simp [PyData.depthAll]
  | x :: xs, h => by
    unfold PyData.depthAll
    exact Nat.max_le.mpr ⟨h x List.mem_cons_self, depths_of xs fun y m => h y (List.mem_cons_of_mem _ m)⟩
theorem Pl.mono {d b d' b' : Nat} {x : D} (h : Pl d b x) (h1 : d ≤ d') (h2 : b ≤ b') : Pl d' b' x := ⟨h.p, Nat.le_trans h.d h1, Nat.le_trans h.b h2⟩
theorem Pl.tup {d b m : Nat} {xs : List D} (hm : xs.length ≤ m) (h : ∀ x ∈ xs, Pl d b x) : Pl (d + 1) (m * (b + 2) + 6) (.tuple xs) := by
  refine ⟨by unfold plainB; exact plains_of fun x hx => (h x hx).p, ?_, ?_⟩
  · unfold PyData.depth
    have := depths_of (n := d) xs fun x hx => (h x hx).d
    omega
  · unfold big
    have h1 := bigs_of fun x hx => (h x hx).b
    have h2 : xs.length * (b + 2) ≤ m * (b + 2) := Nat.mul_le_mul_right _ hm
    omega
theorem Pl.lst {d b m : Nat} {xs : List D} (hm : xs.length ≤ m) (h : ∀ x ∈ xs, Pl d b x) : Pl (d + 1) (m * (b + 2) + 6) (.list xs) := by
  refine ⟨by unfold plainB; exact plains_of fun x hx => (h x hx).p, ?_, ?_⟩
  · unfold PyData.depth
    have := depths_of (n := d) xs fun x hx => (h x hx).d
    omega
  · unfold big
    have h1 := bigs_of fun x hx => (h x hx).b
    have h2 : xs.length * (b + 2) ≤ m * (b + 2) := Nat.mul_le_mul_right _ hm
    omega
theorem Pl.int {i : Int} (h1 : -1 ≤ i) (h2 : i < 10 ^ 150) : Pl 0 150 (.int i) := ⟨by
  unfold plainB
  rw [decide_eq_true h1, decide_eq_true h2]
  rfl, by simp [PyData.depth], Nat.le_refl _⟩
theorem Pl.non : Pl 0 150 .none := ⟨rfl, by simp [PyData.depth], by decide⟩
theorem Pl.bl {k : Bool} : Pl 0 150 (.bool k) := ⟨rfl, by simp [PyData.depth], by show 6 ≤ 150; decide⟩
theorem Pl.str {x : Str} (h : (decide ((PyData.shown (.str x)).length ≤ 150) && PyData.strOk (PyData.shown (.str x))) = true) : Pl 0 150 (.str x) := ⟨by
  unfold plainB
  exact h, by simp [PyData.depth], Nat.le_refl _⟩
theorem Pl.like {d b : Nat} {x : D} (h : Pl d b x) (h1 : d ≤ 64 := by decide) (h2 : b ≤ 16777216 := by decide) : m__law_like [x, x] = some (.bool true) :=
  like_ok h.p (Nat.le_trans h.d h1) (Nat.le_trans h.b h2)
end LW
end

section
set_option Elab.async false
set_option linter.all false
set_option maxRecDepth 100000
set_option maxHeartbeats 999999
open DL
open PySem (PyData Str)
namespace LW
/-! ### laboratories, as data -/
structure Wash where
  after : Nat → List Nat
  low : Int
  high : Int
structure Lab where
  n : Nat
  k : Nat
  meet : Nat → Nat → Option Nat
  washes : List Wash
  tools : Int
  arms : Int
  zones : Int
def oD : Option Nat → D
  | none => .none
  | some i => .int (i : Nat)
def nD (i : Nat) : D := .int (i : Nat)
def resD (l : List Nat) : D := .tuple (l.map nD)
def washD (n : Nat) (W : Wash) : D := .tuple [.tuple (rowT n fun s => resD (W.after s)), .int W.low, .int W.high]
def Lab.mrow (L : Lab) (s : Nat) : D := .tuple (rowT L.k fun t => oD (L.meet s t))
def Lab.meets (L : Lab) : D := .tuple (rowT L.n L.mrow)
def Lab.ws (L : Lab) : D := .tuple (L.washes.map (washD L.n))
def Lab.D (L : Lab) : DL.D := .tuple [L.meets, L.ws, .int L.tools, .int L.arms, .int L.zones]
structure WashOk (n : Nat) (W : Wash) : Prop where
  ne : ∀ s, s < n → W.after s ≠ []
  few : ∀ s, s < n → (W.after s).length ≤ 3
  up : ∀ s, s < n → (W.after s).Pairwise (· < ·)
  lt : ∀ s, s < n → ∀ r ∈ W.after s, r < n
  low : 1 ≤ W.low
  lowhi : W.low ≤ W.high
  high : W.high ≤ 6
structure LabOk (L : Lab) : Prop where
  n1 : 1 ≤ L.n
  n8 : L.n ≤ 8
  k1 : 1 ≤ L.k
  k8 : L.k ≤ 8
  meet : ∀ s t r, s < L.n → t < L.k → L.meet s t = some r → r < L.n
  meet0 : ∀ t, t < L.k → L.meet 0 t ≠ none
  few : L.washes.length ≤ 3
  wash : ∀ W ∈ L.washes, WashOk L.n W
  t1 : 1 ≤ L.tools
  t3 : L.tools ≤ 3
  a1 : 1 ≤ L.arms
  a3 : L.arms ≤ 3
  z0 : 0 ≤ L.zones
  z4 : L.zones ≤ 4
/-! ### tests of form -/
@[simp] theorem whole_i (i : Int) : m_is_whole [.int i] = some (.bool true) := by rfl
@[simp] theorem within_i (k lo hi : Int) : m_is_within [.int k, .int lo, .int hi] = some (.bool (decide (lo ≤ k) && decide (k ≤ hi))) := by
  refine runP2_of rfl (Ev.run ?_)
  by_cases h : lo ≤ k <;> simp [F_is_within, h]
@[simp] theorem tuple_of (xs : List D) (n : Int) : m_is_tuple_of [.tuple xs, .int n] = some (.bool (decide (((xs.length : Nat) : Int) = n))) := by
  refine runP2_of rfl (Ev.run ?_)
  simp [F_is_tuple_of]
@[simp] theorem tuple_to (xs : List D) (lo hi : Int) : m_is_tuple_to [.tuple xs, .int lo, .int hi] = some (.bool (decide (lo ≤ ((xs.length : Nat) : Int)) && decide (((xs.length : Nat) : Int) ≤ hi))) := by
  refine runP2_of rfl (Ev.run ?_)
  by_cases h : lo ≤ ((xs.length : Nat) : Int) <;> simp [F_is_tuple_to, h]
theorem descent_none {l : List Nat} {lim : Int} (h : l.Pairwise (· < ·)) (hl : ∀ r ∈ l, (r : Int) < lim) : m_first_descent [.tuple (l.map nD), .int lim] = some .none := by
  refine runP2_of rfl ?_
  unfold F_first_descent
  refine Ev.seqN (Ev.run ?_)
  simp
  refine Ev.seqN (Ev.loop (Ev.run ?_))
  simp
  refine Ev.for_ (fun i s => ∃ (w3 w4 : Option Sl) (last : Int), (∀ r, l[i]? = some r → last < (r : Int)) ∧ -1 ≤ last ∧ s = ⟨[some (.d (.tuple (l.map nD))), some (.d (.int lim)), some (.d (.int last)), w3, w4], ()⟩) ?_ ?_ ⟨_, _, -1, fun r _ => by omega, by omega, rfl⟩
  · rintro i x s hx ⟨w3, w4, last, h1, h2, rfl⟩
    obtain ⟨y, hy, rfl⟩ := enumT_some hx
    rw [List.getElem?_map] at hy
    obtain ⟨r, hr, rfl⟩ := Option.map_eq_some_iff.mp hy
    have a1 := h1 r hr
    have a2 := hl r (List.mem_of_getElem? hr)
    refine Ev.run ?_
    have b1 : last + 1 ≤ (r : Int) := a1
    have b2 : (r : Int) ≤ lim - 1 := by omega
    simp [nD, b1, b2]
    refine ⟨_, _, _, fun q hq => ?_, ?_, rfl, rfl, rfl⟩
    rotate_left
    · omega
    obtain ⟨g1, g2⟩ := List.getElem?_eq_some_iff.mp hr
    obtain ⟨g3, g4⟩ := List.getElem?_eq_some_iff.mp hq
    have := List.pairwise_iff_getElem.mp h i (i + 1) g1 g3 (by omega)
    rw [g2, g4] at this
    omega
  · rintro s ⟨w3, w4, last, _, _, rfl⟩
    refine ⟨rfl, Ev.run ?_⟩
    simp
theorem oD_none {o : Option Nat} : isNoneB (oD o) = o.isNone := by cases o <;> rfl
theorem meets_none {L : Lab} (h : LabOk L) : m_meets_fault [L.meets] = some .none := by
  have n1 := h.n1
  have n8 := h.n8
  have k1 := h.k1
  have k8 := h.k8
  refine runP2_of rfl ?_
  unfold F_meets_fault
  refine Ev.seqN (Ev.run ?_)
  have c1 : (1 : Int) ≤ (L.n : Nat) := by omega
  have c2 : ((L.n : Nat) : Int) ≤ 8 := by omega
  simp [Lab.meets, c1, c2]
  refine Ev.seqN (Ev.run ?_)
  simp
  refine Ev.seqN (Ev.loop (Ev.run ?_))
  simp
  refine Ev.for_ (fun i s => ∃ (w2 w3 w4 w5 : Option Sl) (st : Int), (i = 0 ∨ st = (L.k : Nat)) ∧ s = ⟨[some (.d L.meets), some (.d (.int st)), w2, w3, w4, w5], ()⟩) ?_ ?_ ⟨_, _, _, _, 0, .inl rfl, rfl⟩
  · rintro i x s hx ⟨w2, w3, w4, w5, st, hst, rfl⟩
    obtain ⟨y, hy, rfl⟩ := enumT_some hx
    obtain ⟨hi, rfl⟩ := rowT_some hy
    refine Ev.bnd (Ev.run ?_)
    simp
    have d1 : (1 : Int) ≤ (L.k : Nat) := by omega
    have d2 : ((L.k : Nat) : Int) ≤ 8 := by omega
    have e3 : ∀ j : Nat, j < L.k → L.meet i j = none → i ≠ 0 := fun j hj e z => by
      subst z
      exact h.meet0 j hj e
    have fin : ∀ (w4 w5 : Option Sl) (P : Out → Stt Unit → Prop), (∀ w4 w5, P .nx ⟨[some (.d L.meets), some (.d (.int (L.k : Nat))), some (.d (.int (i : Nat))), some (.d (.tuple (rowT L.k fun t => oD (L.meet i t)))), w4, w5], ()⟩) →
        Ev (loopM (enumM (nameM 3)) (tupG 2 (gsCons (setM 4) (gsCons (setM 5) gsNil))) (ifM (orT (andT (bnd (op2 isD (nameM 5) (ret (.val PyData.none))) boolO) (bnd (op2 eqD (nameM 2) (ret (.val (PyData.int 0)))) boolO)) (andT (bnd (op2 isNotD (nameM 5) (ret (.val PyData.none))) boolO) (notT (bnd (callP m_is_within (consD (nameM 5) (consD (ret (.val (PyData.int 0))) (consD (op2 subD (callM lenD (consO (nameM 0) nilM)) (ret (.val (PyData.int 1)))) nilM)))) boolO)))) (retM (tupM (consD (ret (.val (PyData.int 0))) (consD (nameM 2) (consD (nameM 4) nilM))))) (ret .nx)))
          (⟨[some (.d L.meets), some (.d (.int (L.k : Nat))), some (.d (.int (i : Nat))), some (.d (.tuple (rowT L.k fun t => oD (L.meet i t)))), w4, w5], ()⟩ : Stt Unit) P := by
      intro w4 w5 P hP
      refine Ev.loop (Ev.run ?_)
      simp
      refine Ev.for_ (fun j s => ∃ (w4 w5 : Option Sl), s = ⟨[some (.d L.meets), some (.d (.int (L.k : Nat))), some (.d (.int (i : Nat))), some (.d (.tuple (rowT L.k fun t => oD (L.meet i t)))), w4, w5], ()⟩) ?_ ?_ ⟨_, _, rfl⟩
      · rintro j x s hx ⟨w4, w5, rfl⟩
        obtain ⟨y, hy, rfl⟩ := enumT_some hx
        obtain ⟨hj, rfl⟩ := rowT_some hy
        refine Ev.run ?_
        cases hm : L.meet i j with
        | none =>
          have := e3 j hj hm
          simp [oD, this]
        | some r =>
          have q1 := h.meet i j r hi hj hm
          have q2 : (r : Int) ≤ (L.n : Nat) - 1 := by omega
          simp [oD, Lab.meets, q2]
      · rintro s ⟨w4, w5, rfl⟩
        exact hP w4 w5
    rcases Nat.eq_zero_or_pos i with h0 | h0
    · subst h0
      refine Ev.seqN (Ev.run ?_)
      simp [Lab.mrow, d1, d2]
      refine Ev.seqN (Ev.run ?_)
      simp
      refine Ev.seqN (Ev.run ?_)
      simp
      refine fin _ _ _ fun w4 w5 => ?_
      simp
    · have st' : st = (L.k : Nat) := hst.resolve_left (by omega)
      subst st'
      have h0' : ¬ i = 0 := by omega
      refine Ev.seqN (Ev.run ?_)
      simp [Lab.mrow, h0']
      refine Ev.seqN (Ev.run ?_)
      simp [h0']
      refine Ev.seqN (Ev.run ?_)
      simp
      refine fin _ _ _ fun w4 w5 => ?_
      simp
  · rintro s ⟨w2, w3, w4, w5, st, _, rfl⟩
    refine ⟨rfl, Ev.run ?_⟩
    simp
theorem wash_none {n : Nat} {W : Wash} (h : WashOk n W) : m_wash_fault [washD n W, .int (n : Nat)] = some .none := by
  refine runP2_of rfl ?_
  unfold F_wash_fault
  refine Ev.seqN (Ev.run ?_)
  simp [washD]
  refine Ev.seqN (Ev.run ?_)
  simp
  refine Ev.seqN (Ev.run ?_)
  simp
  refine Ev.seqN (Ev.loop (Ev.run ?_))
  simp
  refine Ev.for_ (fun i s => ∃ (w5 w6 w7 : Option Sl), s = ⟨[some (.d (washD n W)), some (.d (.int (n : Nat))), some (.d (.tuple (rowT n fun s => resD (W.after s)))), some (.d (.int W.low)), some (.d (.int W.high)), w5, w6, w7], ()⟩) ?_ ?_ ⟨_, _, _, rfl⟩
  · rintro i x s hx ⟨w5, w6, w7, rfl⟩
    obtain ⟨y, hy, rfl⟩ := enumT_some hx
    obtain ⟨hi, rfl⟩ := rowT_some hy
    refine Ev.bnd (Ev.run ?_)
    simp
    have d1 : (1 : Int) ≤ ((W.after i).length : Nat) := by
      have := List.length_pos_iff.mpr (h.ne i hi)
      omega
    have d2 : (((W.after i).length : Nat) : Int) ≤ 3 := by
      have := h.few i hi
      omega
    refine Ev.seqN (Ev.run ?_)
    simp [resD, d1, d2]
    have e := descent_none (l := W.after i) (lim := (n : Nat)) (h.up i hi) fun r hr => by
      have := h.lt i hi r hr
      omega
    refine Ev.seqN (Ev.run ?_)
    simp [e]
    refine Ev.run ?_
    simp
  · rintro s ⟨w5, w6, w7, rfl⟩
    have l1 := h.low
    have l2 := h.lowhi
    have l3 := h.high
    have l4 : W.low ≤ 6 := by omega
    refine ⟨rfl, ?_⟩
    refine Ev.seqN (Ev.run ?_)
    simp [l1, l4]
    refine Ev.seqN (Ev.run ?_)
    simp [l2, l3]
    refine Ev.run ?_
    simp
theorem lab_none {L : Lab} (h : LabOk L) : m_lab_fault [L.D] = some .none := by
  refine runP2_of rfl ?_
  unfold F_lab_fault
  refine Ev.seqN (Ev.run ?_)
  simp [Lab.D]
  refine Ev.seqN (Ev.run ?_)
  simp
  refine Ev.seqN (Ev.run ?_)
  simp [meets_none h]
  refine Ev.seqN (Ev.run ?_)
  simp
  have c2 : ((L.washes.length : Nat) : Int) ≤ 3 := by have := h.few; omega
  refine Ev.seqN (Ev.run ?_)
  simp [Lab.ws, c2]
  refine Ev.seqN (Ev.loop (Ev.run ?_))
  simp
  refine Ev.for_ (fun i s => ∃ (w7 w8 : Option Sl), s = ⟨[some (.d L.D), some (.d L.meets), some (.d L.ws), some (.d (.int L.tools)), some (.d (.int L.arms)), some (.d (.int L.zones)), some (.d .none), w7, w8], ()⟩) ?_ ?_ ⟨_, _, rfl⟩
  · rintro i x s hx ⟨w7, w8, rfl⟩
    obtain ⟨y, hy, rfl⟩ := enumT_some hx
    rw [List.getElem?_map] at hy
    obtain ⟨W, hW, rfl⟩ := Option.map_eq_some_iff.mp hy
    have e := wash_none (h.wash W (List.mem_of_getElem? hW))
    refine Ev.run ?_
    simp [Lab.meets, e]
  · rintro s ⟨w7, w8, rfl⟩
    refine ⟨rfl, ?_⟩
    refine Ev.seqN (Ev.run ?_)
    simp [h.t1, h.t3]
    refine Ev.seqN (Ev.run ?_)
    simp [h.a1, h.a3]
    refine Ev.seqN (Ev.run ?_)
    simp [h.z0, h.z4]
    refine Ev.run ?_
    simp
theorem need_lab {L : Lab} (h : LabOk L) : m_need_lab [L.D] = some L.D := by
  refine runP2_of rfl (Ev.run ?_)
  simp [F_need_lab, lab_none h]
end LW
end

section
set_option Elab.async false
set_option linter.all false
set_option maxRecDepth 100000
set_option maxHeartbeats 999999
open DL
open PySem (PyData Str)
namespace LW
/-! ### free rows: counts, ranks, all rows (no program here) -/
def gain (L : Lab) (f : Nat → Nat) (s t : Nat) : Nat := match L.meet s t with
  | none => 0
  | some r => f r
def pre (g : Nat → Nat) : Nat → Nat
  | 0 => 0
  | t + 1 => pre g t + g t
def cnt (L : Lab) : Nat → Nat → Nat
  | 0, _ => 1
  | l + 1, s => pre (gain L (cnt L l) s) L.k
def stopN (L : Lab) : Nat → List Nat → Nat × Nat
  | s, [] => (0, s)
  | s, t :: r => match L.meet s t with
    | none => (0, s)
    | some s' => ((stopN L s' r).1 + 1, (stopN L s' r).2)
def rankN (L : Lab) : Nat → List Nat → Nat
  | _, [] => 0
  | s, t :: r => pre (gain L (cnt L r.length) s) t + (match L.meet s t with
    | none => 0
    | some s' => rankN L s' r)
/-- a row that goes to its end -/
def Free (L : Lab) : Nat → List Nat → Prop
  | _, [] => True
  | s, t :: r => ∃ s', L.meet s t = some s' ∧ Free L s' r
def In (L : Lab) (row : List Nat) : Prop := ∀ t ∈ row, t < L.k
theorem pre_mono {g : Nat → Nat} {a b : Nat} (h : a ≤ b) : pre g a ≤ pre g b := by
  induction b with
  | zero =>
    have : a = 0 := by omega
    subst this
    exact Nat.le_refl _
  | succ b ih =>
    by_cases e : a = b + 1
    · subst e; exact Nat.le_refl _
    · have := ih (by omega)
      show _ ≤ pre g b + g b
      omega
theorem pre_lt {g : Nat → Nat} {t k : Nat} (h : t < k) : pre g t + g t ≤ pre g k := pre_mono (a := t + 1) (b := k) h
theorem stop_le (L : Lab) : ∀ (row : List Nat) (s : Nat), (stopN L s row).1 ≤ row.length
  | [], s => Nat.le_refl _
  | t :: r, s => by
    unfold stopN
    cases h : L.meet s t with
    | none => exact Nat.zero_le _
    | some s' =>
      have := stop_le L r s'
      show (stopN L s' r).1 + 1 ≤ r.length + 1
      omega
theorem free_iff (L : Lab) : ∀ (row : List Nat) (s : Nat), Free L s row ↔ (stopN L s row).1 = row.length
  | [], s => ⟨fun _ => rfl, fun _ => trivial⟩
  | t :: r, s => by
    unfold stopN Free
    cases h : L.meet s t with
    | none =>
      constructor
      · rintro ⟨s', e, _⟩
        cases e
      · intro e
        cases e
    | some s' =>
      have ih := free_iff L r s'
      constructor
      · rintro ⟨s2, e, f⟩
        cases e
        show (stopN L s' r).1 + 1 = r.length + 1
        rw [ih.mp f]
      · intro e
        refine ⟨s', rfl, ih.mpr ?_⟩
        have e' : (stopN L s' r).1 + 1 = r.length + 1 := e
        omega
theorem rank_lt (L : Lab) : ∀ (row : List Nat) (s : Nat), Free L s row → In L row → rankN L s row < cnt L row.length s
  | [], s, _, _ => Nat.zero_lt_one
  | t :: r, s, ⟨s', e, f⟩, hi => by
    have ih := rank_lt L r s' f fun u hu => hi u (List.mem_cons_of_mem _ hu)
    have ht := hi t List.mem_cons_self
    have := pre_lt (g := gain L (cnt L r.length) s) ht
    have hg : gain L (cnt L r.length) s t = cnt L r.length s' := by unfold gain; rw [e]
    show pre (gain L (cnt L r.length) s) t + _ < pre (gain L (cnt L r.length) s) L.k
    rw [e]
    dsimp only
    omega
theorem find_pre {g : Nat → Nat} {i : Nat} : ∀ {k : Nat}, i < pre g k → ∃ t, t < k ∧ pre g t ≤ i ∧ i < pre g t + g t
  | 0, h => by simp [pre] at h
  | k + 1, h => by
    by_cases q : i < pre g k
    · obtain ⟨t, h1, h2⟩ := find_pre q
      exact ⟨t, by omega, h2⟩
    · exact ⟨k, by omega, by omega, h⟩
theorem has_rank (L : Lab) : ∀ (l s i : Nat), i < cnt L l s → ∃ row, row.length = l ∧ Free L s row ∧ In L row ∧ rankN L s row = i
  | 0, s, i, h => ⟨[], rfl, trivial, fun t ht => (by cases ht), by
    have : i < 1 := h
    show 0 = i
    omega⟩
  | l + 1, s, i, h => by
    obtain ⟨t, h1, h2, h3⟩ := find_pre (g := gain L (cnt L l) s) (k := L.k) h
    cases e : L.meet s t with
    | none =>
      have hg : gain L (cnt L l) s t = 0 := by unfold gain; rw [e]
      omega
    | some s' =>
      have hg : gain L (cnt L l) s t = cnt L l s' := by unfold gain; rw [e]
      obtain ⟨row, r1, r2, r3, r4⟩ := has_rank L l s' (i - pre (gain L (cnt L l) s) t) (by omega)
      refine ⟨t :: row, by rw [List.length_cons, r1], ⟨s', e, r2⟩, fun u hu => ?_, ?_⟩
      · rcases List.mem_cons.mp hu with rfl | q
        · exact h1
        · exact r3 u q
      · show pre (gain L (cnt L row.length) s) t + _ = i
        rw [r1, e]
        dsimp only
        omega
theorem cnt_le {L : Lab} (k5 : L.k ≤ 5) : ∀ l s, cnt L l s ≤ 5 ^ l
  | 0, s => Nat.le_refl _
  | l + 1, s => by
    have key : ∀ k, pre (gain L (cnt L l) s) k ≤ k * 5 ^ l := by
      intro k
      induction k with
      | zero => exact Nat.zero_le _
      | succ k ih =>
        have : gain L (cnt L l) s k ≤ 5 ^ l := by
          unfold gain
          cases L.meet s k with
          | none => exact Nat.zero_le _
          | some r => exact cnt_le k5 l r
        show pre _ k + _ ≤ _
        rw [Nat.add_mul, Nat.one_mul]
        omega
    refine Nat.le_trans (key L.k) ?_
    rw [Nat.pow_succ, Nat.mul_comm (5 ^ l) 5]
    exact Nat.mul_le_mul_right _ k5
theorem cnt_big {L : Lab} (k5 : L.k ≤ 5) {l s : Nat} (hl : l ≤ 201) : cnt L l s < 10 ^ 149 := by
  refine Nat.lt_of_le_of_lt (cnt_le k5 l s) (Nat.lt_of_le_of_lt (Nat.pow_le_pow_right (by decide) hl) ?_)
  decide +kernel
/-! all rows of a length -/
def step (L : Lab) (f : Nat → List (List Nat × Nat)) (s t : Nat) : List (List Nat × Nat) := match L.meet s t with
  | none => []
  | some r => (f r).map fun q => (t :: q.1, q.2)
def allR (L : Lab) : Nat → Nat → List (List Nat × Nat)
  | 0, s => [([], s)]
  | l + 1, s => (List.range L.k).flatMap (step L (allR L l) s)
def ext1 (L : Lab) (p : List Nat × Nat) (t : Nat) : List (List Nat × Nat) := match L.meet p.2 t with
  | none => []
  | some r => [(p.1 ++ [t], r)]
def extP (L : Lab) (p : List Nat × Nat) : List (List Nat × Nat) := (List.range L.k).flatMap (ext1 L p)
def extR (L : Lab) (ps : List (List Nat × Nat)) : List (List Nat × Nat) := ps.flatMap (extP L)
theorem extP_cons (L : Lab) (t : Nat) (q : List Nat × Nat) : extP L (t :: q.1, q.2) = (extP L q).map fun z => (t :: z.1, z.2) := by
  unfold extP
  rw [List.map_flatMap]
  congr 1
  funext u
  unfold ext1
  dsimp only
  cases L.meet q.2 u <;> rfl
theorem ext_all (L : Lab) : ∀ l s, extR L (allR L l s) = allR L (l + 1) s
  | 0, s => by
    show [([], s)].flatMap (extP L) = (List.range L.k).flatMap (step L (allR L 0) s)
    rw [List.flatMap_singleton]
    unfold extP
    congr 1
  | l + 1, s => by
    show ((List.range L.k).flatMap (step L (allR L l) s)).flatMap (extP L) = (List.range L.k).flatMap (step L (allR L (l + 1)) s)
    rw [List.flatMap_assoc]
    congr 1
    funext t
    unfold step
    cases h : L.meet s t with
    | none => rfl
    | some r =>
      dsimp only
      rw [← ext_all L l r]
      unfold extR
      rw [List.map_flatMap, List.flatMap_map]
      congr 1
      funext q
      exact extP_cons L t q
/-- what stands at each place of all rows -/
def GoodAt (L : Lab) (l s i : Nat) (p : List Nat × Nat) : Prop := p.1.length = l ∧ Free L s p.1 ∧ In L p.1 ∧ rankN L s p.1 = i
theorem all_good (L : Lab) : ∀ l s, (allR L l s).length = cnt L l s ∧ ∀ i p, (allR L l s)[i]? = some p → GoodAt L l s i p
  | 0, s => ⟨rfl, fun i p h => by
    cases i with
    | zero =>
      cases h
      exact ⟨rfl, trivial, fun t ht => (by cases ht), rfl⟩
    | succ i => simp [allR] at h⟩
  | l + 1, s => by
    have ih := all_good L l
    have key : ∀ k, k ≤ L.k → ((List.range k).flatMap (step L (allR L l) s)).length = pre (gain L (cnt L l) s) k ∧ ∀ i p, ((List.range k).flatMap (step L (allR L l) s))[i]? = some p → GoodAt L (l + 1) s i p := by
      intro k
      induction k with
      | zero => exact fun _ => ⟨rfl, fun i p h => by simp at h⟩
      | succ k ihk =>
        intro hk
        obtain ⟨h1, h2⟩ := ihk (by omega)
        rw [List.range_succ, List.flatMap_append, List.flatMap_singleton]
        have hs : (step L (allR L l) s k).length = gain L (cnt L l) s k := by
          unfold step gain
          cases L.meet s k with
          | none => rfl
          | some r =>
            dsimp only
            rw [List.length_map]
            exact (ih r).1
        refine ⟨by rw [List.length_append, h1, hs]; rfl, fun i p h => ?_⟩
        by_cases hi : i < pre (gain L (cnt L l) s) k
        · rw [List.getElem?_append_left (by rw [h1]; exact hi)] at h
          exact h2 i p h
        · rw [List.getElem?_append_right (by rw [h1]; omega), h1] at h
          unfold step at h
          cases e : L.meet s k with
          | none => rw [e] at h; simp at h
          | some r =>
            rw [e] at h
            dsimp only at h
            rw [List.getElem?_map] at h
            obtain ⟨q, hq, rfl⟩ := Option.map_eq_some_iff.mp h
            obtain ⟨a1, a2, a3, a4⟩ := (ih r).2 _ q hq
            refine ⟨by show (k :: q.1).length = _; rw [List.length_cons, a1], ⟨r, e, a2⟩, fun u hu => ?_, ?_⟩
            · rcases List.mem_cons.mp hu with rfl | z
              · omega
              · exact a3 u z
            · show pre (gain L (cnt L q.1.length) s) k + _ = i
              rw [a1, e]
              dsimp only
              omega
    exact key L.k (Nat.le_refl _)
end LW
end

section
set_option Elab.async false
set_option linter.all false
set_option maxRecDepth 100000
set_option maxHeartbeats 999999
open DL
open PySem (PyData Str)
namespace LW
/-! ### the program's counts, stops, touches -/
theorem rgN_len (n : Nat) : (rgN n).length = n := by unfold rgN; simp
theorem rgN_some {n i : Nat} {x : D} (h : (rgN n)[i]? = some x) : i < n ∧ x = .int (i : Nat) := rowT_some (f := fun i => .int (i : Nat)) h
@[simp] theorem lab_0 (L : Lab) : ixD L.D (.int 0) = some (.val L.meets) := rfl
@[simp] theorem meets_len (L : Lab) : lenD [L.meets] = some (.val (.int (L.n : Nat))) := by simp [Lab.meets]
@[simp] theorem mrow_len (L : Lab) (s : Nat) : lenD [L.mrow s] = some (.val (.int (L.k : Nat))) := by simp [Lab.mrow]
theorem meets_at {L : Lab} {s : Nat} (h : s < L.n) : ixD L.meets (.int (s : Nat)) = some (.val (L.mrow s)) := by
  simp [Lab.meets, rowT_get h]
theorem mrow_at {L : Lab} {s t : Nat} (h : t < L.k) : ixD (L.mrow s) (.int (t : Nat)) = some (.val (oD (L.meet s t))) := by
  simp [Lab.mrow, rowT_get h]
@[simp] theorem meets_seq {τ : Type} (L : Lab) (s : Stt τ) : seqO L.meets s = some (rowT L.n L.mrow, s) := rfl
@[simp] theorem mrow_seq {τ : Type} (L : Lab) (i : Nat) (s : Stt τ) : seqO (L.mrow i) s = some (rowT L.k fun t => oD (L.meet i t), s) := rfl
def cntRow (L : Lab) (l : Nat) : D := .list (rowT L.n fun s => .int (cnt L l s : Nat))
def cntsD (L : Lab) (len : Nat) : D := .list (rowT (len + 1) (cntRow L))
theorem cntRow_at {L : Lab} {l s : Nat} (h : s < L.n) : ixD (cntRow L l) (.int (s : Nat)) = some (.val (.int (cnt L l s : Nat))) := by
  simp [cntRow, rowT_get h]
theorem cntsD_at {L : Lab} {len l : Nat} (h : l ≤ len) : ixD (cntsD L len) (.int (l : Nat)) = some (.val (cntRow L l)) := by
  simp [cntsD, rowT_get (show l < len + 1 by omega)]
theorem rowT_succ (k : Nat) (f : Nat → D) : rowT (k + 1) f = rowT k f ++ [f k] := by
  unfold rowT
  rw [List.range_succ, List.map_append]
  rfl
theorem atI_last {xs : List D} {x : D} : L2.atI (xs ++ [x]) (-1) = some x := by
  unfold L2.atI L2.ixN
  rw [if_neg (by decide), if_pos (by rw [List.length_append]; show -(((xs.length + 1 : Nat)) : Int) ≤ -1; omega)]
  have : ((-1 : Int) + ((xs ++ [x]).length : Nat)).toNat = xs.length := by
    rw [List.length_append]
    show ((-1 : Int) + ((xs.length + 1 : Nat) : Int)).toNat = _
    omega
  rw [this]
  simp
theorem rowT_last (k : Nat) (f : Nat → D) : L2.atI (rowT (k + 1) f) (-1) = some (f k) := by
  rw [rowT_succ]
  exact atI_last
theorem repL_eq {xs : List D} {k : Int} (h : -(2 ^ 63) ≤ k ∧ k < 2 ^ 63 ∧ xs.length * k.toNat ≤ PySem.sizeLine) : repL (.list xs) (.int k) = some (.new (List.replicate k.toNat xs).flatten) := if_pos h
theorem mul_rep (xs : List D) (k : Int) : mulD (.list xs) (.int k) = repL (.list xs) (.int k) := rfl
theorem mulD_l {xs : List D} {n : Nat} (h : xs.length * n ≤ 16777216) (hn : n ≤ 1000000) : mulD (.list xs) (.int (n : Nat)) = some (.new (List.replicate n xs).flatten) := by
  rw [mul_rep, repL_eq ⟨by omega, by omega, by rw [PySem.sizeLine_eq, Int.toNat_natCast]; exact h⟩, Int.toNat_natCast]
theorem Ev.app {τ : Type} {i : Nat} {F : M τ Opd} {s : Stt τ} {P : Out → Stt τ → Prop} {zs0 : List D} (h0 : s.env[i]? = some (some (.own zs0))) (h : Ev F s fun o s1 => Ev (toD o) s1 fun d s' => ∃ zs, s'.env[i]? = some (some (.own zs)) ∧ zs.length < 16777216 ∧ P .nx { s' with env := s'.env.set i (some (.own (zs ++ [d]))) }) :
    Ev (bnd (ownAt i) fun _ => appM i F) s P := by
  obtain ⟨o, s1, e, d, s', e2, zs, h1, h2, hp⟩ := h
  exact ⟨_, _, by simp [h0, e, e2, h1, h2], hp⟩
theorem ones_row (L : Lab) : PyData.list (List.replicate L.n (PyData.int 1)) = cntRow L 0 := by
  unfold cntRow rowT
  congr 1
  generalize L.n = n
  induction n with
  | zero => rfl
  | succ n ih =>
    rw [List.range_succ, List.map_append, ← ih, List.replicate_succ']
    rfl
theorem intsOf_app : ∀ (xs ys : List D) (as bs : List Int), intsOf xs = some as → intsOf ys = some bs → intsOf (xs ++ ys) = some (as ++ bs)
  | [], ys, as, bs, h, h2 => by cases h; exact h2
  | x :: xs, ys, as, bs, h, h2 => by
    cases x with
    | int b =>
      obtain ⟨cs, e, rfl⟩ := Option.map_eq_some_iff.mp (show (intsOf xs).map (b :: ·) = some as from h)
      show (intsOf (xs ++ ys)).map (b :: ·) = _
      rw [intsOf_app xs ys cs bs e h2]
      rfl
    | _ => cases h
/-- what a count takes of what a touch leads to -/
def gG (f : Nat → Nat) : D → Option D
  | .int i => some (.int (f i.toNat : Nat))
  | _ => none
theorem gG_o (f : Nat → Nat) (L : Lab) (s t : Nat) : ∃ bs, intsOf (gG f (oD (L.meet s t))).toList = some bs ∧ bs.sum = ((gain L f s t : Nat) : Int) := by
  unfold gain
  cases L.meet s t with
  | none => exact ⟨[], rfl, rfl⟩
  | some r => exact ⟨[(f r : Nat)], rfl, by simp⟩
theorem sum_gain (L : Lab) (f : Nat → Nat) (s : Nat) : ∀ k, ∃ bs, intsOf ((rowT k fun t => oD (L.meet s t)).filterMap (gG f)) = some bs ∧ bs.sum = ((pre (gain L f s) k : Nat) : Int)
  | 0 => ⟨[], rfl, rfl⟩
  | k + 1 => by
    obtain ⟨as, h1, h2⟩ := sum_gain L f s k
    obtain ⟨bs, h3, h4⟩ := gG_o f L s k
    refine ⟨as ++ bs, ?_, ?_⟩
    · rw [rowT_succ, List.filterMap_append]
      refine intsOf_app _ _ _ _ h1 ?_
      rw [← h3]
      cases h : gG f (oD (L.meet s k)) <;> simp [h]
    · rw [List.sum_append, h2, h4]
      show _ = (((pre (gain L f s) k + gain L f s k : Nat)) : Int)
      omega
theorem sumD_gain (L : Lab) (f : Nat → Nat) (s k : Nat) : sumD [.list ((rowT k fun t => oD (L.meet s t)).filterMap (gG f))] = some (.val (.int (pre (gain L f s) k : Nat))) := by
  obtain ⟨bs, h1, h2⟩ := sum_gain L f s k
  show (intsOf _).map _ = _
  rw [h1, ← h2]
  rfl
theorem cnt_succ (L : Lab) (l s : Nat) : cnt L (l + 1) s = pre (gain L (cnt L l) s) L.k := rfl
def asg0 : M Unit Out := (asgM 2 (lstM (consD (op2 mulD (lstM (consD (ret (.val (PyData.int 1))) nilM)) (callM lenD (consO (op2 ixD (nameM 0) (ret (.val (PyData.int 0)))) nilM))) nilM)))
theorem asg0_run {lab me x : D} {kk : Int} {X : List D} {r : List (Option Sl)} (h0 : ixD lab (.int 0) = some (.val me)) (hl : lenD [me] = some (.val (.int kk))) (m1 : mulD (.list [.int 1]) (.int kk) = some (.new X)) :
    asg0 ⟨some (.d lab) :: some (.d x) :: none :: r, ()⟩ = some (.nx, ⟨some (.d lab) :: some (.d x) :: some (.own [.list X]) :: r, ()⟩) := by
  simp [asg0, h0, hl, m1]
theorem ones_new (L : Lab) : PyData.list (List.replicate L.n [PyData.int 1]).flatten = cntRow L 0 := by
  rw [← ones_row L]
  simp
theorem asg0_ok {L : Lab} (h : L.n ≤ 8) (x : D) (r : List (Option Sl)) : asg0 ⟨some (.d L.D) :: some (.d x) :: none :: r, ()⟩ = some (.nx, ⟨some (.d L.D) :: some (.d x) :: some (.own (rowT (0 + 1) (cntRow L))) :: r, ()⟩) := by
  rw [asg0_run (lab_0 L) (meets_len L) (mulD_l (xs := [PyData.int 1]) (n := L.n) (by simp; omega) (by omega)), ones_new]
  rfl
/-- the state before turn i of the counts -/
def cntE (L : Lab) (len i : Nat) (w3 w4 : Option Sl) : Stt Unit := ⟨[some (.d L.D), some (.d (.int (len : Nat))), some (.own (rowT (i + 1) (cntRow L))), w3, w4, none, none], ()⟩
theorem turn_in {L : Lab} {l s t : Nat} {a b : D} {os : List D} {w3 : Option Sl} (ok : LabOk L) (hs : s < L.n) (ht : t < L.k) (acc : List D) :
    Ev (turnM (setM 5) (bnd (op2 isNotD (nameM 5) (ret (.val PyData.none))) boolO) (valM (op2 ixD (nameM 4) (nameM 5))) (oD (L.meet s t)) acc) (⟨[some (.d a), some (.d b), some (.own os), w3, some (.d (cntRow L l)), none, some (.d (L.mrow s))], ()⟩ : Stt Unit)
      fun acc' s3 => acc' = acc ++ (gG (cnt L l) (oD (L.meet s t))).toList ∧ wipeE s3.env [5] = [some (.d a), some (.d b), some (.own os), w3, some (.d (cntRow L l)), none, some (.d (L.mrow s))] ∧ s3.dr = () := by
  refine Ev.run ?_
  cases h : L.meet s t with
  | none => simp [oD, gG]
  | some r =>
    have hr := ok.meet s t r hs ht h
    simp [oD, gG, cntRow_at hr]
theorem sum_in {L : Lab} {l s : Nat} {a b : D} {os : List D} {w3 : Option Sl} (ok : LabOk L) (hs : s < L.n) :
    Ev (callM sumD (consO (lcM [5] (iterM (nameM 6)) (setM 5) (bnd (op2 isNotD (nameM 5) (ret (.val PyData.none))) boolO) (op2 ixD (nameM 4) (nameM 5))) nilM)) (⟨[some (.d a), some (.d b), some (.own os), w3, some (.d (cntRow L l)), none, some (.d (L.mrow s))], ()⟩ : Stt Unit)
      fun o s3 => o = .val (.int (cnt L (l + 1) s : Nat)) ∧ s3 = ⟨[some (.d a), some (.d b), some (.own os), w3, some (.d (cntRow L l)), none, some (.d (L.mrow s))], ()⟩ := by
  have k8 := ok.k8
  have e := lc_eq (ws := [5]) (Fi := iterM (nameM 6)) (G := setM 5) (T := bnd (op2 isNotD (nameM 5) (ret (.val PyData.none))) boolO) (E := op2 ixD (nameM 4) (nameM 5)) (s := (⟨[some (.d a), some (.d b), some (.own os), w3, some (.d (cntRow L l)), none, some (.d (L.mrow s))], ()⟩ : Stt Unit))
    (s1 := ⟨[some (.d a), some (.d b), some (.own os), w3, some (.d (cntRow L l)), none, some (.d (L.mrow s))], ()⟩) (xs := rowT L.k fun t => oD (L.meet s t)) (gG (cnt L l)) (by simp) (by rw [rowT_len]; omega) rfl (fun x hx acc => by
      obtain ⟨t, ht, rfl⟩ := rowT_mem hx
      exact turn_in ok hs ht acc)
  refine Ev.run ?_
  generalize lcM [5] (iterM (nameM 6)) (setM 5) (bnd (op2 isNotD (nameM 5) (ret (.val PyData.none))) boolO) (op2 ixD (nameM 4) (nameM 5)) = F at e ⊢
  simp [e, sumD_gain, cnt_succ]
theorem counts_ok {L : Lab} (ok : LabOk L) {len : Nat} (hl : len ≤ 1000) : m_row_counts [L.D, .int (len : Nat)] = some (cntsD L len) := by
  have n1 := ok.n1
  have n8 := ok.n8
  have k8 := ok.k8
  have g2 : rgOk 0 (len : Nat) = true := rgOk_small (by omega) (by omega) (by omega) (by omega)
  refine runP2_of rfl ?_
  unfold F_row_counts
  refine Ev.seqN ⟨.nx, _, asg0_ok (by omega) _ _, rfl, ?_⟩
  refine Ev.seqN (Ev.loop (Ev.rangeM (lo := 0) (hi := (len : Nat)) (by simp) g2 ?_))
  rw [rgD_nat]
  refine Ev.for_ (fun i s => ∃ w3 w4, s = cntE L len i w3 w4) ?_ ?_ ⟨none, none, rfl⟩
  · rintro i x s hx ⟨w3, w4, rfl⟩
    obtain ⟨hi, rfl⟩ := rgN_some hx
    unfold cntE
    refine Ev.bnd (Ev.run ?_)
    simp
    refine Ev.seqN (Ev.run ?_)
    simp [rowT_last]
    have e : Ev (lcM [6] (iterM (op2 ixD (nameM 0) (ret (.val (PyData.int 0))))) (setM 6) (ret true) (callM sumD (consO (lcM [5] (iterM (nameM 6)) (setM 5) (bnd (op2 isNotD (nameM 5) (ret (.val PyData.none))) boolO) (op2 ixD (nameM 4) (nameM 5))) nilM))) (⟨[some (.d L.D), some (.d (.int (len : Nat))), some (.own (rowT (i + 1) (cntRow L))), some (.d (.int (i : Nat))), some (.d (cntRow L i)), none, none], ()⟩ : Stt Unit)
        fun o s => o = .new (rowT L.n fun s => .int (cnt L (i + 1) s : Nat)) ∧ s = ⟨[some (.d L.D), some (.d (.int (len : Nat))), some (.own (rowT (i + 1) (cntRow L))), some (.d (.int (i : Nat))), some (.d (cntRow L i)), none, none], ()⟩ := by
      refine Ev.lc ⟨rowT L.n L.mrow, ⟨[some (.d L.D), some (.d (.int (len : Nat))), some (.own (rowT (i + 1) (cntRow L))), some (.d (.int (i : Nat))), some (.d (cntRow L i)), none, none], ()⟩, by simp, by rw [rowT_len]; omega,
        fun j acc s => acc = rowT j (fun s => .int (cnt L (i + 1) s : Nat)) ∧ s = ⟨[some (.d L.D), some (.d (.int (len : Nat))), some (.own (rowT (i + 1) (cntRow L))), some (.d (.int (i : Nat))), some (.d (cntRow L i)), none, none], ()⟩, ⟨rfl, rfl⟩, ?_, ?_⟩
      · rintro j x acc s hx ⟨rfl, rfl⟩
        obtain ⟨hj, rfl⟩ := rowT_some hx
        obtain ⟨o, s3, e1, rfl, rfl⟩ := sum_in (L := L) (l := i) (s := j) (a := L.D) (b := .int (len : Nat)) (os := rowT (i + 1) (cntRow L)) (w3 := some (.d (.int (i : Nat)))) ok hj
        refine Ev.run ?_
        dsimp only
        rw [rowT_succ j]
        generalize rowT (i + 1) (cntRow L) = Z at e1 ⊢
        generalize callM sumD _ = F at e1 ⊢
        simp [e1]
      · rintro acc s ⟨rfl, rfl⟩
        rw [rowT_len]
        exact ⟨rfl, rfl⟩
    refine Ev.app (zs0 := rowT (i + 1) (cntRow L)) rfl (e.mono fun o s2 q => ?_)
    obtain ⟨rfl, rfl⟩ := q
    exact Ev.toDn ⟨_, rfl, by rw [rowT_len]; omega, some (.d (.int (i : Nat))), some (.d (cntRow L i)), by rw [rowT_succ (i + 1)]; rfl⟩
  · rintro s ⟨w3, w4, rfl⟩
    rw [rgN_len]
    refine ⟨rfl, Ev.run ?_⟩
    simp [cntE, cntsD]
/-- the stop -/
theorem stop_none {L : Lab} {s t : Nat} {r : List Nat} (h : L.meet s t = none) : stopN L s (t :: r) = (0, s) := by
  rw [stopN, h]
theorem stop_some {L : Lab} {s t s' : Nat} {r : List Nat} (h : L.meet s t = some s') : stopN L s (t :: r) = ((stopN L s' r).1 + 1, (stopN L s' r).2) := by
  rw [stopN, h]
theorem drop_at {row : List Nat} {i t : Nat} (h : row[i]? = some t) : row.drop i = t :: row.drop (i + 1) := by
  obtain ⟨h1, h2⟩ := List.getElem?_eq_some_iff.mp h
  rw [List.drop_eq_getElem_cons h1, h2]
def stopE (L : Lab) (s0 : Nat) (row : List Nat) (i : Nat) (s : Stt Unit) : Prop := ∃ (w3 w4 : Option Sl) (here : Nat), s = ⟨[some (.d L.D), some (.d (nD here)), some (.d (resD row)), w3, w4], ()⟩ ∧ here < L.n ∧ stopN L s0 row = (i + (stopN L here (row.drop i)).1, (stopN L here (row.drop i)).2)
theorem stop_ok {L : Lab} (ok : LabOk L) {s : Nat} {row : List Nat} (hs : s < L.n) (hi : In L row) (hl : row.length ≤ 1000) : m_free_stop [L.D, nD s, resD row] = some (.tuple [nD (stopN L s row).1, nD (stopN L s row).2]) := by
  have g2 : rgOk 0 (row.length : Nat) = true := rgOk_small (by omega) (by omega) (by omega) (by omega)
  refine runP2_of rfl ?_
  unfold F_free_stop
  refine Ev.seq (Ev.loop (Ev.rangeM (lo := 0) (hi := (row.length : Nat)) (by simp [resD]) g2 ?_))
  rw [rgD_nat]
  refine Ev.for_ (stopE L s row) ?_ ?_ ⟨none, none, s, rfl, hs, by simp⟩
  · rintro i x st hx ⟨w3, w4, here, rfl, hh, e⟩
    obtain ⟨hir, rfl⟩ := rgN_some hx
    obtain ⟨t, ht⟩ : ∃ t, row[i]? = some t := ⟨_, List.getElem?_eq_getElem hir⟩
    have htk : t < L.k := hi t (List.mem_of_getElem? ht)
    rw [drop_at ht] at e
    have e2 : ixD (resD row) (.int (i : Nat)) = some (.val (nD t)) := by simp [resD, ht]
    have e3 := meets_at hh
    have e4 := mrow_at (L := L) (s := here) htk
    refine Ev.bnd (Ev.run ?_)
    simp
    refine Ev.seqN (Ev.run ?_)
    simp [e2, nD, e3, e4]
    cases h : L.meet here t with
    | none =>
      rw [stop_none h] at e
      refine Ev.seq (Ev.run ?_)
      simp [oD, e, nD]
    | some r =>
      rw [stop_some h] at e
      refine Ev.seq (Ev.run ?_)
      simp [oD]
      refine Ev.run ?_
      simp
      refine ⟨_, _, r, rfl, ok.meet _ _ _ hh htk h, ?_⟩
      rw [e]
      refine Prod.ext ?_ rfl
      show i + ((stopN L r (List.drop (i + 1) row)).1 + 1) = i + 1 + (stopN L r (List.drop (i + 1) row)).1
      omega
  · rintro st ⟨w3, w4, here, rfl, hh, e⟩
    rw [rgN_len] at e
    rw [List.drop_length] at e
    refine Ev.run ?_
    rw [e]
    simp [stopN, resD, nD]
theorem lstop_ok {L : Lab} (ok : LabOk L) {s : Nat} {row : List Nat} (hs : s < L.n) (hi : In L row) (hl : row.length ≤ 1000) : m__law_stop [L.D, nD s, resD row] = some (.tuple [nD (stopN L s row).1, nD (stopN L s row).2]) := stop_ok ok hs hi hl
/-- the next touch -/
theorem touch_ok {L : Lab} (ok : LabOk L) {s l i t : Nat} (hs : s < L.n) (ht : t < L.k) (h1 : pre (gain L (cnt L l) s) t ≤ i) (h2 : i < pre (gain L (cnt L l) s) t + gain L (cnt L l) s t) :
    m_next_touch [L.mrow s, cntRow L l, .int (i : Nat)] = some (.tuple [nD t, .int ((i - pre (gain L (cnt L l) s) t : Nat))]) := by
  refine runP2_of rfl ?_
  unfold F_next_touch
  refine Ev.seqN (Ev.run ?_)
  simp
  refine Ev.seq (Ev.loop (Ev.run ?_))
  simp
  refine Ev.for_ (fun j st => ∃ w4 w5 w6, j ≤ t ∧ st = ⟨[some (.d (L.mrow s)), some (.d (cntRow L l)), some (.d (.int (i : Nat))), some (.d (.int ((i - pre (gain L (cnt L l) s) j : Nat)))), w4, w5, w6], ()⟩) ?_ ?_ ⟨none, none, none, Nat.zero_le _, rfl⟩
  · rintro j x st hx ⟨w4, w5, w6, hj, rfl⟩
    obtain ⟨y, hy, rfl⟩ := enumT_some hx
    obtain ⟨hjk, rfl⟩ := rowT_some hy
    have many : Ev (iteM (bnd (op2 isD (nameM 5) (ret (.val PyData.none))) boolO) (ret (.val (PyData.int 0))) (op2 ixD (nameM 1) (nameM 5))) (⟨[some (.d (L.mrow s)), some (.d (cntRow L l)), some (.d (.int (i : Nat))), some (.d (.int ((i - pre (gain L (cnt L l) s) j : Nat)))), some (.d (.int (j : Nat))), some (.d (oD (L.meet s j))), w6], ()⟩ : Stt Unit)
        fun o s' => o = .val (.int (gain L (cnt L l) s j : Nat)) ∧ s' = ⟨[some (.d (L.mrow s)), some (.d (cntRow L l)), some (.d (.int (i : Nat))), some (.d (.int ((i - pre (gain L (cnt L l) s) j : Nat)))), some (.d (.int (j : Nat))), some (.d (oD (L.meet s j))), w6], ()⟩ := by
      refine Ev.run ?_
      unfold gain
      cases h : L.meet s j with
      | none => simp [oD]
      | some r =>
        have hr := ok.meet s j r hs hjk h
        simp [oD, cntRow_at hr]
    obtain ⟨o, s', em, rfl, rfl⟩ := many
    refine Ev.bnd (Ev.run ?_)
    simp
    generalize iteM (bnd (op2 isD (nameM 5) (ret (.val PyData.none))) boolO) (ret (.val (PyData.int 0))) (op2 ixD (nameM 1) (nameM 5)) = F at em ⊢
    refine Ev.seqN (Ev.run ?_)
    simp [em]
    by_cases hjt : j = t
    · subst hjt
      refine Ev.seq (Ev.run ?_)
      have c : ((i - pre (gain L (cnt L l) s) j : Nat) : Int) < (gain L (cnt L l) s j : Nat) := by omega
      simp [c, nD]
    · have hlt := pre_lt (g := gain L (cnt L l) s) (t := j) (k := t) (by omega)
      refine Ev.seq (Ev.run ?_)
      have c : ¬ ((i - pre (gain L (cnt L l) s) j : Nat) : Int) < (gain L (cnt L l) s j : Nat) := by omega
      simp [c]
      refine Ev.run ?_
      simp
      refine ⟨by omega, ?_⟩
      show ((i - pre (gain L (cnt L l) s) j : Nat) : Int) - (gain L (cnt L l) s j : Nat) = ((i - (pre (gain L (cnt L l) s) j + gain L (cnt L l) s j) : Nat) : Int)
      omega
  · rintro st ⟨w4, w5, w6, hj, rfl⟩
    rw [enumL_len, rowT_len] at hj
    omega
end LW
end

section
set_option Elab.async false
set_option linter.all false
set_option maxRecDepth 100000
set_option maxHeartbeats 999999
open DL
open PySem (PyData Str)
namespace LW
/-! ### what may raise -/
section
variable {τ : Type}
theorem seqE_ex {F G : ME τ Out} {s s1 : Stt τ} {r : Except Exn Out} (h : F s = some (.ok .nx, s1)) (h2 : ∃ s', G s1 = some (r, s')) : ∃ s', seqE F G s = some (r, s') := by
  obtain ⟨s', e⟩ := h2
  exact ⟨s', by rw [seqE_s, h]; exact e⟩
theorem seqE_err {F G : ME τ Out} {s : Stt τ} {x : Exn} (h : ∃ s', F s = some (.error x, s')) : ∃ s', seqE F G s = some (.error x, s') := by
  obtain ⟨s', e⟩ := h
  exact ⟨s', by rw [seqE_s, e]⟩
theorem okE_rt {F : M τ Out} {s : Stt τ} {d : D} (h : Ev F s fun o _ => o = .rt d) : ∃ s', okE F s = some (.ok (.rt d), s') := by
  obtain ⟨o, s', e, rfl⟩ := h
  exact ⟨s', by rw [okE_s, e]⟩
end
theorem runX2_rt {np n : Nat} {F : ME Unit Out} {ds : List D} {d : D} (hl : ds.length = np) (h : ∃ s', F ⟨ds.map (fun d => some (.d d)) ++ List.replicate (n - ds.length) none, ()⟩ = some (.ok (.rt d), s')) : runX2 np n F ds = some (.ok d) := by
  obtain ⟨s', e⟩ := h
  exact runX2_of hl e rfl
theorem runX2_nx {np n : Nat} {F : ME Unit Out} {ds : List D} (hl : ds.length = np) (h : ∃ s', F ⟨ds.map (fun d => some (.d d)) ++ List.replicate (n - ds.length) none, ()⟩ = some (.ok .nx, s')) : runX2 np n F ds = some (.ok .none) := by
  obtain ⟨s', e⟩ := h
  exact runX2_of hl e rfl
theorem runX2_er {np n : Nat} {F : ME Unit Out} {ds : List D} {x : Exn} (hl : ds.length = np) (h : ∃ s', F ⟨ds.map (fun d => some (.d d)) ++ List.replicate (n - ds.length) none, ()⟩ = some (.error x, s')) : runX2 np n F ds = some (.error x) := by
  obtain ⟨s', e⟩ := h
  exact runX2_of hl e rfl
def bad (c : Str) (x : D) : Exn := ⟨c, [("value", x)]⟩
/-- not a number from one to another -/
def Off (x : D) (lo hi : Int) : Prop := m_is_within [x, .int lo, .int hi] = some (.bool false)
theorem off_none (lo hi : Int) : Off .none lo hi := by
  refine runP2_of rfl (Ev.run ?_)
  have : m_is_whole [.none] = some (.bool false) := by rfl
  simp [F_is_within, this]
theorem off_bool (b : Bool) (lo hi : Int) : Off (.bool b) lo hi := by
  refine runP2_of rfl (Ev.run ?_)
  have : m_is_whole [.bool b] = some (.bool false) := by rfl
  simp [F_is_within, this]
theorem off_str (x : Str) (lo hi : Int) : Off (.str x) lo hi := by
  refine runP2_of rfl (Ev.run ?_)
  have : m_is_whole [.str x] = some (.bool false) := by rfl
  simp [F_is_within, this]
theorem off_tup (x : List D) (lo hi : Int) : Off (.tuple x) lo hi := by
  refine runP2_of rfl (Ev.run ?_)
  have : m_is_whole [.tuple x] = some (.bool false) := by rfl
  simp [F_is_within, this]
theorem off_int {i lo hi : Int} (h : i < lo ∨ hi < i) : Off (.int i) lo hi := by
  unfold Off
  rw [within_i]
  congr 2
  rcases h with h | h
  · rw [decide_eq_false (by omega)]; rfl
  · rw [show decide (i ≤ hi) = false from decide_eq_false (by omega), Bool.and_false]
theorem on_int {i lo hi : Int} (h1 : lo ≤ i) (h2 : i ≤ hi) : m_is_within [.int i, .int lo, .int hi] = some (.bool true) := by
  rw [within_i, decide_eq_true h1, decide_eq_true h2]
  rfl
theorem number_ok {x : D} {lo hi : Int} (h : m_is_within [x, .int lo, .int hi] = some (.bool true)) : m_need_number [x, .int lo, .int hi] = some (.ok x) := by
  refine runX2_rt rfl ?_
  unfold F_need_number
  generalize m_is_within = f at h ⊢
  simp [h]
theorem number_bad {x : D} {lo hi : Int} (h : Off x lo hi) : m_need_number [x, .int lo, .int hi] = some (.error (bad "BadNumber" x)) := by
  have h' : m_is_within [x, .int lo, .int hi] = some (.bool false) := h
  refine runX2_er rfl ?_
  unfold F_need_number
  generalize m_is_within = f at h' ⊢
  simp [h', bad]
theorem state_run {lab me x : D} {n : Int} {b : Bool} (h0 : ixD lab (.int 0) = some (.val me)) (hl : lenD [me] = some (.val (.int n))) (h : m_is_within [x, .int 0, .int (n - 1)] = some (.bool b)) : m_need_state [lab, x] = some (if b then .ok x else .error (bad "BadState" x)) := by
  cases b with
  | true =>
    refine runX2_rt rfl ?_
    unfold F_need_state
    generalize m_is_within = f at h ⊢
    simp [h0, hl, h]
  | false =>
    refine runX2_er rfl ?_
    unfold F_need_state
    generalize m_is_within = f at h ⊢
    simp [h0, hl, h, bad]
theorem state_ok {L : Lab} {s : Nat} (hs : s < L.n) : m_need_state [L.D, .int (s : Nat)] = some (.ok (.int (s : Nat))) :=
  state_run (lab_0 L) (meets_len L) (on_int (i := (s : Nat)) (lo := 0) (hi := (L.n : Nat) - 1) (by omega) (by omega))
theorem state_bad {L : Lab} {x : D} (h : Off x 0 ((L.n : Nat) - 1)) : m_need_state [L.D, x] = some (.error (bad "BadState" x)) :=
  state_run (lab_0 L) (meets_len L) h
/-! counts -/
def cnt3 (L : Lab) (s : Nat) (x : D) : List D := [L.D, .int (s : Nat), x]
theorem count_run {f1 f4 f3 : List D → Option D} {f2 : List D → Option (Except Exn D)} {lab st len C R z : D} (e1 : f1 [lab] = some lab) (e2 : f2 [lab, st] = some (.ok st)) (e3 : f3 [len, .int 0, .int 200] = some (.bool true)) (e4 : f4 [lab, len] = some C) (e5 : ixD C len = some (.val R)) (e6 : ixD R st = some (.val z)) :
    runX2 3 3 (seqE (okE (dropM (callP f1 (consD (nameM 0) nilM)))) (seqE (bndE (callX f2 (okE (consD (nameM 0) (consD (nameM 1) nilM)))) fun _ => retE .nx) (seqE (ifE (notT (bnd (callP f3 (consD (nameM 2) (consD (ret (.val (PyData.int 0))) (consD (ret (.val (PyData.int 200))) nilM)))) boolO)) (raiseM "BadLength" ["value"] (consD (nameM 2) nilM)) (retE .nx)) (okE (retM (op2 ixD (op2 ixD (callP f4 (consD (nameM 0) (consD (nameM 2) nilM))) (nameM 2)) (nameM 1)))))))
      [lab, st, len] = some (.ok z) := by
  refine runX2_rt rfl ?_
  simp [e1, e2, e3, e4, e5, e6]
theorem count_ok {L : Lab} (ok : LabOk L) {s len : Nat} (hs : s < L.n) (hl : len ≤ 200) : m_free_row_count [L.D, .int (s : Nat), .int (len : Nat)] = some (.ok (.int (cnt L len s : Nat))) :=
  count_run (need_lab ok) (state_ok hs) (on_int (i := (len : Nat)) (lo := 0) (hi := 200) (by omega) (by omega)) (counts_ok ok (len := len) (by omega)) (cntsD_at (L := L) (Nat.le_refl len)) (cntRow_at (L := L) (l := len) hs)
theorem count_state {L : Lab} (ok : LabOk L) {x y : D} (h : Off x 0 ((L.n : Nat) - 1)) : m_free_row_count [L.D, x, y] = some (.error (bad "BadState" x)) := by
  have e1 := need_lab ok
  have e2 := state_bad h
  refine runX2_er rfl ?_
  unfold F_free_row_count
  generalize m_need_lab = f1 at e1 ⊢
  generalize m_need_state = f2 at e2 ⊢
  simp [e1, e2]
theorem count_len {L : Lab} (ok : LabOk L) {s : Nat} {x : D} (hs : s < L.n) (h : Off x 0 200) : m_free_row_count [L.D, .int (s : Nat), x] = some (.error (bad "BadLength" x)) := by
  have e1 := need_lab ok
  have e2 := state_ok hs
  have e3 : m_is_within [x, .int 0, .int 200] = some (.bool false) := h
  refine runX2_er rfl ?_
  unfold F_free_row_count
  generalize m_need_lab = f1 at e1 ⊢
  generalize m_need_state = f2 at e2 ⊢
  generalize m_is_within = f3 at e3 ⊢
  simp [e1, e2, e3, bad]
/-! the row with a number -/
theorem at_err {L : Lab} {s len num : D} {x : Exn} (h : m_free_row_count [L.D, s, len] = some (.error x)) : m_free_row_at [L.D, s, len, num] = some (.error x) := by
  refine runX2_er rfl ?_
  unfold F_free_row_at
  generalize m_free_row_count = f at h ⊢
  generalize L.D = lab at h ⊢
  refine seqE_err ?_
  simp [consX, opX, h]
theorem at_num {L : Lab} {s len num : D} {c : Nat} (h : m_free_row_count [L.D, s, len] = some (.ok (.int (c : Nat)))) (h2 : Off num 0 ((c : Nat) - 1)) : m_free_row_at [L.D, s, len, num] = some (.error (bad "BadNumber" num)) := by
  have e := number_bad h2
  refine runX2_er rfl ?_
  unfold F_free_row_at
  generalize m_free_row_count = f at h ⊢
  generalize m_need_number = f2 at e ⊢
  generalize ((c : Nat) : Int) = k at h e
  generalize L.D = lab at h ⊢
  refine seqE_err ?_
  simp [consX, opX, datO, h, e]
theorem addRow {a : List Nat} {t : Nat} (h : a.length ≤ 10000) : addD (resD a) (.tuple [.int (t : Nat)]) = some (.val (resD (a ++ [t]))) := by
  unfold resD
  rw [addD_t, if_pos (by rw [List.length_map]; show a.length + 1 ≤ _; omega), List.map_append]
  rfl
theorem at_first {f1 f2 : List D → Option (Except Exn D)} {lab st len num : D} {c : Int} {r : List (Option Sl)} (h1 : f1 [lab, st, len] = some (.ok (.int c))) (h2 : f2 [num, .int 0, .int (c - 1)] = some (.ok num)) :
    (bndE (callX f2 (consX (okE (valM (nameM 3))) (consX (okE (valM (ret (.val (PyData.int 0))))) (consX (opX subD (callX f1 (okE (consD (nameM 0) (consD (nameM 1) (consD (nameM 2) nilM))))) (ret (.val (PyData.int 1)))) (okE nilM))))) fun _ => retE .nx) (⟨some (.d lab) :: some (.d st) :: some (.d len) :: some (.d num) :: r, ()⟩ : Stt Unit) = some (.ok Out.nx, ⟨some (.d lab) :: some (.d st) :: some (.d len) :: some (.d num) :: r, ()⟩) := by
  simp [consX, opX, datO, h1, h2]
theorem at_second {f3 : List D → Option D} {lab st len num C : D} {r : List (Option Sl)} (h : f3 [lab, len] = some C) :
    (parM [4, 5, 6, 7] (consN (callP f3 (consD (nameM 0) (consD (nameM 2) nilM))) (consN (tupM nilM) (consN (nameM 1) (consN (nameM 3) nilM))))) (⟨some (.d lab) :: some (.d st) :: some (.d len) :: some (.d num) :: none :: none :: none :: none :: r, ()⟩ : Stt Unit) = some (Out.nx, ⟨some (.d lab) :: some (.d st) :: some (.d len) :: some (.d num) :: some (.d C) :: some (.d (.tuple [])) :: some (.d st) :: some (.d num) :: r, ()⟩) := by
  simp [h]
theorem at_third {f4 : List D → Option D} {lab st len num C e b here p t b2 me ro cr : D} {i : Int} {w9 : Option Sl} (h0 : ixD lab (.int 0) = some (.val me)) (h1 : ixD me here = some (.val ro)) (h2 : subD len p = some (.val (.int i))) (h3 : ixD C (.int (i - 1)) = some (.val cr)) (h4 : f4 [ro, cr, b] = some (.tuple [t, b2])) :
    (unpM (callP f4 (consD (op2 ixD (op2 ixD (nameM 0) (ret (.val (PyData.int 0)))) (nameM 6)) (consD (op2 ixD (nameM 4) (op2 subD (op2 subD (nameM 2) (nameM 8)) (ret (.val (PyData.int 1))))) (consD (nameM 7) nilM)))) (tupG 2 (gsCons (setM 9) (gsCons (setM 7) gsNil)))) (⟨[some (.d lab), some (.d st), some (.d len), some (.d num), some (.d C), some (.d e), some (.d here), some (.d b), some (.d p), w9], ()⟩ : Stt Unit) =
      some (Out.nx, ⟨[some (.d lab), some (.d st), some (.d len), some (.d num), some (.d C), some (.d e), some (.d here), some (.d b2), some (.d p), some (.d t)], ()⟩) := by
  simp [h0, h1, h2, h3, h4]
theorem at_fourth {lab st len num C e e2 b here p t me ro to : D} (h0 : ixD lab (.int 0) = some (.val me)) (h1 : ixD me here = some (.val ro)) (h2 : addD e (.tuple [t]) = some (.val e2)) (h3 : ixD ro t = some (.val to)) :
    (seqM (asgM 5 (op2 addD (nameM 5) (tupM (consD (nameM 9) nilM)))) (asgM 6 (op2 ixD (op2 ixD (op2 ixD (nameM 0) (ret (.val (PyData.int 0)))) (nameM 6)) (nameM 9)))) (⟨[some (.d lab), some (.d st), some (.d len), some (.d num), some (.d C), some (.d e), some (.d here), some (.d b), some (.d p), some (.d t)], ()⟩ : Stt Unit) =
      some (Out.nx, ⟨[some (.d lab), some (.d st), some (.d len), some (.d num), some (.d C), some (.d e2), some (.d to), some (.d b), some (.d p), some (.d t)], ()⟩) := by
  simp [h0, h1, h2, h3]
def atE (L : Lab) (s0 : Nat) (row : List Nat) (p : Nat) (s : Stt Unit) : Prop := ∃ (w8 w9 : Option Sl) (here : Nat), s = ⟨[some (.d L.D), some (.d (.int (s0 : Nat))), some (.d (.int (row.length : Nat))), some (.d (.int (rankN L s0 row : Nat))), some (.d (cntsD L row.length)), some (.d (resD (row.take p))), some (.d (.int (here : Nat))), some (.d (.int (rankN L here (row.drop p) : Nat))), w8, w9], ()⟩ ∧ here < L.n ∧ Free L here (row.drop p)
theorem at_ok {L : Lab} (ok : LabOk L) {s : Nat} {row : List Nat} (hs : s < L.n) (hl : row.length ≤ 200) (hf : Free L s row) (hi : In L row) :
    m_free_row_at [L.D, .int (s : Nat), .int (row.length : Nat), .int (rankN L s row : Nat)] = some (.ok (resD row)) := by
  have lt := rank_lt L row s hf hi
  have e1 := count_ok ok hs hl
  have e2 := number_ok (on_int (i := (rankN L s row : Nat)) (lo := 0) (hi := (cnt L row.length s : Nat) - 1) (by omega) (by omega))
  have e3 := counts_ok ok (len := row.length) (by omega)
  have g2 : rgOk 0 (row.length : Nat) = true := rgOk_small (by omega) (by omega) (by omega) (by omega)
  have hT := fun (s l i t : Nat) => touch_ok ok (s := s) (l := l) (i := i) (t := t)
  refine runX2_rt rfl ?_
  unfold F_free_row_at
  generalize m_free_row_count = f1 at e1 ⊢
  generalize m_need_number = f2 at e2 ⊢
  generalize m_row_counts = f3 at e3 ⊢
  generalize m_next_touch = f4 at hT ⊢
  refine seqE_ex (at_first e1 e2) (okE_rt ?_)
  refine Ev.seqN ⟨.nx, _, at_second e3, rfl, ?_⟩
  refine Ev.seqN (Ev.loop (Ev.rangeM (lo := 0) (hi := (row.length : Nat)) (by simp) g2 ?_))
  rw [rgD_nat]
  refine Ev.for_ (atE L s row) ?_ ?_ ⟨none, none, s, rfl, hs, hf⟩
  · rintro p x st hx ⟨w8, w9, here, rfl, hh, hfr⟩
    obtain ⟨hp, rfl⟩ := rgN_some hx
    obtain ⟨t, ht⟩ : ∃ t, row[p]? = some t := ⟨_, List.getElem?_eq_getElem hp⟩
    have htk : t < L.k := hi t (List.mem_of_getElem? ht)
    rw [drop_at ht] at hfr ⊢
    obtain ⟨r, hm, hfr2⟩ := hfr
    have hr := ok.meet _ _ _ hh htk hm
    have hlt := rank_lt L (row.drop (p + 1)) r hfr2 (fun u hu => hi u (List.mem_of_mem_drop hu))
    have hdl : (row.drop (p + 1)).length = row.length - p - 1 := by rw [List.length_drop]; omega
    have hg : gain L (cnt L (row.drop (p + 1)).length) here t = cnt L (row.drop (p + 1)).length r := by unfold gain; rw [hm]
    have hrk : rankN L here (t :: row.drop (p + 1)) = pre (gain L (cnt L (row.drop (p + 1)).length) here) t + rankN L r (row.drop (p + 1)) := by
      show _ + _ = _
      rw [hm]
    have e4 := hT here (row.drop (p + 1)).length (rankN L here (t :: row.drop (p + 1))) t hh htk (by omega) (by omega)
    rw [show rankN L here (t :: row.drop (p + 1)) - pre (gain L (cnt L (row.drop (p + 1)).length) here) t = rankN L r (row.drop (p + 1)) by omega] at e4
    have e5 := meets_at hh
    have e6 := mrow_at (L := L) (s := here) htk
    rw [hm] at e6
    have e7 : ixD (cntsD L row.length) (.int ((row.length : Int) - (p : Int) - 1)) = some (.val (cntRow L (row.drop (p + 1)).length)) := by
      rw [show (row.length : Int) - (p : Int) - 1 = ((row.length - p - 1 : Nat) : Int) by omega, hdl]
      exact cntsD_at (by omega)
    have e8 := addRow (a := row.take p) (t := t) (by rw [List.length_take]; omega)
    have e9 : row.take (p + 1) = row.take p ++ [t] := by rw [List.take_succ, ht]; rfl
    generalize hA : rankN L here (t :: row.drop (p + 1)) = A at e4
    generalize hB : rankN L r (row.drop (p + 1)) = B at e4
    generalize hC : row.drop (p + 1) = C at e4 e7 hfr2
    generalize hE : resD (row.take p) = E at e8
    generalize hF : cntsD L row.length = Fc at e7
    refine Ev.bnd (Ev.run ?_)
    simp only [hA, hE, hF, setM_s, Res_some, List.set_cons_zero, List.set_cons_succ]
    refine Ev.seqN ⟨.nx, _, at_third (lab_0 L) e5 (subD_i _ _) e7 e4, rfl, ?_⟩
    refine ⟨.nx, _, at_fourth (lab_0 L) e5 e8 e6, ?_⟩
    show atE L s row (p + 1) _
    refine ⟨some (.d (.int (p : Nat))), some (.d (.int (t : Nat))), r, ?_, hr, by rw [hC]; exact hfr2⟩
    rw [e9, ← hF, hB]
    rfl
  · rintro st ⟨w8, w9, here, rfl, hh, hfr⟩
    rw [rgN_len]
    refine ⟨rfl, Ev.run ?_⟩
    simp
end LW
end

section
set_option Elab.async false
set_option linter.all false
set_option maxRecDepth 100000
set_option maxHeartbeats 999999
open DL
open PySem (PyData Str)
namespace LW
/-! ### rows of stuffs; the number of a row -/
theorem bools_app : ∀ (xs ys : List D) (as bs : List Bool), boolsOf xs = some as → boolsOf ys = some bs → boolsOf (xs ++ ys) = some (as ++ bs)
  | [], ys, as, bs, h, h2 => by cases h; exact h2
  | x :: xs, ys, as, bs, h, h2 => by
    cases x with
    | bool b =>
      obtain ⟨cs, e, rfl⟩ := Option.map_eq_some_iff.mp (show (boolsOf xs).map (b :: ·) = some as from h)
      show (boolsOf (xs ++ ys)).map (b :: ·) = _
      rw [bools_app xs ys cs bs e h2]
      rfl
    | _ => cases h
theorem bools_rep : ∀ (xs : List D), boolsOf (xs.map fun _ => PyData.bool true) = some (xs.map fun _ => true)
  | [] => rfl
  | x :: xs => by
    show (boolsOf (xs.map fun _ => PyData.bool true)).map (true :: ·) = _
    rw [bools_rep xs]
    rfl
theorem bnd_val {τ α β : Type} {m : M τ α} {f : α → M τ β} {s s' s2 : Stt τ} {a : α} {b : β} (h : m s = some (a, s')) (h2 : f a s' = some (b, s2)) : bnd m f s = some (b, s2) := by
  unfold bnd
  rw [h]
  exact h2
/-- whether each thing is within -/
def isB (b : D → Bool) : D → Option D := fun x => some (.bool (b x))
theorem bools_is (b : D → Bool) : ∀ (xs : List D), boolsOf (xs.filterMap (isB b)) = some (xs.map b)
  | [] => rfl
  | x :: xs => by
    show (boolsOf (xs.filterMap (isB b))).map (b x :: ·) = _
    rw [bools_is b xs]
    rfl
theorem stuffs_is {L : Lab} {xs : List D} {b : D → Bool} (hl : xs.length ≤ 10000) (n1 : 1 ≤ L.n) (h : ∀ x ∈ xs, m_is_within [x, .int 0, .int ((L.k : Nat) - 1)] = some (.bool (b x))) : m_is_stuffs [L.D, .tuple xs] = some (.bool (xs.all b)) := by
  have e0 := meets_at (L := L) (s := 0) (by omega)
  have e := lc_eq (ws := [2]) (Fi := iterM (nameM 1)) (G := setM 2) (T := ret true) (E := callP m_is_within (consD (nameM 2) (consD (ret (.val (PyData.int 0))) (consD (op2 subD (callM lenD (consO (op2 ixD (op2 ixD (nameM 0) (ret (.val (PyData.int 0)))) (ret (.val (PyData.int 0)))) nilM)) (ret (.val (PyData.int 1)))) nilM)))) (s := (⟨[some (.d L.D), some (.d (.tuple xs)), none], ()⟩ : Stt Unit))
    (s1 := ⟨[some (.d L.D), some (.d (.tuple xs)), none], ()⟩) (xs := xs) (isB b) (by simp) (by omega) rfl (fun x hx acc => by
      have e1 := h x hx
      refine Ev.run ?_
      generalize m_is_within = f at e1 ⊢
      have e0' : ixD L.meets (.int 0) = some (.val (L.mrow 0)) := e0
      simp [e0', e1, isB])
  refine runP2_of rfl (Ev.run ?_)
  unfold F_is_stuffs
  generalize lcM [2] _ _ _ _ = F at e ⊢
  have e2 : allD [.list (xs.filterMap (isB b))] = some (.val (.bool (xs.all b))) := by
    show (boolsOf _).map _ = _
    rw [bools_is b xs]
    show some (Opd.val (PyData.bool ((xs.map b).all id))) = _
    rw [List.all_map]
    rfl
  simp [e, e2]
theorem stuffs_ok {L : Lab} (ok : LabOk L) {row : List Nat} (hi : In L row) (hl : row.length ≤ 10000) : m_is_stuffs [L.D, resD row] = some (.bool true) := by
  have e := stuffs_is (L := L) (xs := row.map nD) (b := fun _ => true) (by rw [List.length_map]; exact hl) ok.n1 (fun x hx => by
    obtain ⟨t, ht, rfl⟩ := List.mem_map.mp hx
    have := hi t ht
    exact on_int (by omega) (by omega))
  rw [show (row.map nD).all (fun _ => true) = true from List.all_eq_true.mpr fun _ _ => rfl] at e
  exact e
/-- no row of stuffs -/
def NoRow (L : Lab) (x : D) : Prop := m_is_stuffs [L.D, x] = some (.bool false)
theorem noRow_end {L : Lab} (ok : LabOk L) {row : List Nat} {x : D} (hi : In L row) (hl : row.length ≤ 1000) (h : Off x 0 ((L.k : Nat) - 1)) : NoRow L (.tuple (row.map nD ++ [x])) := by
  have h' : m_is_within [x, .int 0, .int ((L.k : Nat) - 1)] = some (.bool false) := h
  classical
  have e := stuffs_is (L := L) (xs := row.map nD ++ [x]) (b := fun y => decide (m_is_within [y, .int 0, .int ((L.k : Nat) - 1)] = some (.bool true))) (by rw [List.length_append, List.length_map]; show row.length + 1 ≤ _; omega) ok.n1 (fun y hy => by
    rcases List.mem_append.mp hy with m | m
    · obtain ⟨t, ht, rfl⟩ := List.mem_map.mp m
      have := hi t ht
      have e := on_int (i := (t : Nat)) (lo := 0) (hi := (L.k : Nat) - 1) (by omega) (by omega)
      rw [show nD t = .int (t : Nat) from rfl, e, decide_eq_true rfl]
    · have : y = x := by simpa using m
      subst this
      rw [h', decide_eq_false (fun z => by cases z)])
  unfold NoRow
  rw [e]
  congr 2
  rw [List.all_append]
  have : ([x].all fun y => decide (m_is_within [y, .int 0, .int ((L.k : Nat) - 1)] = some (.bool true))) = false := by
    simp [h']
  rw [this, Bool.and_false]
theorem noRow_one {L : Lab} (ok : LabOk L) {x : D} (h : Off x 0 ((L.k : Nat) - 1)) : NoRow L (.tuple [x]) := noRow_end ok (row := []) (fun t ht => (by cases ht)) (by decide) h
theorem noRow_of {L : Lab} {x : D} (h : isiB (tyD x) "tuple" = false) : NoRow L x := by
  refine runP2_of rfl (Ev.run ?_)
  simp [F_is_stuffs, h]
theorem stuffs_need {L : Lab} (ok : LabOk L) {s : Nat} {row : List Nat} (hs : s < L.n) (hi : In L row) (hl : row.length ≤ 1000) : m_need_stuffs [L.D, .int (s : Nat), resD row] = some (.ok .none) := by
  have e1 := need_lab ok
  have e2 := state_ok hs
  have e3 := stuffs_ok ok hi (by omega)
  refine runX2_nx rfl ?_
  unfold F_need_stuffs
  generalize m_need_lab = f1 at e1 ⊢
  generalize m_need_state = f2 at e2 ⊢
  generalize m_is_stuffs = f3 at e3 ⊢
  simp [e1, e2, e3]
theorem stuffs_state {L : Lab} (ok : LabOk L) {x y : D} (h : Off x 0 ((L.n : Nat) - 1)) : m_need_stuffs [L.D, x, y] = some (.error (bad "BadState" x)) := by
  have e1 := need_lab ok
  have e2 := state_bad h
  refine runX2_er rfl ?_
  unfold F_need_stuffs
  generalize m_need_lab = f1 at e1 ⊢
  generalize m_need_state = f2 at e2 ⊢
  simp [e1, e2]
theorem stuffs_row {L : Lab} (ok : LabOk L) {s : Nat} {x : D} (hs : s < L.n) (h : NoRow L x) : m_need_stuffs [L.D, .int (s : Nat), x] = some (.error (bad "BadRow" x)) := by
  have e1 := need_lab ok
  have e2 := state_ok hs
  have e3 : m_is_stuffs [L.D, x] = some (.bool false) := h
  refine runX2_er rfl ?_
  unfold F_need_stuffs
  generalize m_need_lab = f1 at e1 ⊢
  generalize m_need_state = f2 at e2 ⊢
  generalize m_is_stuffs = f3 at e3 ⊢
  simp [e1, e2, e3, bad]
/-! ends and stops of rows -/
theorem resD_len (row : List Nat) : lenD [resD row] = some (.val (.int (row.length : Nat))) := by simp [resD]
theorem end_err {L : Lab} {s x : D} {y : Exn} (h : m_need_stuffs [L.D, s, x] = some (.error y)) : m_row_end [L.D, s, x] = some (.error y) := by
  refine runX2_er rfl ?_
  unfold F_row_end
  generalize m_need_stuffs = f at h ⊢
  simp [h]
theorem rstop_err {L : Lab} {s x : D} {y : Exn} (h : m_need_stuffs [L.D, s, x] = some (.error y)) : m_row_stop [L.D, s, x] = some (.error y) := by
  refine runX2_er rfl ?_
  unfold F_row_stop
  generalize m_need_stuffs = f at h ⊢
  simp [h]
theorem end_run {lab st row p l n y : D} {b : Bool} (h1 : m_need_stuffs [lab, st, row] = some (.ok y)) (h2 : m_free_stop [lab, st, row] = some (.tuple [p, l])) (h3 : lenD [row] = some (.val n)) (h4 : eqD p n = some (.val (.bool b))) : m_row_end [lab, st, row] = some (.ok (if b then l else .none)) := by
  refine runX2_rt rfl ?_
  unfold F_row_end
  generalize m_need_stuffs = f1 at h1 ⊢
  generalize m_free_stop = f2 at h2 ⊢
  cases b <;> simp [h1, h2, h3, h4]
theorem rstop_run {lab st row p l n y : D} {b : Bool} (h1 : m_need_stuffs [lab, st, row] = some (.ok y)) (h2 : m_free_stop [lab, st, row] = some (.tuple [p, l])) (h3 : lenD [row] = some (.val n)) (h4 : ltD p n = some (.val (.bool b))) : m_row_stop [lab, st, row] = some (.ok (if b then p else .none)) := by
  refine runX2_rt rfl ?_
  unfold F_row_stop
  generalize m_need_stuffs = f1 at h1 ⊢
  generalize m_free_stop = f2 at h2 ⊢
  cases b <;> simp [h1, h2, h3, h4]
theorem end_ok {L : Lab} (ok : LabOk L) {s : Nat} {row : List Nat} (hs : s < L.n) (hi : In L row) (hl : row.length ≤ 1000) : m_row_end [L.D, .int (s : Nat), resD row] = some (.ok (if (stopN L s row).1 = row.length then .int ((stopN L s row).2 : Nat) else .none)) := by
  rw [end_run (stuffs_need ok hs hi hl) (stop_ok ok hs hi hl) (resD_len row) (eqD_i _ _)]
  by_cases c : (stopN L s row).1 = row.length
  · rw [if_pos c, decide_eq_true (by omega), if_pos rfl]
    rfl
  · rw [if_neg c, decide_eq_false (by omega)]
    rfl
theorem rstop_ok {L : Lab} (ok : LabOk L) {s : Nat} {row : List Nat} (hs : s < L.n) (hi : In L row) (hl : row.length ≤ 1000) : m_row_stop [L.D, .int (s : Nat), resD row] = some (.ok (if (stopN L s row).1 = row.length then .none else .int ((stopN L s row).1 : Nat))) := by
  have le := stop_le L row s
  rw [rstop_run (stuffs_need ok hs hi hl) (stop_ok ok hs hi hl) (resD_len row) (ltD_i _ _)]
  by_cases c : (stopN L s row).1 = row.length
  · rw [if_pos c, decide_eq_false (by omega)]
    rfl
  · rw [if_neg c, decide_eq_true (by omega), if_pos rfl]
    rfl
/-! the number of a row -/
theorem place_state {L : Lab} (ok : LabOk L) {x y : D} (h : Off x 0 ((L.n : Nat) - 1)) : m_free_row_place [L.D, x, y] = some (.error (bad "BadState" x)) := by
  have e1 := need_lab ok
  have e2 := state_bad h
  refine runX2_er rfl ?_
  unfold F_free_row_place
  generalize m_need_lab = f1 at e1 ⊢
  generalize m_need_state = f2 at e2 ⊢
  simp [e1, e2]
theorem place_row {L : Lab} (ok : LabOk L) {s : Nat} {x : D} (hs : s < L.n) (h : NoRow L x) : m_free_row_place [L.D, .int (s : Nat), x] = some (.error (bad "BadRow" x)) := by
  have e1 := need_lab ok
  have e2 := state_ok hs
  have e3 : m_is_stuffs [L.D, x] = some (.bool false) := h
  refine runX2_er rfl ?_
  unfold F_free_row_place
  generalize m_need_lab = f1 at e1 ⊢
  generalize m_need_state = f2 at e2 ⊢
  generalize m_is_stuffs = f3 at e3 ⊢
  simp [e1, e2, e3, bad]
theorem place_long {L : Lab} (ok : LabOk L) {s : Nat} {row : List Nat} (hs : s < L.n) (hi : In L row) (hl : row.length ≤ 1000) (h : 200 < row.length) : m_free_row_place [L.D, .int (s : Nat), resD row] = some (.error (bad "BadRow" (resD row))) := by
  have e1 := need_lab ok
  have e2 := state_ok hs
  have e3 := stuffs_ok ok hi (by omega)
  have e4 := resD_len row
  have c : (200 : Int) < (row.length : Nat) := by omega
  refine runX2_er rfl ?_
  unfold F_free_row_place
  generalize m_need_lab = f1 at e1 ⊢
  generalize m_need_state = f2 at e2 ⊢
  generalize m_is_stuffs = f3 at e3 ⊢
  simp [e1, e2, e3, e4, c, h, bad]
theorem place_not_run {lab st row p l n y : D} (e1 : m_need_lab [lab] = some lab) (e2 : m_need_state [lab, st] = some (.ok y)) (e3 : m_is_stuffs [lab, row] = some (.bool true)) (e4 : lenD [row] = some (.val n)) (c : gtD n (.int 200) = some (.val (.bool false))) (e5 : m_free_stop [lab, st, row] = some (.tuple [p, l])) (c2 : ltD p n = some (.val (.bool true))) : m_free_row_place [lab, st, row] = some (.error (bad "BadRow" row)) := by
  refine runX2_er rfl ?_
  unfold F_free_row_place
  generalize m_need_lab = f1 at e1 ⊢
  generalize m_need_state = f2 at e2 ⊢
  generalize m_is_stuffs = f3 at e3 ⊢
  generalize m_free_stop = f4 at e5 ⊢
  simp [e1, e2, e3, e4, e5, c, c2, bad]
theorem place_not {L : Lab} (ok : LabOk L) {s : Nat} {row : List Nat} (hs : s < L.n) (hi : In L row) (hl : row.length ≤ 200) (h : ¬ (stopN L s row).1 = row.length) : m_free_row_place [L.D, .int (s : Nat), resD row] = some (.error (bad "BadRow" (resD row))) := by
  have le := stop_le L row s
  refine place_not_run (need_lab ok) (state_ok hs) (stuffs_ok ok hi (by omega)) (resD_len row) ?_ (stop_ok ok hs hi (by omega)) ?_
  · rw [gtD_i, decide_eq_false (by omega)]
  · show ltD (.int _) (.int _) = _
    rw [ltD_i, decide_eq_true (by omega)]
theorem cut_row {k t : Nat} {f : Nat → D} (h : t ≤ k) : cutD (rowT k f) none (some (t : Nat)) = rowT t f := by
  unfold cutD
  rw [show HT.sIx (rowT k f).length 0 none = 0 from rfl, HT.sIx_nat, List.drop_zero, Nat.sub_zero, rowT_len, Nat.min_eq_left h]
  unfold rowT
  rw [← List.map_take, List.take_range, Nat.min_eq_left h]
def gI : D → Option D := fun x => if isNoneB x then none else some x
theorem below_eq (L : Lab) (f : Nat → Nat) (s t : Nat) : ((rowT t fun u => oD (L.meet s u)).filterMap gI).filterMap (gG f) = (rowT t fun u => oD (L.meet s u)).filterMap (gG f) := by
  unfold rowT
  rw [List.filterMap_filterMap, List.filterMap_map, List.filterMap_map]
  congr 1
  funext u
  show (gI (oD (L.meet s u))).bind (gG f) = gG f (oD (L.meet s u))
  cases L.meet s u <;> rfl
theorem below_ev {L : Lab} {s t : Nat} {a b c d e f g h : D} (ok : LabOk L) (hs : s < L.n) (ht : t < L.k) {w8 : Option Sl} (hf : ixD f (.int 0) = some (.val L.meets)) :
    Ev (lcM [9] (iterM (sliceM slD (op2 ixD (op2 ixD (nameM 0) (ret (.val (PyData.int 0)))) (nameM 5)) (ret none) (bnd (nameM 7) intO))) (setM 9) (bnd (op2 isNotD (nameM 9) (ret (.val PyData.none))) boolO) (nameM 9)) (⟨[some (.d f), some (.d b), some (.d c), some (.d d), some (.d e), some (.d (.int (s : Nat))), some (.d g), some (.d (.int (t : Nat))), w8, none], ()⟩ : Stt Unit)
      fun o st => o = .new ((rowT t fun u => oD (L.meet s u)).filterMap gI) ∧ st = ⟨[some (.d f), some (.d b), some (.d c), some (.d d), some (.d e), some (.d (.int (s : Nat))), some (.d g), some (.d (.int (t : Nat))), w8, none], ()⟩ := by
  have k8 := ok.k8
  have e1 := meets_at hs
  have e2 : slD (L.mrow s) none (some (t : Nat)) = some (.val (.tuple (rowT t fun u => oD (L.meet s u)))) := by
    show some (Opd.val (PyData.tuple (cutD (rowT L.k fun u => oD (L.meet s u)) none (some (t : Nat))))) = _
    rw [cut_row (by omega)]
  refine Ev.lcw gI [some (.d f), some (.d b), some (.d c), some (.d d), some (.d e), some (.d (.int (s : Nat))), some (.d g), some (.d (.int (t : Nat))), w8, none] () ⟨rowT t fun u => oD (L.meet s u), ⟨[some (.d f), some (.d b), some (.d c), some (.d d), some (.d e), some (.d (.int (s : Nat))), some (.d g), some (.d (.int (t : Nat))), w8, none], ()⟩, by simp [hf, e1, e2], by rw [rowT_len]; omega, rfl, rfl, rfl, ?_, rfl, rfl⟩
  intro x hx acc
  obtain ⟨u, hu, rfl⟩ := rowT_mem hx
  refine Ev.run ?_
  cases L.meet s u <;> simp [oD, gI]
theorem sum_ev {L : Lab} {s t l p n : Nat} {a b c d e g h : D} (ok : LabOk L) (hs : s < L.n) (ht : t < L.k) (hc : lenD [c] = some (.val (.int (n : Nat)))) (hd : ixD d (.int ((n : Int) - (p : Int) - 1)) = some (.val (cntRow L l))) :
    Ev (callM sumD (consO (lcM [9] (iterM (nameM 8)) (setM 9) (ret true) (op2 ixD (op2 ixD (nameM 3) (op2 subD (op2 subD (callM lenD (consO (nameM 2) nilM)) (nameM 6)) (ret (.val (PyData.int 1))))) (nameM 9))) nilM)) (⟨[some (.d a), some (.d b), some (.d c), some (.d d), some (.d e), some (.d g), some (.d (.int (p : Nat))), some (.d h), some (.own ((rowT t fun u => oD (L.meet s u)).filterMap gI)), none], ()⟩ : Stt Unit)
      fun o st => o = .val (.int (pre (gain L (cnt L l) s) t : Nat)) ∧ st = ⟨[some (.d a), some (.d b), some (.d c), some (.d d), some (.d e), some (.d g), some (.d (.int (p : Nat))), some (.d h), some (.d (.list ((rowT t fun u => oD (L.meet s u)).filterMap gI))), none], ()⟩ := by
  have k8 := ok.k8
  have e := lc_eq (ws := [9]) (Fi := iterM (nameM 8)) (G := setM 9) (T := ret true) (E := op2 ixD (op2 ixD (nameM 3) (op2 subD (op2 subD (callM lenD (consO (nameM 2) nilM)) (nameM 6)) (ret (.val (PyData.int 1))))) (nameM 9)) (s := (⟨[some (.d a), some (.d b), some (.d c), some (.d d), some (.d e), some (.d g), some (.d (.int (p : Nat))), some (.d h), some (.own ((rowT t fun u => oD (L.meet s u)).filterMap gI)), none], ()⟩ : Stt Unit))
    (s1 := ⟨[some (.d a), some (.d b), some (.d c), some (.d d), some (.d e), some (.d g), some (.d (.int (p : Nat))), some (.d h), some (.d (.list ((rowT t fun u => oD (L.meet s u)).filterMap gI))), none], ()⟩) (xs := (rowT t fun u => oD (L.meet s u)).filterMap gI) (gG (cnt L l)) (by simp) (by
      refine Nat.le_trans (List.length_filterMap_le _ _) ?_
      rw [rowT_len]
      omega) rfl (fun x hx acc => by
      obtain ⟨y, hy, hx⟩ := List.mem_filterMap.mp hx
      obtain ⟨u, hu, rfl⟩ := rowT_mem hy
      cases hm : L.meet s u with
      | none => rw [hm] at hx; cases hx
      | some r =>
        rw [hm] at hx
        cases hx
        have e6 := cntRow_at (L := L) (l := l) (ok.meet _ _ _ hs (by omega) hm)
        refine Ev.run ?_
        have e7 : ixD (cntRow L l) (oD (some r)) = some (.val (.int (cnt L l r : Nat))) := e6
        have e8 : gG (cnt L l) (oD (some r)) = some (.int (cnt L l r : Nat)) := rfl
        generalize (rowT t fun u => oD (L.meet s u)).filterMap gI = Z
        simp [hc, hd, e7, e8])
  refine Ev.run ?_
  generalize lcM [9] _ _ _ _ = F at e ⊢
  rw [below_eq] at e
  simp [e, sumD_gain]
theorem pl_first {lab st row p n y C : D} {l : D} (e1 : m_need_lab [lab] = some lab) (e2 : m_need_state [lab, st] = some (.ok y)) (e3 : m_is_stuffs [lab, row] = some (.bool true)) (e4 : lenD [row] = some (.val n)) (c : gtD n (.int 200) = some (.val (.bool false))) (e5 : m_free_stop [lab, st, row] = some (.tuple [p, l])) (c2 : ltD p n = some (.val (.bool false))) (e6 : m_row_counts [lab, n] = some C) {z : D}
    (h : Ev (seqM (loopM (enumM (nameM 2)) (tupG 2 (gsCons (setM 6) (gsCons (setM 7) gsNil))) (seqM (asgM 8 (lcM [9] (iterM (sliceM slD (op2 ixD (op2 ixD (nameM 0) (ret (.val (PyData.int 0)))) (nameM 5)) (ret none) (bnd (nameM 7) intO))) (setM 9) (bnd (op2 isNotD (nameM 9) (ret (.val PyData.none))) boolO) (nameM 9))) (seqM (asgM 4 (op2 addD (nameM 4) (callM sumD (consO (lcM [9] (iterM (nameM 8)) (setM 9) (ret true) (op2 ixD (op2 ixD (nameM 3) (op2 subD (op2 subD (callM lenD (consO (nameM 2) nilM)) (nameM 6)) (ret (.val (PyData.int 1))))) (nameM 9))) nilM)))) (asgM 5 (op2 ixD (op2 ixD (op2 ixD (nameM 0) (ret (.val (PyData.int 0)))) (nameM 5)) (nameM 7)))))) (retM (nameM 4)))
      (⟨[some (.d lab), some (.d st), some (.d row), some (.d C), some (.d (.int 0)), some (.d st), none, none, none, none], ()⟩ : Stt Unit) fun o _ => o = .rt z) : m_free_row_place [lab, st, row] = some (.ok z) := by
  refine runX2_rt rfl ?_
  unfold F_free_row_place
  generalize m_need_lab = f1 at e1 ⊢
  generalize m_need_state = f2 at e2 ⊢
  generalize m_is_stuffs = f3 at e3 ⊢
  generalize m_free_stop = f4 at e5 ⊢
  generalize m_row_counts = f5 at e6 ⊢
  refine seqE_ex (s1 := ⟨[some (.d lab), some (.d st), some (.d row), none, none, none, none, none, none, none], ()⟩) (by simp [e1]) ?_
  refine seqE_ex (s1 := ⟨[some (.d lab), some (.d st), some (.d row), none, none, none, none, none, none, none], ()⟩) (by simp [e2]) ?_
  refine seqE_ex (s1 := ⟨[some (.d lab), some (.d st), some (.d row), none, none, none, none, none, none, none], ()⟩) (by simp [e3, e4, e5, c, c2]) (okE_rt ?_)
  refine Ev.seqN ⟨.nx, ⟨[some (.d lab), some (.d st), some (.d row), some (.d C), some (.d (.int 0)), some (.d st), none, none, none, none], ()⟩, by simp [e4, e6], rfl, h⟩
theorem pl_turn {F1 F2 : M Unit Opd} {lab st row C here p t me ro to : D} {ys : List D} {acc g : Int} {w8 : Option Sl} (b1 : F1 ⟨[some (.d lab), some (.d st), some (.d row), some (.d C), some (.d (.int acc)), some (.d here), some (.d p), some (.d t), w8, none], ()⟩ = some (.new ys, ⟨[some (.d lab), some (.d st), some (.d row), some (.d C), some (.d (.int acc)), some (.d here), some (.d p), some (.d t), w8, none], ()⟩))
    (b2 : F2 ⟨[some (.d lab), some (.d st), some (.d row), some (.d C), some (.d (.int acc)), some (.d here), some (.d p), some (.d t), some (.own ys), none], ()⟩ = some (.val (.int g), ⟨[some (.d lab), some (.d st), some (.d row), some (.d C), some (.d (.int acc)), some (.d here), some (.d p), some (.d t), some (.d (.list ys)), none], ()⟩))
    (h0 : ixD lab (.int 0) = some (.val me)) (h1 : ixD me here = some (.val ro)) (h3 : ixD ro t = some (.val to)) :
    (seqM (asgM 8 F1) (seqM (asgM 4 (op2 addD (nameM 4) F2)) (asgM 5 (op2 ixD (op2 ixD (op2 ixD (nameM 0) (ret (.val (PyData.int 0)))) (nameM 5)) (nameM 7))))) (⟨[some (.d lab), some (.d st), some (.d row), some (.d C), some (.d (.int acc)), some (.d here), some (.d p), some (.d t), w8, none], ()⟩ : Stt Unit) =
      some (Out.nx, ⟨[some (.d lab), some (.d st), some (.d row), some (.d C), some (.d (.int (acc + g))), some (.d to), some (.d p), some (.d t), some (.d (.list ys)), none], ()⟩) := by
  simp [b1, b2, h0, h1, h3]
def plE (L : Lab) (s0 : Nat) (row : List Nat) (p : Nat) (s : Stt Unit) : Prop := ∃ (w6 w7 w8 : Option Sl) (here acc : Nat), s = ⟨[some (.d L.D), some (.d (.int (s0 : Nat))), some (.d (resD row)), some (.d (cntsD L row.length)), some (.d (.int (acc : Nat))), some (.d (.int (here : Nat))), w6, w7, w8, none], ()⟩ ∧ here < L.n ∧ Free L here (row.drop p) ∧ acc + rankN L here (row.drop p) = rankN L s0 row
theorem place_ok {L : Lab} (ok : LabOk L) {s : Nat} {row : List Nat} (hs : s < L.n) (hi : In L row) (hl : row.length ≤ 200) (hf : Free L s row) : m_free_row_place [L.D, .int (s : Nat), resD row] = some (.ok (.int (rankN L s row : Nat))) := by
  have c2 := (free_iff L row s).mp hf
  refine pl_first (need_lab ok) (state_ok hs) (stuffs_ok ok hi (by omega)) (resD_len row) (by rw [gtD_i, decide_eq_false (by omega)]) (stop_ok ok hs hi (by omega)) (by
    show ltD (.int _) (.int _) = _
    rw [ltD_i, decide_eq_false (by omega)]) (counts_ok ok (len := row.length) (by omega)) ?_
  refine Ev.seqN (Ev.loop ⟨enumL 0 (row.map nD), _, rfl, ?_⟩)
  refine Ev.for_ (plE L s row) ?_ ?_ ⟨none, none, none, s, 0, rfl, hs, hf, by rw [List.drop_zero, Nat.zero_add]⟩
  · rintro p x st hx ⟨w6, w7, w8, here, acc, rfl, hh, hfr, hacc⟩
    obtain ⟨y, hy, rfl⟩ := enumT_some hx
    rw [List.getElem?_map] at hy
    obtain ⟨t, ht, rfl⟩ := Option.map_eq_some_iff.mp hy
    have hp : p < row.length := (List.getElem?_eq_some_iff.mp ht).1
    have htk : t < L.k := hi t (List.mem_of_getElem? ht)
    rw [drop_at ht] at hfr hacc
    obtain ⟨r, hm, hfr2⟩ := hfr
    have hr := ok.meet _ _ _ hh htk hm
    have hdl : (row.drop (p + 1)).length = row.length - p - 1 := by rw [List.length_drop]; omega
    have hrk : rankN L here (t :: row.drop (p + 1)) = pre (gain L (cnt L (row.drop (p + 1)).length) here) t + rankN L r (row.drop (p + 1)) := by
      show _ + _ = _
      rw [hm]
    have e4 := resD_len row
    have e7 : ixD (cntsD L row.length) (.int ((row.length : Int) - (p : Int) - 1)) = some (.val (cntRow L (row.drop (p + 1)).length)) := by
      rw [show (row.length : Int) - (p : Int) - 1 = ((row.length - p - 1 : Nat) : Int) by omega, hdl]
      exact cntsD_at (by omega)
    have e8 := meets_at hh
    have e9 := mrow_at (L := L) (s := here) htk
    rw [hm] at e9
    obtain ⟨o, st1, b1, rfl, rfl⟩ := below_ev (L := L) (s := here) (t := t) (a := L.D) (b := .int (s : Nat)) (c := resD row) (d := cntsD L row.length) (e := .int (acc : Nat)) (f := L.D) (g := .int (p : Nat)) (h := L.D) ok hh htk (w8 := w8) (lab_0 L)
    obtain ⟨o, st2, b2, rfl, rfl⟩ := sum_ev (L := L) (s := here) (t := t) (l := (row.drop (p + 1)).length) (p := p) (n := row.length) (a := L.D) (b := .int (s : Nat)) (c := resD row) (d := cntsD L row.length) (e := .int (acc : Nat)) (g := .int (here : Nat)) (h := .int (t : Nat)) ok hh htk e4 e7
    have e10 := pl_turn b1 b2 (lab_0 L) e8 e9
    refine ⟨.nx, _, bnd_val (a := ()) (s' := ⟨[some (.d L.D), some (.d (.int (s : Nat))), some (.d (resD row)), some (.d (cntsD L row.length)), some (.d (.int (acc : Nat))), some (.d (.int (here : Nat))), some (.d (.int (p : Nat))), some (.d (.int (t : Nat))), w8, none], ()⟩) (by simp [nD]) e10, ?_⟩
    show plE L s row (p + 1) _
    exact ⟨_, _, _, r, acc + pre (gain L (cnt L (row.drop (p + 1)).length) here) t, rfl, hr, hfr2, by omega⟩
  · rintro st ⟨w6, w7, w8, here, acc, rfl, hh, hfr, hacc⟩
    rw [enumL_len, List.length_map, List.drop_length] at hacc
    have : acc = rankN L s row := by
      have h0 : rankN L here [] = 0 := rfl
      omega
    subst this
    refine ⟨rfl, ⟨_, _, rfl, rfl⟩⟩
end LW
end

section
set_option Elab.async false
set_option linter.all false
set_option maxRecDepth 100000
set_option maxHeartbeats 999999
open DL
open PySem (PyData Str)
namespace LW
/-! ### what a function tells or refuses -/
def hsT : List (Str × (Exn → M Unit Out)) := [("BadState", clauseM "BadState" 5 "state" "value"), ("BadLength", clauseM "BadLength" 5 "length" "value"), ("BadNumber", clauseM "BadNumber" 5 "number" "value"), ("BadRow", clauseM "BadRow" 5 "row" "value")]
def bodyT (f0 f1 f2 f3 f4 : List D → Option (Except Exn D)) : ME Unit Out := (ifE (bnd (op2 eqD (nameM 1) (ret (.val (PyData.int 0)))) boolO) (asgE 5 (callX f0 (okE (consD (nameM 0) (consD (nameM 2) (consD (nameM 3) nilM)))))) (ifE (bnd (op2 eqD (nameM 1) (ret (.val (PyData.int 1)))) boolO) (asgE 5 (callX f1 (okE (consD (nameM 0) (consD (nameM 2) (consD (nameM 3) (consD (nameM 4) nilM))))))) (ifE (bnd (op2 eqD (nameM 1) (ret (.val (PyData.int 2)))) boolO) (asgE 5 (callX f2 (okE (consD (nameM 0) (consD (nameM 2) (consD (nameM 3) nilM)))))) (ifE (bnd (op2 eqD (nameM 1) (ret (.val (PyData.int 3)))) boolO) (asgE 5 (callX f3 (okE (consD (nameM 0) (consD (nameM 2) (consD (nameM 3) nilM)))))) (asgE 5 (callX f4 (okE (consD (nameM 0) (consD (nameM 2) (consD (nameM 3) nilM))))))))))
theorem told_eq : m__law_told = runX2 5 7 (seqE (tryE prsT 6 (bodyT m_free_row_count m_free_row_at m_free_row_place m_row_end m_row_stop) hsT) (okE (retM (nameM 5)))) := rfl
def st5 (a b c d e : D) (w : Option Sl) : Stt Unit := ⟨[some (.d a), some (.d b), some (.d c), some (.d d), some (.d e), w, none], ()⟩
def bodyR (a b c d e : D) : Except Exn D → Option (Except Exn Out × Stt Unit)
  | .ok x => some (.ok .nx, st5 a b c d e (some (.d x)))
  | .error x => some (.error x, st5 a b c d e none)
inductive Told : Except Exn D → D → Prop
  | ok (d : D) : Told (.ok d) d
  | st (x : D) : Told (.error (bad "BadState" x)) (.list [.str "state", x])
  | len (x : D) : Told (.error (bad "BadLength" x)) (.list [.str "length", x])
  | num (x : D) : Told (.error (bad "BadNumber" x)) (.list [.str "number", x])
  | row (x : D) : Told (.error (bad "BadRow" x)) (.list [.str "row", x])
theorem catch_st {a b c d e x : D} : catchM prsT 6 hsT (bad "BadState" x) (st5 a b c d e none) = some (.ok .nx, st5 a b c d e (some (.own [.str "state", x]))) := by kernel_rfl
theorem catch_len {a b c d e x : D} : catchM prsT 6 hsT (bad "BadLength" x) (st5 a b c d e none) = some (.ok .nx, st5 a b c d e (some (.own [.str "length", x]))) := by kernel_rfl
theorem catch_num {a b c d e x : D} : catchM prsT 6 hsT (bad "BadNumber" x) (st5 a b c d e none) = some (.ok .nx, st5 a b c d e (some (.own [.str "number", x]))) := by kernel_rfl
theorem catch_row {a b c d e x : D} : catchM prsT 6 hsT (bad "BadRow" x) (st5 a b c d e none) = some (.ok .nx, st5 a b c d e (some (.own [.str "row", x]))) := by kernel_rfl
theorem told_run {BODY : ME Unit Out} {a b c d e x : D} {r : Except Exn D} (t : Told r x) (hb : BODY (st5 a b c d e none) = bodyR a b c d e r) : okOf (runX2 5 7 (seqE (tryE prsT 6 BODY hsT) (okE (retM (nameM 5))))) [a, b, c, d, e] = some x := by
  have key : ∀ w, (tryE prsT 6 BODY hsT (st5 a b c d e none) = some (.ok .nx, st5 a b c d e (some w)) ∧ (w = .d x ∨ ∃ xs, w = .own xs ∧ x = .list xs)) → okOf (runX2 5 7 (seqE (tryE prsT 6 BODY hsT) (okE (retM (nameM 5))))) [a, b, c, d, e] = some x := by
    rintro w ⟨h1, h2⟩
    have : runX2 5 7 (seqE (tryE prsT 6 BODY hsT) (okE (retM (nameM 5)))) [a, b, c, d, e] = some (.ok x) := by
      refine runX2_rt rfl ?_
      refine seqE_ex (s1 := st5 a b c d e (some w)) h1 ?_
      rcases h2 with rfl | ⟨xs, rfl, rfl⟩
      · exact ⟨_, rfl⟩
      · exact ⟨_, rfl⟩
    unfold okOf
    rw [this]
  have ex : ∀ y w, BODY (st5 a b c d e none) = some (.error y, st5 a b c d e none) → catchM prsT 6 hsT y (st5 a b c d e none) = some (.ok .nx, st5 a b c d e (some w)) → tryE prsT 6 BODY hsT (st5 a b c d e none) = some (.ok .nx, st5 a b c d e (some w)) := fun y w h1 h2 => by
    unfold tryE
    rw [h1]
    exact h2
  cases t with
  | ok d => exact key _ ⟨by unfold tryE; rw [hb]; rfl, .inl rfl⟩
  | st x => exact key _ ⟨ex _ _ hb catch_st, .inr ⟨_, rfl, rfl⟩⟩
  | len x => exact key _ ⟨ex _ _ hb catch_len, .inr ⟨_, rfl, rfl⟩⟩
  | num x => exact key _ ⟨ex _ _ hb catch_num, .inr ⟨_, rfl, rfl⟩⟩
  | row x => exact key _ ⟨ex _ _ hb catch_row, .inr ⟨_, rfl, rfl⟩⟩
section
variable {f0 f1 f2 f3 f4 : List D → Option (Except Exn D)} {a c d e : D} {r : Except Exn D}
theorem body0 (h : f0 [a, c, d] = some r) : bodyT f0 f1 f2 f3 f4 (st5 a (.int 0) c d e none) = bodyR a (.int 0) c d e r := by
  cases r <;> simp [bodyT, bodyR, st5, h]
theorem body1 (h : f1 [a, c, d, e] = some r) : bodyT f0 f1 f2 f3 f4 (st5 a (.int 1) c d e none) = bodyR a (.int 1) c d e r := by
  cases r <;> simp [bodyT, bodyR, st5, h]
theorem body2 (h : f2 [a, c, d] = some r) : bodyT f0 f1 f2 f3 f4 (st5 a (.int 2) c d e none) = bodyR a (.int 2) c d e r := by
  cases r <;> simp [bodyT, bodyR, st5, h]
theorem body3 (h : f3 [a, c, d] = some r) : bodyT f0 f1 f2 f3 f4 (st5 a (.int 3) c d e none) = bodyR a (.int 3) c d e r := by
  cases r <;> simp [bodyT, bodyR, st5, h]
theorem body4 (h : f4 [a, c, d] = some r) : bodyT f0 f1 f2 f3 f4 (st5 a (.int 4) c d e none) = bodyR a (.int 4) c d e r := by
  cases r <;> simp [bodyT, bodyR, st5, h]
end
section
variable {a c d e x : D} {r : Except Exn D}
theorem told0 (h : m_free_row_count [a, c, d] = some r) (t : Told r x) : okOf m__law_told [a, .int 0, c, d, e] = some x := by
  rw [told_eq]
  exact told_run t (body0 h)
theorem told1 (h : m_free_row_at [a, c, d, e] = some r) (t : Told r x) : okOf m__law_told [a, .int 1, c, d, e] = some x := by
  rw [told_eq]
  exact told_run t (body1 h)
theorem told2 (h : m_free_row_place [a, c, d] = some r) (t : Told r x) : okOf m__law_told [a, .int 2, c, d, e] = some x := by
  rw [told_eq]
  exact told_run t (body2 h)
theorem told3 (h : m_row_end [a, c, d] = some r) (t : Told r x) : okOf m__law_told [a, .int 3, c, d, e] = some x := by
  rw [told_eq]
  exact told_run t (body3 h)
theorem told4 (h : m_row_stop [a, c, d] = some r) (t : Told r x) : okOf m__law_told [a, .int 4, c, d, e] = some x := by
  rw [told_eq]
  exact told_run t (body4 h)
end
end LW
end

section
set_option Elab.async false
set_option linter.all false
set_option maxRecDepth 100000
set_option maxHeartbeats 999999
open DL
open PySem (PyData Str)
namespace LW
/-! ### the law's counts and numbers -/
theorem step_lc {L : Lab} {l s t : Nat} {lab len y : D} {fs ro : List D} {w3 : Option Sl} {u : D} (acc : List D) (h : ixD (.list fs) (.int (-1)) = some (.val y)) (hu : isNoneB u = false → ∃ z, ixD y u = some (.val z) ∧ gG (cnt L l) u = some z) (hn : isNoneB u = true → gG (cnt L l) u = none) (me : D) :
    Ev (turnM (setM 6) (bnd (op2 isNotD (nameM 6) (ret (.val PyData.none))) boolO) (valM (op2 ixD (op2 ixD (nameM 2) (negM (ret (.val (PyData.int 1))))) (nameM 6))) u acc) (⟨[some (.d lab), some (.d len), some (.own fs), w3, some (.own ro), some (.d me), none], ()⟩ : Stt Unit)
      fun acc' s3 => acc' = acc ++ (gG (cnt L l) u).toList ∧ wipeE s3.env [6] = [some (.d lab), some (.d len), some (.own fs), w3, some (.own ro), some (.d me), none] ∧ s3.dr = () := by
  refine Ev.run ?_
  cases hb : isNoneB u with
  | true =>
    rw [hn hb]
    simp [hb]
  | false =>
    obtain ⟨z, h1, h2⟩ := hu hb
    rw [h2]
    simp [hb, h, h1]
theorem lsum_in {L : Lab} {l s : Nat} {lab len : D} {fs ro : List D} {w3 : Option Sl} (ok : LabOk L) (hs : s < L.n) (h : ixD (.list fs) (.int (-1)) = some (.val (cntRow L l))) :
    Ev (callM sumD (consO (lcM [6] (iterM (nameM 5)) (setM 6) (bnd (op2 isNotD (nameM 6) (ret (.val PyData.none))) boolO) (op2 ixD (op2 ixD (nameM 2) (negM (ret (.val (PyData.int 1))))) (nameM 6))) nilM)) (⟨[some (.d lab), some (.d len), some (.own fs), w3, some (.own ro), some (.d (L.mrow s)), none], ()⟩ : Stt Unit)
      fun o s3 => o = .val (.int (cnt L (l + 1) s : Nat)) ∧ s3 = ⟨[some (.d lab), some (.d len), some (.own fs), w3, some (.own ro), some (.d (L.mrow s)), none], ()⟩ := by
  have k8 := ok.k8
  have e := lc_eq (ws := [6]) (Fi := iterM (nameM 5)) (G := setM 6) (T := bnd (op2 isNotD (nameM 6) (ret (.val PyData.none))) boolO) (E := op2 ixD (op2 ixD (nameM 2) (negM (ret (.val (PyData.int 1))))) (nameM 6)) (s := (⟨[some (.d lab), some (.d len), some (.own fs), w3, some (.own ro), some (.d (L.mrow s)), none], ()⟩ : Stt Unit))
    (s1 := ⟨[some (.d lab), some (.d len), some (.own fs), w3, some (.own ro), some (.d (L.mrow s)), none], ()⟩) (xs := rowT L.k fun t => oD (L.meet s t)) (gG (cnt L l)) (by simp) (by rw [rowT_len]; omega) rfl (fun x hx acc => by
      obtain ⟨t, ht, rfl⟩ := rowT_mem hx
      refine step_lc (s := s) (t := t) acc h ?_ ?_ _
      · intro hb
        cases hm : L.meet s t with
        | none => rw [hm] at hb; cases hb
        | some r => exact ⟨_, cntRow_at (ok.meet s t r hs ht hm), rfl⟩
      · intro hb
        cases hm : L.meet s t with
        | none => rfl
        | some r => rw [hm] at hb; cases hb)
  refine Ev.run ?_
  generalize lcM [6] _ _ _ _ = F at e ⊢
  simp [e, sumD_gain, cnt_succ]
def lcE (L : Lab) (len i : Nat) (w3 w4 w5 : Option Sl) : Stt Unit := ⟨[some (.d L.D), some (.d (.int (len : Nat))), some (.own (rowT (i + 1) (cntRow L))), w3, w4, w5, none], ()⟩
theorem lcounts_ok {L : Lab} (ok : LabOk L) {len : Nat} (hl : len ≤ 1000) : m__law_counts [L.D, .int (len : Nat)] = some (cntsD L len) := by
  have n8 := ok.n8
  have g2 : rgOk 0 (len : Nat) = true := rgOk_small (by omega) (by omega) (by omega) (by omega)
  refine runP2_of rfl ?_
  unfold F__law_counts
  refine Ev.seqN ⟨.nx, _, asg0_ok (by omega) _ _, rfl, ?_⟩
  refine Ev.seqN (Ev.loop (Ev.rangeM (lo := 0) (hi := (len : Nat)) (by simp) g2 ?_))
  rw [rgD_nat]
  refine Ev.for_ (fun i s => ∃ w3 w4 w5, s = lcE L len i w3 w4 w5) ?_ ?_ ⟨none, none, none, rfl⟩
  · rintro i x s hx ⟨w3, w4, w5, rfl⟩
    obtain ⟨hi, rfl⟩ := rgN_some hx
    have hlast : ixD (.list (rowT (i + 1) (cntRow L))) (.int (-1)) = some (.val (cntRow L i)) := by
      rw [ixD_l, rowT_last]
      rfl
    have hfin : rowT (i + 1) (cntRow L) ++ [cntRow L (i + 1)] = rowT (i + 1 + 1) (cntRow L) := (rowT_succ (i + 1) _).symm
    have hol : (rowT (i + 1) (cntRow L)).length < 16777216 := by rw [rowT_len]; omega
    unfold lcE
    generalize rowT (i + 1) (cntRow L) = Z at hlast hfin hol ⊢
    refine Ev.bnd (Ev.run ?_)
    simp
    refine Ev.seqN (Ev.run ?_)
    simp
    refine Ev.seqN (Ev.loop ⟨rowT L.n L.mrow, ⟨[some (.d L.D), some (.d (.int (len : Nat))), some (.own Z), some (.d (.int (i : Nat))), some (.own []), w5, none], ()⟩, by simp, ?_⟩)
    refine Ev.for_ (fun j s => ∃ w5, s = ⟨[some (.d L.D), some (.d (.int (len : Nat))), some (.own Z), some (.d (.int (i : Nat))), some (.own (rowT j fun s => .int (cnt L (i + 1) s : Nat))), w5, none], ()⟩) ?_ ?_ ⟨w5, rfl⟩
    · rintro j x s hx ⟨w5, rfl⟩
      obtain ⟨hj, rfl⟩ := rowT_some hx
      obtain ⟨o, s3, e1, rfl, rfl⟩ := lsum_in (L := L) (l := i) (s := j) (lab := L.D) (len := .int (len : Nat)) (fs := Z) (ro := rowT j fun s => .int (cnt L (i + 1) s : Nat)) (w3 := some (.d (.int (i : Nat)))) ok hj hlast
      refine Ev.bnd (Ev.run ?_)
      simp only [setM_s, Res_some, List.set_cons_zero, List.set_cons_succ]
      refine Ev.app (zs0 := rowT j fun s => .int (cnt L (i + 1) s : Nat)) rfl ⟨_, _, e1, Ev.toDv ⟨_, rfl, by rw [rowT_len]; omega, some (.d (L.mrow j)), ?_⟩⟩
      rw [rowT_succ j]
      rfl
    · rintro s ⟨w5, rfl⟩
      rw [rowT_len]
      refine ⟨rfl, ?_⟩
      refine Ev.app (zs0 := Z) rfl (Ev.run ?_)
      simp
      refine Ev.run ?_
      simp
      exact ⟨hol, hfin⟩
  · rintro s ⟨w3, w4, w5, rfl⟩
    rw [rgN_len]
    refine ⟨rfl, Ev.run ?_⟩
    unfold lcE cntsD
    generalize rowT (len + 1) (cntRow L) = Z
    simp
/-! numbers -/
theorem num_turn {C lab st row me ro n p cr u z : D} {acc g : Int} {w7 : Option Sl} (h0 : ixD lab (.int 0) = some (.val me)) (h1 : ixD me st = some (.val ro)) (h2 : ixD ro u = some (.val z)) (h3 : lenD [row] = some (.val n)) {i : Int} (h4 : subD n p = some (.val (.int i))) (h5 : ixD C (.int (i - 1)) = some (.val cr)) (h6 : isNoneB z = true ∧ g = 0 ∨ isNoneB z = false ∧ ixD cr z = some (.val (.int g))) :
    (seqM (asgM 7 (op2 ixD (op2 ixD (op2 ixD (nameM 1) (ret (.val (PyData.int 0)))) (nameM 2)) (nameM 6))) (asgM 4 (op2 addD (nameM 4) (iteM (bnd (op2 isD (nameM 7) (ret (.val PyData.none))) boolO) (ret (.val (PyData.int 0))) (op2 ixD (op2 ixD (nameM 0) (op2 subD (op2 subD (callM lenD (consO (nameM 3) nilM)) (nameM 5)) (ret (.val (PyData.int 1))))) (nameM 7)))))) (⟨[some (.d C), some (.d lab), some (.d st), some (.d row), some (.d (.int acc)), some (.d p), some (.d u), w7], ()⟩ : Stt Unit) =
      some (Out.nx, ⟨[some (.d C), some (.d lab), some (.d st), some (.d row), some (.d (.int (acc + g))), some (.d p), some (.d u), some (.d z)], ()⟩) := by
  rcases h6 with ⟨hz, rfl⟩ | ⟨hz, h6⟩
  · simp [h0, h1, h2, hz]
  · simp [h0, h1, h2, hz, h3, h4, h5, h6]
theorem num_next {C lab st row me ro p t z a : D} {w6 w7 : Option Sl} (h0 : ixD lab (.int 0) = some (.val me)) (h1 : ixD me st = some (.val ro)) (h2 : ixD row p = some (.val t)) (h3 : ixD ro t = some (.val z)) :
    (asgM 2 (op2 ixD (op2 ixD (op2 ixD (nameM 1) (ret (.val (PyData.int 0)))) (nameM 2)) (op2 ixD (nameM 3) (nameM 5)))) (⟨[some (.d C), some (.d lab), some (.d st), some (.d row), some (.d a), some (.d p), w6, w7], ()⟩ : Stt Unit) =
      some (Out.nx, ⟨[some (.d C), some (.d lab), some (.d z), some (.d row), some (.d a), some (.d p), w6, w7], ()⟩) := by
  simp [h0, h1, h2, h3]
theorem rng_of {C lab st row p a : D} {t : Nat} {w6 w7 : Option Sl} (h2 : ixD row p = some (.val (.int (t : Nat)))) (g : rgOk 0 (t : Nat) = true) :
    rangeM (consO (op2 ixD (nameM 3) (nameM 5)) nilM) (⟨[some (.d C), some (.d lab), some (.d st), some (.d row), some (.d a), some (.d p), w6, w7], ()⟩ : Stt Unit) = some (rgN t, ⟨[some (.d C), some (.d lab), some (.d st), some (.d row), some (.d a), some (.d p), w6, w7], ()⟩) := by
  rw [← rgD_nat]
  generalize ((t : Nat) : Int) = k at h2 g ⊢
  simp [h2, g]
def luE (L : Lab) (len s0 : Nat) (row : List Nat) (p : Nat) (s : Stt Unit) : Prop := ∃ (w5 w6 w7 : Option Sl) (here acc : Nat), s = ⟨[some (.d (cntsD L len)), some (.d L.D), some (.d (.int (here : Nat))), some (.d (resD row)), some (.d (.int (acc : Nat))), w5, w6, w7], ()⟩ ∧ here < L.n ∧ Free L here (row.drop p) ∧ acc + rankN L here (row.drop p) = rankN L s0 row
theorem lnumber_ok {L : Lab} (ok : LabOk L) {s len : Nat} {row : List Nat} (hs : s < L.n) (hi : In L row) (hl : row.length ≤ 1000) (hc : row.length ≤ len + 1) (hf : Free L s row) : m__law_number [cntsD L len, L.D, .int (s : Nat), resD row] = some (.int (rankN L s row : Nat)) := by
  have k8 := ok.k8
  have g2 : rgOk 0 (row.length : Nat) = true := rgOk_small (by omega) (by omega) (by omega) (by omega)
  have e4 := resD_len row
  refine runP2_of rfl ?_
  unfold F__law_number
  refine Ev.seqN ⟨.nx, ⟨[some (.d (cntsD L len)), some (.d L.D), some (.d (.int (s : Nat))), some (.d (resD row)), some (.d (.int 0)), none, none, none], ()⟩, rfl, rfl, ?_⟩
  refine Ev.seqN (Ev.loop (Ev.rangeM (lo := 0) (hi := (row.length : Nat)) (by simp [e4]) g2 ?_))
  rw [rgD_nat]
  refine Ev.for_ (luE L len s row) ?_ ?_ ⟨none, none, none, s, 0, rfl, hs, hf, by rw [List.drop_zero, Nat.zero_add]⟩
  · rintro p x st hx ⟨w5, w6, w7, here, acc, rfl, hh, hfr, hacc⟩
    obtain ⟨hp, rfl⟩ := rgN_some hx
    obtain ⟨t, ht⟩ : ∃ t, row[p]? = some t := ⟨_, List.getElem?_eq_getElem hp⟩
    have htk : t < L.k := hi t (List.mem_of_getElem? ht)
    rw [drop_at ht] at hfr hacc
    obtain ⟨r, hm, hfr2⟩ := hfr
    have hr := ok.meet _ _ _ hh htk hm
    have hdl : (row.drop (p + 1)).length = row.length - p - 1 := by rw [List.length_drop]; omega
    have hrk : rankN L here (t :: row.drop (p + 1)) = pre (gain L (cnt L (row.drop (p + 1)).length) here) t + rankN L r (row.drop (p + 1)) := by
      show _ + _ = _
      rw [hm]
    have e2 : ixD (resD row) (.int (p : Nat)) = some (.val (.int (t : Nat))) := by simp [resD, ht, nD]
    have e7 : ixD (cntsD L len) (.int ((row.length : Int) - (p : Int) - 1)) = some (.val (cntRow L (row.drop (p + 1)).length)) := by
      rw [show (row.length : Int) - (p : Int) - 1 = ((row.length - p - 1 : Nat) : Int) by omega, hdl]
      exact cntsD_at (by omega)
    have e8 := meets_at hh
    have e9 := mrow_at (L := L) (s := here) htk
    rw [hm] at e9
    refine Ev.bnd (Ev.run ?_)
    simp only [setM_s, Res_some, List.set_cons_zero, List.set_cons_succ]
    refine Ev.seqN (Ev.loop ⟨_, _, rng_of e2 (rgOk_small (by omega) (by omega) (by omega) (by omega)), ?_⟩)
    refine Ev.for_ (fun j st => ∃ w6 w7, st = ⟨[some (.d (cntsD L len)), some (.d L.D), some (.d (.int (here : Nat))), some (.d (resD row)), some (.d (.int ((acc + pre (gain L (cnt L (row.drop (p + 1)).length) here) j : Nat)))), some (.d (.int (p : Nat))), w6, w7], ()⟩) ?_ ?_ ⟨w6, w7, rfl⟩
    · rintro j x st hx ⟨w6, w7, rfl⟩
      obtain ⟨hj, rfl⟩ := rgN_some hx
      have e10 := mrow_at (L := L) (s := here) (t := j) (by omega)
      have e11 : isNoneB (oD (L.meet here j)) = true ∧ ((gain L (cnt L (row.drop (p + 1)).length) here j : Nat) : Int) = 0 ∨ isNoneB (oD (L.meet here j)) = false ∧ ixD (cntRow L (row.drop (p + 1)).length) (oD (L.meet here j)) = some (.val (.int (gain L (cnt L (row.drop (p + 1)).length) here j : Nat))) := by
        unfold gain
        cases hq : L.meet here j with
        | none => exact .inl ⟨rfl, rfl⟩
        | some q => exact .inr ⟨rfl, cntRow_at (ok.meet _ _ _ hh (by omega) hq)⟩
      refine ⟨.nx, _, bnd_val (a := ()) rfl (num_turn (w7 := w7) (acc := ((acc + pre (gain L (cnt L (row.drop (p + 1)).length) here) j : Nat) : Int)) (lab_0 L) e8 e10 e4 (subD_i _ _) e7 e11), ?_⟩
      refine ⟨some (.d (.int (j : Nat))), some (.d (oD (L.meet here j))), ?_⟩
      have : ((acc + pre (gain L (cnt L (row.drop (p + 1)).length) here) j : Nat) : Int) + ((gain L (cnt L (row.drop (p + 1)).length) here j : Nat) : Int) = ((acc + pre (gain L (cnt L (row.drop (p + 1)).length) here) (j + 1) : Nat) : Int) := by
        show _ = ((acc + (pre (gain L (cnt L (row.drop (p + 1)).length) here) j + gain L (cnt L (row.drop (p + 1)).length) here j) : Nat) : Int)
        omega
      rw [this]
    · rintro st ⟨w6, w7, rfl⟩
      rw [rgN_len]
      refine ⟨rfl, .nx, _, num_next (lab_0 L) e8 e2 e9, ?_⟩
      show luE L len s row (p + 1) _
      exact ⟨_, _, _, r, acc + pre (gain L (cnt L (row.drop (p + 1)).length) here) t, rfl, hr, hfr2, by omega⟩
  · rintro st ⟨w5, w6, w7, here, acc, rfl, hh, hfr, hacc⟩
    rw [rgN_len, List.drop_length] at hacc
    have : acc = rankN L s row := by
      have h0 : rankN L here [] = 0 := rfl
      omega
    subst this
    exact ⟨rfl, ⟨_, _, rfl, .inl rfl⟩⟩
end LW
end

section
set_option Elab.async false
set_option linter.all false
set_option maxRecDepth 100000
set_option maxHeartbeats 999999
open DL
open PySem (PyData Str)
namespace LW
/-! ### all rows of a length; what is told of a row -/
def pairD (p : List Nat × Nat) : D := .tuple [resD p.1, .int (p.2 : Nat)]
/-- a list that a slot knows, by itself or shared -/
def isL (xs : List D) (w : Option Sl) : Prop := w = some (.own xs) ∨ w = some (.d (.list xs))
theorem rows_it {a b c : D} {xs : List D} {w3 w4 w5 w6 w7 w8 w9 : Option Sl} (h : isL xs w3) : iterM (nameM 3) (⟨[some (.d a), some (.d b), some (.d c), w3, w4, w5, w6, w7, w8, w9], ()⟩ : Stt Unit) = some (xs, ⟨[some (.d a), some (.d b), some (.d c), some (.d (.list xs)), w4, w5, w6, w7, w8, w9], ()⟩) := by
  rcases h with rfl | rfl <;> rfl
theorem ar_pair {a b c : D} {xs : List D} {p : List Nat × Nat} {w3 w4 w5 w6 w7 w8 w9 : Option Sl} : tupG 2 (gsCons (setM 6) (gsCons (setM 7) gsNil)) (pairD p) (⟨[some (.d a), some (.d b), some (.d c), w3, w4, w5, w6, w7, w8, w9], ()⟩ : Stt Unit) = some ((), ⟨[some (.d a), some (.d b), some (.d c), w3, w4, w5, some (.d (resD p.1)), some (.d (.int (p.2 : Nat))), w8, w9], ()⟩) := rfl
theorem ar_rng {lab b c me ro : D} {k : Nat} {w3 w4 w5 w6 w7 w8 w9 : Option Sl} (h0 : ixD lab (.int 0) = some (.val me)) (h1 : ixD me (.int 0) = some (.val ro)) (h2 : lenD [ro] = some (.val (.int (k : Nat)))) (g : rgOk 0 (k : Nat) = true) :
    rangeM (consO (callM lenD (consO (op2 ixD (op2 ixD (nameM 0) (ret (.val (PyData.int 0)))) (ret (.val (PyData.int 0)))) nilM)) nilM) (⟨[some (.d lab), some (.d b), some (.d c), w3, w4, w5, w6, w7, w8, w9], ()⟩ : Stt Unit) = some (rgN k, ⟨[some (.d lab), some (.d b), some (.d c), w3, w4, w5, w6, w7, w8, w9], ()⟩) := by
  rw [← rgD_nat]
  generalize ((k : Nat) : Int) = kk at h2 g ⊢
  simp [h0, h1, h2, g]
theorem ar_turn {lab b c me ro row row2 here u z : D} {w3 w4 w9 : Option Sl} {ys : List D} (h0 : ixD lab (.int 0) = some (.val me)) (h1 : ixD me here = some (.val ro)) (h2 : ixD ro u = some (.val z)) (h3 : addD row (.tuple [u]) = some (.val row2)) (hl : ys.length < 16777216) :
    (seqM (asgM 9 (op2 ixD (op2 ixD (op2 ixD (nameM 0) (ret (.val (PyData.int 0)))) (nameM 7)) (nameM 8))) (ifM (bnd (op2 isNotD (nameM 9) (ret (.val PyData.none))) boolO) (bnd (ownAt 5) fun _ => appM 5 (tupM (consD (op2 addD (nameM 6) (tupM (consD (nameM 8) nilM))) (consD (nameM 9) nilM)))) (ret .nx))) (⟨[some (.d lab), some (.d b), some (.d c), w3, w4, some (.own ys), some (.d row), some (.d here), some (.d u), w9], ()⟩ : Stt Unit) =
      some (Out.nx, ⟨[some (.d lab), some (.d b), some (.d c), w3, w4, some (.own (if isNoneB z then ys else ys ++ [.tuple [row2, z]])), some (.d row), some (.d here), some (.d u), some (.d z)], ()⟩) := by
  cases hz : isNoneB z <;> simp [h0, h1, h2, h3, hz, hl]
theorem ar_last {xs : List D} {a b c : D} {w3 w4 w6 w7 w8 w9 : Option Sl} : asgM 3 (nameM 5) (⟨[some (.d a), some (.d b), some (.d c), w3, w4, some (.own xs), w6, w7, w8, w9], ()⟩ : Stt Unit) = some (Out.nx, ⟨[some (.d a), some (.d b), some (.d c), some (.d (.list xs)), w4, some (.d (.list xs)), w6, w7, w8, w9], ()⟩) := rfl
/-- what a comprehension puts back -/
def Kp (w : Option Sl) : Prop := keepD (some w) = w
def arE (L : Lab) (s0 len i : Nat) (s : Stt Unit) : Prop := ∃ (w3 w4 w5 w6 w7 w8 w9 : Option Sl), isL ((allR L i s0).map pairD) w3 ∧ (Kp w6 ∧ Kp w7) ∧ s = ⟨[some (.d L.D), some (.d (.int (s0 : Nat))), some (.d (.int (len : Nat))), w3, w4, w5, w6, w7, w8, w9], ()⟩
def ar1 (L : Lab) (s0 len : Nat) (ps : List (List Nat × Nat)) (w3 w4 : Option Sl) (i : Nat) (s : Stt Unit) : Prop := ∃ (w6 w7 w8 w9 : Option Sl), (Kp w6 ∧ Kp w7) ∧ s = ⟨[some (.d L.D), some (.d (.int (s0 : Nat))), some (.d (.int (len : Nat))), w3, w4, some (.own ((extR L (ps.take i)).map pairD)), w6, w7, w8, w9], ()⟩
def ar2 (L : Lab) (s0 len : Nat) (ps : List (List Nat × Nat)) (p : List Nat × Nat) (w3 w4 : Option Sl) (j : Nat) (s : Stt Unit) : Prop := ∃ (w8 w9 : Option Sl), s = ⟨[some (.d L.D), some (.d (.int (s0 : Nat))), some (.d (.int (len : Nat))), w3, w4, some (.own ((extR L ps ++ (List.range j).flatMap (ext1 L p)).map pairD)), some (.d (resD p.1)), some (.d (.int (p.2 : Nat))), w8, w9], ()⟩
theorem ext1_len (L : Lab) (p : List Nat × Nat) (t : Nat) : (ext1 L p t).length ≤ 1 := by
  unfold ext1
  cases L.meet p.2 t with
  | none => exact Nat.zero_le _
  | some r => exact Nat.le_refl _
theorem flat_len {α : Type} {f : Nat → List α} (h : ∀ t, (f t).length ≤ 1) : ∀ j, ((List.range j).flatMap f).length ≤ j
  | 0 => Nat.le_refl _
  | j + 1 => by
    rw [List.range_succ, List.flatMap_append, List.flatMap_singleton, List.length_append]
    have := flat_len h j
    have := h j
    omega
theorem ext_len {L : Lab} (k8 : L.k ≤ 8) : ∀ ps : List (List Nat × Nat), (extR L ps).length ≤ ps.length * 8
  | [] => Nat.le_refl _
  | p :: ps => by
    have h1 := ext_len k8 ps
    have h2 := flat_len (ext1_len L p) L.k
    unfold extR at h1 ⊢
    rw [List.flatMap_cons, List.length_append, List.length_cons]
    show ((List.range L.k).flatMap (ext1 L p)).length + _ ≤ _
    omega
/-- ends of all rows are states -/
theorem all_ends {L : Lab} (ok : LabOk L) : ∀ l s, s < L.n → ∀ p ∈ allR L l s, p.2 < L.n ∧ p.1.length ≤ l
  | 0, s, hs, p, hp => by
    have : p = ([], s) := by simpa [allR] using hp
    subst this
    exact ⟨hs, Nat.le_refl _⟩
  | l + 1, s, hs, p, hp => by
    obtain ⟨t, ht, hp⟩ := List.mem_flatMap.mp (show p ∈ (List.range L.k).flatMap (step L (allR L l) s) from hp)
    unfold step at hp
    cases hm : L.meet s t with
    | none => rw [hm] at hp; cases hp
    | some r =>
      rw [hm] at hp
      obtain ⟨q, hq, rfl⟩ := List.mem_map.mp hp
      have h := all_ends ok l r (ok.meet s t r hs (List.mem_range.mp ht) hm) q hq
      refine ⟨h.1, ?_⟩
      show q.1.length + 1 ≤ l + 1
      omega
def gFst : D → Option D
  | .tuple [x, _] => some x
  | _ => none
theorem allrows_ok {L : Lab} (ok : LabOk L) {s len : Nat} (hs : s < L.n) (hl : len ≤ 3) : m__law_all_rows [L.D, .int (s : Nat), .int (len : Nat)] = some (.list ((allR L len s).map fun p => resD p.1)) := by
  have k8 := ok.k8
  have n1 := ok.n1
  have g2 : rgOk 0 (len : Nat) = true := rgOk_small (by omega) (by omega) (by omega) (by omega)
  have big : ∀ i, i ≤ 3 → (allR L i s).length ≤ 512 := by
    intro i hi
    have : ∀ i, (allR L i s).length ≤ 8 ^ i := by
      intro i
      induction i with
      | zero => exact Nat.le_refl _
      | succ i ih =>
        rw [← ext_all]
        have := ext_len k8 (allR L i s)
        rw [Nat.pow_succ]
        omega
    exact Nat.le_trans (this i) (Nat.pow_le_pow_right (by decide) hi)
  refine runP2_of rfl ?_
  unfold F__law_all_rows
  refine Ev.seqN ⟨.nx, ⟨[some (.d L.D), some (.d (.int (s : Nat))), some (.d (.int (len : Nat))), some (.own [pairD ([], s)]), none, none, none, none, none, none], ()⟩, by simp [pairD, resD], rfl, ?_⟩
  refine Ev.seqN (Ev.loop (Ev.rangeM (lo := 0) (hi := (len : Nat)) (by simp) g2 ?_))
  rw [rgD_nat]
  refine Ev.for_ (arE L s len) ?_ ?_ ⟨_, none, none, none, none, none, none, .inl rfl, ⟨rfl, rfl⟩, rfl⟩
  · rintro i x st hx ⟨w3, w4, w5, w6, w7, w8, w9, h3, hk, rfl⟩
    obtain ⟨hi, rfl⟩ := rgN_some hx
    refine ⟨.nx, ?_⟩
    have hend := all_ends ok i s hs
    have hbig := big i (by omega)
    have hnext := ext_all L i s
    generalize allR L i s = ps at h3 hend hbig hnext
    have E : Ev (bnd (setM 4 (.int (i : Nat))) fun _ => (seqM (asgM 5 (lstM nilM)) (seqM (loopM (iterM (nameM 3)) (tupG 2 (gsCons (setM 6) (gsCons (setM 7) gsNil))) (loopM (rangeM (consO (callM lenD (consO (op2 ixD (op2 ixD (nameM 0) (ret (.val (PyData.int 0)))) (ret (.val (PyData.int 0)))) nilM)) nilM)) (setM 8) (seqM (asgM 9 (op2 ixD (op2 ixD (op2 ixD (nameM 0) (ret (.val (PyData.int 0)))) (nameM 7)) (nameM 8))) (ifM (bnd (op2 isNotD (nameM 9) (ret (.val PyData.none))) boolO) (bnd (ownAt 5) fun _ => appM 5 (tupM (consD (op2 addD (nameM 6) (tupM (consD (nameM 8) nilM))) (consD (nameM 9) nilM)))) (ret .nx))))) (asgM 3 (nameM 5)))))
        (⟨[some (.d L.D), some (.d (.int (s : Nat))), some (.d (.int (len : Nat))), w3, w4, w5, w6, w7, w8, w9], ()⟩ : Stt Unit) fun o s' => o = .nx ∧ arE L s len (i + 1) s' := by
      refine Ev.bnd ⟨(), ⟨[some (.d L.D), some (.d (.int (s : Nat))), some (.d (.int (len : Nat))), w3, some (.d (.int (i : Nat))), w5, w6, w7, w8, w9], ()⟩, rfl, ?_⟩
      refine Ev.seqN ⟨.nx, ⟨[some (.d L.D), some (.d (.int (s : Nat))), some (.d (.int (len : Nat))), w3, some (.d (.int (i : Nat))), some (.own []), w6, w7, w8, w9], ()⟩, by simp, rfl, ?_⟩
      refine Ev.seqN (Ev.loop ⟨_, _, rows_it h3, ?_⟩)
      refine Ev.for_ (ar1 L s len ps (some (.d (.list (ps.map pairD)))) (some (.d (.int (i : Nat))))) ?_ ?_ ⟨w6, w7, w8, w9, hk, rfl⟩
      · rintro j x st hx ⟨w6, w7, w8, w9, hk, rfl⟩
        rw [List.getElem?_map] at hx
        obtain ⟨p, hp, rfl⟩ := Option.map_eq_some_iff.mp hx
        have hjl : j < ps.length := (List.getElem?_eq_some_iff.mp hp).1
        have hpe := hend p (List.mem_of_getElem? hp)
        have htl : (extR L (ps.take j)).length ≤ 4096 := by
          refine Nat.le_trans (ext_len k8 _) ?_
          rw [List.length_take]
          omega
        have htake : extR L (ps.take (j + 1)) = extR L (ps.take j) ++ (List.range L.k).flatMap (ext1 L p) := by
          unfold extR
          rw [List.take_succ, hp, List.flatMap_append]
          show _ ++ [p].flatMap (extP L) = _
          rw [List.flatMap_singleton]
          rfl
        refine Ev.bnd ⟨(), _, ar_pair (a := L.D) (b := .int (s : Nat)) (c := .int (len : Nat)) (xs := []), ?_⟩
        refine Ev.loop ⟨_, _, ar_rng (k := L.k) (lab_0 L) (meets_at (s := 0) (by omega)) (mrow_len L 0) (rgOk_small (by omega) (by omega) (by omega) (by omega)), ?_⟩
        refine Ev.for_ (ar2 L s len (ps.take j) p (some (.d (.list (ps.map pairD)))) (some (.d (.int (i : Nat))))) ?_ ?_ ⟨w8, w9, by simp⟩
        · rintro t x st hx ⟨w8, w9, rfl⟩
          obtain ⟨ht, rfl⟩ := rgN_some hx
          refine ⟨.nx, _, bnd_val (a := ()) rfl (ar_turn (w9 := w9) (lab_0 L) (meets_at hpe.1) (mrow_at ht) (addRow (t := t) (by omega)) (by
            rw [List.length_map, List.length_append]
            have := flat_len (ext1_len L p) t
            omega)), ?_⟩
          refine ⟨some (.d (.int (t : Nat))), some (.d (oD (L.meet p.2 t))), ?_⟩
          have : (if isNoneB (oD (L.meet p.2 t)) = true then List.map pairD (extR L (List.take j ps) ++ List.flatMap (ext1 L p) (List.range t)) else List.map pairD (extR L (List.take j ps) ++ List.flatMap (ext1 L p) (List.range t)) ++ [.tuple [resD (p.1 ++ [t]), oD (L.meet p.2 t)]]) = (extR L (ps.take j) ++ (List.range (t + 1)).flatMap (ext1 L p)).map pairD := by
            rw [List.range_succ, List.flatMap_append, List.flatMap_singleton]
            cases hm : L.meet p.2 t with
            | none =>
              have : ext1 L p t = [] := by unfold ext1; rw [hm]
              rw [this, List.append_nil]
              rfl
            | some r =>
              have : ext1 L p t = [(p.1 ++ [t], r)] := by unfold ext1; rw [hm]
              rw [this, ← List.append_assoc, List.map_append (l₂ := [(p.1 ++ [t], r)])]
              rfl
          rw [this]
        · rintro st ⟨w8, w9, rfl⟩
          rw [rgN_len]
          show ar1 L s len ps _ _ (j + 1) _
          exact ⟨some (.d (resD p.1)), some (.d (.int (p.2 : Nat))), w8, w9, ⟨rfl, rfl⟩, by rw [htake]⟩
      · rintro st ⟨w6, w7, w8, w9, hk, rfl⟩
        rw [List.length_map, List.take_length]
        refine ⟨rfl, .nx, _, ar_last, rfl, ?_⟩
        refine ⟨some (.d (.list ((extR L ps).map pairD))), _, _, w6, w7, w8, w9, ?_, hk, rfl⟩
        rw [← hnext]
        exact .inr rfl
    obtain ⟨o, s', e, rfl, h⟩ := E
    exact ⟨s', e, h⟩
  · rintro st ⟨w3, w4, w5, w6, w7, w8, w9, h3, ⟨k6, k7⟩, rfl⟩
    rw [rgN_len] at h3
    refine ⟨rfl, ?_⟩
    have hb := big len hl
    have hfm : ((allR L len s).map pairD).filterMap gFst = (allR L len s).map fun p => resD p.1 := by
      rw [List.filterMap_map]
      show (allR L len s).filterMap (some ∘ fun p => resD p.1) = _
      exact congrFun List.filterMap_eq_map _
    generalize allR L len s = ps at h3 hb hfm ⊢
    refine Ev.retM (Ev.lcv gFst ⟨_, _, rows_it h3, by rw [List.length_map]; omega, ?_, ?_, Ev.toDn (.inl (by rw [hfm]))⟩)
    · unfold Kp at k6 k7
      simp [k6, k7]
    · intro x hx acc
      obtain ⟨p, hp, rfl⟩ := List.mem_map.mp hx
      refine Ev.run ?_
      simp [pairD, gFst]
end LW
end

section
set_option Elab.async false
set_option linter.all false
set_option maxRecDepth 100000
set_option maxHeartbeats 999999
set_option exponentiation.threshold 5001
open DL
open PySem (PyData Str)
namespace LW
/-! ### what is told of a row is right -/
theorem pl_row : Pl 0 150 (.str "row") := Pl.str (by decide +kernel)
theorem pl_state : Pl 0 150 (.str "state") := Pl.str (by decide +kernel)
theorem pl_length : Pl 0 150 (.str "length") := Pl.str (by decide +kernel)
theorem pl_number : Pl 0 150 (.str "number") := Pl.str (by decide +kernel)
theorem pl_0 : Pl 0 150 (.str "0") := Pl.str (by decide +kernel)
theorem pl_5 : Pl 0 150 (.str "5") := Pl.str (by decide +kernel)
theorem pl_nat {i : Nat} (h : i < 10 ^ 150) : Pl 0 150 (.int (i : Nat)) := Pl.int (by omega) (by
  have : ((i : Nat) : Int) < ((10 ^ 150 : Nat) : Int) := by omega
  exact this)
theorem row_pl {L : Lab} {row : List Nat} (ok : LabOk L) (hi : In L row) {m : Nat} (hl : row.length ≤ m) : Pl 1 (m * 152 + 6) (resD row) := by
  have k8 := ok.k8
  refine Pl.tup (by rw [List.length_map]; exact hl) fun x hx => ?_
  obtain ⟨t, ht, rfl⟩ := List.mem_map.mp hx
  have := hi t ht
  exact pl_nat (Nat.lt_of_lt_of_le (show t < 8 by omega) (by decide))
theorem two_pl {d b : Nat} {x y : D} (hx : Pl 0 150 x) (hy : Pl d b y) (hb : 150 ≤ b := by decide) : Pl (d + 1) (2 * (b + 2) + 6) (.list [x, y]) :=
  Pl.lst (Nat.le_refl _) fun z hz => by
    rcases List.mem_cons.mp hz with rfl | h
    · exact hx.mono (Nat.zero_le _) hb
    · rw [List.mem_singleton] at h
      rw [h]
      exact hy
theorem rr_run {lab C st row p l n c : D} {k : Bool} (h1 : m__law_stop [lab, st, row] = some (.tuple [p, l])) (h2 : lenD [row] = some (.val n)) (h3 : eqD p n = some (.val (.bool k))) (h4 : k = true → m__law_number [C, lab, st, row] = some c)
    (h5 : okOf m__law_told [lab, .int 3, st, row, .int 0] = some (if k then l else .none)) (h6 : okOf m__law_told [lab, .int 4, st, row, .int 0] = some (if k then .none else p)) (h7 : okOf m__law_told [lab, .int 2, st, row, .int 0] = some (if k then c else .list [.str "row", row]))
    (h8 : m__law_like [.list [if k then l else .none, if k then .none else p, if k then c else .list [.str "row", row]], .list [if k then l else .none, if k then .none else p, if k then c else .list [.str "row", row]]] = some (.bool true)) : m__law_row_right [lab, C, st, row] = some (.bool true) := by
  refine runP2_of rfl (Ev.run ?_)
  unfold F__law_row_right
  generalize m__law_stop = f1 at h1 ⊢
  generalize m__law_number = f2 at h4 ⊢
  generalize okOf m__law_told = f3 at h5 h6 h7 ⊢
  generalize m__law_like = f4 at h8 ⊢
  cases k with
  | true =>
    have h4 := h4 rfl
    simp only [if_true] at h5 h6 h7 h8
    simp [h1, h2, h3, h4, h5, h6, h7, h8]
  | false =>
    simp only [Bool.false_eq_true, if_false] at h5 h6 h7 h8
    simp [h1, h2, h3, h5, h6, h7, h8]
theorem row_right {L : Lab} (ok : LabOk L) (k5 : L.k ≤ 5) {s : Nat} {row : List Nat} (hs : s < L.n) (hi : In L row) (hl : row.length ≤ 200) : m__law_row_right [L.D, cntsD L 201, .int (s : Nat), resD row] = some (.bool true) := by
  have n8 := ok.n8
  have hst := lstop_ok ok hs hi (show row.length ≤ 1000 by omega)
  have he := end_ok ok hs hi (show row.length ≤ 1000 by omega)
  have hp := rstop_ok ok hs hi (show row.length ≤ 1000 by omega)
  have hle := stop_le L row s
  have hlast : ∀ (row : List Nat) (s : Nat), s < L.n → In L row → (stopN L s row).2 < L.n := by
    intro row
    induction row with
    | nil => exact fun s hs _ => hs
    | cons t r ih =>
      intro s hs hi
      cases hm : L.meet s t with
      | none => rw [stop_none hm]; exact hs
      | some s' =>
        rw [stop_some hm]
        exact ih s' (ok.meet _ _ _ hs (hi t List.mem_cons_self) hm) fun u hu => hi u (List.mem_cons_of_mem _ hu)
  have hl2 := hlast row s hs hi
  have p10 : (10 : Nat) ^ 150 ≥ 1000 := by decide +kernel
  have rp := row_pl (m := 200) ok hi hl
  by_cases c : (stopN L s row).1 = row.length
  · have hf := (free_iff L row s).mpr c
    rw [if_pos c] at he hp
    have hn := lnumber_ok ok (len := 201) hs hi (by omega) (by omega) hf
    have hc : rankN L s row < 10 ^ 150 := Nat.lt_trans (rank_lt L row s hf hi) (Nat.lt_trans (cnt_big k5 (by omega)) (by decide +kernel))
    refine rr_run (k := true) (c := .int (rankN L s row : Nat)) hst (resD_len row) (by rw [show nD (stopN L s row).1 = .int ((stopN L s row).1 : Nat) from rfl, eqD_i, decide_eq_true (by omega)]) (fun _ => hn) (told3 he (.ok _)) (told4 hp (.ok _)) (told2 (place_ok ok hs hi hl hf) (.ok _)) ?_
    refine Pl.like (Pl.lst (d := 0) (b := 150) (m := 3) (Nat.le_refl _) fun z hz => ?_)
    simp only [if_true, List.mem_cons, List.not_mem_nil, or_false] at hz
    rcases hz with rfl | rfl | rfl
    · exact pl_nat (by omega)
    · exact Pl.non
    · exact pl_nat hc
  · rw [if_neg c] at he hp
    refine rr_run (k := false) (c := .none) hst (resD_len row) (by rw [show nD (stopN L s row).1 = .int ((stopN L s row).1 : Nat) from rfl, eqD_i, decide_eq_false (by omega)]) (fun h => by cases h) (told3 he (.ok _)) (told4 hp (.ok _)) (told2 (place_not ok hs hi hl c) (.row _)) ?_
    refine Pl.like (Pl.lst (d := 2) (b := 2 * (200 * 152 + 6 + 2) + 6) (m := 3) (Nat.le_refl _) fun z hz => ?_)
    simp only [Bool.false_eq_true, if_false, List.mem_cons, List.not_mem_nil, or_false] at hz
    rcases hz with rfl | rfl | rfl
    · exact Pl.non.mono (by decide) (by decide)
    · exact (pl_nat (by omega)).mono (by decide) (by decide)
    · exact two_pl pl_row rp
end LW
end

section
set_option Elab.async false
set_option linter.all false
set_option maxRecDepth 100000
set_option maxHeartbeats 999999
set_option exponentiation.threshold 5001
open DL
open PySem (PyData Str)
namespace LW
/-! ### draws -/
theorem StOk.mono {k k' : Nat} {st : DrawSt} (h : StOk k st) (l : k ≤ k') : StOk k' st := ⟨h.len, h.small, h.lo, by have := h.hi; omega⟩
/-- f gives such a datum, with at most C draws -/
def Dw (B C : Nat) (f : List D → DrawSt → Option (D × DrawSt)) (ds : List D) (Q : D → Prop) : Prop := ∀ k st, StOk k st → k ≤ B → ∃ r st', f ds st = some (r, st') ∧ Q r ∧ StOk (k + C) st'
theorem draw_dw {L : Int} (hL : 0 < L) (hL2 : L < 2 ^ 4000) : Dw 900000 1 m__law_draw [.int L] fun d => ∃ r : Nat, (r : Int) < L ∧ d = .int (r : Nat) := fun k st h hk => by
  obtain ⟨r, st', e, h1, h2, h3⟩ := draw_ok h (by omega) hL hL2
  exact ⟨_, st', e, ⟨r.toNat, by omega, by rw [Int.toNat_of_nonneg h1]⟩, h3⟩
theorem draw_small {L : Int} (hL : 0 < L) (hL2 : L < 1000) : Dw 900000 1 m__law_draw [.int L] fun d => ∃ r : Nat, (r : Int) < L ∧ d = .int (r : Nat) :=
  draw_dw hL (Int.lt_trans hL2 (by decide))
@[simp] theorem callD_s {s : Stt DrawSt} (i : Nat) (f : List D → DrawSt → Option (D × DrawSt)) (G : M DrawSt (List D)) : DL.callD i f G s = (match bnd (hAt i) (fun _ => G) s with | none => none | some (ds, s') => (match f ds s'.dr with | some (d, st') => some (.val d, { s' with dr := st' }) | none => none)) := by
  show bnd (hAt i) (fun _ => bnd G fun ds => fun s => _) s = _
  unfold bnd
  cases hAt i s with
  | none => rfl
  | some p =>
    obtain ⟨u, s1⟩ := p
    dsimp only
    cases G s1 with
    | none => rfl
    | some q => rfl
theorem Ev.callD {i : Nat} {f : List D → DrawSt → Option (D × DrawSt)} {G : M DrawSt (List D)} {s : Stt DrawSt} {P : Opd → Stt DrawSt → Prop} {B C k : Nat} {Q : D → Prop} {ds : List D} {s1 : Stt DrawSt} (h : Dw B C f ds Q) (e : bnd (hAt i) (fun _ => G) s = some (ds, s1)) (hk : StOk k s1.dr) (hk2 : k ≤ B)
    (hp : ∀ d st', Q d → StOk (k + C) st' → P (.val d) { s1 with dr := st' }) : Ev (DL.callD i f G) s P := by
  obtain ⟨r, st', e1, q, o⟩ := h k s1.dr hk hk2
  exact ⟨.val r, { s1 with dr := st' }, by rw [callD_s, e]; dsimp only; rw [e1], hp r st' q o⟩
theorem runD2_dw {np n B C : Nat} {F : M DrawSt Out} {ds : List D} {Q : D → Prop} (hl : ds.length + 1 = np) (h : ∀ k st, StOk k st → k ≤ B → Ev F ⟨some .h :: (ds.map (fun d => some (.d d)) ++ List.replicate (n - (ds.length + 1)) none), st⟩ fun o s' => ∃ d, o = .rt d ∧ Q d ∧ StOk (k + C) s'.dr) : Dw B C (runD2 np n F) ds Q := fun k st hk hk2 => by
  obtain ⟨o, s', e, d, rfl, q, ok⟩ := h k st hk hk2
  refine ⟨d, s'.dr, ?_, q, ok⟩
  unfold runD2 runD
  rw [if_pos hl, e]
theorem Ev.lcDr {ws : List Nat} {Fi : M DrawSt (List D)} {G : D → M DrawSt Unit} {T : M DrawSt Bool} {E : M DrawSt Opd} {s : Stt DrawSt} {P : Opd → Stt DrawSt → Prop} (e0 : List (Option Sl)) (C k n : Nat) (Q : D → Prop)
    (h : Ev Fi s fun xs s1 => xs.length = n ∧ n ≤ 16777216 ∧ wipeE s1.env ws = e0 ∧ restE s1.env ws e0 = s1.env ∧ StOk k s1.dr ∧
      (∀ x ∈ xs, ∀ acc st k', StOk k' st → k' ≤ k + n * C → Ev (turnM G T (valM E) x acc) ⟨e0, st⟩ fun acc' s3 => (∃ y, acc' = acc ++ [y] ∧ Q y) ∧ wipeE s3.env ws = e0 ∧ StOk (k' + C) s3.dr) ∧
      ∀ ys st, ys.length = n → (∀ y ∈ ys, Q y) → StOk (k + n * C) st → P (.new ys) ⟨s1.env, st⟩) : Ev (lcM ws Fi G T E) s P := by
  refine Ev.lc (h.mono fun xs s1 q => ?_)
  obtain ⟨h1, h2, h3, h4, h5, h6, h7⟩ := q
  refine ⟨by omega, fun i acc s2 => s2.env = e0 ∧ StOk (k + i * C) s2.dr ∧ acc.length = i ∧ ∀ y ∈ acc, Q y, ⟨h3, by rw [Nat.zero_mul]; exact h5, rfl, fun y hy => by cases hy⟩, ?_, ?_⟩
  · rintro i x acc ⟨env, st⟩ hx ⟨rfl, o, hl, ha⟩
    have hi : i < n := by
      have := (List.getElem?_eq_some_iff.mp hx).1
      omega
    have hle : i * C ≤ n * C := Nat.mul_le_mul_right C (by omega)
    refine (h6 x (List.mem_of_getElem? hx) acc st (k + i * C) o (by omega)).mono fun acc' s3 q => ?_
    obtain ⟨⟨y, rfl, hy⟩, q2, q3⟩ := q
    refine ⟨q2, ?_, by rw [List.length_append]; show acc.length + 1 = _; omega, fun z hz => ?_⟩
    · rw [Nat.add_mul, Nat.one_mul, ← Nat.add_assoc]
      exact q3
    · rcases List.mem_append.mp hz with m | m
      · exact ha z m
      · have : z = y := by simpa using m
        rw [this]
        exact hy
  · rintro acc ⟨env, st⟩ ⟨rfl, o, hl, ha⟩
    rw [h1] at o hl
    have := h7 acc st hl ha o
    rw [h4]
    exact this
theorem Ev.popM {i : Nat} {F : M DrawSt Opd} {s : Stt DrawSt} {P : Opd → Stt DrawSt → Prop} {zs : List D} (h0 : s.env[i]? = some (some (.own zs)))
    (h : Ev F s fun o s1 => ∃ (r : Nat) (xs : List D) (y : D), o = .val (.int (r : Nat)) ∧ s1.env[i]? = some (some (.own xs)) ∧ xs[r]? = some y ∧ r < 1000000 ∧ P (.val y) { s1 with env := s1.env.set i (some (.own (xs.eraseIdx r))) }) : Ev (DL.popM i F) s P := by
  obtain ⟨o, s1, e, r, xs, y, rfl, h1, h2, h3, hp⟩ := h
  refine ⟨_, _, ?_, hp⟩
  have hr : r < xs.length := (List.getElem?_eq_some_iff.mp h2).1
  have sq : PySem.seqIndex? (r : Int) xs.length = some r := by
    unfold PySem.seqIndex?
    have h1 : ¬ ((r : Int) < 0) := by omega
    simp [h1, hr]
  have b : (decide (-(2 ^ 63) ≤ (r : Int)) && decide ((r : Int) < 2 ^ 63)) = true := by
    rw [Bool.and_eq_true, decide_eq_true_eq, decide_eq_true_eq]
    omega
  rw [popM_s]
  have e0 : (ownAt i : M DrawSt Unit) s = some ((), s) := by rw [ownAt_s, h0]
  unfold bnd
  rw [e0]
  dsimp only
  rw [e]
  dsimp only
  rw [getO_v]
  dsimp only
  unfold popIx
  rw [h1]
  dsimp only
  rw [if_pos b, sq]
  dsimp only
  rw [h2]
end LW
end

section
set_option Elab.async false
set_option linter.all false
set_option maxRecDepth 100000
set_option maxHeartbeats 999999
set_option exponentiation.threshold 5001
open DL
open PySem (PyData Str)
namespace LW
/-! ### orders, ascending draws -/
theorem Ev.listRgM {τ : Type} {G : M τ (List Opd)} {lo hi : Int} {s : Stt τ} {P : Opd → Stt τ → Prop} (h : DL.bnd (intsM G) (fun ds => lift (rng2 ds)) s = some ((lo, hi), s)) (ok : rgOk lo hi = true) (hp : P (.new (rgD lo hi)) s) : Ev (DL.listRgM G) s P := ⟨.new (rgD lo hi), s, by
  rw [listRgM_s, h]
  dsimp only
  rw [if_pos ok], hp⟩
theorem rgN_map (n : Nat) : rgN n = (List.range n).map nD := rfl
theorem erase_perm : ∀ (l : List Nat) (i : Nat) (x : Nat), l[i]? = some x → (x :: l.eraseIdx i).Perm l
  | [], i, x, h => by simp at h
  | a :: l, 0, x, h => by
    simp at h
    subst h
    exact .refl _
  | a :: l, i + 1, x, h => by
    have h' : l[i]? = some x := by simpa using h
    rw [List.eraseIdx_cons_succ]
    exact (List.Perm.swap a x _).trans ((erase_perm l i x h').cons a)
theorem erase_map (l : List Nat) (i : Nat) : (l.map nD).eraseIdx i = (l.eraseIdx i).map nD := by
  induction l generalizing i with
  | nil => rfl
  | cons a l ih =>
    cases i with
    | zero => rfl
    | succ i => simp [ih]
def OI (many k : Nat) (i : Nat) (acc : List D) (s : Stt DrawSt) : Prop := ∃ (tk left : List Nat) (st : DrawSt), s = ⟨[some .h, some (.d (.int (many : Nat))), some (.own (left.map nD)), none], st⟩ ∧ acc = tk.map nD ∧ (tk ++ left).Perm (List.range many) ∧ tk.length = i ∧ StOk (k + i) st
theorem seqIdx {r n : Nat} (h : r < n) : PySem.seqIndex? (r : Int) n = some r := by
  unfold PySem.seqIndex?
  have h1 : ¬ ((r : Int) < 0) := by omega
  simp [h1, h]
theorem order_ok {many : Nat} (hm : many ≤ 100) : Dw 800000 many m__law_order [.int (many : Nat)] fun d => ∃ l : List Nat, d = .list (l.map nD) ∧ l.Perm (List.range many) := by
  refine runD2_dw rfl fun k st o hk => ?_
  have g2 : rgOk 0 (many : Nat) = true := rgOk_small (by omega) (by omega) (by omega) (by omega)
  have hD := fun (L : Int) (h1 : 0 < L) (h2 : L < 1000) => draw_small h1 h2
  unfold F__law_order
  generalize m__law_draw = f at hD ⊢
  refine Ev.seqN (Ev.asg (LW.Ev.listRgM (lo := 0) (hi := (many : Nat)) (by simp) g2 ?_))
  rw [rgD_nat, rgN_map]
  refine Ev.run ?_
  simp
  refine Ev.retM (Ev.lc (Ev.rangeM (lo := 0) (hi := (many : Nat)) (by simp) g2 ?_))
  rw [rgD_nat]
  refine ⟨by rw [rgN_len]; omega, OI many k, ⟨[], List.range many, st, rfl, rfl, .refl _, rfl, o⟩, ?_, ?_⟩
  · rintro i x acc s hx ⟨tk, left, st', rfl, rfl, pm, tl, o'⟩
    obtain ⟨hi, rfl⟩ := rgN_some hx
    have hl : tk.length + left.length = many := by
      have := pm.length_eq
      rw [List.length_append, List.length_range] at this
      exact this
    have pos : (0 : Int) < (left.length : Nat) := by omega
    have E1 : Ev (popM 2 (DL.callD 0 f (consD (callM lenD (consO (nameM 2) nilM)) nilM))) (⟨[some .h, some (.d (.int (many : Nat))), some (.own (left.map nD)), some (.d (.int (i : Nat)))], st'⟩ : Stt DrawSt) fun o s => ∃ (r : Nat) (y : Nat) (st2 : DrawSt), left[r]? = some y ∧ StOk (k + i + 1) st2 ∧ o = .val (nD y) ∧ s = ⟨[some .h, some (.d (.int (many : Nat))), some (.own ((left.eraseIdx r).map nD)), some (.d (.int (i : Nat)))], st2⟩ := by
      refine LW.Ev.popM (zs := left.map nD) rfl (LW.Ev.callD (k := k + i) (hD (left.length : Nat) pos (by omega)) (by simp; rfl) o' (by omega) fun d st2 q o2 => ?_)
      obtain ⟨r, hr, rfl⟩ := q
      have hr' : r < left.length := by omega
      obtain ⟨y, hy⟩ : ∃ y, left[r]? = some y := ⟨_, List.getElem?_eq_getElem hr'⟩
      refine ⟨r, left.map nD, nD y, rfl, rfl, by rw [List.getElem?_map, hy]; rfl, by omega, r, y, st2, hy, o2, rfl, ?_⟩
      rw [erase_map]
      rfl
    obtain ⟨o1, s1, e1, r, y, st2, hy, o2, rfl, rfl⟩ := E1
    generalize DL.popM 2 (DL.callD 0 f (consD (callM lenD (consO (nameM 2) nilM)) nilM)) = F at e1 ⊢
    refine Ev.run ?_
    simp [e1]
    refine ⟨tk ++ [y], left.eraseIdx r, st2, rfl, by simp, ?_, by simp [tl], by rw [← Nat.add_assoc]; exact o2⟩
    rw [List.append_assoc]
    exact ((erase_perm left r y hy).append_left tk).trans pm
  · rintro acc s ⟨tk, left, st', rfl, rfl, pm, tl, o'⟩
    rw [rgN_len] at tl o'
    have hl : left = [] := by
      have := pm.length_eq
      rw [List.length_append, List.length_range] at this
      exact List.eq_nil_of_length_eq_zero (by omega)
    subst hl
    rw [List.append_nil] at pm
    exact Ev.toDn ⟨_, rfl, ⟨tk, rfl, pm⟩, o'⟩
theorem ints_nats (l : List Nat) : intsOf (l.map nD) = some (l.map fun (i : Nat) => (i : Int)) := by
  induction l with
  | nil => rfl
  | cons a l ih =>
    rw [List.map_cons]
    show (intsOf (l.map nD)).map _ = _
    rw [ih]
    rfl
/-- numbers that are sorted -/
theorem sort_nats (l : List Nat) (nd : l.Nodup) : ∃ m : List Nat, (sortI (l.map fun (i : Nat) => (i : Int))).map PyData.int = m.map nD ∧ m.Perm l ∧ m.Pairwise (· < ·) := by
  have pm := sortI_perm (l.map fun (i : Nat) => (i : Int))
  have so := sortI_sorted (l.map fun (i : Nat) => (i : Int))
  generalize sortI (l.map fun (i : Nat) => (i : Int)) = z at pm so
  have nn : ∀ x ∈ z, 0 ≤ x := fun x hx => by
    obtain ⟨i, _, rfl⟩ := List.mem_map.mp (pm.mem_iff.mp hx)
    omega
  have back : (z.map Int.toNat).map nD = z.map PyData.int := by
    rw [List.map_map]
    refine List.map_congr_left fun x hx => ?_
    show PyData.int ((x.toNat : Nat) : Int) = _
    rw [Int.toNat_of_nonneg (nn x hx)]
  have p2 : (z.map Int.toNat).Perm l := by
    have := pm.map Int.toNat
    rw [List.map_map] at this
    have e : (Int.toNat ∘ fun (i : Nat) => (i : Int)) = id := by funext i; simp
    rw [e, List.map_id] at this
    exact this
  refine ⟨z.map Int.toNat, back.symm, p2, ?_⟩
  have nd2 : (z.map Int.toNat).Nodup := p2.nodup_iff.mpr nd
  have le : (z.map Int.toNat).Pairwise (· ≤ ·) := by
    refine List.pairwise_map.mpr (so.imp_of_mem fun {a b} ha hb hab => ?_)
    have := nn a ha
    omega
  exact (le.and nd2).imp fun {a b} h => Nat.lt_of_le_of_ne h.1 h.2
theorem some_run {fd fo : List D → DrawSt → Option (D × DrawSt)} {many most t : D} {r : Int} {ys Z W : List D} {st st1 st2 : DrawSt} (e1 : fo [many] st = some (.list ys, st1)) (mn : minD [most, many] = some (.val t)) (e : fd [t] st1 = some (.int r, st2)) (cut : slD (.list ys) none (some (1 + r)) = some (.new Z)) (srt : sortedD [.list Z] = some (.new W)) :
    (DL.retM (callM tupleD (consO (callM sortedD (consO (sliceM slD (DL.callD 0 fo (consD (nameM 1) nilM)) (ret none) (bnd (op2 addD (ret (.val (PyData.int 1))) (DL.callD 0 fd (consD (callM minD (consO (nameM 2) (consO (nameM 1) nilM))) nilM))) intO)) nilM)) nilM))) (⟨[some .h, some (.d many), some (.d most)], st⟩ : Stt DrawSt) = some (.rt (.tuple W), ⟨[some .h, some (.d many), some (.d most)], st2⟩) := by
  simp [e1, cut, e, mn, srt]
theorem some_ok {many most : Nat} (h0 : 1 ≤ many) (hm : many ≤ 100) (h1 : 1 ≤ most) (h2 : most ≤ 100) : Dw 700000 (many + 1) m__law_some [.int (many : Nat), .int (most : Nat)] fun d => ∃ l : List Nat, d = resD l ∧ l.Pairwise (· < ·) ∧ (∀ r ∈ l, r < many) ∧ 1 ≤ l.length ∧ l.length ≤ most := by
  refine runD2_dw rfl fun k st o hk => ?_
  have hD := fun (L : Int) (h1 : 0 < L) (h2 : L < 1000) => draw_small h1 h2
  have hO := order_ok hm
  unfold F__law_some
  generalize m__law_draw = f at hD ⊢
  generalize m__law_order = f2 at hO ⊢
  obtain ⟨d, st1, e1, ⟨l, rfl, pm⟩, o1⟩ := hO k st o (by omega)
  have tm : ∃ t : Nat, (if (many : Int) < (most : Int) then (many : Int) else (most : Int)) = (t : Nat) ∧ 1 ≤ t ∧ t ≤ most ∧ t ≤ many := by
    by_cases z : many < most
    · rw [if_pos (by omega)]; exact ⟨many, rfl, h0, by omega, Nat.le_refl _⟩
    · rw [if_neg (by omega)]; exact ⟨most, rfl, h1, Nat.le_refl _, by omega⟩
  obtain ⟨t, te, t1, t2, t3⟩ := tm
  obtain ⟨d, st2, e, ⟨r, hr, rfl⟩, o2⟩ := hD (t : Nat) (by omega) (by omega) (k + many) st1 o1 (by omega)
  have hlen : l.length = many := by
    have := pm.length_eq
    rw [List.length_range] at this
    exact this
  obtain ⟨m, m1, m2, m3⟩ := sort_nats (l.take (1 + r)) ((pm.nodup_iff.mpr List.nodup_range).sublist (List.take_sublist _ _))
  have cut : slD (.list (l.map nD)) none (some ((1 : Int) + (r : Int))) = some (.new ((l.take (1 + r)).map nD)) := by
    show some (Opd.new (cutD _ _ _)) = _
    unfold cutD
    rw [show HT.sIx (l.map nD).length 0 none = 0 from rfl, show (1 : Int) + (r : Int) = ((1 + r : Nat) : Int) by omega, HT.sIx_nat, List.drop_zero, Nat.sub_zero, List.length_map, List.map_take]
    rw [Nat.min_eq_left (by omega)]
  have srt : sortedD [.list ((l.take (1 + r)).map nD)] = some (.new (m.map nD)) := by
    show (intsOf _).map _ = _
    rw [ints_nats]
    show some (Opd.new _) = _
    rw [m1]
  have mn : minD [.int (most : Nat), .int (many : Nat)] = some (.val (.int (t : Nat))) := by
    rw [minD_i, te]
  refine ⟨_, _, some_run e1 mn e cut srt, _, rfl, ⟨m, rfl, m3, fun x hx => ?_, ?_, ?_⟩, by rw [← Nat.add_assoc]; exact o2⟩
  · have := List.mem_of_mem_take (m2.mem_iff.mp hx)
    exact List.mem_range.mp (pm.mem_iff.mp this)
  · have := m2.length_eq
    rw [List.length_take] at this
    omega
  · have := m2.length_eq
    rw [List.length_take] at this
    omega
end LW
end

section
set_option Elab.async false
set_option linter.all false
set_option maxRecDepth 100000
set_option maxHeartbeats 999999
set_option exponentiation.threshold 5001
open DL
open PySem (PyData Str)
namespace LW
/-! ### drawn labs -/
theorem back_map {α : Type} {f : α → D} {R : α → Prop} : ∀ {ys : List D}, (∀ y ∈ ys, ∃ a, y = f a ∧ R a) → ∃ ls : List α, ys = ls.map f ∧ ∀ a ∈ ls, R a
  | [], _ => ⟨[], rfl, fun a h => by cases h⟩
  | y :: ys, h => by
    obtain ⟨ls, e, hl⟩ := back_map (ys := ys) fun y m => h y (List.mem_cons_of_mem _ m)
    obtain ⟨a, rfl, ha⟩ := h y List.mem_cons_self
    refine ⟨a :: ls, by rw [e]; rfl, fun b m => ?_⟩
    rcases List.mem_cons.mp m with rfl | m
    · exact ha
    · exact hl b m
theorem rowT_getD {α : Type} (f : α → D) (d : α) (ls : List α) : rowT ls.length (fun s => f (ls.getD s d)) = ls.map f := by
  apply List.ext_getElem?
  intro i
  by_cases hi : i < ls.length
  · rw [rowT_get hi, List.getElem?_map, List.getElem?_eq_getElem hi, List.getD_eq_getElem?_getD, List.getElem?_eq_getElem hi]
    rfl
  · rw [List.getElem?_eq_none (by rw [rowT_len]; omega), List.getElem?_eq_none (by rw [List.length_map]; omega)]
theorem getD_mem {α : Type} {ls : List α} {d : α} {i : Nat} (h : i < ls.length) : ls.getD i d ∈ ls := by
  rw [List.getD_eq_getElem?_getD, List.getElem?_eq_getElem h]
  exact List.getElem_mem h
def rowO2 (l : List (Option Nat)) : D := .tuple (l.map oD)
/-- a drawn row: its entries are states; the first row has no gaps -/
def RowOk (n m : Nat) (l : List (Option Nat)) : Prop := l.length = m ∧ ∀ r, some r ∈ l → r < n
/-! rows of what a touch leads to -/
theorem me_turn {fd : List D → DrawSt → Option (D × DrawSt)} {h n m od st u y : D} {b : Bool} {rows row : List D} {w8 : Option Sl} {s0 s1 s2 : DrawSt} {z : Bool} (e1 : fd [.int 3] s0 = some (y, s1)) (e2 : ltD y od = some (.val (.bool b))) (e3 : gtD st (.int 0) = some (.val (.bool z))) {v : D} (e4 : (z && b) = true ∧ v = .none ∧ s2 = s1 ∨ (z && b) = false ∧ fd [n] s1 = some (v, s2)) (hl : row.length < 16777216) :
    (seqM (asgM 8 (op2 ltD (DL.callD 0 fd (consD (ret (.val (PyData.int 3))) nilM)) (nameM 4))) (bnd (ownAt 6) fun _ => appM 6 (iteM (andT (bnd (op2 gtD (nameM 5) (ret (.val (PyData.int 0)))) boolO) (bnd (nameM 8) boolO)) (ret (.val PyData.none)) (DL.callD 0 fd (consD (nameM 1) nilM))))) (⟨[some .h, some (.d n), some (.d m), some (.own rows), some (.d od), some (.d st), some (.own row), some (.d u), w8], s0⟩ : Stt DrawSt) =
      some (Out.nx, ⟨[some .h, some (.d n), some (.d m), some (.own rows), some (.d od), some (.d st), some (.own (row ++ [v])), some (.d u), some (.d (.bool b))], s2⟩) := by
  rcases e4 with ⟨h1, rfl, rfl⟩ | ⟨h1, h2⟩
  · cases z <;> cases b <;> simp at h1
    simp [e1, e2, e3, hl]
  · cases z <;> cases b <;> simp at h1 <;> simp [e1, e2, e3, hl, h2]
def meE (n m : Nat) (od : Int) (ls : List (List (Option Nat))) (w5 w6 w7 w8 : Option Sl) (st : DrawSt) : Stt DrawSt := ⟨[some .h, some (.d (.int (n : Nat))), some (.d (.int (m : Nat))), some (.own (ls.map rowO2)), some (.d (.int od)), w5, w6, w7, w8], st⟩
def ME1 (n m k : Nat) (od : Int) (i : Nat) (s : Stt DrawSt) : Prop := ∃ w5 w6 w7 w8 ls st, s = meE n m od ls w5 w6 w7 w8 st ∧ ls.length = i ∧ (∀ l ∈ ls, RowOk n m l) ∧ (∀ o ∈ ls.getD 0 [], o ≠ none) ∧ StOk (k + i * (2 * m)) st
def ME2 (n m k : Nat) (od : Int) (ls : List (List (Option Nat))) (i j : Nat) (s : Stt DrawSt) : Prop := ∃ (w7 w8 : Option Sl) (l : List (Option Nat)) (st : DrawSt), s = meE n m od ls (some (.d (.int (i : Nat)))) (some (.own (l.map oD))) w7 w8 st ∧ RowOk n j l ∧ (i = 0 → ∀ o ∈ l, o ≠ none) ∧ StOk (k + i * (2 * m) + j * 2) st
theorem me_last {n m od u : D} {rows row : List D} {w5 w7 w8 : Option Sl} {st : DrawSt} (hl : rows.length < 16777216) :
    (bnd (ownAt 3) fun _ => appM 3 (callM tupleD (consO (nameM 6) nilM))) (⟨[some .h, some (.d n), some (.d m), some (.own rows), some (.d od), w5, some (.own row), w7, w8], st⟩ : Stt DrawSt) =
      some (Out.nx, ⟨[some .h, some (.d n), some (.d m), some (.own (rows ++ [.tuple row])), some (.d od), w5, some (.own row), w7, w8], st⟩) := by
  simp [hl]
theorem meets_dw {n m : Nat} (n1 : 1 ≤ n) (n6 : n ≤ 8) (m1 : 1 ≤ m) (m6 : m ≤ 8) : Dw 600000 (1 + n * (2 * m)) m__law_meets [.int (n : Nat), .int (m : Nat)] fun d => ∃ ls : List (List (Option Nat)), d = .tuple (ls.map rowO2) ∧ ls.length = n ∧ (∀ l ∈ ls, RowOk n m l) ∧ (∀ o ∈ ls.getD 0 [], o ≠ none) := by
  refine runD2_dw rfl fun k st o hk => ?_
  have hD := fun (L : Int) (h1 : 0 < L) (h2 : L < 1000) => draw_small h1 h2
  have g1 : rgOk 0 (n : Nat) = true := rgOk_small (by omega) (by omega) (by omega) (by omega)
  have g2 : rgOk 0 (m : Nat) = true := rgOk_small (by omega) (by omega) (by omega) (by omega)
  unfold F__law_meets
  generalize m__law_draw = f at hD ⊢
  obtain ⟨d, st1, e1, ⟨r1, hr1, rfl⟩, o1⟩ := hD 2 (by omega) (by omega) k st o (by omega)
  refine Ev.seqN ⟨.nx, meE n m (1 + (r1 : Int)) [] none none none none st1, by simp [e1, meE], rfl, ?_⟩
  refine Ev.seqN (Ev.loop (Ev.rangeM (lo := 0) (hi := (n : Nat)) (by simp [meE]) g1 ?_))
  rw [rgD_nat]
  refine Ev.for_ (ME1 n m (k + 1) (1 + (r1 : Int))) ?_ ?_ ⟨none, none, none, none, [], st1, rfl, rfl, (fun l h => by cases h), (fun o h => by cases h), by rw [Nat.zero_mul]; exact o1⟩
  · rintro i x s hx ⟨w5, w6, w7, w8, ls, st, rfl, h1, h2, h3, h4⟩
    obtain ⟨hi, rfl⟩ := rgN_some hx
    have ib : i * (2 * m) ≤ 8 * 16 := Nat.mul_le_mul (by omega) (by omega)
    refine Ev.bnd ⟨(), meE n m (1 + (r1 : Int)) ls (some (.d (.int (i : Nat)))) w6 w7 w8 st, rfl, ?_⟩
    refine Ev.seqN ⟨.nx, meE n m (1 + (r1 : Int)) ls (some (.d (.int (i : Nat)))) (some (.own [])) w7 w8 st, by simp [meE], rfl, ?_⟩
    refine Ev.seqN (Ev.loop (Ev.rangeM (lo := 0) (hi := (m : Nat)) (by simp [meE]) g2 ?_))
    rw [rgD_nat]
    refine Ev.for_ (ME2 n m (k + 1) (1 + (r1 : Int)) ls i) ?_ ?_ ⟨w7, w8, [], st, rfl, ⟨rfl, (fun r h => by cases h)⟩, (fun _ o h => by cases h), by rw [Nat.zero_mul]; exact h4⟩
    · rintro j x s hx ⟨w7, w8, l, st, rfl, h5, h6, h7⟩
      obtain ⟨hj, rfl⟩ := rgN_some hx
      obtain ⟨d, st2, e2, ⟨r2, hr2, rfl⟩, o2⟩ := hD 3 (by omega) (by omega) _ st h7 (by omega)
      obtain ⟨d, st3, e3, ⟨r3, hr3, rfl⟩, o3⟩ := hD (n : Nat) (by omega) (by omega) _ st2 o2 (by omega)
      have hll : (l.map oD).length < 16777216 := by rw [List.length_map, h5.1]; omega
      cases hb : (decide ((0 : Int) < (i : Nat)) && decide ((r2 : Int) < 1 + (r1 : Int))) with
      | true =>
        refine ⟨.nx, _, bnd_val (a := ()) rfl (me_turn (h := .none) e2 (ltD_i _ _) (gtD_i _ _) (.inl ⟨hb, rfl, rfl⟩) hll), ?_⟩
        refine ⟨some (.d (.int (j : Nat))), some (.d (.bool (decide ((r2 : Int) < 1 + (r1 : Int))))), l ++ [none], st2, ?_, ⟨?_, fun r hr => ?_⟩, fun h0 => ?_, ?_⟩
        · unfold meE
          rw [List.map_append]
          rfl
        · rw [List.length_append, h5.1]; rfl
        · rcases List.mem_append.mp hr with q | q
          · exact h5.2 r q
          · simp at q
        · rw [Bool.and_eq_true, decide_eq_true_eq] at hb
          omega
        · exact o2.mono (by omega)
      | false =>
        refine ⟨.nx, _, bnd_val (a := ()) rfl (me_turn (h := .none) e2 (ltD_i _ _) (gtD_i _ _) (.inr ⟨hb, e3⟩) hll), ?_⟩
        refine ⟨some (.d (.int (j : Nat))), some (.d (.bool (decide ((r2 : Int) < 1 + (r1 : Int))))), l ++ [some r3], st3, ?_, ⟨?_, fun r hr => ?_⟩, fun h0 o ho => ?_, ?_⟩
        · unfold meE
          rw [List.map_append]
          rfl
        · rw [List.length_append, h5.1]; rfl
        · rcases List.mem_append.mp hr with q | q
          · exact h5.2 r q
          · have : r = r3 := by simpa using q
            omega
        · rcases List.mem_append.mp ho with q | q
          · exact h6 h0 o q
          · have : o = some r3 := by simpa using q
            rw [this]
            exact fun z => nomatch z
        · exact o3.mono (by omega)
    · rintro s ⟨w7, w8, l, st, rfl, h5, h6, h7⟩
      rw [rgN_len] at h5 h7
      refine ⟨rfl, .nx, _, me_last (u := .none) (by rw [List.length_map]; omega), ?_⟩
      refine ⟨some (.d (.int (i : Nat))), some (.own (l.map oD)), w7, w8, ls ++ [l], st, ?_, by rw [List.length_append, h1]; rfl, fun l2 hl2 => ?_, ?_, ?_⟩
      · unfold meE
        rw [List.map_append]
        rfl
      · rcases List.mem_append.mp hl2 with q | q
        · exact h2 l2 q
        · have : l2 = l := by simpa using q
          rw [this]
          exact h5
      · cases ls with
        | nil =>
          have hi0 : i = 0 := by rw [← h1]; rfl
          exact h6 hi0
        | cons a ls => exact h3
      · rw [Nat.add_mul, Nat.one_mul, ← Nat.add_assoc]
        exact h7.mono (by omega)
  · rintro s ⟨w5, w6, w7, w8, ls, st, rfl, h1, h2, h3, h4⟩
    rw [rgN_len] at h1 h4
    refine ⟨rfl, Ev.run ?_⟩
    simp [meE]
    exact ⟨⟨ls, rfl, h1, h2, h3⟩, h4.mono (by omega)⟩
end LW
end

section
set_option Elab.async false
set_option linter.all false
set_option maxRecDepth 100000
set_option maxHeartbeats 999999
set_option exponentiation.threshold 5001
open DL
open PySem (PyData Str)
namespace LW
/-! ### drawn washes, labs -/
def ResOk (n : Nat) (l : List Nat) : Prop := l ≠ [] ∧ l.length ≤ 3 ∧ l.Pairwise (· < ·) ∧ ∀ r ∈ l, r < n
/-- what a wash leaves of a state, by its kind -/
def keptR (kind : Nat) (l : List Nat) : List Nat := if kind = 0 then [0] else if kind = 1 then l.take 1 else l
theorem keptR_ok {n kind : Nat} {l : List Nat} (n1 : 1 ≤ n) (h1 : l.Pairwise (· < ·)) (h2 : ∀ r ∈ l, r < n) (h3 : 1 ≤ l.length) (h4 : l.length ≤ 3) : ResOk n (keptR kind l) := by
  unfold keptR
  split
  · refine ⟨fun z => (by cases z), by decide, List.pairwise_singleton _ _, fun r hr => ?_⟩
    have : r = 0 := by simpa using hr
    omega
  · split
    · refine ⟨fun z => ?_, by rw [List.length_take]; omega, h1.sublist (List.take_sublist _ _), fun r hr => h2 r (List.mem_of_mem_take hr)⟩
      have := congrArg List.length z
      rw [List.length_take, Nat.min_eq_left h3] at this
      exact absurd this (by decide)
    · exact ⟨fun z => by rw [z] at h3; simp at h3, h4, h1, h2⟩
theorem kept_val {kind : Nat} {l : List Nat} {a b n mm : D} {fs as : List D} {w4 w7 : Option Sl} {u : D} {w9 : Option Sl} {st : DrawSt} :
    (iteM (bnd (op2 eqD (nameM 5) (ret (.val (PyData.int 0)))) boolO) (tupM (consD (ret (.val (PyData.int 0))) nilM)) (iteM (bnd (op2 eqD (nameM 5) (ret (.val (PyData.int 1)))) boolO) (sliceM slD (nameM 8) (ret none) (bnd (ret (.val (PyData.int 1))) intO)) (nameM 8))) (⟨[some .h, some (.d n), some (.d mm), some (.own fs), w4, some (.d (.int (kind : Nat))), some (.own as), w7, some (.d (resD l)), w9], st⟩ : Stt DrawSt) =
      some (if kind = 0 ∨ kind = 1 then .val (resD (keptR kind l)) else .slot 8, ⟨[some .h, some (.d n), some (.d mm), some (.own fs), w4, some (.d (.int (kind : Nat))), some (.own as), w7, some (.d (resD l)), w9], st⟩) := by
  by_cases h0 : kind = 0
  · subst h0
    simp [keptR, resD, nD]
  · by_cases h1 : kind = 1
    · subst h1
      have cut : slD (resD l) none (some 1) = some (.val (resD (l.take 1))) := by
        show some (Opd.val (PyData.tuple (cutD (l.map nD) none (some ((1 : Nat) : Int))))) = _
        unfold cutD
        rw [show HT.sIx (l.map nD).length 0 none = 0 from rfl, HT.sIx_nat, List.drop_zero, Nat.sub_zero, List.length_map]
        unfold resD
        rw [List.map_take]
        congr 3
        by_cases hl : l.length = 0
        · have : l = [] := List.eq_nil_of_length_eq_zero hl
          subst this
          rfl
        · rw [Nat.min_eq_left (by omega)]
      simp [keptR, cut]
    · have c0 : ¬ ((kind : Nat) : Int) = 0 := by omega
      have c1 : ¬ ((kind : Nat) : Int) = 1 := by omega
      simp [h0, h1, c0, c1]
theorem wa_turn {fo : List D → DrawSt → Option (D × DrawSt)} {kind : Nat} {l : List Nat} {n mm u : D} {fs as : List D} {w4 w8 w9 : Option Sl} {st st1 : DrawSt} (e : fo [n, .int 3] st = some (resD l, st1)) (hl : as.length < 16777216) :
    (seqM (asgM 8 (DL.callD 0 fo (consD (nameM 1) (consD (ret (.val (PyData.int 3))) nilM)))) (bnd (ownAt 6) fun _ => appM 6 (iteM (bnd (op2 eqD (nameM 5) (ret (.val (PyData.int 0)))) boolO) (tupM (consD (ret (.val (PyData.int 0))) nilM)) (iteM (bnd (op2 eqD (nameM 5) (ret (.val (PyData.int 1)))) boolO) (sliceM slD (nameM 8) (ret none) (bnd (ret (.val (PyData.int 1))) intO)) (nameM 8))))) (⟨[some .h, some (.d n), some (.d mm), some (.own fs), w4, some (.d (.int (kind : Nat))), some (.own as), some (.d u), w8, w9], st⟩ : Stt DrawSt) =
      some (Out.nx, ⟨[some .h, some (.d n), some (.d mm), some (.own fs), w4, some (.d (.int (kind : Nat))), some (.own (as ++ [resD (keptR kind l)])), some (.d u), some (.d (resD l)), w9], st1⟩) := by
  have k := kept_val (kind := kind) (l := l) (a := .none) (b := .none) (n := n) (mm := mm) (fs := fs) (as := as) (w4 := w4) (w7 := some (.d u)) (u := .none) (w9 := w9) (st := st1)
  generalize iteM (bnd (op2 eqD (nameM 5) (ret (.val (PyData.int 0)))) boolO) _ _ = F at k ⊢
  by_cases h : kind = 0 ∨ kind = 1
  · rw [if_pos h] at k
    simp [e, k, hl]
  · rw [if_neg h] at k
    have : keptR kind l = l := by
      unfold keptR
      rw [if_neg (fun z => h (.inl z)), if_neg (fun z => h (.inr z))]
    simp [e, k, hl, this]
theorem wa_first {fd : List D → DrawSt → Option (D × DrawSt)} {n mm y : D} {fs : List D} {w4 w5 w6 w7 w8 w9 : Option Sl} {st st1 : DrawSt} (e : fd [.int 5] st = some (y, st1)) :
    (parM [5, 6] (consN (DL.callD 0 fd (consD (ret (.val (PyData.int 5))) nilM)) (consN (lstM nilM) nilM))) (⟨[some .h, some (.d n), some (.d mm), some (.own fs), w4, w5, w6, w7, w8, w9], st⟩ : Stt DrawSt) = some (Out.nx, ⟨[some .h, some (.d n), some (.d mm), some (.own fs), w4, some (.d y), some (.own []), w7, w8, w9], st1⟩) := by
  simp [e]
theorem wa_last {fd : List D → DrawSt → Option (D × DrawSt)} {n mm : D} {fs as : List D} {w4 w5 w7 w8 w9 : Option Sl} {st st1 st2 : DrawSt} {a b c : Int} (e : fd [.int 6] st = some (.int a, st1)) (e2 : fd [.int 3] st1 = some (.int b, st2)) (e3 : minD [.int 6, .int (1 + a + b)] = some (.val (.int c))) (hl : fs.length < 16777216) :
    (seqM (asgM 9 (op2 addD (ret (.val (PyData.int 1))) (DL.callD 0 fd (consD (ret (.val (PyData.int 6))) nilM)))) (bnd (ownAt 3) fun _ => appM 3 (tupM (consD (callM tupleD (consO (nameM 6) nilM)) (consD (nameM 9) (consD (callM minD (consO (ret (.val (PyData.int 6))) (consO (op2 addD (nameM 9) (DL.callD 0 fd (consD (ret (.val (PyData.int 3))) nilM))) nilM))) nilM)))))) (⟨[some .h, some (.d n), some (.d mm), some (.own fs), w4, w5, some (.own as), w7, w8, w9], st⟩ : Stt DrawSt) =
      some (Out.nx, ⟨[some .h, some (.d n), some (.d mm), some (.own (fs ++ [.tuple [.tuple as, .int (1 + a), .int c]])), w4, w5, some (.own as), w7, w8, some (.d (.int (1 + a)))], st2⟩) := by
  simp [e, e2, e3, hl, -minD_i]
def waE (n many : Nat) (Ws : List Wash) (w4 w5 w6 w7 w8 w9 : Option Sl) (st : DrawSt) : Stt DrawSt := ⟨[some .h, some (.d (.int (n : Nat))), some (.d (.int (many : Nat))), some (.own (Ws.map (washD n))), w4, w5, w6, w7, w8, w9], st⟩
def WA1 (n many k : Nat) (i : Nat) (s : Stt DrawSt) : Prop := ∃ w4 w5 w6 w7 w8 w9 Ws st, s = waE n many Ws w4 w5 w6 w7 w8 w9 st ∧ Ws.length = i ∧ (∀ W ∈ Ws, WashOk n W) ∧ StOk (k + i * 100) st
def WA2 (n many k : Nat) (Ws : List Wash) (i kind j : Nat) (s : Stt DrawSt) : Prop := ∃ (w7 w8 w9 : Option Sl) (ls : List (List Nat)) (st : DrawSt), s = waE n many Ws (some (.d (.int (i : Nat)))) (some (.d (.int (kind : Nat)))) (some (.own (ls.map resD))) w7 w8 w9 st ∧ ls.length = j ∧ (∀ l ∈ ls, ResOk n l) ∧ StOk (k + i * 100 + 1 + j * (n + 1)) st
theorem washes_dw {n many : Nat} (n1 : 1 ≤ n) (n6 : n ≤ 8) (m3 : many ≤ 3) : Dw 600000 (many * 100) m__law_washes [.int (n : Nat), .int (many : Nat)] fun d => ∃ Ws : List Wash, d = .tuple (Ws.map (washD n)) ∧ Ws.length = many ∧ ∀ W ∈ Ws, WashOk n W := by
  refine runD2_dw rfl fun k st o hk => ?_
  have hD := fun (L : Int) (h1 : 0 < L) (h2 : L < 1000) => draw_small h1 h2
  have hS := some_ok (many := n) (most := 3) n1 (by omega) (by decide) (by decide)
  have g1 : rgOk 0 (n : Nat) = true := rgOk_small (by omega) (by omega) (by omega) (by omega)
  have g2 : rgOk 0 (many : Nat) = true := rgOk_small (by omega) (by omega) (by omega) (by omega)
  have nb : n * (n + 1) ≤ 8 * 9 := Nat.mul_le_mul n6 (by omega)
  unfold F__law_washes
  generalize m__law_draw = f at hD ⊢
  generalize m__law_some = fo at hS ⊢
  refine Ev.seqN ⟨.nx, waE n many [] none none none none none none st, by simp [waE], rfl, ?_⟩
  refine Ev.seqN (Ev.loop (Ev.rangeM (lo := 0) (hi := (many : Nat)) (by simp [waE]) g2 ?_))
  rw [rgD_nat]
  refine Ev.for_ (WA1 n many k) ?_ ?_ ⟨none, none, none, none, none, none, [], st, rfl, rfl, (fun W h => by cases h), by rw [Nat.zero_mul]; exact o⟩
  · rintro i x s hx ⟨w4, w5, w6, w7, w8, w9, Ws, st, rfl, h1, h2, h3⟩
    obtain ⟨hi, rfl⟩ := rgN_some hx
    refine Ev.bnd ⟨(), waE n many Ws (some (.d (.int (i : Nat)))) w5 w6 w7 w8 w9 st, rfl, ?_⟩
    obtain ⟨d, st1, e1, ⟨kind, hr1, rfl⟩, o1⟩ := hD 5 (by omega) (by omega) _ st h3 (by omega)
    refine Ev.seqN ⟨.nx, waE n many Ws (some (.d (.int (i : Nat)))) (some (.d (.int (kind : Nat)))) (some (.own [])) w7 w8 w9 st1, wa_first e1, rfl, ?_⟩
    refine Ev.seqN (Ev.loop (Ev.rangeM (lo := 0) (hi := (n : Nat)) (by simp [waE]) g1 ?_))
    rw [rgD_nat]
    refine Ev.for_ (WA2 n many k Ws i kind) ?_ ?_ ⟨w7, w8, w9, [], st1, rfl, rfl, (fun l h => by cases h), by rw [Nat.zero_mul]; exact o1⟩
    · rintro j x s hx ⟨w7, w8, w9, ls, st, rfl, h4, h5, h6⟩
      obtain ⟨hj, rfl⟩ := rgN_some hx
      have jb : j * (n + 1) ≤ n * (n + 1) := Nat.mul_le_mul_right _ (by omega)
      obtain ⟨d, st2, e2, ⟨l, rfl, l1, l2, l3, l4⟩, o2⟩ := hS _ st h6 (by omega)
      refine ⟨.nx, _, bnd_val (a := ()) rfl (wa_turn e2 (by rw [List.length_map]; omega)), ?_⟩
      refine ⟨some (.d (.int (j : Nat))), some (.d (resD l)), w9, ls ++ [keptR kind l], st2, ?_, by rw [List.length_append, h4]; rfl, fun q hq => ?_, ?_⟩
      · unfold waE
        rw [List.map_append]
        rfl
      · rcases List.mem_append.mp hq with z | z
        · exact h5 q z
        · have : q = keptR kind l := by simpa using z
          rw [this]
          exact keptR_ok n1 l1 l2 l3 l4
      · rw [Nat.add_mul, Nat.one_mul, ← Nat.add_assoc]
        exact o2
    · rintro s ⟨w7, w8, w9, ls, st, rfl, h4, h5, h6⟩
      rw [rgN_len] at h4 h6
      obtain ⟨d, st2, e2, ⟨a, ha, rfl⟩, o2⟩ := hD 6 (by omega) (by omega) _ st h6 (by omega)
      obtain ⟨d, st3, e3, ⟨b, hb, rfl⟩, o3⟩ := hD 3 (by omega) (by omega) _ st2 o2 (by omega)
      refine ⟨rfl, .nx, _, wa_last e2 e3 (minD_i _ _) (by rw [List.length_map]; omega), ?_⟩
      refine ⟨some (.d (.int (i : Nat))), some (.d (.int (kind : Nat))), some (.own (ls.map resD)), w7, w8, some (.d (.int (1 + (a : Int)))), Ws ++ [⟨fun s => ls.getD s [], 1 + (a : Int), if (1 + (a : Int) + (b : Int)) < 6 then 1 + (a : Int) + (b : Int) else 6⟩], st3, ?_, by rw [List.length_append, h1]; rfl, fun W hW => ?_, ?_⟩
      · unfold waE
        rw [List.map_append]
        show _ = (⟨[_, _, _, some (.own (List.map (washD n) Ws ++ [washD n _])), _, _, _, _, _, _], st3⟩ : Stt DrawSt)
        unfold washD
        dsimp only
        rw [← h4, rowT_getD resD [] ls]
      · rcases List.mem_append.mp hW with z | z
        · exact h2 W z
        · rw [List.mem_singleton] at z
          subst z
          have h := fun s (hs : s < n) => h5 (ls.getD s []) (getD_mem (by omega))
          refine ⟨fun s hs => (h s hs).1, fun s hs => (h s hs).2.1, fun s hs => (h s hs).2.2.1, fun s hs => (h s hs).2.2.2, ?_, ?_, ?_⟩
          · show (1 : Int) ≤ 1 + (a : Int)
            omega
          · show 1 + (a : Int) ≤ if (1 + (a : Int) + (b : Int)) < 6 then 1 + (a : Int) + (b : Int) else 6
            split <;> omega
          · show (if (1 + (a : Int) + (b : Int)) < 6 then 1 + (a : Int) + (b : Int) else 6) ≤ 6
            split <;> omega
      · exact o3.mono (by omega)
  · rintro s ⟨w4, w5, w6, w7, w8, w9, Ws, st, rfl, h1, h2, h3⟩
    rw [rgN_len] at h1 h3
    refine ⟨rfl, Ev.run ?_⟩
    simp [waE]
    exact ⟨⟨Ws, rfl, h1, h2⟩, h3⟩
/-! labs -/
def mkLab (ls : List (List (Option Nat))) (m : Nat) (Ws : List Wash) (c d e : Int) : Lab := ⟨ls.length, m, fun s t => (ls.getD s []).getD t none, Ws, c, d, e⟩
theorem mk_meets {ls : List (List (Option Nat))} {m : Nat} {Ws : List Wash} {c d e : Int} (h : ∀ l ∈ ls, l.length = m) : (mkLab ls m Ws c d e).meets = .tuple (ls.map rowO2) := by
  unfold Lab.meets
  congr 1
  rw [← rowT_getD rowO2 [] ls]
  unfold rowT
  refine List.map_congr_left fun s hs => ?_
  have hs := List.mem_range.mp hs
  have hl := h (ls.getD s []) (getD_mem hs)
  unfold Lab.mrow rowO2
  congr 1
  rw [← rowT_getD oD none (ls.getD s []), hl]
  rfl
theorem mk_ok {ls : List (List (Option Nat))} {m : Nat} {Ws : List Wash} {c d e : Int} (n1 : 1 ≤ ls.length) (n8 : ls.length ≤ 8) (m1 : 1 ≤ m) (m8 : m ≤ 8) (h : ∀ l ∈ ls, l.length = m ∧ ∀ r, some r ∈ l → r < ls.length) (h0 : ∀ o ∈ ls.getD 0 [], o ≠ none)
    (few : Ws.length ≤ 3) (hw : ∀ W ∈ Ws, WashOk ls.length W) (c1 : 1 ≤ c) (c3 : c ≤ 3) (d1 : 1 ≤ d) (d3 : d ≤ 3) (e0 : 0 ≤ e) (e4 : e ≤ 4) : LabOk (mkLab ls m Ws c d e) := by
  refine ⟨n1, n8, m1, m8, fun s t r hs ht e => ?_, fun t ht z => ?_, few, hw, c1, c3, d1, d3, e0, e4⟩
  · have hl := h (ls.getD s []) (getD_mem hs)
    refine hl.2 r ?_
    rw [← e]
    exact getD_mem (by rw [hl.1]; exact ht)
  · have hl := h (ls.getD 0 []) (getD_mem (by omega))
    exact h0 _ (getD_mem (d := none) (by rw [hl.1]; exact ht)) z
theorem lab_first {fm fw fd : List D → DrawSt → Option (D × DrawSt)} {n m me ws y : D} {a b c : Int} {st st1 st2 st3 st4 st5 st6 : DrawSt} (e1 : fm [n, m] st = some (me, st1)) (e2 : fd [.int 4] st1 = some (y, st2)) (e3 : fw [n, y] st2 = some (ws, st3)) (e4 : fd [.int 3] st3 = some (.int a, st4)) (e5 : fd [.int 3] st4 = some (.int b, st5)) (e6 : fd [.int 5] st5 = some (.int c, st6)) :
    (seqM (asgM 3 (DL.callD 0 fm (consD (nameM 1) (consD (nameM 2) nilM)))) (DL.retM (tupM (consD (nameM 3) (consD (DL.callD 0 fw (consD (nameM 1) (consD (DL.callD 0 fd (consD (ret (.val (PyData.int 4))) nilM)) nilM))) (consD (op2 addD (ret (.val (PyData.int 1))) (DL.callD 0 fd (consD (ret (.val (PyData.int 3))) nilM))) (consD (op2 addD (ret (.val (PyData.int 1))) (DL.callD 0 fd (consD (ret (.val (PyData.int 3))) nilM))) (consD (DL.callD 0 fd (consD (ret (.val (PyData.int 5))) nilM)) nilM)))))))) (⟨[some .h, some (.d n), some (.d m), none], st⟩ : Stt DrawSt) =
      some (.rt (.tuple [me, ws, .int (1 + a), .int (1 + b), .int c]), ⟨[some .h, some (.d n), some (.d m), some (.d me)], st6⟩) := by
  simp [e1, e2, e3, e4, e5, e6]
theorem lab_dw {n m : Nat} (n1 : 1 ≤ n) (n6 : n ≤ 8) (m1 : 1 ≤ m) (m6 : m ≤ 8) : Dw 500000 1000 m__law_lab [.int (n : Nat), .int (m : Nat)] fun d => ∃ L : Lab, d = L.D ∧ LabOk L ∧ L.n = n ∧ L.k = m := by
  refine runD2_dw rfl fun k st o hk => ?_
  have hD := fun (L : Int) (h1 : 0 < L) (h2 : L < 1000) => draw_small h1 h2
  have nm : n * (2 * m) ≤ 8 * 16 := Nat.mul_le_mul (by omega) (by omega)
  obtain ⟨d, st1, e1, ⟨ls, rfl, p1, p2, p3⟩, o1⟩ := meets_dw n1 n6 m1 m6 k st o (by omega)
  obtain ⟨d, st2, e2, ⟨r2, hr2, rfl⟩, o2⟩ := hD 4 (by omega) (by omega) _ st1 o1 (by omega)
  obtain ⟨d, st3, e3, ⟨Ws, rfl, q1, q2⟩, o3⟩ := washes_dw (n := n) (many := r2) n1 n6 (by omega) _ st2 o2 (by omega)
  obtain ⟨d, st4, e4, ⟨a, ha, rfl⟩, o4⟩ := hD 3 (by omega) (by omega) _ st3 o3 (by omega)
  obtain ⟨d, st5, e5, ⟨b, hb, rfl⟩, o5⟩ := hD 3 (by omega) (by omega) _ st4 o4 (by omega)
  obtain ⟨d, st6, e6, ⟨c, hc, rfl⟩, o6⟩ := hD 5 (by omega) (by omega) _ st5 o5 (by omega)
  refine ⟨_, _, lab_first e1 e2 e3 e4 e5 e6, _, rfl, ⟨mkLab ls m Ws (1 + (a : Int)) (1 + (b : Int)) (c : Int), ?_, mk_ok (by omega) (by omega) (by omega) (by omega) (fun l hl => ⟨(p2 l hl).1, fun r hr => by rw [p1]; exact (p2 l hl).2 r hr⟩) p3 (by omega) (fun W hW => by rw [p1]; exact q2 W hW) (by omega) (by omega) (by omega) (by omega) (by omega) (by omega), p1, rfl⟩, o6.mono (by omega)⟩
  unfold Lab.D
  rw [mk_meets fun l hl => (p2 l hl).1]
  show _ = PyData.tuple [_, .tuple (Ws.map (washD ls.length)), _, _, _]
  rw [p1]
  rfl
end LW
end

section
set_option Elab.async false
set_option linter.all false
set_option maxRecDepth 100000
set_option maxHeartbeats 999999
set_option exponentiation.threshold 5001
open DL
open PySem (PyData Str)
namespace LW
/-! ### odd things are refused -/
def rfE (lab st row k : D) (w5 w6 w7 : Option Sl) (dr : DrawSt) : Stt DrawSt := ⟨[some .h, some (.d lab), some (.d st), some (.d row), some (.d k), w5, w6, w7], dr⟩
def odds1 (xs : List D) (k : D) : List D := [.none, .list xs, .tuple (xs ++ [k]), .tuple (xs ++ [.int (-1)]), .tuple (xs ++ [.none]), .tuple [.bool true], .tuple [.str "0"], .int 3, .str "row"]
theorem odds1_it {lab st k : D} {xs : List D} {w5 w6 w7 : Option Sl} {dr : DrawSt} (h : xs.length + 1 ≤ 16777216) :
    iterM (tupM (consD (ret (.val PyData.none)) (consD (callM listD (consO (nameM 3) nilM)) (consD (op2 addD (nameM 3) (tupM (consD (nameM 4) nilM))) (consD (op2 addD (nameM 3) (tupM (consD (negM (ret (.val (PyData.int 1)))) nilM))) (consD (op2 addD (nameM 3) (tupM (consD (ret (.val PyData.none)) nilM))) (consD (tupM (consD (ret (.val (PyData.bool true))) nilM)) (consD (tupM (consD (ret (.val (PyData.str "0"))) nilM)) (consD (ret (.val (PyData.int 3))) (consD (ret (.val (PyData.str "row"))) nilM)))))))))) (rfE lab st (.tuple xs) k w5 w6 w7 dr) = some (odds1 xs k, rfE lab st (.tuple xs) k w5 w6 w7 dr) := by
  simp [rfE, odds1, h]
theorem rf_turn {ft fl : List D → Option D} {lab st row k x kd : D} {w7 : Option Sl} {dr : DrawSt} (h : ft [lab, kd, st, x, .int 0] = some (.list [.str "row", x])) (hl : fl [.list [.str "row", x], .list [.str "row", x]] = some (.bool true)) :
    (ifM (notT (bnd (callP fl (consD (callP ft (consD (nameM 1) (consD (nameM 6) (consD (nameM 2) (consD (nameM 5) (consD (ret (.val (PyData.int 0))) nilM)))))) (consD (lstM (consD (ret (.val (PyData.str "row"))) (consD (nameM 5) nilM))) nilM))) boolO)) (DL.retM (ret (.val (PyData.bool false)))) (ret .nx)) (rfE lab st row k (some (.d x)) (some (.d kd)) w7 dr) = some (Out.nx, rfE lab st row k (some (.d x)) (some (.d kd)) w7 dr) := by
  simp [rfE, h, hl]
theorem rf_inner {ft fl : List D → Option D} {lab st row k x : D} {w6 w7 : Option Sl} {dr : DrawSt} (hk : Kp w6) (h2 : ft [lab, .int 2, st, x, .int 0] = some (.list [.str "row", x])) (h3 : ft [lab, .int 3, st, x, .int 0] = some (.list [.str "row", x])) (h4 : ft [lab, .int 4, st, x, .int 0] = some (.list [.str "row", x])) (hl : fl [.list [.str "row", x], .list [.str "row", x]] = some (.bool true)) :
    Ev (loopM (iterM (tupM (consD (ret (.val (PyData.int 2))) (consD (ret (.val (PyData.int 3))) (consD (ret (.val (PyData.int 4))) nilM))))) (setM 6) (ifM (notT (bnd (callP fl (consD (callP ft (consD (nameM 1) (consD (nameM 6) (consD (nameM 2) (consD (nameM 5) (consD (ret (.val (PyData.int 0))) nilM)))))) (consD (lstM (consD (ret (.val (PyData.str "row"))) (consD (nameM 5) nilM))) nilM))) boolO)) (DL.retM (ret (.val (PyData.bool false)))) (ret .nx))) (rfE lab st row k (some (.d x)) w6 w7 dr)
      fun o s => o = .nx ∧ ∃ w6, Kp w6 ∧ s = rfE lab st row k (some (.d x)) w6 w7 dr := by
  refine Ev.loop ⟨[.int 2, .int 3, .int 4], rfE lab st row k (some (.d x)) w6 w7 dr, by simp [rfE], ?_⟩
  refine Ev.for_ (fun i s => ∃ w6, Kp w6 ∧ s = rfE lab st row k (some (.d x)) w6 w7 dr) ?_ ?_ ⟨w6, hk, rfl⟩
  · rintro i y s hy ⟨w6, hk, rfl⟩
    have hh : ft [lab, y, st, x, .int 0] = some (.list [.str "row", x]) := by
      have hm := List.mem_of_getElem? hy
      simp only [List.mem_cons, List.not_mem_nil, or_false] at hm
      rcases hm with rfl | rfl | rfl
      · exact h2
      · exact h3
      · exact h4
    exact ⟨.nx, _, bnd_val (a := ()) (s' := rfE lab st row k (some (.d x)) (some (.d y)) w7 dr) rfl (rf_turn hh hl), some (.d y), rfl, rfl⟩
  · rintro s ⟨w6, hk, rfl⟩
    exact ⟨rfl, w6, hk, rfl⟩
/-! states -/
def five (x : D) : D := .list [.list [.str "state", x], .list [.str "state", x], .list [.str "state", x], .list [.str "state", x], .list [.str "state", x]]
theorem rf2_val {ft fl : List D → Option D} {lab st row k x : D} {w6 w7 : Option Sl} {dr : DrawSt} (hk : Kp w6) (h : ∀ i : Nat, i < 5 → ft [lab, .int (i : Nat), x, .none, .none] = some (.list [.str "state", x])) :
    lcM [6] (rangeM (consO (ret (.val (PyData.int 5))) nilM)) (setM 6) (ret true) (callP ft (consD (nameM 1) (consD (nameM 6) (consD (nameM 5) (consD (ret (.val PyData.none)) (consD (ret (.val PyData.none)) nilM)))))) (rfE lab st row k (some (.d x)) w6 w7 dr) = some (.new ((rgN 5).filterMap fun _ => some (.list [.str "state", x])), rfE lab st row k (some (.d x)) w6 w7 dr) := by
  refine lc_eq (fun _ => some (.list [.str "state", x])) (xs := rgN 5) ?_ (by rw [rgN_len]; decide) ?_ ?_
  · rfl
  · unfold Kp at hk
    simp [rfE, hk]
  · intro y hy acc
    obtain ⟨i, hi, rfl⟩ : ∃ i : Nat, i < 5 ∧ y = .int (i : Nat) := by
      obtain ⟨i, hi⟩ := List.mem_iff_getElem?.mp hy
      exact ⟨i, rgN_some hi⟩
    have := h i hi
    generalize ((i : Nat) : Int) = ii at this ⊢
    refine Ev.run ?_
    simp [rfE, this]
theorem mul5 (x : D) : mulD (.list [x]) (.int 5) = some (.new [x, x, x, x, x]) := mulD_l (xs := [x]) (n := 5) (by show 1 * 5 ≤ 16777216; decide) (by decide)
theorem mul2 (x : D) : mulD (.list [x]) (.int 2) = some (.new [x, x]) := mulD_l (xs := [x]) (n := 2) (by show 1 * 2 ≤ 16777216; decide) (by decide)
theorem rf2_turn {ft fl : List D → Option D} {lab st row k x : D} {w6 w7 : Option Sl} {dr : DrawSt} (hk : Kp w6) (h : ∀ i : Nat, i < 5 → ft [lab, .int (i : Nat), x, .none, .none] = some (.list [.str "state", x])) (hl : fl [five x, five x] = some (.bool true)) :
    Ev (seqM (asgM 7 (lcM [6] (rangeM (consO (ret (.val (PyData.int 5))) nilM)) (setM 6) (ret true) (callP ft (consD (nameM 1) (consD (nameM 6) (consD (nameM 5) (consD (ret (.val PyData.none)) (consD (ret (.val PyData.none)) nilM)))))))) (ifM (notT (bnd (callP fl (consD (nameM 7) (consD (op2 mulD (lstM (consD (lstM (consD (ret (.val (PyData.str "state"))) (consD (nameM 5) nilM))) nilM)) (ret (.val (PyData.int 5)))) nilM))) boolO)) (DL.retM (ret (.val (PyData.bool false)))) (ret .nx))) (rfE lab st row k (some (.d x)) w6 w7 dr)
      fun o s => o = .nx ∧ ∃ w7, s = rfE lab st row k (some (.d x)) w6 w7 dr := by
  have e := rf2_val (fl := fl) (row := row) (st := st) (k := k) (w7 := w7) (dr := dr) hk h
  have hf : (rgN 5).filterMap (fun _ => some (PyData.list [.str "state", x])) = [.list [.str "state", x], .list [.str "state", x], .list [.str "state", x], .list [.str "state", x], .list [.str "state", x]] := rfl
  rw [hf] at e
  have m := mul5 (.list [.str "state", x])
  refine Ev.run ?_
  generalize lcM [6] _ _ _ _ = F at e ⊢
  unfold five at hl
  unfold rfE at e ⊢
  simp [e, m, hl]
def odds2 (n : D) : List D := [n, .int (-1), .none, .bool true, .str "0", .tuple [.int 0]]
theorem odds2_it {lab st row k me n : D} {w5 w6 w7 : Option Sl} {dr : DrawSt} (h0 : ixD lab (.int 0) = some (.val me)) (h1 : lenD [me] = some (.val n)) :
    iterM (tupM (consD (callM lenD (consO (op2 ixD (nameM 1) (ret (.val (PyData.int 0)))) nilM)) (consD (negM (ret (.val (PyData.int 1)))) (consD (ret (.val PyData.none)) (consD (ret (.val (PyData.bool true))) (consD (ret (.val (PyData.str "0"))) (consD (tupM (consD (ret (.val (PyData.int 0))) nilM)) nilM))))))) (rfE lab st row k w5 w6 w7 dr) = some (odds2 n, rfE lab st row k w5 w6 w7 dr) := by
  simp [rfE, odds2, h0, h1]
/-! lengths -/
def two (x : D) : D := .list [.list [.str "length", x], .list [.str "length", x]]
theorem rf3_turn {ft fl : List D → Option D} {lab st row k x : D} {w6 w7 : Option Sl} {dr : DrawSt} (h0 : ft [lab, .int 0, st, x, .int 0] = some (.list [.str "length", x])) (h1 : ft [lab, .int 1, st, x, .none] = some (.list [.str "length", x])) (hl : fl [two x, two x] = some (.bool true)) :
    Ev (seqM (asgM 7 (lstM (consD (callP ft (consD (nameM 1) (consD (ret (.val (PyData.int 0))) (consD (nameM 2) (consD (nameM 5) (consD (ret (.val (PyData.int 0))) nilM)))))) (consD (callP ft (consD (nameM 1) (consD (ret (.val (PyData.int 1))) (consD (nameM 2) (consD (nameM 5) (consD (ret (.val PyData.none)) nilM)))))) nilM)))) (ifM (notT (bnd (callP fl (consD (nameM 7) (consD (op2 mulD (lstM (consD (lstM (consD (ret (.val (PyData.str "length"))) (consD (nameM 5) nilM))) nilM)) (ret (.val (PyData.int 2)))) nilM))) boolO)) (DL.retM (ret (.val (PyData.bool false)))) (ret .nx))) (rfE lab st row k (some (.d x)) w6 w7 dr)
      fun o s => o = .nx ∧ ∃ w7, s = rfE lab st row k (some (.d x)) w6 w7 dr := by
  have m := mul2 (.list [.str "length", x])
  refine Ev.run ?_
  unfold two at hl
  unfold rfE
  simp [h0, h1, m, hl]
def odds3 : List D := [.int (-1), .int 201, .none, .bool true, .str "5", .int (10 ^ 30)]
theorem pow30 : powD (.int 10) (.int 30) = some (.val (.int (10 ^ 30))) := by kernel_rfl
theorem odds3_it {lab st row k : D} {w5 w6 w7 : Option Sl} {dr : DrawSt} :
    iterM (tupM (consD (negM (ret (.val (PyData.int 1)))) (consD (ret (.val (PyData.int 201))) (consD (ret (.val PyData.none)) (consD (ret (.val (PyData.bool true))) (consD (ret (.val (PyData.str "5"))) (consD (op2 powD (ret (.val (PyData.int 10))) (ret (.val (PyData.int 30)))) nilM))))))) (rfE lab st row k w5 w6 w7 dr) = some (odds3, rfE lab st row k w5 w6 w7 dr) := by
  have h := pow30
  unfold odds3
  generalize (10 ^ 30 : Int) = p at h ⊢
  simp [rfE, h]
/-- the facts on each odd thing -/
theorem odd1_ok {L : Lab} (ok : LabOk L) {row : List Nat} (hi : In L row) (hl : row.length ≤ 300) {x : D} (hx : x ∈ odds1 (row.map nD) (.int (L.k : Nat))) : NoRow L x ∧ Pl 2 60000 x := by
  have k8 := ok.k8
  have rp : ∀ z : D, Pl 0 150 z → Pl 2 60000 (.tuple (row.map nD ++ [z])) := fun z hz => (Pl.tup (m := 301) (b := 150) (d := 0) (by rw [List.length_append, List.length_map]; show row.length + 1 ≤ _; omega) (fun y hy => by
    rcases List.mem_append.mp hy with q | q
    · obtain ⟨t, ht, rfl⟩ := List.mem_map.mp q
      have := hi t ht
      exact pl_nat (Nat.lt_of_lt_of_le (show t < 8 by omega) (by decide))
    · rw [List.mem_singleton] at q
      rw [q]
      exact hz)).mono (by decide) (by decide)
  have one : ∀ z : D, Pl 0 150 z → Pl 2 60000 (.tuple [z]) := fun z hz => (Pl.tup (m := 1) (b := 150) (d := 0) (Nat.le_refl _) (fun y hy => by
    rw [List.mem_singleton] at hy
    rw [hy]
    exact hz)).mono (by decide) (by decide)
  have i1 : Pl 0 150 (.int (-1)) := Pl.int (by decide) (by decide)
  have ik : Pl 0 150 (.int (L.k : Nat)) := pl_nat (Nat.lt_of_le_of_lt k8 (by decide))
  unfold odds1 at hx
  simp only [List.mem_cons, List.not_mem_nil, or_false] at hx
  rcases hx with rfl | rfl | rfl | rfl | rfl | rfl | rfl | rfl | rfl
  · exact ⟨noRow_of (by decide), Pl.non.mono (by decide) (by decide)⟩
  · refine ⟨noRow_of (show isiB "list" "tuple" = false by decide), (Pl.lst (m := 300) (b := 150) (d := 0) (by rw [List.length_map]; exact hl) (fun y hy => ?_)).mono (by decide) (by decide)⟩
    obtain ⟨t, ht, rfl⟩ := List.mem_map.mp hy
    have := hi t ht
    exact pl_nat (Nat.lt_of_lt_of_le (show t < 8 by omega) (by decide))
  · exact ⟨noRow_end ok hi (by omega) (off_int (.inr (by omega))), rp _ ik⟩
  · exact ⟨noRow_end ok hi (by omega) (off_int (.inl (by omega))), rp _ i1⟩
  · exact ⟨noRow_end ok hi (by omega) (off_none _ _), rp _ Pl.non⟩
  · exact ⟨noRow_one ok (off_bool _ _ _), one _ Pl.bl⟩
  · exact ⟨noRow_one ok (off_str _ _ _), one _ pl_0⟩
  · exact ⟨noRow_of (by decide), (Pl.int (i := 3) (by decide) (by decide)).mono (by decide) (by decide)⟩
  · exact ⟨noRow_of (by decide), pl_row.mono (by decide) (by decide)⟩
theorem odd2_ok {L : Lab} (ok : LabOk L) {x : D} (hx : x ∈ odds2 (.int (L.n : Nat))) : Off x 0 ((L.n : Nat) - 1) ∧ Pl 1 200 x := by
  have n8 := ok.n8
  unfold odds2 at hx
  simp only [List.mem_cons, List.not_mem_nil, or_false] at hx
  rcases hx with rfl | rfl | rfl | rfl | rfl | rfl
  · exact ⟨off_int (.inr (by omega)), (pl_nat (Nat.lt_of_le_of_lt n8 (by decide))).mono (by decide) (by decide)⟩
  · exact ⟨off_int (.inl (by omega)), (Pl.int (i := -1) (by decide) (by decide)).mono (by decide) (by decide)⟩
  · exact ⟨off_none _ _, Pl.non.mono (by decide) (by decide)⟩
  · exact ⟨off_bool _ _ _, Pl.bl.mono (by decide) (by decide)⟩
  · exact ⟨off_str _ _ _, pl_0.mono (by decide) (by decide)⟩
  · refine ⟨off_tup _ _ _, (Pl.tup (m := 1) (b := 150) (d := 0) (Nat.le_refl _) (fun y hy => ?_)).mono (by decide) (by decide)⟩
    rw [List.mem_singleton] at hy
    rw [hy]
    exact Pl.int (by decide) (by decide)
theorem odd3_ok {x : D} (hx : x ∈ odds3) : Off x 0 200 ∧ Pl 0 150 x := by
  unfold odds3 at hx
  simp only [List.mem_cons, List.not_mem_nil, or_false] at hx
  rcases hx with rfl | rfl | rfl | rfl | rfl | rfl
  · exact ⟨off_int (.inl (by decide)), Pl.int (by decide) (by decide)⟩
  · exact ⟨off_int (.inr (by decide)), Pl.int (by decide) (by decide)⟩
  · exact ⟨off_none _ _, Pl.non⟩
  · exact ⟨off_bool _ _ _, Pl.bl⟩
  · exact ⟨off_str _ _ _, pl_5⟩
  · exact ⟨off_int (.inr (by decide +kernel)), Pl.int (by decide +kernel) (by decide +kernel)⟩
theorem five_pl {x : D} (h : Pl 1 200 x) : m__law_like [five x, five x] = some (.bool true) := by
  refine Pl.like (Pl.lst (d := 2) (b := 2 * (200 + 2) + 6) (m := 5) (Nat.le_refl _) fun z hz => ?_)
  simp only [List.mem_cons, List.not_mem_nil, or_false, or_self] at hz
  rw [hz]
  exact two_pl pl_state h
theorem two_like {x : D} (h : Pl 0 150 x) : m__law_like [two x, two x] = some (.bool true) := by
  refine Pl.like (Pl.lst (d := 1) (b := 2 * (150 + 2) + 6) (m := 2) (Nat.le_refl _) fun z hz => ?_)
  simp only [List.mem_cons, List.not_mem_nil, or_false, or_self] at hz
  rw [hz]
  exact two_pl pl_length h
theorem refused_ok {L : Lab} (ok : LabOk L) {s : Nat} {row : List Nat} (hs : s < L.n) (hi : In L row) (hl : row.length ≤ 300) (st : DrawSt) : m__law_refused [L.D, .int (s : Nat), resD row] st = some (.bool true, st) := by
  have n1 := ok.n1
  have e0 : ixD L.meets (.int 0) = some (.val (L.mrow 0)) := meets_at (s := 0) (by omega)
  have E : Ev F__law_refused (⟨some .h :: ([L.D, .int (s : Nat), resD row].map (fun d => some (.d d)) ++ List.replicate (8 - (3 + 1)) none), st⟩ : Stt DrawSt) fun o s' => o = .rt (.bool true) ∧ s'.dr = st := by
    have T2 := fun (x : D) (h : NoRow L x) => told2 (e := .int 0) (place_row ok hs h) (.row x)
    have T3 := fun (x : D) (h : NoRow L x) => told3 (e := .int 0) (end_err (stuffs_row ok hs h)) (.row x)
    have T4 := fun (x : D) (h : NoRow L x) => told4 (e := .int 0) (rstop_err (stuffs_row ok hs h)) (.row x)
    have T5 : ∀ x : D, Off x 0 ((L.n : Nat) - 1) → ∀ i : Nat, i < 5 → okOf m__law_told [L.D, .int (i : Nat), x, .none, .none] = some (.list [.str "state", x]) := fun x h i hi => by
      match i, hi with
      | 0, _ => exact told0 (count_state ok h) (.st x)
      | 1, _ => exact told1 (at_err (count_state ok h)) (.st x)
      | 2, _ => exact told2 (place_state ok h) (.st x)
      | 3, _ => exact told3 (end_err (stuffs_state ok h)) (.st x)
      | 4, _ => exact told4 (rstop_err (stuffs_state ok h)) (.st x)
    have T6 := fun (x : D) (h : Off x 0 200) => told0 (e := .int 0) (count_len ok hs h) (.len x)
    have T7 := fun (x : D) (h : Off x 0 200) => told1 (e := .none) (at_err (num := .none) (count_len ok hs h)) (.len x)
    have LK := fun (x : D) (h : Pl 2 60000 x) => (two_pl pl_row h).like (by decide) (by decide)
    have L5 := fun (x : D) (h : Pl 1 200 x) => five_pl h
    have L2' := fun (x : D) (h : Pl 0 150 x) => two_like h
    unfold F__law_refused
    generalize okOf m__law_told = ft at T2 T3 T4 T5 T6 T7 ⊢
    generalize m__law_like = fl at LK L5 L2' ⊢
    refine Ev.seqN ⟨.nx, rfE L.D (.int (s : Nat)) (resD row) (.int (L.k : Nat)) none none none st, by simp [rfE, e0], rfl, ?_⟩
    refine Ev.seqN (Ev.loop ⟨_, _, odds1_it (xs := row.map nD) (by rw [List.length_map]; omega), ?_⟩)
    refine Ev.for_ (fun i s' => ∃ w5 w6, Kp w6 ∧ s' = rfE L.D (.int (s : Nat)) (resD row) (.int (L.k : Nat)) w5 w6 none st) ?_ ?_ ⟨none, none, rfl, rfl⟩
    · rintro i x s' hx ⟨w5, w6, hk, rfl⟩
      obtain ⟨hn, hp⟩ := odd1_ok ok hi hl (List.mem_of_getElem? hx)
      refine Ev.bnd ⟨(), rfE L.D (.int (s : Nat)) (resD row) (.int (L.k : Nat)) (some (.d x)) w6 none st, rfl, ?_⟩
      refine (rf_inner hk (T2 x hn) (T3 x hn) (T4 x hn) (LK x hp)).mono fun o s' q => ?_
      obtain ⟨rfl, w6, hk, rfl⟩ := q
      exact ⟨_, w6, hk, rfl⟩
    rintro s' ⟨w5, w6, hk, rfl⟩
    refine ⟨rfl, ?_⟩
    refine Ev.seqN (Ev.loop ⟨_, _, odds2_it (lab_0 L) (meets_len L), ?_⟩)
    refine Ev.for_ (fun i s' => ∃ w5 w7, s' = rfE L.D (.int (s : Nat)) (resD row) (.int (L.k : Nat)) w5 w6 w7 st) ?_ ?_ ⟨w5, none, rfl⟩
    · rintro i x s' hx ⟨w5, w7, rfl⟩
      obtain ⟨hn, hp⟩ := odd2_ok ok (List.mem_of_getElem? hx)
      refine Ev.bnd ⟨(), rfE L.D (.int (s : Nat)) (resD row) (.int (L.k : Nat)) (some (.d x)) w6 w7 st, rfl, ?_⟩
      refine (rf2_turn hk (T5 x hn) (L5 x hp)).mono fun o s' q => ?_
      obtain ⟨rfl, w7, rfl⟩ := q
      exact ⟨_, w7, rfl⟩
    rintro s' ⟨w5, w7, rfl⟩
    refine ⟨rfl, ?_⟩
    refine Ev.seqN (Ev.loop ⟨_, _, odds3_it, ?_⟩)
    refine Ev.for_ (fun i s' => ∃ w5 w7, s' = rfE L.D (.int (s : Nat)) (resD row) (.int (L.k : Nat)) w5 w6 w7 st) ?_ ?_ ⟨w5, w7, rfl⟩
    · rintro i x s' hx ⟨w5, w7, rfl⟩
      obtain ⟨hn, hp⟩ := odd3_ok (List.mem_of_getElem? hx)
      refine Ev.bnd ⟨(), rfE L.D (.int (s : Nat)) (resD row) (.int (L.k : Nat)) (some (.d x)) w6 w7 st, rfl, ?_⟩
      refine (rf3_turn (T6 x hn) (T7 x hn) (L2' x hp)).mono fun o s' q => ?_
      obtain ⟨rfl, w7, rfl⟩ := q
      exact ⟨_, w7, rfl⟩
    rintro s' ⟨w5, w7, rfl⟩
    exact ⟨rfl, ⟨_, _, rfl, rfl, rfl⟩⟩
  obtain ⟨d, st', e, rfl, rfl⟩ := runD2_of (np := 4) (n := 8) (F := F__law_refused) (ds := [L.D, .int (s : Nat), resD row]) (st := st) (P := fun d st' => d = .bool true ∧ st' = st) rfl (E.mono fun o s' q => ⟨_, q.1, rfl, q.2⟩)
  exact e
end LW
end

section
set_option Elab.async false
set_option linter.all false
set_option maxRecDepth 100000
set_option maxHeartbeats 999999
set_option exponentiation.threshold 5001
open DL
open PySem (PyData Str)
namespace LW
/-! ### numbers there and back -/
def nrE (lab C st len many : D) (w6 w7 w8 : Option Sl) (dr : DrawSt) : Stt DrawSt := ⟨[some .h, some (.d lab), some (.d C), some (.d st), some (.d len), some (.d many), w6, w7, w8, none], dr⟩
section
variable {ft fl fs fn fi fr : List D → Option D} {fd : List D → DrawSt → Option (D × DrawSt)} {lab C st len many : D} {w6 w7 w8 : Option Sl} {dr dr2 : DrawSt}
theorem nr1 {R : D} (h1 : ixD C len = some (.val R)) (h2 : ixD R st = some (.val many)) : asgM 5 (op2 ixD (op2 ixD (nameM 2) (nameM 4)) (nameM 3)) (⟨[some .h, some (.d lab), some (.d C), some (.d st), some (.d len), none, none, none, none, none], dr⟩ : Stt DrawSt) = some (Out.nx, nrE lab C st len many none none none dr) := by
  simp [nrE, h1, h2]
theorem nr2 (h1 : ft [lab, .int 0, st, len, .int 0] = some many) (h2 : fl [many, many] = some (.bool true)) : (ifM (notT (bnd (callP fl (consD (callP ft (consD (nameM 1) (consD (ret (.val (PyData.int 0))) (consD (nameM 3) (consD (nameM 4) (consD (ret (.val (PyData.int 0))) nilM)))))) (consD (nameM 5) nilM))) boolO)) (DL.retM (ret (.val (PyData.bool false)))) (ret .nx)) (nrE lab C st len many w6 w7 w8 dr) = some (Out.nx, nrE lab C st len many w6 w7 w8 dr) := by
  simp [nrE, h1, h2]
theorem nr3 {y z : D} (h1 : fd [.int 9] dr = some (y, dr2)) (h2 : addD many y = some (.val z)) : iterM (tupM (consD (nameM 5) (consD (negM (ret (.val (PyData.int 1)))) (consD (op2 addD (nameM 5) (DL.callD 0 fd (consD (ret (.val (PyData.int 9))) nilM))) (consD (ret (.val PyData.none)) (consD (ret (.val (PyData.bool true))) nilM)))))) (nrE lab C st len many w6 w7 w8 dr) = some ([many, .int (-1), z, .none, .bool true], nrE lab C st len many w6 w7 w8 dr2) := by
  simp [nrE, h1, h2]
theorem nr4 {x : D} (h1 : ft [lab, .int 1, st, len, x] = some (.list [.str "number", x])) (h2 : fl [.list [.str "number", x], .list [.str "number", x]] = some (.bool true)) : (ifM (notT (bnd (callP fl (consD (callP ft (consD (nameM 1) (consD (ret (.val (PyData.int 1))) (consD (nameM 3) (consD (nameM 4) (consD (nameM 6) nilM)))))) (consD (lstM (consD (ret (.val (PyData.str "number"))) (consD (nameM 6) nilM))) nilM))) boolO)) (DL.retM (ret (.val (PyData.bool false)))) (ret .nx)) (nrE lab C st len many (some (.d x)) w7 w8 dr) = some (Out.nx, nrE lab C st len many (some (.d x)) w7 w8 dr) := by
  simp [nrE, h1, h2]
theorem nr5 {i : Int} : (ifM (bnd (op2 eqD (nameM 5) (ret (.val (PyData.int 0)))) boolO) (DL.retM (ret (.val (PyData.bool true)))) (ret .nx)) (nrE lab C st len (.int i) w6 w7 w8 dr) = some (if i = 0 then .rt (.bool true) else .nx, nrE lab C st len (.int i) w6 w7 w8 dr) := by
  by_cases h : i = 0 <;> simp [nrE, h]
theorem nr6 {y : D} (h1 : fd [many] dr = some (y, dr2)) : asgM 7 (DL.callD 0 fd (consD (nameM 5) nilM)) (nrE lab C st len many w6 w7 w8 dr) = some (Out.nx, nrE lab C st len many w6 (some (.d y)) w8 dr2) := by
  simp [nrE, h1]
theorem nr7 {m l : Int} : iterM (tupM (consD (ret (.val (PyData.int 0))) (consD (op2 subD (nameM 5) (ret (.val (PyData.int 1)))) (consD (nameM 7) (consD (callM minD (consO (op2 addD (nameM 7) (ret (.val (PyData.int 1)))) (consO (op2 subD (nameM 5) (ret (.val (PyData.int 1)))) nilM))) nilM))))) (nrE lab C st len (.int m) w6 (some (.d (.int l))) w8 dr) = some ([.int 0, .int (m - 1), .int l, .int (if m - 1 < l + 1 then m - 1 else l + 1)], nrE lab C st len (.int m) w6 (some (.d (.int l))) w8 dr) := by
  simp [nrE]
theorem nr8 {x row : D} (h1 : ft [lab, .int 1, st, len, x] = some row) : asgM 8 (callP ft (consD (nameM 1) (consD (ret (.val (PyData.int 1))) (consD (nameM 3) (consD (nameM 4) (consD (nameM 6) nilM)))))) (nrE lab C st len many (some (.d x)) w7 w8 dr) = some (Out.nx, nrE lab C st len many (some (.d x)) w7 (some (.d row)) dr) := by
  simp [nrE, h1]
theorem nr9 {xs : List D} {n : D} (h : lenD [.tuple xs] = some (.val n)) (h1 : neD n len = some (.val (.bool false))) : (ifM (orT (notT (bnd (isiM "tuple" (nameM 8)) boolO)) (bnd (op2 neD (callM lenD (consO (nameM 8) nilM)) (nameM 4)) boolO)) (DL.retM (ret (.val (PyData.bool false)))) (ret .nx)) (nrE lab C st len many w6 w7 (some (.d (.tuple xs))) dr) = some (Out.nx, nrE lab C st len many w6 w7 (some (.d (.tuple xs))) dr) := by
  simp [nrE, h, h1, -lenD_t]
theorem nr10 {xs : List D} {me ro : D} {k : Int} (h0 : ixD lab (.int 0) = some (.val me)) (h1 : ixD me (.int 0) = some (.val ro)) (h2 : lenD [ro] = some (.val (.int k))) (h3 : ∀ x ∈ xs, fi [x, .int 0, .int (k - 1)] = some (.bool true)) (hl : xs.length ≤ 16777216) :
    (ifM (bnd (op2 neD (lcM [9] (iterM (nameM 8)) (setM 9) (notT (bnd (callP fi (consD (nameM 9) (consD (ret (.val (PyData.int 0))) (consD (op2 subD (callM lenD (consO (op2 ixD (op2 ixD (nameM 1) (ret (.val (PyData.int 0)))) (ret (.val (PyData.int 0)))) nilM)) (ret (.val (PyData.int 1)))) nilM)))) boolO)) (ret (.val (PyData.int 1)))) (lstM nilM)) boolO) (DL.retM (ret (.val (PyData.bool false)))) (ret .nx)) (nrE lab C st len many w6 w7 (some (.d (.tuple xs))) dr) = some (Out.nx, nrE lab C st len many w6 w7 (some (.d (.tuple xs))) dr) := by
  have e := lc_eq (ws := [9]) (Fi := iterM (nameM 8)) (G := setM 9) (T := notT (bnd (callP fi (consD (nameM 9) (consD (ret (.val (PyData.int 0))) (consD (op2 subD (callM lenD (consO (op2 ixD (op2 ixD (nameM 1) (ret (.val (PyData.int 0)))) (ret (.val (PyData.int 0)))) nilM)) (ret (.val (PyData.int 1)))) nilM)))) boolO)) (E := ret (.val (PyData.int 1))) (s := nrE lab C st len many w6 w7 (some (.d (.tuple xs))) dr)
    (s1 := nrE lab C st len many w6 w7 (some (.d (.tuple xs))) dr) (xs := xs) (fun _ => none) (by simp [nrE]) hl rfl (fun x hx acc => by
      have := h3 x hx
      refine Ev.run ?_
      simp [nrE, h0, h1, h2, this])
  have hn : xs.filterMap (fun _ => (none : Option D)) = [] := List.filterMap_eq_nil_iff.mpr fun _ _ => rfl
  rw [hn] at e
  generalize lcM [9] _ _ _ _ = F at e ⊢
  have q : neD (.list []) (.list []) = some (.val (.bool false)) := by rfl
  simp [e, q]
theorem nr11 {row p : D} {l : D} (h1 : fs [lab, st, row] = some (.tuple [p, l])) (h2 : neD p len = some (.val (.bool false))) : (ifM (bnd (op2 neD (op2 ixD (callP fs (consD (nameM 1) (consD (nameM 3) (consD (nameM 8) nilM)))) (ret (.val (PyData.int 0)))) (nameM 4)) boolO) (DL.retM (ret (.val (PyData.bool false)))) (ret .nx)) (nrE lab C st len many w6 w7 (some (.d row)) dr) = some (Out.nx, nrE lab C st len many w6 w7 (some (.d row)) dr) := by
  simp [nrE, h1, h2]
theorem nr12 {row x : D} (h1 : fn [C, lab, st, row] = some x) (h2 : neD x x = some (.val (.bool false))) (h3 : fr [lab, C, st, row] = some (.bool true)) : (ifM (orT (bnd (op2 neD (callP fn (consD (nameM 2) (consD (nameM 1) (consD (nameM 3) (consD (nameM 8) nilM))))) (nameM 6)) boolO) (notT (bnd (callP fr (consD (nameM 1) (consD (nameM 2) (consD (nameM 3) (consD (nameM 8) nilM))))) boolO))) (DL.retM (ret (.val (PyData.bool false)))) (ret .nx)) (nrE lab C st len many (some (.d x)) w7 (some (.d row)) dr) = some (Out.nx, nrE lab C st len many (some (.d x)) w7 (some (.d row)) dr) := by
  simp [nrE, h1, h2, h3]
end
theorem isint_ok {i lo hi : Int} (h1 : lo ≤ i) (h2 : i ≤ hi) : m__law_is_int [.int i, .int lo, .int hi] = some (.bool true) := by
  refine runP2_of rfl (Ev.run ?_)
  simp [F__law_is_int, h1, h2]
theorem numbers_ok {L : Lab} (ok : LabOk L) (k5 : L.k ≤ 5) {s len k : Nat} (hs : s < L.n) (hl : len ≤ 200) {st : DrawSt} (o : StOk k st) (hk : k ≤ 800000) :
    ∃ st', m__law_numbers_right [L.D, cntsD L 201, .int (s : Nat), .int (len : Nat)] st = some (.bool true, st') ∧ StOk (k + 2) st' := by
  have n1 := ok.n1
  have e0 : ixD L.meets (.int 0) = some (.val (L.mrow 0)) := meets_at (s := 0) (by omega)
  have big := cnt_big k5 (l := len) (s := s) (by omega)
  have p149 : (10 : Nat) ^ 149 < 2 ^ 4000 := by decide +kernel
  have p150 : (10 : Nat) ^ 149 + 9 < 10 ^ 150 := by decide +kernel
  have hc := count_ok ok hs hl
  have hD := fun (L : Int) (h1 : 0 < L) (h2 : L < 1000) => draw_small h1 h2
  have hD2 : 0 < (cnt L len s) → Dw 900000 1 m__law_draw [.int (cnt L len s : Nat)] _ := fun h => draw_dw (L := (cnt L len s : Nat)) (by omega) (by
    have : ((cnt L len s : Nat) : Int) < ((2 ^ 4000 : Nat) : Int) := by omega
    exact this)
  have E : Ev F__law_numbers_right (⟨some .h :: ([L.D, cntsD L 201, .int (s : Nat), .int (len : Nat)].map (fun d => some (.d d)) ++ List.replicate (10 - (4 + 1)) none), st⟩ : Stt DrawSt) fun o s' => o = .rt (.bool true) ∧ StOk (k + 2) s'.dr := by
    have t0 := told0 (e := .int 0) hc (.ok _)
    have T1 := fun (x : D) (h : Off x 0 ((cnt L len s : Nat) - 1)) => told1 (at_num hc h) (.num x)
    have T2 := fun (row : List Nat) (h1 : row.length = len) (h2 : Free L s row) (h3 : In L row) => told1 (at_ok ok hs (by omega) h2 h3) (.ok _)
    have LK := fun (x : D) (h : Pl 0 150 x) => (two_pl pl_number h).like (by decide) (by decide)
    have lk0 := (pl_nat (i := cnt L len s) (by omega)).like (by decide) (by decide)
    have II := fun (t : Nat) (h : t < L.k) => isint_ok (i := (t : Nat)) (lo := 0) (hi := (L.k : Nat) - 1) (by omega) (by omega)
    have SS := fun (row : List Nat) (h3 : In L row) (h : row.length ≤ 200) => lstop_ok ok hs h3 (show row.length ≤ 1000 by omega)
    have NN := fun (row : List Nat) (h1 : row.length ≤ 200) (h2 : Free L s row) (h3 : In L row) => lnumber_ok ok (len := 201) hs h3 (by omega) (by omega) h2
    have RR := fun (row : List Nat) (h1 : row.length ≤ 200) (h3 : In L row) => row_right ok k5 hs h3 h1
    have c1 := cntsD_at (L := L) (len := 201) (l := len) (by omega)
    have c2 := cntRow_at (L := L) (l := len) hs
    unfold F__law_numbers_right
    generalize okOf m__law_told = ft at t0 T1 T2 ⊢
    generalize m__law_like = fl at LK lk0 ⊢
    generalize m__law_draw = fd at hD hD2 ⊢
    generalize m__law_is_int = fi at II ⊢
    generalize m__law_stop = fs at SS ⊢
    generalize m__law_number = fn at NN ⊢
    generalize m__law_row_right = fr at RR ⊢
    obtain ⟨d, st1, e1, ⟨r1, hr1, rfl⟩, o1⟩ := hD 9 (by omega) (by omega) k st o (by omega)
    refine Ev.seqN ⟨.nx, _, nr1 c1 c2, rfl, ?_⟩
    refine Ev.seqN ⟨.nx, _, nr2 t0 lk0, rfl, ?_⟩
    refine Ev.seqN (Ev.loop ⟨_, _, nr3 e1 (addD_i _ _), ?_⟩)
    refine Ev.for_ (fun i s' => ∃ w6, s' = nrE L.D (cntsD L 201) (.int (s : Nat)) (.int (len : Nat)) (.int (cnt L len s : Nat)) w6 none none st1) ?_ ?_ ⟨none, rfl⟩
    · rintro i x s' hx ⟨w6, rfl⟩
      have hx := List.mem_of_getElem? hx
      have hq : Off x 0 ((cnt L len s : Nat) - 1) ∧ Pl 0 150 x := by
        simp only [List.mem_cons, List.not_mem_nil, or_false] at hx
        rcases hx with rfl | rfl | rfl | rfl | rfl
        · exact ⟨off_int (.inr (by omega)), pl_nat (by omega)⟩
        · exact ⟨off_int (.inl (by decide)), Pl.int (by decide) (by decide)⟩
        · refine ⟨off_int (.inr (by omega)), ?_⟩
          rw [← Int.natCast_add]
          exact pl_nat (by omega)
        · exact ⟨off_none _ _, Pl.non⟩
        · exact ⟨off_bool _ _ _, Pl.bl⟩
      exact ⟨.nx, _, bnd_val (a := ()) (s' := nrE L.D (cntsD L 201) (.int (s : Nat)) (.int (len : Nat)) (.int (cnt L len s : Nat)) (some (.d x)) none none st1) rfl (nr4 (T1 x hq.1) (LK x hq.2)), some (.d x), rfl⟩
    rintro s' ⟨w6, rfl⟩
    refine ⟨rfl, ?_⟩
    by_cases hz : cnt L len s = 0
    · refine Ev.seq ⟨_, _, nr5, ?_⟩
      rw [if_pos (by omega)]
      exact ⟨rfl, o1.mono (by omega)⟩
    · have hz' : ¬ ((cnt L len s : Nat) : Int) = 0 := by omega
      obtain ⟨d, st2, e2, ⟨r2, hr2, rfl⟩, o2⟩ := hD2 (by omega) (k + 1) st1 o1 (by omega)
      refine Ev.seq ⟨_, _, nr5, ?_⟩
      rw [if_neg hz']
      refine Ev.seqN ⟨.nx, _, nr6 e2, rfl, ?_⟩
      refine Ev.seqN (Ev.loop ⟨_, _, nr7, ?_⟩)
      refine Ev.for_ (fun i s' => ∃ w6 w8, s' = nrE L.D (cntsD L 201) (.int (s : Nat)) (.int (len : Nat)) (.int (cnt L len s : Nat)) w6 (some (.d (.int (r2 : Nat)))) w8 st2) ?_ ?_ ⟨w6, none, rfl⟩
      · rintro i x s' hx ⟨w6, w8, rfl⟩
        have hx := List.mem_of_getElem? hx
        obtain ⟨j, hj, rfl⟩ : ∃ j : Nat, j < cnt L len s ∧ x = .int (j : Nat) := by
          simp only [List.mem_cons, List.not_mem_nil, or_false] at hx
          rcases hx with rfl | rfl | rfl | rfl
          · exact ⟨0, by omega, rfl⟩
          · exact ⟨cnt L len s - 1, by omega, by congr 1; omega⟩
          · exact ⟨r2, by omega, rfl⟩
          · by_cases c : ((cnt L len s : Nat) : Int) - 1 < (r2 : Int) + 1
            · rw [if_pos c]
              exact ⟨cnt L len s - 1, by omega, by congr 1; omega⟩
            · rw [if_neg c]
              exact ⟨r2 + 1, by omega, by congr 1⟩
        obtain ⟨row, h1, h2, h3, h4⟩ := has_rank L len s j hj
        subst h4
        have t2 := T2 row h1 h2 h3
        rw [h1] at t2
        have hstop := SS row h3 (by omega)
        have hsl := (free_iff L row s).mp h2
        refine Ev.bnd ⟨(), nrE L.D (cntsD L 201) (.int (s : Nat)) (.int (len : Nat)) (.int (cnt L len s : Nat)) (some (.d (.int (rankN L s row : Nat)))) (some (.d (.int (r2 : Nat)))) w8 st2, rfl, ?_⟩
        refine Ev.seqN ⟨.nx, _, nr8 t2, rfl, ?_⟩
        refine Ev.seqN ⟨.nx, _, nr9 (xs := row.map nD) (resD_len row) (by rw [neD_i, h1]; simp), rfl, ?_⟩
        refine Ev.seqN ⟨.nx, _, nr10 (lab_0 L) e0 (mrow_len L 0) (fun y hy => by
          obtain ⟨t, ht, rfl⟩ := List.mem_map.mp hy
          exact II t (h3 t ht)) (by rw [List.length_map]; omega), rfl, ?_⟩
        refine Ev.seqN ⟨.nx, _, nr11 (row := resD row) hstop (by
          rw [show nD (stopN L s row).1 = .int ((stopN L s row).1 : Nat) from rfl, neD_i, hsl, h1]
          simp), rfl, ?_⟩
        exact ⟨.nx, _, nr12 (NN row (by omega) h2 h3) (by rw [neD_i]; simp) (RR row (by omega) h3), some (.d (.int (rankN L s row : Nat))), some (.d (resD row)), rfl⟩
      · rintro s' ⟨w6, w8, rfl⟩
        exact ⟨rfl, ⟨_, _, rfl, rfl, o2⟩⟩
  obtain ⟨d, st', e, rfl, q⟩ := runD2_of (np := 5) (n := 10) (F := F__law_numbers_right) (ds := [L.D, cntsD L 201, .int (s : Nat), .int (len : Nat)]) (st := st) (P := fun d st' => d = .bool true ∧ StOk (k + 2) st') rfl (E.mono fun o s' q => ⟨_, q.1, rfl, q.2⟩)
  exact ⟨st', e, q⟩
end LW
end

section
set_option Elab.async false
set_option linter.all false
set_option maxRecDepth 100000
set_option maxHeartbeats 999999
set_option exponentiation.threshold 5001
open DL
open PySem (PyData Str)
namespace LW
/-! ### drawn rows that go -/
theorem of_run {fd : List D → DrawSt → Option (D × DrawSt)} {l n y z : D} {st st1 : DrawSt} (h1 : lenD [l] = some (.val n)) (h2 : fd [n] st = some (y, st1)) (h3 : ixD l y = some (.val z)) :
    (DL.retM (op2 ixD (nameM 1) (DL.callD 0 fd (consD (callM lenD (consO (nameM 1) nilM)) nilM)))) (⟨[some .h, some (.d l)], st⟩ : Stt DrawSt) = some (.rt z, ⟨[some .h, some (.d l)], st1⟩) := by
  simp [h1, h2, h3]
theorem of_dw {xs : List D} (h : xs ≠ []) (hl : xs.length < 1000) : Dw 900000 1 m__law_of [.list xs] fun d => d ∈ xs := by
  refine runD2_dw rfl fun k st o hk => ?_
  have hp : 0 < xs.length := List.length_pos_iff.mpr h
  obtain ⟨d, st1, e1, ⟨r, hr, rfl⟩, o1⟩ := draw_small (L := (xs.length : Nat)) (by omega) (by omega) k st o (by omega)
  have hr' : r < xs.length := by omega
  have e2 : ixD (.list xs) (.int (r : Nat)) = some (.val (xs[r])) := by
    rw [ixD_l, atI_nat, List.getElem?_eq_getElem hr']
    rfl
  exact ⟨_, _, of_run (lenD_l xs) e1 e2, _, rfl, List.getElem_mem hr', o1⟩
/-- a row goes from a state to its end at a state -/
def Goes (L : Lab) (s : Nat) (row : List Nat) (e : Nat) : Prop := stopN L s row = (row.length, e)
theorem goes_snoc {L : Lab} {t e' : Nat} : ∀ (row : List Nat) (s e : Nat), Goes L s row e → L.meet e t = some e' → Goes L s (row ++ [t]) e'
  | [], s, e, h, hm => by
    have : e = s := by
      have := congrArg Prod.snd (show (0, s) = (0, e) from h)
      exact this.symm
    subst this
    show stopN L e [t] = _
    rw [stop_some hm]
    rfl
  | u :: r, s, e, h, hm => by
    unfold Goes at h ⊢
    cases hq : L.meet s u with
    | none =>
      rw [stop_none hq] at h
      have := congrArg Prod.fst h
      simp at this
    | some s' =>
      rw [stop_some hq] at h
      have h1 := congrArg Prod.fst h
      have h2 := congrArg Prod.snd h
      have ih : Goes L s' (r ++ [t]) e' := goes_snoc r s' e (Prod.ext (by simpa using h1) h2) hm
      show stopN L s (u :: (r ++ [t])) = _
      rw [stop_some hq, show stopN L s' (r ++ [t]) = ((r ++ [t]).length, e') from ih]
      rfl
theorem goes_free {L : Lab} {s e : Nat} {row : List Nat} (h : Goes L s row e) : Free L s row := (free_iff L row s).mpr (by rw [show stopN L s row = _ from h])
def goE (L : Lab) (here len : Nat) (row : List Nat) (w5 w6 w7 : Option Sl) (st : DrawSt) : Stt DrawSt := ⟨[some .h, some (.d L.D), some (.d (.int (here : Nat))), some (.d (.int (len : Nat))), some (.d (resD row)), w5, w6, w7], st⟩
def GO (L : Lab) (s0 len k i : Nat) (s : Stt DrawSt) : Prop := ∃ w5 w6 w7 here row st, s = goE L here len row w5 w6 w7 st ∧ Kp w7 ∧ here < L.n ∧ In L row ∧ row.length ≤ i ∧ Goes L s0 row here ∧ StOk (k + i) st
/-- the touches that may be -/
def mays (L : Lab) (s : Nat) : List Nat := (List.range L.k).filter fun t => (L.meet s t).isSome
def gMay (L : Lab) (s : Nat) : D → Option D
  | .int i => if (L.meet s i.toNat).isSome then some (.int i) else none
  | _ => none
theorem may_eq (L : Lab) (s : Nat) : (rgN L.k).filterMap (gMay L s) = (mays L s).map nD := by
  unfold rgN mays
  rw [List.filterMap_map]
  induction List.range L.k with
  | nil => rfl
  | cons t l ih =>
    rw [List.filterMap_cons, List.filter_cons]
    have e : (gMay L s ∘ fun i => PyData.int ((i : Nat) : Int)) t = if (L.meet s t).isSome then some (.int (t : Nat)) else none := rfl
    rw [e]
    cases hq : (L.meet s t).isSome with
    | false => rw [if_neg (by simp), if_neg (by simp)]; exact ih
    | true =>
      rw [if_pos rfl, if_pos rfl, List.map_cons]
      dsimp only
      rw [ih]
      rfl
theorem go_rng {lab a b c me ro : D} {k : Nat} {w5 w6 w7 : Option Sl} {st : DrawSt} (h0 : ixD lab (.int 0) = some (.val me)) (h1 : ixD me (.int 0) = some (.val ro)) (h2 : lenD [ro] = some (.val (.int (k : Nat)))) (g : rgOk 0 (k : Nat) = true) :
    rangeM (consO (callM lenD (consO (op2 ixD (op2 ixD (nameM 1) (ret (.val (PyData.int 0)))) (ret (.val (PyData.int 0)))) nilM)) nilM) (⟨[some .h, some (.d lab), some (.d a), some (.d b), some (.d c), w5, w6, w7], st⟩ : Stt DrawSt) = some (rgN k, ⟨[some .h, some (.d lab), some (.d a), some (.d b), some (.d c), w5, w6, w7], st⟩) := by
  rw [← rgD_nat]
  generalize ((k : Nat) : Int) = kk at h2 g ⊢
  simp [h0, h1, h2, g]
theorem go_test {lab a b c me ro u z : D} {w5 w6 : Option Sl} {st : DrawSt} (acc : List D) (h0 : ixD lab (.int 0) = some (.val me)) (h1 : ixD me a = some (.val ro)) (h2 : ixD ro u = some (.val z)) :
    turnM (setM 7) (bnd (op2 isNotD (op2 ixD (op2 ixD (op2 ixD (nameM 1) (ret (.val (PyData.int 0)))) (nameM 2)) (nameM 7)) (ret (.val PyData.none))) boolO) (valM (nameM 7)) u acc (⟨[some .h, some (.d lab), some (.d a), some (.d b), some (.d c), w5, w6, none], st⟩ : Stt DrawSt) =
      some (if isNoneB z then acc else acc ++ [u], ⟨[some .h, some (.d lab), some (.d a), some (.d b), some (.d c), w5, w6, some (.d u)], st⟩) := by
  cases hz : isNoneB z <;> simp [h0, h1, h2, hz]
theorem go_list {L : Lab} (ok : LabOk L) {here len : Nat} {row : List Nat} {w5 w6 w7 : Option Sl} {st : DrawSt} (hh : here < L.n) (hk : Kp w7) :
    lcM [7] (rangeM (consO (callM lenD (consO (op2 ixD (op2 ixD (nameM 1) (ret (.val (PyData.int 0)))) (ret (.val (PyData.int 0)))) nilM)) nilM)) (setM 7) (bnd (op2 isNotD (op2 ixD (op2 ixD (op2 ixD (nameM 1) (ret (.val (PyData.int 0)))) (nameM 2)) (nameM 7)) (ret (.val PyData.none))) boolO) (nameM 7) (goE L here len row w5 w6 w7 st) = some (.new ((mays L here).map nD), goE L here len row w5 w6 w7 st) := by
  have n1 := ok.n1
  have k8 := ok.k8
  rw [← may_eq]
  refine lc_eq (gMay L here) (xs := rgN L.k) (go_rng (lab_0 L) (meets_at (s := 0) (by omega)) (mrow_len L 0) (rgOk_small (by omega) (by omega) (by omega) (by omega))) (by rw [rgN_len]; omega) ?_ ?_
  · unfold Kp at hk
    simp [goE, hk]
  · intro y hy acc
    obtain ⟨t, ht, rfl⟩ : ∃ t : Nat, t < L.k ∧ y = .int (t : Nat) := by
      obtain ⟨i, hi⟩ := List.mem_iff_getElem?.mp hy
      exact ⟨i, rgN_some hi⟩
    refine ⟨_, _, go_test acc (lab_0 L) (meets_at hh) (mrow_at ht), ?_, rfl, rfl⟩
    have e : gMay L here (.int (t : Nat)) = if (L.meet here t).isSome then some (.int (t : Nat)) else none := rfl
    rw [e, oD_none]
    cases L.meet here t with
    | none => simp
    | some r => simp
theorem go_set {F : M DrawSt Opd} {xs : List D} {a b c d : D} {w5 w6 w7 : Option Sl} {st : DrawSt} (e : F ⟨[some .h, some (.d a), some (.d b), some (.d c), some (.d d), w5, w6, w7], st⟩ = some (.new xs, ⟨[some .h, some (.d a), some (.d b), some (.d c), some (.d d), w5, w6, w7], st⟩)) :
    asgM 6 F (⟨[some .h, some (.d a), some (.d b), some (.d c), some (.d d), w5, w6, w7], st⟩ : Stt DrawSt) = some (Out.nx, ⟨[some .h, some (.d a), some (.d b), some (.d c), some (.d d), w5, some (.own xs), w7], st⟩) := by
  simp [e]
theorem go_brk {xs : List D} {a b c d : D} {w5 w7 : Option Sl} {st : DrawSt} (h : eqD (.list xs) (.list []) = some (.val (.bool xs.isEmpty))) :
    (ifM (bnd (op2 eqD (nameM 6) (lstM nilM)) boolO) (ret .bk) (ret .nx)) (⟨[some .h, some (.d a), some (.d b), some (.d c), some (.d d), w5, some (.own xs), w7], st⟩ : Stt DrawSt) = some (if xs.isEmpty then Out.bk else .nx, ⟨[some .h, some (.d a), some (.d b), some (.d c), some (.d d), w5, some (.own xs), w7], st⟩) := by
  cases hx : xs.isEmpty <;> rw [hx] at h <;> simp [h]
theorem go_of {fo : List D → DrawSt → Option (D × DrawSt)} {xs : List D} {a b c d y : D} {w5 w7 : Option Sl} {st st1 : DrawSt} (h : fo [.list xs] st = some (y, st1)) :
    asgM 7 (DL.callD 0 fo (consD (nameM 6) nilM)) (⟨[some .h, some (.d a), some (.d b), some (.d c), some (.d d), w5, some (.own xs), w7], st⟩ : Stt DrawSt) = some (Out.nx, ⟨[some .h, some (.d a), some (.d b), some (.d c), some (.d d), w5, some (.d (.list xs)), some (.d y)], st1⟩) := by
  simp [h]
theorem go_par {lab here len row row2 me ro t z : D} {w5 w6 : Option Sl} {st : DrawSt} (h0 : ixD lab (.int 0) = some (.val me)) (h1 : ixD me here = some (.val ro)) (h2 : ixD ro t = some (.val z)) (h3 : addD row (.tuple [t]) = some (.val row2)) :
    (parM [4, 2] (consN (op2 addD (nameM 4) (tupM (consD (nameM 7) nilM))) (consN (op2 ixD (op2 ixD (op2 ixD (nameM 1) (ret (.val (PyData.int 0)))) (nameM 2)) (nameM 7)) nilM))) (⟨[some .h, some (.d lab), some (.d here), some (.d len), some (.d row), w5, w6, some (.d t)], st⟩ : Stt DrawSt) =
      some (Out.nx, ⟨[some .h, some (.d lab), some (.d z), some (.d len), some (.d row2), w5, w6, some (.d t)], st⟩) := by
  simp [h0, h1, h2, h3]
theorem goes_dw {L : Lab} (ok : LabOk L) {s len : Nat} (hs : s < L.n) (hl : len ≤ 300) : Dw 700000 len m__law_goes [L.D, .int (s : Nat), .int (len : Nat)] fun d => ∃ row e, d = resD row ∧ In L row ∧ row.length ≤ len ∧ Goes L s row e ∧ e < L.n := by
  refine runD2_dw rfl fun k st o hk => ?_
  have k8 := ok.k8
  have g2 : rgOk 0 (len : Nat) = true := rgOk_small (by omega) (by omega) (by omega) (by omega)
  have hO := fun (xs : List D) (h : xs ≠ []) (hl : xs.length < 1000) => of_dw h hl
  unfold F__law_goes
  generalize m__law_of = fo at hO ⊢
  refine Ev.seqN ⟨.nx, goE L s len [] none none none st, by simp [goE, resD], rfl, ?_⟩
  refine Ev.seqN (Ev.loop (Ev.rangeM (lo := 0) (hi := (len : Nat)) (by simp [goE]) g2 ?_))
  rw [rgD_nat]
  refine Ev.for_ (GO L s len k) ?_ ?_ ⟨none, none, none, s, [], st, rfl, rfl, hs, (fun t ht => by cases ht), Nat.le_refl _, rfl, o⟩
  · rintro i x s' hx ⟨w5, w6, w7, here, row, st, rfl, h1, h2, h3, h4, h5, h6⟩
    obtain ⟨hi, rfl⟩ := rgN_some hx
    refine Ev.bnd ⟨(), goE L here len row (some (.d (.int (i : Nat)))) w6 w7 st, rfl, ?_⟩
    refine Ev.seqN ⟨.nx, _, go_set (go_list ok h2 h1), rfl, ?_⟩
    have hml : (mays L here).length ≤ 8 := Nat.le_trans (List.length_filter_le _ _) (by rw [List.length_range]; exact k8)
    have sh : eqD (.list ((mays L here).map nD)) (.list []) = some (.val (.bool ((mays L here).map nD).isEmpty)) := eqD_nil (shaped_pd (n := 1) (by
      show ((mays L here).map nD).all (pd 0) = true
      refine List.all_eq_true.mpr fun y hy => ?_
      obtain ⟨t, _, rfl⟩ := List.mem_map.mp hy
      rfl))
    cases hb : ((mays L here).map nD).isEmpty with
    | true =>
      refine Ev.seq ⟨_, _, go_brk sh, ?_⟩
      rw [hb]
      exact ⟨rfl, _, _, rfl, _, rfl, ⟨row, here, rfl, h3, by omega, h5, h2⟩, h6.mono (by omega)⟩
    | false =>
      refine Ev.seq ⟨_, _, go_brk sh, ?_⟩
      rw [hb]
      obtain ⟨d, st1, e1, hd, o1⟩ := hO ((mays L here).map nD) (by
        intro z
        rw [z] at hb
        cases hb) (by rw [List.length_map]; omega) _ st h6 (by omega)
      obtain ⟨t, ht, rfl⟩ := List.mem_map.mp hd
      obtain ⟨ht1, ht2⟩ := List.mem_filter.mp ht
      have htk : t < L.k := List.mem_range.mp ht1
      obtain ⟨r, hm⟩ := Option.isSome_iff_exists.mp ht2
      have e2 := mrow_at (L := L) (s := here) htk
      rw [hm] at e2
      refine Ev.seqN ⟨.nx, _, go_of e1, rfl, ?_⟩
      refine ⟨.nx, _, go_par (lab_0 L) (meets_at h2) e2 (addRow (t := t) (by omega)), ?_⟩
      refine ⟨some (.d (.int (i : Nat))), _, some (.d (nD t)), r, row ++ [t], st1, rfl, rfl, ok.meet _ _ _ h2 htk hm, fun u hu => ?_, by rw [List.length_append]; show row.length + 1 ≤ _; omega, goes_snoc row s here h5 hm, o1⟩
      rcases List.mem_append.mp hu with q | q
      · exact h3 u q
      · rw [List.mem_singleton] at q
        omega
  · rintro s' ⟨w5, w6, w7, here, row, st, rfl, h1, h2, h3, h4, h5, h6⟩
    rw [rgN_len] at h4 h6
    exact ⟨rfl, _, _, rfl, _, rfl, ⟨row, here, rfl, h3, h4, h5, h2⟩, h6⟩
end LW
end

section
set_option Elab.async false
set_option linter.all false
set_option maxRecDepth 100000
set_option maxHeartbeats 999999
set_option exponentiation.threshold 5001
open DL
open PySem (PyData Str)
namespace LW
/-! ### the law's statements one by one -/
def lE (ns : List Int) (w2 w3 w4 w5 w6 w7 w8 w9 w11 w12 w13 w14 : Option Sl) (dr : DrawSt) : Stt DrawSt := ⟨[some (.s ns), some .h, w2, w3, w4, w5, w6, w7, w8, w9, none, w11, w12, w13, w14, none], dr⟩
section
variable {ns : List Int} {w2 w3 w4 w5 w6 w7 w8 w9 w11 w12 w13 w14 : Option Sl} {d0 d1 d2 d3 d4 : DrawSt} {fd fl fo fn fg fr2 : List D → DrawSt → Option (D × DrawSt)} {ft fk fc fa fs fm fr : List D → Option D}
theorem q1 {a b : Int} {lab : D} (e1 : fd [.int 6] d0 = some (.int a, d1)) (e2 : fd [.int 5] d1 = some (.int b, d2)) (e3 : fl [.int (1 + a), .int (1 + b)] d2 = some (lab, d3)) :
    asgM 3 (DL.callD 1 fl (consD (op2 addD (ret (.val (PyData.int 1))) (DL.callD 1 fd (consD (ret (.val (PyData.int 6))) nilM))) (consD (op2 addD (ret (.val (PyData.int 1))) (DL.callD 1 fd (consD (ret (.val (PyData.int 5))) nilM))) nilM))) (lE ns w2 w3 w4 w5 w6 w7 w8 w9 w11 w12 w13 w14 d0) =
      some (Out.nx, lE ns w2 (some (.d lab)) w4 w5 w6 w7 w8 w9 w11 w12 w13 w14 d3) := by
  simp [lE, e1, e2, e3]
theorem q2 {lab me n st C : D} (h0 : ixD lab (.int 0) = some (.val me)) (h1 : lenD [me] = some (.val n)) (e1 : fd [n] d0 = some (st, d1)) (e2 : fc [lab, .int 201] = some C) :
    parM [4, 5] (consN (DL.callD 1 fd (consD (callM lenD (consO (op2 ixD (nameM 3) (ret (.val (PyData.int 0)))) nilM)) nilM)) (consN (callP fc (consD (nameM 3) (consD (ret (.val (PyData.int 201))) nilM))) nilM)) (lE ns w2 (some (.d lab)) w4 w5 w6 w7 w8 w9 w11 w12 w13 w14 d0) =
      some (Out.nx, lE ns w2 (some (.d lab)) (some (.d st)) (some (.d C)) w6 w7 w8 w9 w11 w12 w13 w14 d1) := by
  simp [lE, h0, h1, e1, e2]
theorem q3 {a b c y : D} (e1 : fd [.int 4] d0 = some (a, d1)) (e2 : fd [.int 40] d1 = some (b, d2)) (e3 : fd [.int 201] d2 = some (c, d3)) (e4 : fo [.list [a, b, .int 200, c]] d3 = some (y, d4)) :
    asgM 6 (DL.callD 1 fo (consD (lstM (consD (DL.callD 1 fd (consD (ret (.val (PyData.int 4))) nilM)) (consD (DL.callD 1 fd (consD (ret (.val (PyData.int 40))) nilM)) (consD (ret (.val (PyData.int 200))) (consD (DL.callD 1 fd (consD (ret (.val (PyData.int 201))) nilM)) nilM))))) nilM)) (lE ns w2 w3 w4 w5 w6 w7 w8 w9 w11 w12 w13 w14 d0) =
      some (Out.nx, lE ns w2 w3 w4 w5 (some (.d y)) w7 w8 w9 w11 w12 w13 w14 d4) := by
  simp [lE, e1, e2, e3, e4]
theorem q4 {lab C st len : D} (e : fn [lab, C, st, len] d0 = some (.bool true, d1)) :
    (ifM (notT (bnd (DL.callD 1 fn (consD (nameM 3) (consD (nameM 5) (consD (nameM 4) (consD (nameM 6) nilM))))) boolO)) (DL.retM (ret (.val (PyData.bool false)))) (ret .nx)) (lE ns w2 (some (.d lab)) (some (.d st)) (some (.d C)) (some (.d len)) w7 w8 w9 w11 w12 w13 w14 d0) =
      some (Out.nx, lE ns w2 (some (.d lab)) (some (.d st)) (some (.d C)) (some (.d len)) w7 w8 w9 w11 w12 w13 w14 d1) := by
  simp [lE, e]
theorem q5 {y : D} (e1 : fd [.int 4] d0 = some (y, d1)) : asgM 7 (DL.callD 1 fd (consD (ret (.val (PyData.int 4))) nilM)) (lE ns w2 w3 w4 w5 w6 w7 w8 w9 w11 w12 w13 w14 d0) = some (Out.nx, lE ns w2 w3 w4 w5 w6 (some (.d y)) w8 w9 w11 w12 w13 w14 d1) := by
  simp [lE, e1]
theorem q6 {lab st small due : D} (e : fa [lab, st, small] = some due) : asgM 8 (callP fa (consD (nameM 3) (consD (nameM 4) (consD (nameM 7) nilM)))) (lE ns w2 (some (.d lab)) (some (.d st)) w5 w6 (some (.d small)) w8 w9 w11 w12 w13 w14 d0) = some (Out.nx, lE ns w2 (some (.d lab)) (some (.d st)) w5 w6 (some (.d small)) (some (.d due)) w9 w11 w12 w13 w14 d0) := by
  simp [lE, e]
theorem q7a {due : D} {n : Nat} (h : lenD [due] = some (.val (.int (n : Nat)))) (g : rgOk 0 (n : Nat) = true) : rangeM (consO (callM lenD (consO (nameM 8) nilM)) nilM) (lE ns w2 w3 w4 w5 w6 w7 (some (.d due)) w9 w11 w12 w13 w14 d0) = some (rgN n, lE ns w2 w3 w4 w5 w6 w7 (some (.d due)) w9 w11 w12 w13 w14 d0) := by
  rw [← rgD_nat]
  generalize ((n : Nat) : Int) = k at h g ⊢
  unfold lE
  simp [h, g]
theorem q7b {lab st small due x y : D} {acc : List D} (e : ft [lab, .int 1, st, small, x] = some y) : ∃ s3, turnM (setM 10) (ret true) (valM (callP ft (consD (nameM 3) (consD (ret (.val (PyData.int 1))) (consD (nameM 4) (consD (nameM 7) (consD (nameM 10) nilM))))))) x acc (lE ns w2 (some (.d lab)) (some (.d st)) w5 w6 (some (.d small)) (some (.d due)) w9 w11 w12 w13 w14 d0) = some (acc ++ [y], s3) ∧ (⟨wipeE s3.env [10], s3.dr⟩ : Stt DrawSt) = lE ns w2 (some (.d lab)) (some (.d st)) w5 w6 (some (.d small)) (some (.d due)) w9 w11 w12 w13 w14 d0 := by
  refine ⟨⟨[some (.s ns), some .h, w2, some (.d lab), some (.d st), w5, w6, some (.d small), some (.d due), w9, some (.d x), w11, w12, w13, w14, none], d0⟩, ?_, rfl⟩
  unfold lE
  simp [e]
theorem q7c {F : M DrawSt Opd} {xs : List D} (e : F (lE ns w2 w3 w4 w5 w6 w7 w8 w9 w11 w12 w13 w14 d0) = some (.new xs, lE ns w2 w3 w4 w5 w6 w7 w8 w9 w11 w12 w13 w14 d0)) : asgM 9 F (lE ns w2 w3 w4 w5 w6 w7 w8 w9 w11 w12 w13 w14 d0) = some (Out.nx, lE ns w2 w3 w4 w5 w6 w7 w8 (some (.own xs)) w11 w12 w13 w14 d0) := by
  unfold lE at e ⊢
  simp [e]
theorem q7 {lab st small : D} {due : List D} (hl : due.length ≤ 100000) (h : ∀ i x, due[i]? = some x → ft [lab, .int 1, st, small, .int (i : Nat)] = some x) :
    asgM 9 (lcM [10] (rangeM (consO (callM lenD (consO (nameM 8) nilM)) nilM)) (setM 10) (ret true) (callP ft (consD (nameM 3) (consD (ret (.val (PyData.int 1))) (consD (nameM 4) (consD (nameM 7) (consD (nameM 10) nilM))))))) (lE ns w2 (some (.d lab)) (some (.d st)) w5 w6 (some (.d small)) (some (.d (.list due))) w9 w11 w12 w13 w14 d0) =
      some (Out.nx, lE ns w2 (some (.d lab)) (some (.d st)) w5 w6 (some (.d small)) (some (.d (.list due))) (some (.own due)) w11 w12 w13 w14 d0) := by
  have g2 : rgOk 0 (due.length : Nat) = true := rgOk_small (by omega) (by omega) (by omega) (by omega)
  have hlen := lenD_l due
  generalize hdd : PyData.list due = dd at hlen
  have E : Ev (lcM [10] (rangeM (consO (callM lenD (consO (nameM 8) nilM)) nilM)) (setM 10) (ret true) (callP ft (consD (nameM 3) (consD (ret (.val (PyData.int 1))) (consD (nameM 4) (consD (nameM 7) (consD (nameM 10) nilM))))))) (lE ns w2 (some (.d lab)) (some (.d st)) w5 w6 (some (.d small)) (some (.d dd)) w9 w11 w12 w13 w14 d0)
      fun o s => o = .new due ∧ s = lE ns w2 (some (.d lab)) (some (.d st)) w5 w6 (some (.d small)) (some (.d dd)) w9 w11 w12 w13 w14 d0 := by
    refine Ev.lc ⟨_, _, q7a hlen g2, by rw [rgN_len]; omega, fun i acc s => acc = due.take i ∧ s = lE ns w2 (some (.d lab)) (some (.d st)) w5 w6 (some (.d small)) (some (.d dd)) w9 w11 w12 w13 w14 d0, ⟨rfl, rfl⟩, ?_, ?_⟩
    · rintro i x acc s hx ⟨rfl, rfl⟩
      obtain ⟨hi, rfl⟩ := rgN_some hx
      have hd : due[i]? = some due[i] := List.getElem?_eq_getElem hi
      have e2 : due.take (i + 1) = due.take i ++ [due[i]] := by rw [List.take_succ, hd]; rfl
      obtain ⟨s3, e3, e4⟩ := q7b (ns := ns) (w2 := w2) (w5 := w5) (w6 := w6) (w9 := w9) (w11 := w11) (w12 := w12) (w13 := w13) (w14 := w14) (d0 := d0) (due := dd) (acc := due.take i) (h i _ hd)
      exact ⟨_, _, e3, e2.symm, e4⟩
    · rintro acc s ⟨rfl, rfl⟩
      rw [rgN_len, List.take_length]
      exact ⟨rfl, rfl⟩
  obtain ⟨o, s, e, rfl, rfl⟩ := E
  exact q7c e
theorem q8 {due : D} {xs : List D} (e : fk [.list xs, due] = some (.bool true)) :
    (ifM (notT (bnd (callP fk (consD (nameM 9) (consD (nameM 8) nilM))) boolO)) (DL.retM (ret (.val (PyData.bool false)))) (ret .nx)) (lE ns w2 w3 w4 w5 w6 w7 (some (.d due)) (some (.own xs)) w11 w12 w13 w14 d0) = some (Out.nx, lE ns w2 w3 w4 w5 w6 w7 (some (.d due)) (some (.d (.list xs))) w11 w12 w13 w14 d0) := by
  simp [lE, e]
theorem q9 {lab st y row : D} (e1 : fd [.int 30] d0 = some (y, d1)) (e2 : fg [lab, st, y] d1 = some (row, d2)) :
    asgM 11 (DL.callD 1 fg (consD (nameM 3) (consD (nameM 4) (consD (DL.callD 1 fd (consD (ret (.val (PyData.int 30))) nilM)) nilM)))) (lE ns w2 (some (.d lab)) (some (.d st)) w5 w6 w7 w8 w9 w11 w12 w13 w14 d0) = some (Out.nx, lE ns w2 (some (.d lab)) (some (.d st)) w5 w6 w7 w8 w9 (some (.d row)) w12 w13 w14 d2) := by
  simp [lE, e1, e2]
theorem q10 {lab me ro kk row u A AB B ABC : D} {l i j : Int} (h0 : ixD lab (.int 0) = some (.val me)) (h1 : ixD me (.int 0) = some (.val ro)) (h2 : lenD [ro] = some (.val kk)) (h3 : lenD [row] = some (.val (.int l))) (e1 : fd [.int (l + 1)] d0 = some (.int i, d1)) (e2 : slD row none (some i) = some (.val A)) (e3 : fd [kk] d1 = some (u, d2)) (e4 : addD A (.tuple [u]) = some (.val AB)) (e5 : fdivD (.int l) (.int 2) = some (.val (.int j))) (e6 : slD row (some j) none = some (.val B)) (e7 : addD AB B = some (.val ABC)) :
    asgM 12 (op2 addD (op2 addD (sliceM slD (nameM 11) (ret none) (bnd (DL.callD 1 fd (consD (op2 addD (callM lenD (consO (nameM 11) nilM)) (ret (.val (PyData.int 1)))) nilM)) intO)) (tupM (consD (DL.callD 1 fd (consD (callM lenD (consO (op2 ixD (op2 ixD (nameM 3) (ret (.val (PyData.int 0)))) (ret (.val (PyData.int 0)))) nilM)) nilM)) nilM))) (sliceM slD (nameM 11) (bnd (op2 fdivD (callM lenD (consO (nameM 11) nilM)) (ret (.val (PyData.int 2)))) intO) (ret none))) (lE ns w2 (some (.d lab)) w4 w5 w6 w7 w8 w9 (some (.d row)) w12 w13 w14 d0) =
      some (Out.nx, lE ns w2 (some (.d lab)) w4 w5 w6 w7 w8 w9 (some (.d row)) (some (.d ABC)) w13 w14 d2) := by
  simp [lE, h0, h1, h2, h3, e1, e2, e3, e4, e5, e6, e7]
theorem q11 {lab C st row bent : D} (e1 : fr [lab, C, st, row] = some (.bool true)) (e2 : fr [lab, C, st, bent] = some (.bool true)) :
    (ifM (orT (notT (bnd (callP fr (consD (nameM 3) (consD (nameM 5) (consD (nameM 4) (consD (nameM 11) nilM))))) boolO)) (notT (bnd (callP fr (consD (nameM 3) (consD (nameM 5) (consD (nameM 4) (consD (nameM 12) nilM))))) boolO))) (DL.retM (ret (.val (PyData.bool false)))) (ret .nx)) (lE ns w2 (some (.d lab)) (some (.d st)) (some (.d C)) w6 w7 w8 w9 (some (.d row)) (some (.d bent)) w13 w14 d0) =
      some (Out.nx, lE ns w2 (some (.d lab)) (some (.d st)) (some (.d C)) w6 w7 w8 w9 (some (.d row)) (some (.d bent)) w13 w14 d0) := by
  simp [lE, e1, e2]
theorem q12 {lab st row : D} (e1 : fr2 [lab, st, row] d0 = some (.bool true, d1)) :
    (ifM (notT (bnd (DL.callD 1 fr2 (consD (nameM 3) (consD (nameM 4) (consD (nameM 11) nilM)))) boolO)) (DL.retM (ret (.val (PyData.bool false)))) (ret .nx)) (lE ns w2 (some (.d lab)) (some (.d st)) w5 w6 w7 w8 w9 (some (.d row)) w12 w13 w14 d0) =
      some (Out.nx, lE ns w2 (some (.d lab)) (some (.d st)) w5 w6 w7 w8 w9 (some (.d row)) w12 w13 w14 d1) := by
  simp [lE, e1]
theorem r1 {lab row : D} {y : Int} (e1 : fd [.int 4] d0 = some (.int y, d1)) (e2 : fg [lab, .int 0, .int (199 + y)] d1 = some (row, d2)) :
    asgM 11 (DL.callD 1 fg (consD (nameM 3) (consD (ret (.val (PyData.int 0))) (consD (op2 addD (ret (.val (PyData.int 199))) (DL.callD 1 fd (consD (ret (.val (PyData.int 4))) nilM))) nilM)))) (lE ns w2 (some (.d lab)) w4 w5 w6 w7 w8 w9 w11 w12 w13 w14 d0) = some (Out.nx, lE ns w2 (some (.d lab)) w4 w5 w6 w7 w8 w9 (some (.d row)) w12 w13 w14 d2) := by
  simp [lE, e1, e2]
def dueS (b : Bool) (row c : D) : Option Sl := if b then some (.own [.str "row", row]) else some (.d c)
def dueV (b : Bool) (row c : D) : D := if b then .list [.str "row", row] else c
theorem r2 {lab C row n c : D} {b : Bool} (h : lenD [row] = some (.val n)) (h2 : gtD n (.int 200) = some (.val (.bool b))) (e : b = false → fm [C, lab, .int 0, row] = some c) :
    asgM 8 (iteM (bnd (op2 gtD (callM lenD (consO (nameM 11) nilM)) (ret (.val (PyData.int 200)))) boolO) (lstM (consD (ret (.val (PyData.str "row"))) (consD (nameM 11) nilM))) (callP fm (consD (nameM 5) (consD (nameM 3) (consD (ret (.val (PyData.int 0))) (consD (nameM 11) nilM)))))) (lE ns w2 (some (.d lab)) w4 (some (.d C)) w6 w7 w8 w9 (some (.d row)) w12 w13 w14 d0) =
      some (Out.nx, lE ns w2 (some (.d lab)) w4 (some (.d C)) w6 w7 (dueS b row c) w9 (some (.d row)) w12 w13 w14 d0) := by
  cases b with
  | true => simp [lE, dueS, h, h2]
  | false => simp [lE, dueS, h, h2, e rfl]
theorem r3 {lab row p l : D} (e : fs [lab, .int 0, row] = some (.tuple [p, l])) :
    (unpM (callP fs (consD (nameM 3) (consD (ret (.val (PyData.int 0))) (consD (nameM 11) nilM)))) (tupG 2 (gsCons (setM 13) (gsCons (setM 14) gsNil)))) (lE ns w2 (some (.d lab)) w4 w5 w6 w7 w8 w9 (some (.d row)) w12 w13 w14 d0) =
      some (Out.nx, lE ns w2 (some (.d lab)) w4 w5 w6 w7 w8 w9 (some (.d row)) w12 (some (.d p)) (some (.d l)) d0) := by
  simp [lE, e]
def g234 (a b c : D) : D → Option D
  | .int 2 => some a
  | .int 3 => some b
  | .int 4 => some c
  | _ => none
theorem r4 {lab row a b c : D} (e2 : ft [lab, .int 2, .int 0, row, .int 0] = some a) (e3 : ft [lab, .int 3, .int 0, row, .int 0] = some b) (e4 : ft [lab, .int 4, .int 0, row, .int 0] = some c) :
    asgM 9 (lcM [15] (iterM (lstM (consD (ret (.val (PyData.int 2))) (consD (ret (.val (PyData.int 3))) (consD (ret (.val (PyData.int 4))) nilM))))) (setM 15) (ret true) (callP ft (consD (nameM 3) (consD (nameM 15) (consD (ret (.val (PyData.int 0))) (consD (nameM 11) (consD (ret (.val (PyData.int 0))) nilM))))))) (lE ns w2 (some (.d lab)) w4 w5 w6 w7 w8 w9 (some (.d row)) w12 w13 w14 d0) =
      some (Out.nx, lE ns w2 (some (.d lab)) w4 w5 w6 w7 w8 (some (.own [a, b, c])) (some (.d row)) w12 w13 w14 d0) := by
  have e := lc_eq (ws := [15]) (Fi := iterM (lstM (consD (ret (.val (PyData.int 2))) (consD (ret (.val (PyData.int 3))) (consD (ret (.val (PyData.int 4))) nilM))))) (G := setM 15) (T := ret true) (E := callP ft (consD (nameM 3) (consD (nameM 15) (consD (ret (.val (PyData.int 0))) (consD (nameM 11) (consD (ret (.val (PyData.int 0))) nilM)))))) (s := lE ns w2 (some (.d lab)) w4 w5 w6 w7 w8 w9 (some (.d row)) w12 w13 w14 d0)
    (s1 := lE ns w2 (some (.d lab)) w4 w5 w6 w7 w8 w9 (some (.d row)) w12 w13 w14 d0) (xs := [.int 2, .int 3, .int 4]) (g234 a b c) (by simp [lE]) (by decide) rfl (fun x hx acc => by
      simp only [List.mem_cons, List.not_mem_nil, or_false] at hx
      refine Ev.run ?_
      rcases hx with rfl | rfl | rfl
      · simp [lE, e2, g234]
      · simp [lE, e3, g234]
      · simp [lE, e4, g234])
  rw [show [PyData.int 2, .int 3, .int 4].filterMap (g234 a b c) = [a, b, c] from rfl] at e
  generalize lcM [15] _ _ _ _ = F at e ⊢
  unfold lE at e ⊢
  simp [e]
theorem r5 {row p l n c : D} {b : Bool} {xs : List D} (h : lenD [row] = some (.val n)) (h2 : eqD p n = some (.val (.bool true))) (e : fk [.list xs, .list [dueV b row c, l, .none]] = some (.bool true)) :
    ∃ s', (DL.retM (andV (op2 eqD (nameM 13) (callM lenD (consO (nameM 11) nilM))) (callP fk (consD (nameM 9) (consD (lstM (consD (nameM 8) (consD (nameM 14) (consD (ret (.val PyData.none)) nilM)))) nilM))))) (lE ns w2 w3 w4 w5 w6 w7 (dueS b row c) (some (.own xs)) (some (.d row)) w12 (some (.d p)) (some (.d l)) d0) = some (.rt (.bool true), s') := by
  cases b with
  | true =>
    unfold dueV at e
    simp only [if_true] at e
    exact ⟨_, by simp [lE, dueS, h, h2, e]; rfl⟩
  | false =>
    unfold dueV at e
    simp only [Bool.false_eq_true, if_false] at e
    exact ⟨_, by simp [lE, dueS, h, h2, e]; rfl⟩
end
end LW
end

section
set_option Elab.async false
set_option linter.all false
set_option maxRecDepth 100000
set_option maxHeartbeats 999999
set_option exponentiation.threshold 5001
open DL
open PySem (PyData Str)
namespace LW
/-! ### a turn of the law, and the law -/
theorem sl_take {row : List Nat} {i : Nat} (h : i ≤ row.length) : slD (resD row) none (some ((i : Nat) : Int)) = some (.val (resD (row.take i))) := by
  show some (Opd.val (PyData.tuple (cutD (row.map nD) none (some ((i : Nat) : Int))))) = _
  unfold cutD
  rw [show HT.sIx (row.map nD).length 0 none = 0 from rfl, HT.sIx_nat, List.drop_zero, Nat.sub_zero, List.length_map, Nat.min_eq_left h]
  unfold resD
  rw [List.map_take]
theorem sl_drop {row : List Nat} {i : Nat} (h : i ≤ row.length) : slD (resD row) (some ((i : Nat) : Int)) none = some (.val (resD (row.drop i))) := by
  show some (Opd.val (PyData.tuple (cutD (row.map nD) (some ((i : Nat) : Int)) none))) = _
  unfold cutD
  rw [show HT.sIx (row.map nD).length (row.map nD).length none = (row.map nD).length from rfl, HT.sIx_nat, List.length_map, Nat.min_eq_left h]
  unfold resD
  rw [List.map_drop, List.take_of_length_le (by rw [List.length_drop, List.length_map]; exact Nat.le_refl _)]
theorem addRows {a b : List Nat} (h : a.length + b.length ≤ 10000) : addD (resD a) (resD b) = some (.val (resD (a ++ b))) := by
  unfold resD
  rw [addD_t, if_pos (by rw [List.length_map, List.length_map]; omega), List.map_append]
theorem half (l : Nat) : fdivD (.int (l : Nat)) (.int 2) = some (.val (.int ((l / 2 : Nat)))) := by
  have e : ((l : Nat) : Int) / 2 = ((l / 2 : Nat) : Int) := by omega
  rw [← e]
  generalize ((l : Nat) : Int) = k
  unfold fdivD opI
  dsimp only
  have hd : divOk k 2 = true := show (decide ((0 : Int) < 2) && decide ((2 : Int).natAbs.log2 < 9000)) = true by decide
  rw [if_pos hd]
theorem told_all {L : Lab} (ok : LabOk L) {s len : Nat} (hs : s < L.n) (hl : len ≤ 3) (i : Nat) (x : D) (h : ((allR L len s).map fun p => resD p.1)[i]? = some x) : okOf m__law_told [L.D, .int 1, .int (s : Nat), .int (len : Nat), .int (i : Nat)] = some x := by
  rw [List.getElem?_map] at h
  obtain ⟨p, hp, rfl⟩ := Option.map_eq_some_iff.mp h
  obtain ⟨h1, h2, h3, h4⟩ := (all_good L len s).2 i p hp
  have e := at_ok ok hs (by omega) h2 h3
  rw [h1, h4] at e
  exact told1 e (.ok _)
theorem all_like {L : Lab} (ok : LabOk L) (k5 : L.k ≤ 5) {s len : Nat} (hl : len ≤ 3) : ((allR L len s).map fun p => resD p.1).length ≤ 125 ∧ m__law_like [.list ((allR L len s).map fun p => resD p.1), .list ((allR L len s).map fun p => resD p.1)] = some (.bool true) := by
  have hlen : ((allR L len s).map fun p => resD p.1).length ≤ 125 := by
    rw [List.length_map, (all_good L len s).1]
    exact Nat.le_trans (cnt_le k5 len s) (Nat.pow_le_pow_right (by decide) hl)
  refine ⟨hlen, Pl.like (Pl.lst (d := 1) (b := 3 * 152 + 6) hlen fun z hz => ?_)⟩
  obtain ⟨p, hp, rfl⟩ := List.mem_map.mp hz
  obtain ⟨i, hi⟩ := List.mem_iff_getElem?.mp hp
  obtain ⟨h1, h2, h3, h4⟩ := (all_good L len s).2 i p hi
  exact row_pl ok h3 (by omega)
def LI (ns : List Int) (i : Nat) (s : Stt DrawSt) : Prop := ∃ w2 w3 w4 w5 w6 w7 w8 w9 w11 w12 w13 w14 st, s = lE ns w2 w3 w4 w5 w6 w7 w8 w9 w11 w12 w13 w14 st ∧ StOk (i * 2000) st ∧ (i = 0 ∨ ∃ L, LabOk L ∧ L.k ≤ 5 ∧ w3 = some (.d L.D) ∧ w5 = some (.d (cntsD L 201)))
theorem law_ev {ns : List Int} {dr : DrawSt} (o : StOk 0 dr) : Ev F_law (⟨some (.s ns) :: some .h :: List.replicate 14 none, dr⟩ : Stt DrawSt) fun o _ => o = .rt (.bool true) := by
  have g2 : rgOk 0 2 = true := by decide +kernel
  have hD := fun (L : Int) (h1 : 0 < L) (h2 : L < 1000) => draw_small h1 h2
  have hL := fun (n m : Nat) (a : 1 ≤ n) (b : n ≤ 8) (c : 1 ≤ m) (d : m ≤ 8) => lab_dw a b c d
  have hC := fun (L : Lab) (ok : LabOk L) => lcounts_ok ok (len := 201) (by decide)
  have hO := fun (xs : List D) (h : xs ≠ []) (hl : xs.length < 1000) => of_dw h hl
  have hN := fun (L : Lab) (ok : LabOk L) (k5 : L.k ≤ 5) (s len k : Nat) (hs : s < L.n) (hl : len ≤ 200) (st : DrawSt) (o : StOk k st) (hk : k ≤ 800000) => numbers_ok ok k5 hs hl o hk
  have hA := fun (L : Lab) (ok : LabOk L) (s len : Nat) (hs : s < L.n) (hl : len ≤ 3) => allrows_ok ok hs hl
  have hT := fun (L : Lab) (ok : LabOk L) (s len : Nat) (hs : s < L.n) (hl : len ≤ 3) => told_all ok hs hl
  have hK := fun (L : Lab) (ok : LabOk L) (k5 : L.k ≤ 5) (s len : Nat) (hl : len ≤ 3) => all_like ok k5 (s := s) hl
  have hR := fun (L : Lab) (ok : LabOk L) (k5 : L.k ≤ 5) (s : Nat) (row : List Nat) (hs : s < L.n) (hi : In L row) (hl : row.length ≤ 200) => row_right ok k5 hs hi hl
  have hF := fun (L : Lab) (ok : LabOk L) (s : Nat) (row : List Nat) (hs : s < L.n) (hi : In L row) (hl : row.length ≤ 300) (st : DrawSt) => refused_ok ok hs hi hl st
  have hG := fun (L : Lab) (ok : LabOk L) (s len : Nat) (hs : s < L.n) (hl : len ≤ 300) => goes_dw ok hs hl
  have hM := fun (L : Lab) (ok : LabOk L) (row : List Nat) (hs : 0 < L.n) (hi : In L row) (hl : row.length ≤ 200) (hf : Free L 0 row) => lnumber_ok ok (len := 201) hs hi (show row.length ≤ 1000 by omega) (by omega) hf
  have hS := fun (L : Lab) (ok : LabOk L) (row : List Nat) (hs : 0 < L.n) (hi : In L row) (hl : row.length ≤ 1000) => lstop_ok ok hs hi hl
  have hZ : ∀ (L : Lab) (ok : LabOk L) (k5 : L.k ≤ 5) (row : List Nat) (e : Nat), In L row → row.length ≤ 202 → Goes L 0 row e → e < L.n → ∃ c, (¬ 200 < row.length → m__law_number [cntsD L 201, L.D, .int 0, resD row] = some c) ∧ okOf m__law_told [L.D, .int 2, .int 0, resD row, .int 0] = some (dueV (decide (200 < row.length)) (resD row) c) ∧ okOf m__law_told [L.D, .int 3, .int 0, resD row, .int 0] = some (.int (e : Nat)) ∧ okOf m__law_told [L.D, .int 4, .int 0, resD row, .int 0] = some .none ∧
      m__law_like [.list [dueV (decide (200 < row.length)) (resD row) c, .int (e : Nat), .none], .list [dueV (decide (200 < row.length)) (resD row) c, .int (e : Nat), .none]] = some (.bool true) := by
    intro L ok k5 row e hi hl hg he
    have n1 := ok.n1
    have n8 := ok.n8
    have hs : 0 < L.n := n1
    have hf := goes_free hg
    have c1 : (stopN L 0 row).1 = row.length := by rw [show stopN L 0 row = _ from hg]
    have c2 : (stopN L 0 row).2 = e := by rw [show stopN L 0 row = _ from hg]
    have e3 := end_ok ok hs hi (show row.length ≤ 1000 by omega)
    have e4 := rstop_ok ok hs hi (show row.length ≤ 1000 by omega)
    rw [if_pos c1] at e3 e4
    rw [c2] at e3
    have pe : Pl 0 150 (.int (e : Nat)) := pl_nat (Nat.lt_of_lt_of_le (show e < 8 by omega) (by decide))
    by_cases c : 200 < row.length
    · refine ⟨.none, fun h => absurd c h, ?_, told3 e3 (.ok _), told4 e4 (.ok _), ?_⟩
      · rw [decide_eq_true c]
        exact told2 (place_long ok hs hi (by omega) c) (.row _)
      · rw [decide_eq_true c]
        have rp := two_pl pl_row (row_pl (m := 202) ok hi hl)
        refine Pl.like (Pl.lst (m := 3) (Nat.le_refl _) fun z hz => ?_) (d := 3) (b := 3 * (2 * (202 * 152 + 6 + 2) + 6 + 2) + 6)
        simp only [List.mem_cons, List.not_mem_nil, or_false] at hz
        rcases hz with rfl | rfl | rfl
        · exact rp
        · exact pe.mono (by decide) (by decide)
        · exact Pl.non.mono (by decide) (by decide)
    · have hr : rankN L 0 row < 10 ^ 150 := Nat.lt_trans (rank_lt L row 0 hf hi) (Nat.lt_trans (cnt_big k5 (by omega)) (by decide +kernel))
      refine ⟨.int (rankN L 0 row : Nat), fun _ => hM L ok row hs hi (by omega) hf, ?_, told3 e3 (.ok _), told4 e4 (.ok _), ?_⟩
      · rw [decide_eq_false c]
        exact told2 (place_ok ok hs hi (by omega) hf) (.ok _)
      · rw [decide_eq_false c]
        refine Pl.like (Pl.lst (m := 3) (Nat.le_refl _) fun z hz => ?_) (d := 1) (b := 3 * (150 + 2) + 6)
        simp only [List.mem_cons, List.not_mem_nil, or_false] at hz
        rcases hz with rfl | rfl | rfl
        · exact pl_nat hr
        · exact pe
        · exact Pl.non
  unfold F_law
  generalize m__law_draw = fd at hD ⊢
  generalize m__law_lab = fl at hL ⊢
  generalize m__law_counts = fc at hC ⊢
  generalize m__law_of = fo at hO ⊢
  generalize m__law_numbers_right = fn at hN ⊢
  generalize m__law_all_rows = fa at hA ⊢
  generalize okOf m__law_told = ft at hT hZ ⊢
  generalize m__law_like = fk at hK hZ ⊢
  generalize m__law_row_right = fr at hR ⊢
  generalize m__law_refused = ff at hF ⊢
  generalize m__law_goes = fg at hG ⊢
  generalize m__law_number = fm at hM hZ ⊢
  generalize m__law_stop = fs at hS ⊢
  refine Ev.seqN (Ev.loop ⟨rgN 2, _, rfl, ?_⟩)
  refine Ev.for_ (LI ns) ?_ ?_ ⟨none, none, none, none, none, none, none, none, none, none, none, none, dr, rfl, by rw [Nat.zero_mul]; exact o, .inl rfl⟩
  · rintro i x s hx ⟨w2, w3, w4, w5, w6, w7, w8, w9, w11, w12, w13, w14, st, rfl, o, _⟩
    obtain ⟨hi2, rfl⟩ := rgN_some hx
    have ib : i * 2000 ≤ 2000 := by omega
    refine Ev.bnd ⟨(), lE ns (some (.d (.int (i : Nat)))) w3 w4 w5 w6 w7 w8 w9 w11 w12 w13 w14 st, rfl, ?_⟩
    obtain ⟨d, s1, e1, ⟨a, ha, rfl⟩, o1⟩ := hD 6 (by omega) (by omega) _ st o (by omega)
    obtain ⟨d, s2, e2, ⟨b, hb, rfl⟩, o2⟩ := hD 5 (by omega) (by omega) _ s1 o1 (by omega)
    obtain ⟨d, s3, e3, ⟨L, rfl, ok, Ln, Lk⟩, o3⟩ := hL (1 + a) (1 + b) (by omega) (by omega) (by omega) (by omega) _ s2 o2 (by omega)
    have k5 : L.k ≤ 5 := by omega
    have n1 := ok.n1
    have n8 := ok.n8
    have k1 := ok.k1
    refine Ev.seqN ⟨.nx, _, q1 e1 e2 (by rw [Int.natCast_add, Int.natCast_add] at e3; exact e3), rfl, ?_⟩
    obtain ⟨d, s4, e4, ⟨st0, hst0, rfl⟩, o4⟩ := hD (L.n : Nat) (by omega) (by omega) _ s3 o3 (by omega)
    have hst : st0 < L.n := by omega
    refine Ev.seqN ⟨.nx, _, q2 (lab_0 L) (meets_len L) e4 (hC L ok), rfl, ?_⟩
    obtain ⟨d, s5, e5, ⟨a5, h5, rfl⟩, o5⟩ := hD 4 (by omega) (by omega) _ s4 o4 (by omega)
    obtain ⟨d, s6, e6, ⟨a6, h6, rfl⟩, o6⟩ := hD 40 (by omega) (by omega) _ s5 o5 (by omega)
    obtain ⟨d, s7, e7, ⟨a7, h7, rfl⟩, o7⟩ := hD 201 (by omega) (by omega) _ s6 o6 (by omega)
    obtain ⟨d, s8, e8, hd8, o8⟩ := hO [.int (a5 : Nat), .int (a6 : Nat), .int 200, .int (a7 : Nat)] (fun z => by cases z) (show 4 < 1000 by decide) _ s7 o7 (by omega)
    obtain ⟨len, hlen, rfl⟩ : ∃ len : Nat, len ≤ 200 ∧ d = .int (len : Nat) := by
      simp only [List.mem_cons, List.not_mem_nil, or_false] at hd8
      rcases hd8 with rfl | rfl | rfl | rfl
      · exact ⟨a5, by omega, rfl⟩
      · exact ⟨a6, by omega, rfl⟩
      · exact ⟨200, by omega, rfl⟩
      · exact ⟨a7, by omega, rfl⟩
    refine Ev.seqN ⟨.nx, _, q3 e5 e6 e7 e8, rfl, ?_⟩
    obtain ⟨s9, e9, o9⟩ := hN L ok k5 st0 len _ hst hlen s8 o8 (by omega)
    refine Ev.seqN ⟨.nx, _, q4 e9, rfl, ?_⟩
    obtain ⟨d, s10, e10, ⟨sm, hsm, rfl⟩, o10⟩ := hD 4 (by omega) (by omega) _ s9 o9 (by omega)
    refine Ev.seqN ⟨.nx, _, q5 e10, rfl, ?_⟩
    have hsm3 : sm ≤ 3 := by omega
    obtain ⟨hal, hak⟩ := hK L ok k5 st0 sm hsm3
    have hat := hT L ok st0 sm hst hsm3
    have haa := hA L ok st0 sm hst hsm3
    generalize (allR L sm st0).map (fun p => resD p.1) = due at hal hak hat haa
    refine Ev.seqN ⟨.nx, _, q6 haa, rfl, ?_⟩
    refine Ev.seqN ⟨.nx, _, q7 (by omega) hat, rfl, ?_⟩
    refine Ev.seqN ⟨.nx, _, q8 hak, rfl, ?_⟩
    obtain ⟨d, s11, e11, ⟨lr, hlr, rfl⟩, o11⟩ := hD 30 (by omega) (by omega) _ s10 o10 (by omega)
    obtain ⟨d, s12, e12, ⟨row, en, rfl, hin, hrl, hgo, hen⟩, o12⟩ := hG L ok st0 lr hst (by omega) _ s11 o11 (by omega)
    refine Ev.seqN ⟨.nx, _, q9 e11 e12, rfl, ?_⟩
    obtain ⟨d, s13, e13, ⟨ci, hci, rfl⟩, o13⟩ := hD ((row.length : Nat) + 1) (by omega) (by omega) _ s12 o12 (by omega)
    obtain ⟨d, s14, e14, ⟨u, hu, rfl⟩, o14⟩ := hD (L.k : Nat) (by omega) (by omega) _ s13 o13 (by omega)
    have hbent : In L (row.take ci ++ [u] ++ row.drop (row.length / 2)) := by
      intro t ht
      rcases List.mem_append.mp ht with q | q
      · rcases List.mem_append.mp q with q | q
        · exact hin t (List.mem_of_mem_take q)
        · rw [List.mem_singleton] at q
          omega
      · exact hin t (List.mem_of_mem_drop q)
    have hbl : (row.take ci ++ [u] ++ row.drop (row.length / 2)).length ≤ 200 := by
      rw [List.length_append, List.length_append, List.length_take, List.length_drop]
      show min ci row.length + 1 + _ ≤ 200
      omega
    refine Ev.seqN ⟨.nx, _, q10 (lab_0 L) (meets_at (s := 0) (by omega)) (mrow_len L 0) (resD_len row) e13 (sl_take (by omega)) e14 (addRow (by rw [List.length_take]; omega)) (half row.length) (sl_drop (by omega)) (addRows (by
      rw [List.length_append, List.length_take, List.length_drop]
      show min ci row.length + 1 + _ ≤ 10000
      omega)), rfl, ?_⟩
    refine Ev.seqN ⟨.nx, _, q11 (hR L ok k5 st0 row hst hin (by omega)) (hR L ok k5 st0 _ hst hbent hbl), rfl, ?_⟩
    refine ⟨.nx, _, q12 (hF L ok st0 row hst hin (by omega) s14), ?_⟩
    exact ⟨_, _, _, _, _, _, _, _, _, _, _, _, s14, rfl, o14.mono (by omega), .inr ⟨L, ok, k5, rfl, rfl⟩⟩
  · rintro s ⟨w2, w3, w4, w5, w6, w7, w8, w9, w11, w12, w13, w14, st, rfl, o, hL2⟩
    obtain ⟨L, ok, k5, rfl, rfl⟩ := hL2.resolve_left (by rw [rgN_len]; decide)
    rw [rgN_len] at o
    have n1 := ok.n1
    refine ⟨rfl, ?_⟩
    obtain ⟨d, s1, e1, ⟨a, ha, rfl⟩, o1⟩ := hD 4 (by omega) (by omega) _ st o (by omega)
    obtain ⟨d, s2, e2, ⟨row, en, rfl, hin, hrl, hgo, hen⟩, o2⟩ := hG L ok 0 (199 + a) (by omega) (by omega) _ s1 o1 (by omega)
    obtain ⟨c, c1, c2, c3, c4, c5⟩ := hZ L ok k5 row en hin (by omega) hgo hen
    have hst := hS L ok row (by omega) hin (by omega)
    rw [show stopN L 0 row = (row.length, en) from hgo] at hst
    refine Ev.seqN ⟨.nx, _, r1 e1 (by rw [Int.natCast_add] at e2; exact e2), rfl, ?_⟩
    refine Ev.seqN ⟨.nx, _, r2 (b := decide (200 < row.length)) (c := c) (resD_len row) (by
      rw [gtD_i]
      congr 3
      exact decide_eq_decide.mpr (by omega)) (fun h => c1 (of_decide_eq_false h)), rfl, ?_⟩
    refine Ev.seqN ⟨.nx, _, r3 hst, rfl, ?_⟩
    refine Ev.seqN ⟨.nx, _, r4 c2 c3 c4, rfl, ?_⟩
    obtain ⟨s', e⟩ := r5 (ns := ns) (w2 := w2) (w3 := some (.d L.D)) (w4 := w4) (w5 := some (.d (cntsD L 201))) (w6 := w6) (w7 := w7) (w12 := w12) (d0 := s2) (row := resD row) (p := nD row.length) (l := nD en) (c := c) (b := decide (200 < row.length)) (resD_len row) (by
      show eqD (.int _) (.int _) = _
      rw [eqD_i]
      simp) c5
    exact ⟨_, s', e, rfl⟩
theorem law_math : RunsTrue 14 m__law_folded F_law := by
  intro ns hl
  obtain ⟨cs, e1, hc⟩ := folded_ok ns
  refine ⟨cs, ?_⟩
  have o0 : StOk 0 ⟨cs, greatOf ns, 0⟩ := ⟨hc.1, hc.2, Int.le_refl _, Int.le_refl _⟩
  obtain ⟨o, s', e, rfl⟩ := law_ev (ns := ns) o0
  exact ⟨s', e1, e⟩
end LW
end

section
set_option Elab.async false
set_option linter.all false
set_option maxRecDepth 100000
set_option maxHeartbeats 3999999
open DL L2 PySem PyProof.Rows PySem.Spec
namespace LW
theorem mC {α : Type} {a b : α} {l : List α} (h : a ∈ l) : a ∈ b :: l := List.mem_cons_of_mem _ h
def fns : List He.DefD := [⟨("is_whole", none), "is_whole", "is_whole", defArgs s_is_whole, defBody s_is_whole, defScope s_is_whole, [], []⟩, ⟨("is_within", none), "is_within", "is_within", defArgs s_is_within, defBody s_is_within, defScope s_is_within, [], []⟩, ⟨("is_tuple_of", none), "is_tuple_of", "is_tuple_of", defArgs s_is_tuple_of, defBody s_is_tuple_of, defScope s_is_tuple_of, [], []⟩, ⟨("need_number", none), "need_number", "need_number", defArgs s_need_number, defBody s_need_number, defScope s_need_number, [], []⟩, ⟨("is_tuple_to", none), "is_tuple_to", "is_tuple_to", defArgs s_is_tuple_to, defBody s_is_tuple_to, defScope s_is_tuple_to, [], []⟩, ⟨("first_descent", none), "first_descent", "first_descent", defArgs s_first_descent, defBody s_first_descent, defScope s_first_descent, [], []⟩, ⟨("meets_fault", none), "meets_fault", "meets_fault", defArgs s_meets_fault, defBody s_meets_fault, defScope s_meets_fault, [], []⟩, ⟨("wash_fault", none), "wash_fault", "wash_fault", defArgs s_wash_fault, defBody s_wash_fault, defScope s_wash_fault, [], []⟩, ⟨("lab_fault", none), "lab_fault", "lab_fault", defArgs s_lab_fault, defBody s_lab_fault, defScope s_lab_fault, [], []⟩, ⟨("need_lab", none), "need_lab", "need_lab", defArgs s_need_lab, defBody s_need_lab, defScope s_need_lab, [], []⟩, ⟨("need_state", none), "need_state", "need_state", defArgs s_need_state, defBody s_need_state, defScope s_need_state, [], []⟩, ⟨("is_stuffs", none), "is_stuffs", "is_stuffs", defArgs s_is_stuffs, defBody s_is_stuffs, defScope s_is_stuffs, [], []⟩, ⟨("free_stop", none), "free_stop", "free_stop", defArgs s_free_stop, defBody s_free_stop, defScope s_free_stop, [], []⟩, ⟨("row_end", none), "row_end", "row_end", defArgs s_row_end, defBody s_row_end, defScope s_row_end, [], []⟩, ⟨("row_stop", none), "row_stop", "row_stop", defArgs s_row_stop, defBody s_row_stop, defScope s_row_stop, [], []⟩, ⟨("need_stuffs", none), "need_stuffs", "need_stuffs", defArgs s_need_stuffs, defBody s_need_stuffs, defScope s_need_stuffs, [], []⟩, ⟨("row_counts", none), "row_counts", "row_counts", defArgs s_row_counts, defBody s_row_counts, defScope s_row_counts, [], []⟩, ⟨("free_row_count", none), "free_row_count", "free_row_count", defArgs s_free_row_count, defBody s_free_row_count, defScope s_free_row_count, [], []⟩, ⟨("free_row_at", none), "free_row_at", "free_row_at", defArgs s_free_row_at, defBody s_free_row_at, defScope s_free_row_at, [], []⟩, ⟨("next_touch", none), "next_touch", "next_touch", defArgs s_next_touch, defBody s_next_touch, defScope s_next_touch, [], []⟩, ⟨("free_row_place", none), "free_row_place", "free_row_place", defArgs s_free_row_place, defBody s_free_row_place, defScope s_free_row_place, [], []⟩, ⟨("_law_mixed", none), "_law_mixed", "_law_mixed", defArgs s__law_mixed, defBody s__law_mixed, defScope s__law_mixed, [], []⟩, ⟨("_law_folded", none), "_law_folded", "_law_folded", defArgs s__law_folded, defBody s__law_folded, defScope s__law_folded, [], []⟩, ⟨("_law_draw", none), "_law_draw", "_law_draw", defArgs s__law_draw, defBody s__law_draw, defScope s__law_draw, [], []⟩, ⟨("_law_begun", none), "_law_begun", "_law_begun", defArgs s__law_begun, defBody s__law_begun, defScope s__law_begun, [], []⟩, ⟨("_law_like", none), "_law_like", "_law_like", defArgs s__law_like, defBody s__law_like, defScope s__law_like, [], []⟩, ⟨("_law_of", none), "_law_of", "_law_of", defArgs s__law_of, defBody s__law_of, defScope s__law_of, [], []⟩, ⟨("_law_is_int", none), "_law_is_int", "_law_is_int", defArgs s__law_is_int, defBody s__law_is_int, defScope s__law_is_int, [], []⟩, ⟨("_law_order", none), "_law_order", "_law_order", defArgs s__law_order, defBody s__law_order, defScope s__law_order, [], []⟩, ⟨("_law_some", none), "_law_some", "_law_some", defArgs s__law_some, defBody s__law_some, defScope s__law_some, [], []⟩, ⟨("_law_meets", none), "_law_meets", "_law_meets", defArgs s__law_meets, defBody s__law_meets, defScope s__law_meets, [], []⟩, ⟨("_law_washes", none), "_law_washes", "_law_washes", defArgs s__law_washes, defBody s__law_washes, defScope s__law_washes, [], []⟩, ⟨("_law_lab", none), "_law_lab", "_law_lab", defArgs s__law_lab, defBody s__law_lab, defScope s__law_lab, [], []⟩, ⟨("_law_counts", none), "_law_counts", "_law_counts", defArgs s__law_counts, defBody s__law_counts, defScope s__law_counts, [], []⟩, ⟨("_law_stop", none), "_law_stop", "_law_stop", defArgs s__law_stop, defBody s__law_stop, defScope s__law_stop, [], []⟩, ⟨("_law_all_rows", none), "_law_all_rows", "_law_all_rows", defArgs s__law_all_rows, defBody s__law_all_rows, defScope s__law_all_rows, [], []⟩, ⟨("_law_number", none), "_law_number", "_law_number", defArgs s__law_number, defBody s__law_number, defScope s__law_number, [], []⟩, ⟨("_law_goes", none), "_law_goes", "_law_goes", defArgs s__law_goes, defBody s__law_goes, defScope s__law_goes, [], []⟩, ⟨("_law_told", none), "_law_told", "_law_told", defArgs s__law_told, defBody s__law_told, defScope s__law_told, [], []⟩, ⟨("_law_row_right", none), "_law_row_right", "_law_row_right", defArgs s__law_row_right, defBody s__law_row_right, defScope s__law_row_right, [], []⟩, ⟨("_law_numbers_right", none), "_law_numbers_right", "_law_numbers_right", defArgs s__law_numbers_right, defBody s__law_numbers_right, defScope s__law_numbers_right, [], []⟩, ⟨("_law_refused", none), "_law_refused", "_law_refused", defArgs s__law_refused, defBody s__law_refused, defScope s__law_refused, [], []⟩, ⟨("law", none), "law", "law", defArgs s_law, defBody s_law, defScope s_law, [], []⟩]
def fas : List He.Fa := [.glo "is_whole", .glo "is_within", .glo "is_tuple_of", .glo "need_number", .glo "is_tuple_to", .glo "first_descent", .glo "meets_fault", .glo "wash_fault", .glo "lab_fault", .glo "need_lab", .glo "need_state", .glo "is_stuffs", .glo "free_stop", .glo "row_end", .glo "row_stop", .glo "need_stuffs", .glo "row_counts", .glo "free_row_count", .glo "free_row_at", .glo "next_touch", .glo "free_row_place", .glo "_law_mixed", .glo "_law_folded", .glo "_law_draw", .glo "_law_begun", .glo "_law_like", .glo "_law_of", .glo "_law_is_int", .glo "_law_order", .glo "_law_some", .glo "_law_meets", .glo "_law_washes", .glo "_law_lab", .glo "_law_counts", .glo "_law_stop", .glo "_law_all_rows", .glo "_law_number", .glo "_law_goes", .glo "_law_told", .glo "_law_row_right", .glo "_law_numbers_right", .glo "_law_refused", .glo "law", .free "all", .free "bool", .free "enumerate", .free "int", .free "isinstance", .free "len", .free "list", .free "min", .free "range", .free "repr", .free "sorted", .free "sum", .free "tuple", .int "MOST_ARMS" (3), .int "MOST_LONG" (200), .int "MOST_RESULTS" (3), .int "MOST_STATES" (8), .int "MOST_STUFFS" (8), .int "MOST_TICKS" (6), .int "MOST_TOOLS" (3), .int "MOST_WASHES" (3), .int "MOST_ZONES" (4), .glo "BadNumber", .glo "BadLength", .glo "BadLab", .glo "BadState", .glo "BadRow", .exm "BadNumber" "BadNumber" true, .exm "BadNumber" "BadLength" false, .exm "BadNumber" "BadLab" false, .exm "BadNumber" "BadState" false, .exm "BadNumber" "BadRow" false, .exm "BadLength" "BadNumber" false, .exm "BadLength" "BadLength" true, .exm "BadLength" "BadLab" false, .exm "BadLength" "BadState" false, .exm "BadLength" "BadRow" false, .exm "BadLab" "BadNumber" false, .exm "BadLab" "BadLength" false, .exm "BadLab" "BadLab" true, .exm "BadLab" "BadState" false, .exm "BadLab" "BadRow" false, .exm "BadState" "BadNumber" false, .exm "BadState" "BadLength" false, .exm "BadState" "BadLab" false, .exm "BadState" "BadState" true, .exm "BadState" "BadRow" false, .exm "BadRow" "BadNumber" false, .exm "BadRow" "BadLength" false, .exm "BadRow" "BadLab" false, .exm "BadRow" "BadState" false, .exm "BadRow" "BadRow" true]
def css : List (Str × D) := []
theorem prs_in : ∀ p ∈ prsT, He.Fa.exm p.1 p.2.1 p.2.2 ∈ fas ∧ He.Fa.glo p.1 ∈ fas ∧ He.Fa.glo p.2.1 ∈ fas := (List.forall_mem_cons.mpr ⟨⟨(mC (mC (mC (mC (mC (mC (mC (mC (mC (mC (mC (mC (mC (mC (mC (mC (mC (mC (mC (mC (mC (mC (mC (mC (mC (mC (mC (mC (mC (mC (mC (mC (mC (mC (mC (mC (mC (mC (mC (mC (mC (mC (mC (mC (mC (mC (mC (mC (mC (mC (mC (mC (mC (mC (mC (mC (mC (mC (mC (mC (mC (mC (mC (mC (mC (mC (mC (mC (mC (mC List.mem_cons_self)))))))))))))))))))))))))))))))))))))))))))))))))))))))))))))))))))))), (mC (mC (mC (mC (mC (mC (mC (mC (mC (mC (mC (mC (mC (mC (mC (mC (mC (mC (mC (mC (mC (mC (mC (mC (mC (mC (mC (mC (mC (mC (mC (mC (mC (mC (mC (mC (mC (mC (mC (mC (mC (mC (mC (mC (mC (mC (mC (mC (mC (mC (mC (mC (mC (mC (mC (mC (mC (mC (mC (mC (mC (mC (mC (mC (mC List.mem_cons_self))))))))))))))))))))))))))))))))))))))))))))))))))))))))))))))))), (mC (mC (mC (mC (mC (mC (mC (mC (mC (mC (mC (mC (mC (mC (mC (mC (mC (mC (mC (mC (mC (mC (mC (mC (mC (mC (mC (mC (mC (mC (mC (mC (mC (mC (mC (mC (mC (mC (mC (mC (mC (mC (mC (mC (mC (mC (mC (mC (mC (mC (mC (mC (mC (mC (mC (mC (mC (mC (mC (mC (mC (mC (mC (mC (mC List.mem_cons_self)))))))))))))))))))))))))))))))))))))))))))))))))))))))))))))))))⟩,
 (List.forall_mem_cons.mpr ⟨⟨(mC (mC (mC (mC (mC (mC (mC (mC (mC (mC (mC (mC (mC (mC (mC (mC (mC (mC (mC (mC (mC (mC (mC (mC (mC (mC (mC (mC (mC (mC (mC (mC (mC (mC (mC (mC (mC (mC (mC (mC (mC (mC (mC (mC (mC (mC (mC (mC (mC (mC (mC (mC (mC (mC (mC (mC (mC (mC (mC (mC (mC (mC (mC (mC (mC (mC (mC (mC (mC (mC (mC List.mem_cons_self))))))))))))))))))))))))))))))))))))))))))))))))))))))))))))))))))))))), (mC (mC (mC (mC (mC (mC (mC (mC (mC (mC (mC (mC (mC (mC (mC (mC (mC (mC (mC (mC (mC (mC (mC (mC (mC (mC (mC (mC (mC (mC (mC (mC (mC (mC (mC (mC (mC (mC (mC (mC (mC (mC (mC (mC (mC (mC (mC (mC (mC (mC (mC (mC (mC (mC (mC (mC (mC (mC (mC (mC (mC (mC (mC (mC (mC List.mem_cons_self))))))))))))))))))))))))))))))))))))))))))))))))))))))))))))))))), (mC (mC (mC (mC (mC (mC (mC (mC (mC (mC (mC (mC (mC (mC (mC (mC (mC (mC (mC (mC (mC (mC (mC (mC (mC (mC (mC (mC (mC (mC (mC (mC (mC (mC (mC (mC (mC (mC (mC (mC (mC (mC (mC (mC (mC (mC (mC (mC (mC (mC (mC (mC (mC (mC (mC (mC (mC (mC (mC (mC (mC (mC (mC (mC (mC (mC List.mem_cons_self))))))))))))))))))))))))))))))))))))))))))))))))))))))))))))))))))⟩,
 (List.forall_mem_cons.mpr ⟨⟨(mC (mC (mC (mC (mC (mC (mC (mC (mC (mC (mC (mC (mC (mC (mC (mC (mC (mC (mC (mC (mC (mC (mC (mC (mC (mC (mC (mC (mC (mC (mC (mC (mC (mC (mC (mC (mC (mC (mC (mC (mC (mC (mC (mC (mC (mC (mC (mC (mC (mC (mC (mC (mC (mC (mC (mC (mC (mC (mC (mC (mC (mC (mC (mC (mC (mC (mC (mC (mC (mC (mC (mC List.mem_cons_self)))))))))))))))))))))))))))))))))))))))))))))))))))))))))))))))))))))))), (mC (mC (mC (mC (mC (mC (mC (mC (mC (mC (mC (mC (mC (mC (mC (mC (mC (mC (mC (mC (mC (mC (mC (mC (mC (mC (mC (mC (mC (mC (mC (mC (mC (mC (mC (mC (mC (mC (mC (mC (mC (mC (mC (mC (mC (mC (mC (mC (mC (mC (mC (mC (mC (mC (mC (mC (mC (mC (mC (mC (mC (mC (mC (mC (mC List.mem_cons_self))))))))))))))))))))))))))))))))))))))))))))))))))))))))))))))))), (mC (mC (mC (mC (mC (mC (mC (mC (mC (mC (mC (mC (mC (mC (mC (mC (mC (mC (mC (mC (mC (mC (mC (mC (mC (mC (mC (mC (mC (mC (mC (mC (mC (mC (mC (mC (mC (mC (mC (mC (mC (mC (mC (mC (mC (mC (mC (mC (mC (mC (mC (mC (mC (mC (mC (mC (mC (mC (mC (mC (mC (mC (mC (mC (mC (mC (mC List.mem_cons_self)))))))))))))))))))))))))))))))))))))))))))))))))))))))))))))))))))⟩,
 (List.forall_mem_cons.mpr ⟨⟨(mC (mC (mC (mC (mC (mC (mC (mC (mC (mC (mC (mC (mC (mC (mC (mC (mC (mC (mC (mC (mC (mC (mC (mC (mC (mC (mC (mC (mC (mC (mC (mC (mC (mC (mC (mC (mC (mC (mC (mC (mC (mC (mC (mC (mC (mC (mC (mC (mC (mC (mC (mC (mC (mC (mC (mC (mC (mC (mC (mC (mC (mC (mC (mC (mC (mC (mC (mC (mC (mC (mC (mC (mC List.mem_cons_self))))))))))))))))))))))))))))))))))))))))))))))))))))))))))))))))))))))))), (mC (mC (mC (mC (mC (mC (mC (mC (mC (mC (mC (mC (mC (mC (mC (mC (mC (mC (mC (mC (mC (mC (mC (mC (mC (mC (mC (mC (mC (mC (mC (mC (mC (mC (mC (mC (mC (mC (mC (mC (mC (mC (mC (mC (mC (mC (mC (mC (mC (mC (mC (mC (mC (mC (mC (mC (mC (mC (mC (mC (mC (mC (mC (mC (mC List.mem_cons_self))))))))))))))))))))))))))))))))))))))))))))))))))))))))))))))))), (mC (mC (mC (mC (mC (mC (mC (mC (mC (mC (mC (mC (mC (mC (mC (mC (mC (mC (mC (mC (mC (mC (mC (mC (mC (mC (mC (mC (mC (mC (mC (mC (mC (mC (mC (mC (mC (mC (mC (mC (mC (mC (mC (mC (mC (mC (mC (mC (mC (mC (mC (mC (mC (mC (mC (mC (mC (mC (mC (mC (mC (mC (mC (mC (mC (mC (mC (mC List.mem_cons_self))))))))))))))))))))))))))))))))))))))))))))))))))))))))))))))))))))⟩,
 (List.forall_mem_cons.mpr ⟨⟨(mC (mC (mC (mC (mC (mC (mC (mC (mC (mC (mC (mC (mC (mC (mC (mC (mC (mC (mC (mC (mC (mC (mC (mC (mC (mC (mC (mC (mC (mC (mC (mC (mC (mC (mC (mC (mC (mC (mC (mC (mC (mC (mC (mC (mC (mC (mC (mC (mC (mC (mC (mC (mC (mC (mC (mC (mC (mC (mC (mC (mC (mC (mC (mC (mC (mC (mC (mC (mC (mC (mC (mC (mC (mC List.mem_cons_self)))))))))))))))))))))))))))))))))))))))))))))))))))))))))))))))))))))))))), (mC (mC (mC (mC (mC (mC (mC (mC (mC (mC (mC (mC (mC (mC (mC (mC (mC (mC (mC (mC (mC (mC (mC (mC (mC (mC (mC (mC (mC (mC (mC (mC (mC (mC (mC (mC (mC (mC (mC (mC (mC (mC (mC (mC (mC (mC (mC (mC (mC (mC (mC (mC (mC (mC (mC (mC (mC (mC (mC (mC (mC (mC (mC (mC (mC List.mem_cons_self))))))))))))))))))))))))))))))))))))))))))))))))))))))))))))))))), (mC (mC (mC (mC (mC (mC (mC (mC (mC (mC (mC (mC (mC (mC (mC (mC (mC (mC (mC (mC (mC (mC (mC (mC (mC (mC (mC (mC (mC (mC (mC (mC (mC (mC (mC (mC (mC (mC (mC (mC (mC (mC (mC (mC (mC (mC (mC (mC (mC (mC (mC (mC (mC (mC (mC (mC (mC (mC (mC (mC (mC (mC (mC (mC (mC (mC (mC (mC (mC List.mem_cons_self)))))))))))))))))))))))))))))))))))))))))))))))))))))))))))))))))))))⟩,
 (List.forall_mem_cons.mpr ⟨⟨(mC (mC (mC (mC (mC (mC (mC (mC (mC (mC (mC (mC (mC (mC (mC (mC (mC (mC (mC (mC (mC (mC (mC (mC (mC (mC (mC (mC (mC (mC (mC (mC (mC (mC (mC (mC (mC (mC (mC (mC (mC (mC (mC (mC (mC (mC (mC (mC (mC (mC (mC (mC (mC (mC (mC (mC (mC (mC (mC (mC (mC (mC (mC (mC (mC (mC (mC (mC (mC (mC (mC (mC (mC (mC (mC List.mem_cons_self))))))))))))))))))))))))))))))))))))))))))))))))))))))))))))))))))))))))))), (mC (mC (mC (mC (mC (mC (mC (mC (mC (mC (mC (mC (mC (mC (mC (mC (mC (mC (mC (mC (mC (mC (mC (mC (mC (mC (mC (mC (mC (mC (mC (mC (mC (mC (mC (mC (mC (mC (mC (mC (mC (mC (mC (mC (mC (mC (mC (mC (mC (mC (mC (mC (mC (mC (mC (mC (mC (mC (mC (mC (mC (mC (mC (mC (mC (mC List.mem_cons_self)))))))))))))))))))))))))))))))))))))))))))))))))))))))))))))))))), (mC (mC (mC (mC (mC (mC (mC (mC (mC (mC (mC (mC (mC (mC (mC (mC (mC (mC (mC (mC (mC (mC (mC (mC (mC (mC (mC (mC (mC (mC (mC (mC (mC (mC (mC (mC (mC (mC (mC (mC (mC (mC (mC (mC (mC (mC (mC (mC (mC (mC (mC (mC (mC (mC (mC (mC (mC (mC (mC (mC (mC (mC (mC (mC (mC List.mem_cons_self)))))))))))))))))))))))))))))))))))))))))))))))))))))))))))))))))⟩,
 (List.forall_mem_cons.mpr ⟨⟨(mC (mC (mC (mC (mC (mC (mC (mC (mC (mC (mC (mC (mC (mC (mC (mC (mC (mC (mC (mC (mC (mC (mC (mC (mC (mC (mC (mC (mC (mC (mC (mC (mC (mC (mC (mC (mC (mC (mC (mC (mC (mC (mC (mC (mC (mC (mC (mC (mC (mC (mC (mC (mC (mC (mC (mC (mC (mC (mC (mC (mC (mC (mC (mC (mC (mC (mC (mC (mC (mC (mC (mC (mC (mC (mC (mC List.mem_cons_self)))))))))))))))))))))))))))))))))))))))))))))))))))))))))))))))))))))))))))), (mC (mC (mC (mC (mC (mC (mC (mC (mC (mC (mC (mC (mC (mC (mC (mC (mC (mC (mC (mC (mC (mC (mC (mC (mC (mC (mC (mC (mC (mC (mC (mC (mC (mC (mC (mC (mC (mC (mC (mC (mC (mC (mC (mC (mC (mC (mC (mC (mC (mC (mC (mC (mC (mC (mC (mC (mC (mC (mC (mC (mC (mC (mC (mC (mC (mC List.mem_cons_self)))))))))))))))))))))))))))))))))))))))))))))))))))))))))))))))))), (mC (mC (mC (mC (mC (mC (mC (mC (mC (mC (mC (mC (mC (mC (mC (mC (mC (mC (mC (mC (mC (mC (mC (mC (mC (mC (mC (mC (mC (mC (mC (mC (mC (mC (mC (mC (mC (mC (mC (mC (mC (mC (mC (mC (mC (mC (mC (mC (mC (mC (mC (mC (mC (mC (mC (mC (mC (mC (mC (mC (mC (mC (mC (mC (mC (mC List.mem_cons_self))))))))))))))))))))))))))))))))))))))))))))))))))))))))))))))))))⟩,
 (List.forall_mem_cons.mpr ⟨⟨(mC (mC (mC (mC (mC (mC (mC (mC (mC (mC (mC (mC (mC (mC (mC (mC (mC (mC (mC (mC (mC (mC (mC (mC (mC (mC (mC (mC (mC (mC (mC (mC (mC (mC (mC (mC (mC (mC (mC (mC (mC (mC (mC (mC (mC (mC (mC (mC (mC (mC (mC (mC (mC (mC (mC (mC (mC (mC (mC (mC (mC (mC (mC (mC (mC (mC (mC (mC (mC (mC (mC (mC (mC (mC (mC (mC (mC List.mem_cons_self))))))))))))))))))))))))))))))))))))))))))))))))))))))))))))))))))))))))))))), (mC (mC (mC (mC (mC (mC (mC (mC (mC (mC (mC (mC (mC (mC (mC (mC (mC (mC (mC (mC (mC (mC (mC (mC (mC (mC (mC (mC (mC (mC (mC (mC (mC (mC (mC (mC (mC (mC (mC (mC (mC (mC (mC (mC (mC (mC (mC (mC (mC (mC (mC (mC (mC (mC (mC (mC (mC (mC (mC (mC (mC (mC (mC (mC (mC (mC List.mem_cons_self)))))))))))))))))))))))))))))))))))))))))))))))))))))))))))))))))), (mC (mC (mC (mC (mC (mC (mC (mC (mC (mC (mC (mC (mC (mC (mC (mC (mC (mC (mC (mC (mC (mC (mC (mC (mC (mC (mC (mC (mC (mC (mC (mC (mC (mC (mC (mC (mC (mC (mC (mC (mC (mC (mC (mC (mC (mC (mC (mC (mC (mC (mC (mC (mC (mC (mC (mC (mC (mC (mC (mC (mC (mC (mC (mC (mC (mC (mC List.mem_cons_self)))))))))))))))))))))))))))))))))))))))))))))))))))))))))))))))))))⟩,
 (List.forall_mem_cons.mpr ⟨⟨(mC (mC (mC (mC (mC (mC (mC (mC (mC (mC (mC (mC (mC (mC (mC (mC (mC (mC (mC (mC (mC (mC (mC (mC (mC (mC (mC (mC (mC (mC (mC (mC (mC (mC (mC (mC (mC (mC (mC (mC (mC (mC (mC (mC (mC (mC (mC (mC (mC (mC (mC (mC (mC (mC (mC (mC (mC (mC (mC (mC (mC (mC (mC (mC (mC (mC (mC (mC (mC (mC (mC (mC (mC (mC (mC (mC (mC (mC List.mem_cons_self)))))))))))))))))))))))))))))))))))))))))))))))))))))))))))))))))))))))))))))), (mC (mC (mC (mC (mC (mC (mC (mC (mC (mC (mC (mC (mC (mC (mC (mC (mC (mC (mC (mC (mC (mC (mC (mC (mC (mC (mC (mC (mC (mC (mC (mC (mC (mC (mC (mC (mC (mC (mC (mC (mC (mC (mC (mC (mC (mC (mC (mC (mC (mC (mC (mC (mC (mC (mC (mC (mC (mC (mC (mC (mC (mC (mC (mC (mC (mC List.mem_cons_self)))))))))))))))))))))))))))))))))))))))))))))))))))))))))))))))))), (mC (mC (mC (mC (mC (mC (mC (mC (mC (mC (mC (mC (mC (mC (mC (mC (mC (mC (mC (mC (mC (mC (mC (mC (mC (mC (mC (mC (mC (mC (mC (mC (mC (mC (mC (mC (mC (mC (mC (mC (mC (mC (mC (mC (mC (mC (mC (mC (mC (mC (mC (mC (mC (mC (mC (mC (mC (mC (mC (mC (mC (mC (mC (mC (mC (mC (mC (mC List.mem_cons_self))))))))))))))))))))))))))))))))))))))))))))))))))))))))))))))))))))⟩,
 (List.forall_mem_cons.mpr ⟨⟨(mC (mC (mC (mC (mC (mC (mC (mC (mC (mC (mC (mC (mC (mC (mC (mC (mC (mC (mC (mC (mC (mC (mC (mC (mC (mC (mC (mC (mC (mC (mC (mC (mC (mC (mC (mC (mC (mC (mC (mC (mC (mC (mC (mC (mC (mC (mC (mC (mC (mC (mC (mC (mC (mC (mC (mC (mC (mC (mC (mC (mC (mC (mC (mC (mC (mC (mC (mC (mC (mC (mC (mC (mC (mC (mC (mC (mC (mC (mC List.mem_cons_self))))))))))))))))))))))))))))))))))))))))))))))))))))))))))))))))))))))))))))))), (mC (mC (mC (mC (mC (mC (mC (mC (mC (mC (mC (mC (mC (mC (mC (mC (mC (mC (mC (mC (mC (mC (mC (mC (mC (mC (mC (mC (mC (mC (mC (mC (mC (mC (mC (mC (mC (mC (mC (mC (mC (mC (mC (mC (mC (mC (mC (mC (mC (mC (mC (mC (mC (mC (mC (mC (mC (mC (mC (mC (mC (mC (mC (mC (mC (mC List.mem_cons_self)))))))))))))))))))))))))))))))))))))))))))))))))))))))))))))))))), (mC (mC (mC (mC (mC (mC (mC (mC (mC (mC (mC (mC (mC (mC (mC (mC (mC (mC (mC (mC (mC (mC (mC (mC (mC (mC (mC (mC (mC (mC (mC (mC (mC (mC (mC (mC (mC (mC (mC (mC (mC (mC (mC (mC (mC (mC (mC (mC (mC (mC (mC (mC (mC (mC (mC (mC (mC (mC (mC (mC (mC (mC (mC (mC (mC (mC (mC (mC (mC List.mem_cons_self)))))))))))))))))))))))))))))))))))))))))))))))))))))))))))))))))))))⟩,
 (List.forall_mem_cons.mpr ⟨⟨(mC (mC (mC (mC (mC (mC (mC (mC (mC (mC (mC (mC (mC (mC (mC (mC (mC (mC (mC (mC (mC (mC (mC (mC (mC (mC (mC (mC (mC (mC (mC (mC (mC (mC (mC (mC (mC (mC (mC (mC (mC (mC (mC (mC (mC (mC (mC (mC (mC (mC (mC (mC (mC (mC (mC (mC (mC (mC (mC (mC (mC (mC (mC (mC (mC (mC (mC (mC (mC (mC (mC (mC (mC (mC (mC (mC (mC (mC (mC (mC List.mem_cons_self)))))))))))))))))))))))))))))))))))))))))))))))))))))))))))))))))))))))))))))))), (mC (mC (mC (mC (mC (mC (mC (mC (mC (mC (mC (mC (mC (mC (mC (mC (mC (mC (mC (mC (mC (mC (mC (mC (mC (mC (mC (mC (mC (mC (mC (mC (mC (mC (mC (mC (mC (mC (mC (mC (mC (mC (mC (mC (mC (mC (mC (mC (mC (mC (mC (mC (mC (mC (mC (mC (mC (mC (mC (mC (mC (mC (mC (mC (mC (mC (mC List.mem_cons_self))))))))))))))))))))))))))))))))))))))))))))))))))))))))))))))))))), (mC (mC (mC (mC (mC (mC (mC (mC (mC (mC (mC (mC (mC (mC (mC (mC (mC (mC (mC (mC (mC (mC (mC (mC (mC (mC (mC (mC (mC (mC (mC (mC (mC (mC (mC (mC (mC (mC (mC (mC (mC (mC (mC (mC (mC (mC (mC (mC (mC (mC (mC (mC (mC (mC (mC (mC (mC (mC (mC (mC (mC (mC (mC (mC (mC List.mem_cons_self)))))))))))))))))))))))))))))))))))))))))))))))))))))))))))))))))⟩,
 (List.forall_mem_cons.mpr ⟨⟨(mC (mC (mC (mC (mC (mC (mC (mC (mC (mC (mC (mC (mC (mC (mC (mC (mC (mC (mC (mC (mC (mC (mC (mC (mC (mC (mC (mC (mC (mC (mC (mC (mC (mC (mC (mC (mC (mC (mC (mC (mC (mC (mC (mC (mC (mC (mC (mC (mC (mC (mC (mC (mC (mC (mC (mC (mC (mC (mC (mC (mC (mC (mC (mC (mC (mC (mC (mC (mC (mC (mC (mC (mC (mC (mC (mC (mC (mC (mC (mC (mC List.mem_cons_self))))))))))))))))))))))))))))))))))))))))))))))))))))))))))))))))))))))))))))))))), (mC (mC (mC (mC (mC (mC (mC (mC (mC (mC (mC (mC (mC (mC (mC (mC (mC (mC (mC (mC (mC (mC (mC (mC (mC (mC (mC (mC (mC (mC (mC (mC (mC (mC (mC (mC (mC (mC (mC (mC (mC (mC (mC (mC (mC (mC (mC (mC (mC (mC (mC (mC (mC (mC (mC (mC (mC (mC (mC (mC (mC (mC (mC (mC (mC (mC (mC List.mem_cons_self))))))))))))))))))))))))))))))))))))))))))))))))))))))))))))))))))), (mC (mC (mC (mC (mC (mC (mC (mC (mC (mC (mC (mC (mC (mC (mC (mC (mC (mC (mC (mC (mC (mC (mC (mC (mC (mC (mC (mC (mC (mC (mC (mC (mC (mC (mC (mC (mC (mC (mC (mC (mC (mC (mC (mC (mC (mC (mC (mC (mC (mC (mC (mC (mC (mC (mC (mC (mC (mC (mC (mC (mC (mC (mC (mC (mC (mC List.mem_cons_self))))))))))))))))))))))))))))))))))))))))))))))))))))))))))))))))))⟩,
 (List.forall_mem_cons.mpr ⟨⟨(mC (mC (mC (mC (mC (mC (mC (mC (mC (mC (mC (mC (mC (mC (mC (mC (mC (mC (mC (mC (mC (mC (mC (mC (mC (mC (mC (mC (mC (mC (mC (mC (mC (mC (mC (mC (mC (mC (mC (mC (mC (mC (mC (mC (mC (mC (mC (mC (mC (mC (mC (mC (mC (mC (mC (mC (mC (mC (mC (mC (mC (mC (mC (mC (mC (mC (mC (mC (mC (mC (mC (mC (mC (mC (mC (mC (mC (mC (mC (mC (mC (mC List.mem_cons_self)))))))))))))))))))))))))))))))))))))))))))))))))))))))))))))))))))))))))))))))))), (mC (mC (mC (mC (mC (mC (mC (mC (mC (mC (mC (mC (mC (mC (mC (mC (mC (mC (mC (mC (mC (mC (mC (mC (mC (mC (mC (mC (mC (mC (mC (mC (mC (mC (mC (mC (mC (mC (mC (mC (mC (mC (mC (mC (mC (mC (mC (mC (mC (mC (mC (mC (mC (mC (mC (mC (mC (mC (mC (mC (mC (mC (mC (mC (mC (mC (mC List.mem_cons_self))))))))))))))))))))))))))))))))))))))))))))))))))))))))))))))))))), (mC (mC (mC (mC (mC (mC (mC (mC (mC (mC (mC (mC (mC (mC (mC (mC (mC (mC (mC (mC (mC (mC (mC (mC (mC (mC (mC (mC (mC (mC (mC (mC (mC (mC (mC (mC (mC (mC (mC (mC (mC (mC (mC (mC (mC (mC (mC (mC (mC (mC (mC (mC (mC (mC (mC (mC (mC (mC (mC (mC (mC (mC (mC (mC (mC (mC (mC List.mem_cons_self)))))))))))))))))))))))))))))))))))))))))))))))))))))))))))))))))))⟩,
 (List.forall_mem_cons.mpr ⟨⟨(mC (mC (mC (mC (mC (mC (mC (mC (mC (mC (mC (mC (mC (mC (mC (mC (mC (mC (mC (mC (mC (mC (mC (mC (mC (mC (mC (mC (mC (mC (mC (mC (mC (mC (mC (mC (mC (mC (mC (mC (mC (mC (mC (mC (mC (mC (mC (mC (mC (mC (mC (mC (mC (mC (mC (mC (mC (mC (mC (mC (mC (mC (mC (mC (mC (mC (mC (mC (mC (mC (mC (mC (mC (mC (mC (mC (mC (mC (mC (mC (mC (mC (mC List.mem_cons_self))))))))))))))))))))))))))))))))))))))))))))))))))))))))))))))))))))))))))))))))))), (mC (mC (mC (mC (mC (mC (mC (mC (mC (mC (mC (mC (mC (mC (mC (mC (mC (mC (mC (mC (mC (mC (mC (mC (mC (mC (mC (mC (mC (mC (mC (mC (mC (mC (mC (mC (mC (mC (mC (mC (mC (mC (mC (mC (mC (mC (mC (mC (mC (mC (mC (mC (mC (mC (mC (mC (mC (mC (mC (mC (mC (mC (mC (mC (mC (mC (mC List.mem_cons_self))))))))))))))))))))))))))))))))))))))))))))))))))))))))))))))))))), (mC (mC (mC (mC (mC (mC (mC (mC (mC (mC (mC (mC (mC (mC (mC (mC (mC (mC (mC (mC (mC (mC (mC (mC (mC (mC (mC (mC (mC (mC (mC (mC (mC (mC (mC (mC (mC (mC (mC (mC (mC (mC (mC (mC (mC (mC (mC (mC (mC (mC (mC (mC (mC (mC (mC (mC (mC (mC (mC (mC (mC (mC (mC (mC (mC (mC (mC (mC List.mem_cons_self))))))))))))))))))))))))))))))))))))))))))))))))))))))))))))))))))))⟩,
 (List.forall_mem_cons.mpr ⟨⟨(mC (mC (mC (mC (mC (mC (mC (mC (mC (mC (mC (mC (mC (mC (mC (mC (mC (mC (mC (mC (mC (mC (mC (mC (mC (mC (mC (mC (mC (mC (mC (mC (mC (mC (mC (mC (mC (mC (mC (mC (mC (mC (mC (mC (mC (mC (mC (mC (mC (mC (mC (mC (mC (mC (mC (mC (mC (mC (mC (mC (mC (mC (mC (mC (mC (mC (mC (mC (mC (mC (mC (mC (mC (mC (mC (mC (mC (mC (mC (mC (mC (mC (mC (mC List.mem_cons_self)))))))))))))))))))))))))))))))))))))))))))))))))))))))))))))))))))))))))))))))))))), (mC (mC (mC (mC (mC (mC (mC (mC (mC (mC (mC (mC (mC (mC (mC (mC (mC (mC (mC (mC (mC (mC (mC (mC (mC (mC (mC (mC (mC (mC (mC (mC (mC (mC (mC (mC (mC (mC (mC (mC (mC (mC (mC (mC (mC (mC (mC (mC (mC (mC (mC (mC (mC (mC (mC (mC (mC (mC (mC (mC (mC (mC (mC (mC (mC (mC (mC List.mem_cons_self))))))))))))))))))))))))))))))))))))))))))))))))))))))))))))))))))), (mC (mC (mC (mC (mC (mC (mC (mC (mC (mC (mC (mC (mC (mC (mC (mC (mC (mC (mC (mC (mC (mC (mC (mC (mC (mC (mC (mC (mC (mC (mC (mC (mC (mC (mC (mC (mC (mC (mC (mC (mC (mC (mC (mC (mC (mC (mC (mC (mC (mC (mC (mC (mC (mC (mC (mC (mC (mC (mC (mC (mC (mC (mC (mC (mC (mC (mC (mC (mC List.mem_cons_self)))))))))))))))))))))))))))))))))))))))))))))))))))))))))))))))))))))⟩,
 (List.forall_mem_cons.mpr ⟨⟨(mC (mC (mC (mC (mC (mC (mC (mC (mC (mC (mC (mC (mC (mC (mC (mC (mC (mC (mC (mC (mC (mC (mC (mC (mC (mC (mC (mC (mC (mC (mC (mC (mC (mC (mC (mC (mC (mC (mC (mC (mC (mC (mC (mC (mC (mC (mC (mC (mC (mC (mC (mC (mC (mC (mC (mC (mC (mC (mC (mC (mC (mC (mC (mC (mC (mC (mC (mC (mC (mC (mC (mC (mC (mC (mC (mC (mC (mC (mC (mC (mC (mC (mC (mC (mC List.mem_cons_self))))))))))))))))))))))))))))))))))))))))))))))))))))))))))))))))))))))))))))))))))))), (mC (mC (mC (mC (mC (mC (mC (mC (mC (mC (mC (mC (mC (mC (mC (mC (mC (mC (mC (mC (mC (mC (mC (mC (mC (mC (mC (mC (mC (mC (mC (mC (mC (mC (mC (mC (mC (mC (mC (mC (mC (mC (mC (mC (mC (mC (mC (mC (mC (mC (mC (mC (mC (mC (mC (mC (mC (mC (mC (mC (mC (mC (mC (mC (mC (mC (mC (mC List.mem_cons_self)))))))))))))))))))))))))))))))))))))))))))))))))))))))))))))))))))), (mC (mC (mC (mC (mC (mC (mC (mC (mC (mC (mC (mC (mC (mC (mC (mC (mC (mC (mC (mC (mC (mC (mC (mC (mC (mC (mC (mC (mC (mC (mC (mC (mC (mC (mC (mC (mC (mC (mC (mC (mC (mC (mC (mC (mC (mC (mC (mC (mC (mC (mC (mC (mC (mC (mC (mC (mC (mC (mC (mC (mC (mC (mC (mC (mC List.mem_cons_self)))))))))))))))))))))))))))))))))))))))))))))))))))))))))))))))))⟩,
 (List.forall_mem_cons.mpr ⟨⟨(mC (mC (mC (mC (mC (mC (mC (mC (mC (mC (mC (mC (mC (mC (mC (mC (mC (mC (mC (mC (mC (mC (mC (mC (mC (mC (mC (mC (mC (mC (mC (mC (mC (mC (mC (mC (mC (mC (mC (mC (mC (mC (mC (mC (mC (mC (mC (mC (mC (mC (mC (mC (mC (mC (mC (mC (mC (mC (mC (mC (mC (mC (mC (mC (mC (mC (mC (mC (mC (mC (mC (mC (mC (mC (mC (mC (mC (mC (mC (mC (mC (mC (mC (mC (mC (mC List.mem_cons_self)))))))))))))))))))))))))))))))))))))))))))))))))))))))))))))))))))))))))))))))))))))), (mC (mC (mC (mC (mC (mC (mC (mC (mC (mC (mC (mC (mC (mC (mC (mC (mC (mC (mC (mC (mC (mC (mC (mC (mC (mC (mC (mC (mC (mC (mC (mC (mC (mC (mC (mC (mC (mC (mC (mC (mC (mC (mC (mC (mC (mC (mC (mC (mC (mC (mC (mC (mC (mC (mC (mC (mC (mC (mC (mC (mC (mC (mC (mC (mC (mC (mC (mC List.mem_cons_self)))))))))))))))))))))))))))))))))))))))))))))))))))))))))))))))))))), (mC (mC (mC (mC (mC (mC (mC (mC (mC (mC (mC (mC (mC (mC (mC (mC (mC (mC (mC (mC (mC (mC (mC (mC (mC (mC (mC (mC (mC (mC (mC (mC (mC (mC (mC (mC (mC (mC (mC (mC (mC (mC (mC (mC (mC (mC (mC (mC (mC (mC (mC (mC (mC (mC (mC (mC (mC (mC (mC (mC (mC (mC (mC (mC (mC (mC List.mem_cons_self))))))))))))))))))))))))))))))))))))))))))))))))))))))))))))))))))⟩,
 (List.forall_mem_cons.mpr ⟨⟨(mC (mC (mC (mC (mC (mC (mC (mC (mC (mC (mC (mC (mC (mC (mC (mC (mC (mC (mC (mC (mC (mC (mC (mC (mC (mC (mC (mC (mC (mC (mC (mC (mC (mC (mC (mC (mC (mC (mC (mC (mC (mC (mC (mC (mC (mC (mC (mC (mC (mC (mC (mC (mC (mC (mC (mC (mC (mC (mC (mC (mC (mC (mC (mC (mC (mC (mC (mC (mC (mC (mC (mC (mC (mC (mC (mC (mC (mC (mC (mC (mC (mC (mC (mC (mC (mC (mC List.mem_cons_self))))))))))))))))))))))))))))))))))))))))))))))))))))))))))))))))))))))))))))))))))))))), (mC (mC (mC (mC (mC (mC (mC (mC (mC (mC (mC (mC (mC (mC (mC (mC (mC (mC (mC (mC (mC (mC (mC (mC (mC (mC (mC (mC (mC (mC (mC (mC (mC (mC (mC (mC (mC (mC (mC (mC (mC (mC (mC (mC (mC (mC (mC (mC (mC (mC (mC (mC (mC (mC (mC (mC (mC (mC (mC (mC (mC (mC (mC (mC (mC (mC (mC (mC List.mem_cons_self)))))))))))))))))))))))))))))))))))))))))))))))))))))))))))))))))))), (mC (mC (mC (mC (mC (mC (mC (mC (mC (mC (mC (mC (mC (mC (mC (mC (mC (mC (mC (mC (mC (mC (mC (mC (mC (mC (mC (mC (mC (mC (mC (mC (mC (mC (mC (mC (mC (mC (mC (mC (mC (mC (mC (mC (mC (mC (mC (mC (mC (mC (mC (mC (mC (mC (mC (mC (mC (mC (mC (mC (mC (mC (mC (mC (mC (mC (mC List.mem_cons_self)))))))))))))))))))))))))))))))))))))))))))))))))))))))))))))))))))⟩,
 (List.forall_mem_cons.mpr ⟨⟨(mC (mC (mC (mC (mC (mC (mC (mC (mC (mC (mC (mC (mC (mC (mC (mC (mC (mC (mC (mC (mC (mC (mC (mC (mC (mC (mC (mC (mC (mC (mC (mC (mC (mC (mC (mC (mC (mC (mC (mC (mC (mC (mC (mC (mC (mC (mC (mC (mC (mC (mC (mC (mC (mC (mC (mC (mC (mC (mC (mC (mC (mC (mC (mC (mC (mC (mC (mC (mC (mC (mC (mC (mC (mC (mC (mC (mC (mC (mC (mC (mC (mC (mC (mC (mC (mC (mC (mC List.mem_cons_self)))))))))))))))))))))))))))))))))))))))))))))))))))))))))))))))))))))))))))))))))))))))), (mC (mC (mC (mC (mC (mC (mC (mC (mC (mC (mC (mC (mC (mC (mC (mC (mC (mC (mC (mC (mC (mC (mC (mC (mC (mC (mC (mC (mC (mC (mC (mC (mC (mC (mC (mC (mC (mC (mC (mC (mC (mC (mC (mC (mC (mC (mC (mC (mC (mC (mC (mC (mC (mC (mC (mC (mC (mC (mC (mC (mC (mC (mC (mC (mC (mC (mC (mC List.mem_cons_self)))))))))))))))))))))))))))))))))))))))))))))))))))))))))))))))))))), (mC (mC (mC (mC (mC (mC (mC (mC (mC (mC (mC (mC (mC (mC (mC (mC (mC (mC (mC (mC (mC (mC (mC (mC (mC (mC (mC (mC (mC (mC (mC (mC (mC (mC (mC (mC (mC (mC (mC (mC (mC (mC (mC (mC (mC (mC (mC (mC (mC (mC (mC (mC (mC (mC (mC (mC (mC (mC (mC (mC (mC (mC (mC (mC (mC (mC (mC (mC List.mem_cons_self))))))))))))))))))))))))))))))))))))))))))))))))))))))))))))))))))))⟩,
 (List.forall_mem_cons.mpr ⟨⟨(mC (mC (mC (mC (mC (mC (mC (mC (mC (mC (mC (mC (mC (mC (mC (mC (mC (mC (mC (mC (mC (mC (mC (mC (mC (mC (mC (mC (mC (mC (mC (mC (mC (mC (mC (mC (mC (mC (mC (mC (mC (mC (mC (mC (mC (mC (mC (mC (mC (mC (mC (mC (mC (mC (mC (mC (mC (mC (mC (mC (mC (mC (mC (mC (mC (mC (mC (mC (mC (mC (mC (mC (mC (mC (mC (mC (mC (mC (mC (mC (mC (mC (mC (mC (mC (mC (mC (mC (mC List.mem_cons_self))))))))))))))))))))))))))))))))))))))))))))))))))))))))))))))))))))))))))))))))))))))))), (mC (mC (mC (mC (mC (mC (mC (mC (mC (mC (mC (mC (mC (mC (mC (mC (mC (mC (mC (mC (mC (mC (mC (mC (mC (mC (mC (mC (mC (mC (mC (mC (mC (mC (mC (mC (mC (mC (mC (mC (mC (mC (mC (mC (mC (mC (mC (mC (mC (mC (mC (mC (mC (mC (mC (mC (mC (mC (mC (mC (mC (mC (mC (mC (mC (mC (mC (mC List.mem_cons_self)))))))))))))))))))))))))))))))))))))))))))))))))))))))))))))))))))), (mC (mC (mC (mC (mC (mC (mC (mC (mC (mC (mC (mC (mC (mC (mC (mC (mC (mC (mC (mC (mC (mC (mC (mC (mC (mC (mC (mC (mC (mC (mC (mC (mC (mC (mC (mC (mC (mC (mC (mC (mC (mC (mC (mC (mC (mC (mC (mC (mC (mC (mC (mC (mC (mC (mC (mC (mC (mC (mC (mC (mC (mC (mC (mC (mC (mC (mC (mC (mC List.mem_cons_self)))))))))))))))))))))))))))))))))))))))))))))))))))))))))))))))))))))⟩,
 (List.forall_mem_cons.mpr ⟨⟨(mC (mC (mC (mC (mC (mC (mC (mC (mC (mC (mC (mC (mC (mC (mC (mC (mC (mC (mC (mC (mC (mC (mC (mC (mC (mC (mC (mC (mC (mC (mC (mC (mC (mC (mC (mC (mC (mC (mC (mC (mC (mC (mC (mC (mC (mC (mC (mC (mC (mC (mC (mC (mC (mC (mC (mC (mC (mC (mC (mC (mC (mC (mC (mC (mC (mC (mC (mC (mC (mC (mC (mC (mC (mC (mC (mC (mC (mC (mC (mC (mC (mC (mC (mC (mC (mC (mC (mC (mC (mC List.mem_cons_self)))))))))))))))))))))))))))))))))))))))))))))))))))))))))))))))))))))))))))))))))))))))))), (mC (mC (mC (mC (mC (mC (mC (mC (mC (mC (mC (mC (mC (mC (mC (mC (mC (mC (mC (mC (mC (mC (mC (mC (mC (mC (mC (mC (mC (mC (mC (mC (mC (mC (mC (mC (mC (mC (mC (mC (mC (mC (mC (mC (mC (mC (mC (mC (mC (mC (mC (mC (mC (mC (mC (mC (mC (mC (mC (mC (mC (mC (mC (mC (mC (mC (mC (mC (mC List.mem_cons_self))))))))))))))))))))))))))))))))))))))))))))))))))))))))))))))))))))), (mC (mC (mC (mC (mC (mC (mC (mC (mC (mC (mC (mC (mC (mC (mC (mC (mC (mC (mC (mC (mC (mC (mC (mC (mC (mC (mC (mC (mC (mC (mC (mC (mC (mC (mC (mC (mC (mC (mC (mC (mC (mC (mC (mC (mC (mC (mC (mC (mC (mC (mC (mC (mC (mC (mC (mC (mC (mC (mC (mC (mC (mC (mC (mC (mC List.mem_cons_self)))))))))))))))))))))))))))))))))))))))))))))))))))))))))))))))))⟩,
 (List.forall_mem_cons.mpr ⟨⟨(mC (mC (mC (mC (mC (mC (mC (mC (mC (mC (mC (mC (mC (mC (mC (mC (mC (mC (mC (mC (mC (mC (mC (mC (mC (mC (mC (mC (mC (mC (mC (mC (mC (mC (mC (mC (mC (mC (mC (mC (mC (mC (mC (mC (mC (mC (mC (mC (mC (mC (mC (mC (mC (mC (mC (mC (mC (mC (mC (mC (mC (mC (mC (mC (mC (mC (mC (mC (mC (mC (mC (mC (mC (mC (mC (mC (mC (mC (mC (mC (mC (mC (mC (mC (mC (mC (mC (mC (mC (mC (mC List.mem_cons_self))))))))))))))))))))))))))))))))))))))))))))))))))))))))))))))))))))))))))))))))))))))))))), (mC (mC (mC (mC (mC (mC (mC (mC (mC (mC (mC (mC (mC (mC (mC (mC (mC (mC (mC (mC (mC (mC (mC (mC (mC (mC (mC (mC (mC (mC (mC (mC (mC (mC (mC (mC (mC (mC (mC (mC (mC (mC (mC (mC (mC (mC (mC (mC (mC (mC (mC (mC (mC (mC (mC (mC (mC (mC (mC (mC (mC (mC (mC (mC (mC (mC (mC (mC (mC List.mem_cons_self))))))))))))))))))))))))))))))))))))))))))))))))))))))))))))))))))))), (mC (mC (mC (mC (mC (mC (mC (mC (mC (mC (mC (mC (mC (mC (mC (mC (mC (mC (mC (mC (mC (mC (mC (mC (mC (mC (mC (mC (mC (mC (mC (mC (mC (mC (mC (mC (mC (mC (mC (mC (mC (mC (mC (mC (mC (mC (mC (mC (mC (mC (mC (mC (mC (mC (mC (mC (mC (mC (mC (mC (mC (mC (mC (mC (mC (mC List.mem_cons_self))))))))))))))))))))))))))))))))))))))))))))))))))))))))))))))))))⟩,
 (List.forall_mem_cons.mpr ⟨⟨(mC (mC (mC (mC (mC (mC (mC (mC (mC (mC (mC (mC (mC (mC (mC (mC (mC (mC (mC (mC (mC (mC (mC (mC (mC (mC (mC (mC (mC (mC (mC (mC (mC (mC (mC (mC (mC (mC (mC (mC (mC (mC (mC (mC (mC (mC (mC (mC (mC (mC (mC (mC (mC (mC (mC (mC (mC (mC (mC (mC (mC (mC (mC (mC (mC (mC (mC (mC (mC (mC (mC (mC (mC (mC (mC (mC (mC (mC (mC (mC (mC (mC (mC (mC (mC (mC (mC (mC (mC (mC (mC (mC List.mem_cons_self)))))))))))))))))))))))))))))))))))))))))))))))))))))))))))))))))))))))))))))))))))))))))))), (mC (mC (mC (mC (mC (mC (mC (mC (mC (mC (mC (mC (mC (mC (mC (mC (mC (mC (mC (mC (mC (mC (mC (mC (mC (mC (mC (mC (mC (mC (mC (mC (mC (mC (mC (mC (mC (mC (mC (mC (mC (mC (mC (mC (mC (mC (mC (mC (mC (mC (mC (mC (mC (mC (mC (mC (mC (mC (mC (mC (mC (mC (mC (mC (mC (mC (mC (mC (mC List.mem_cons_self))))))))))))))))))))))))))))))))))))))))))))))))))))))))))))))))))))), (mC (mC (mC (mC (mC (mC (mC (mC (mC (mC (mC (mC (mC (mC (mC (mC (mC (mC (mC (mC (mC (mC (mC (mC (mC (mC (mC (mC (mC (mC (mC (mC (mC (mC (mC (mC (mC (mC (mC (mC (mC (mC (mC (mC (mC (mC (mC (mC (mC (mC (mC (mC (mC (mC (mC (mC (mC (mC (mC (mC (mC (mC (mC (mC (mC (mC (mC List.mem_cons_self)))))))))))))))))))))))))))))))))))))))))))))))))))))))))))))))))))⟩,
 (List.forall_mem_cons.mpr ⟨⟨(mC (mC (mC (mC (mC (mC (mC (mC (mC (mC (mC (mC (mC (mC (mC (mC (mC (mC (mC (mC (mC (mC (mC (mC (mC (mC (mC (mC (mC (mC (mC (mC (mC (mC (mC (mC (mC (mC (mC (mC (mC (mC (mC (mC (mC (mC (mC (mC (mC (mC (mC (mC (mC (mC (mC (mC (mC (mC (mC (mC (mC (mC (mC (mC (mC (mC (mC (mC (mC (mC (mC (mC (mC (mC (mC (mC (mC (mC (mC (mC (mC (mC (mC (mC (mC (mC (mC (mC (mC (mC (mC (mC (mC List.mem_cons_self))))))))))))))))))))))))))))))))))))))))))))))))))))))))))))))))))))))))))))))))))))))))))))), (mC (mC (mC (mC (mC (mC (mC (mC (mC (mC (mC (mC (mC (mC (mC (mC (mC (mC (mC (mC (mC (mC (mC (mC (mC (mC (mC (mC (mC (mC (mC (mC (mC (mC (mC (mC (mC (mC (mC (mC (mC (mC (mC (mC (mC (mC (mC (mC (mC (mC (mC (mC (mC (mC (mC (mC (mC (mC (mC (mC (mC (mC (mC (mC (mC (mC (mC (mC (mC List.mem_cons_self))))))))))))))))))))))))))))))))))))))))))))))))))))))))))))))))))))), (mC (mC (mC (mC (mC (mC (mC (mC (mC (mC (mC (mC (mC (mC (mC (mC (mC (mC (mC (mC (mC (mC (mC (mC (mC (mC (mC (mC (mC (mC (mC (mC (mC (mC (mC (mC (mC (mC (mC (mC (mC (mC (mC (mC (mC (mC (mC (mC (mC (mC (mC (mC (mC (mC (mC (mC (mC (mC (mC (mC (mC (mC (mC (mC (mC (mC (mC (mC List.mem_cons_self))))))))))))))))))))))))))))))))))))))))))))))))))))))))))))))))))))⟩,
 (List.forall_mem_cons.mpr ⟨⟨(mC (mC (mC (mC (mC (mC (mC (mC (mC (mC (mC (mC (mC (mC (mC (mC (mC (mC (mC (mC (mC (mC (mC (mC (mC (mC (mC (mC (mC (mC (mC (mC (mC (mC (mC (mC (mC (mC (mC (mC (mC (mC (mC (mC (mC (mC (mC (mC (mC (mC (mC (mC (mC (mC (mC (mC (mC (mC (mC (mC (mC (mC (mC (mC (mC (mC (mC (mC (mC (mC (mC (mC (mC (mC (mC (mC (mC (mC (mC (mC (mC (mC (mC (mC (mC (mC (mC (mC (mC (mC (mC (mC (mC (mC List.mem_cons_self)))))))))))))))))))))))))))))))))))))))))))))))))))))))))))))))))))))))))))))))))))))))))))))), (mC (mC (mC (mC (mC (mC (mC (mC (mC (mC (mC (mC (mC (mC (mC (mC (mC (mC (mC (mC (mC (mC (mC (mC (mC (mC (mC (mC (mC (mC (mC (mC (mC (mC (mC (mC (mC (mC (mC (mC (mC (mC (mC (mC (mC (mC (mC (mC (mC (mC (mC (mC (mC (mC (mC (mC (mC (mC (mC (mC (mC (mC (mC (mC (mC (mC (mC (mC (mC List.mem_cons_self))))))))))))))))))))))))))))))))))))))))))))))))))))))))))))))))))))), (mC (mC (mC (mC (mC (mC (mC (mC (mC (mC (mC (mC (mC (mC (mC (mC (mC (mC (mC (mC (mC (mC (mC (mC (mC (mC (mC (mC (mC (mC (mC (mC (mC (mC (mC (mC (mC (mC (mC (mC (mC (mC (mC (mC (mC (mC (mC (mC (mC (mC (mC (mC (mC (mC (mC (mC (mC (mC (mC (mC (mC (mC (mC (mC (mC (mC (mC (mC (mC List.mem_cons_self)))))))))))))))))))))))))))))))))))))))))))))))))))))))))))))))))))))⟩,
 (fun _ h => nomatch h)⟩)⟩)⟩)⟩)⟩)⟩)⟩)⟩)⟩)⟩)⟩)⟩)⟩)⟩)⟩)⟩)⟩)⟩)⟩)⟩)⟩)⟩)⟩)⟩)⟩)
theorem top_ok {P : Program} {w : World} {base : Heap} {K : Frag} {h : Heap} {mg : Str → Option Value} (hP : P.main.file = "/claim/cut.py") (hT : (P.main.scope.names.lookup ("super" : Str)).isSome = false) (X : K.In h) (G : h.Ns mainGlobals mg) (c : SaysE fas css exs fns K) : Top P w base K mg where
  h_is_whole := c.both.1.has X G 0 0 rfl rfl fun _ _ _ _ _ _ us hl => match us, hl with | [_], _ => rfl
  h_is_within := c.both.1.has X G 1 1 rfl rfl fun _ _ _ _ _ _ us hl => match us, hl with | [_, _, _], _ => rfl
  h_is_tuple_of := c.both.1.has X G 2 2 rfl rfl fun _ _ _ _ _ _ us hl => match us, hl with | [_, _], _ => rfl
  h_need_number := c.both.1.has X G 3 3 rfl rfl fun _ _ _ _ _ _ us hl => match us, hl with | [_, _, _], _ => rfl
  h_is_tuple_to := c.both.1.has X G 4 4 rfl rfl fun _ _ _ _ _ _ us hl => match us, hl with | [_, _, _], _ => rfl
  h_first_descent := c.both.1.has X G 5 5 rfl rfl fun _ _ _ _ _ _ us hl => match us, hl with | [_, _], _ => rfl
  h_meets_fault := c.both.1.has X G 6 6 rfl rfl fun _ _ _ _ _ _ us hl => match us, hl with | [_], _ => rfl
  h_wash_fault := c.both.1.has X G 7 7 rfl rfl fun _ _ _ _ _ _ us hl => match us, hl with | [_, _], _ => rfl
  h_lab_fault := c.both.1.has X G 8 8 rfl rfl fun _ _ _ _ _ _ us hl => match us, hl with | [_], _ => rfl
  h_need_lab := c.both.1.has X G 9 9 rfl rfl fun _ _ _ _ _ _ us hl => match us, hl with | [_], _ => rfl
  h_need_state := c.both.1.has X G 10 10 rfl rfl fun _ _ _ _ _ _ us hl => match us, hl with | [_, _], _ => rfl
  h_is_stuffs := c.both.1.has X G 11 11 rfl rfl fun _ _ _ _ _ _ us hl => match us, hl with | [_, _], _ => rfl
  h_free_stop := c.both.1.has X G 12 12 rfl rfl fun _ _ _ _ _ _ us hl => match us, hl with | [_, _, _], _ => rfl
  h_row_end := c.both.1.has X G 13 13 rfl rfl fun _ _ _ _ _ _ us hl => match us, hl with | [_, _, _], _ => rfl
  h_row_stop := c.both.1.has X G 14 14 rfl rfl fun _ _ _ _ _ _ us hl => match us, hl with | [_, _, _], _ => rfl
  h_need_stuffs := c.both.1.has X G 15 15 rfl rfl fun _ _ _ _ _ _ us hl => match us, hl with | [_, _, _], _ => rfl
  h_row_counts := c.both.1.has X G 16 16 rfl rfl fun _ _ _ _ _ _ us hl => match us, hl with | [_, _], _ => rfl
  h_free_row_count := c.both.1.has X G 17 17 rfl rfl fun _ _ _ _ _ _ us hl => match us, hl with | [_, _, _], _ => rfl
  h_free_row_at := c.both.1.has X G 18 18 rfl rfl fun _ _ _ _ _ _ us hl => match us, hl with | [_, _, _, _], _ => rfl
  h_next_touch := c.both.1.has X G 19 19 rfl rfl fun _ _ _ _ _ _ us hl => match us, hl with | [_, _, _], _ => rfl
  h_free_row_place := c.both.1.has X G 20 20 rfl rfl fun _ _ _ _ _ _ us hl => match us, hl with | [_, _, _], _ => rfl
  h__law_mixed := c.both.1.has X G 21 21 rfl rfl fun _ _ _ _ _ _ us hl => match us, hl with | [_, _], _ => rfl
  h__law_folded := c.both.1.has X G 22 22 rfl rfl fun _ _ _ _ _ _ us hl => match us, hl with | [_], _ => rfl
  h__law_draw := c.both.1.has X G 23 23 rfl rfl fun _ _ _ _ _ _ us hl => match us, hl with | [_, _], _ => rfl
  h__law_begun := c.both.1.has X G 24 24 rfl rfl fun _ _ _ _ _ _ us hl => match us, hl with | [_], _ => rfl
  h__law_like := c.both.1.has X G 25 25 rfl rfl fun _ _ _ _ _ _ us hl => match us, hl with | [_, _], _ => rfl
  h__law_of := c.both.1.has X G 26 26 rfl rfl fun _ _ _ _ _ _ us hl => match us, hl with | [_, _], _ => rfl
  h__law_is_int := c.both.1.has X G 27 27 rfl rfl fun _ _ _ _ _ _ us hl => match us, hl with | [_, _, _], _ => rfl
  h__law_order := c.both.1.has X G 28 28 rfl rfl fun _ _ _ _ _ _ us hl => match us, hl with | [_, _], _ => rfl
  h__law_some := c.both.1.has X G 29 29 rfl rfl fun _ _ _ _ _ _ us hl => match us, hl with | [_, _, _], _ => rfl
  h__law_meets := c.both.1.has X G 30 30 rfl rfl fun _ _ _ _ _ _ us hl => match us, hl with | [_, _, _], _ => rfl
  h__law_washes := c.both.1.has X G 31 31 rfl rfl fun _ _ _ _ _ _ us hl => match us, hl with | [_, _, _], _ => rfl
  h__law_lab := c.both.1.has X G 32 32 rfl rfl fun _ _ _ _ _ _ us hl => match us, hl with | [_, _, _], _ => rfl
  h__law_counts := c.both.1.has X G 33 33 rfl rfl fun _ _ _ _ _ _ us hl => match us, hl with | [_, _], _ => rfl
  h__law_stop := c.both.1.has X G 34 34 rfl rfl fun _ _ _ _ _ _ us hl => match us, hl with | [_, _, _], _ => rfl
  h__law_all_rows := c.both.1.has X G 35 35 rfl rfl fun _ _ _ _ _ _ us hl => match us, hl with | [_, _, _], _ => rfl
  h__law_number := c.both.1.has X G 36 36 rfl rfl fun _ _ _ _ _ _ us hl => match us, hl with | [_, _, _, _], _ => rfl
  h__law_goes := c.both.1.has X G 37 37 rfl rfl fun _ _ _ _ _ _ us hl => match us, hl with | [_, _, _, _], _ => rfl
  h__law_told := c.both.1.has X G 38 38 rfl rfl fun _ _ _ _ _ _ us hl => match us, hl with | [_, _, _, _, _], _ => rfl
  h__law_row_right := c.both.1.has X G 39 39 rfl rfl fun _ _ _ _ _ _ us hl => match us, hl with | [_, _, _, _], _ => rfl
  h__law_numbers_right := c.both.1.has X G 40 40 rfl rfl fun _ _ _ _ _ _ us hl => match us, hl with | [_, _, _, _, _], _ => rfl
  h__law_refused := c.both.1.has X G 41 41 rfl rfl fun _ _ _ _ _ _ us hl => match us, hl with | [_, _, _, _], _ => rfl
  h_law := c.both.1.has X G 42 42 rfl rfl fun _ _ _ _ _ _ us hl => match us, hl with | [_], _ => rfl
  n_all := c.both.1.free X G 43 rfl
  n_bool := c.both.1.free X G 44 rfl
  n_enumerate := c.both.1.free X G 45 rfl
  n_int := c.both.1.free X G 46 rfl
  n_isinstance := c.both.1.free X G 47 rfl
  n_len := c.both.1.free X G 48 rfl
  n_list := c.both.1.free X G 49 rfl
  n_min := c.both.1.free X G 50 rfl
  n_range := c.both.1.free X G 51 rfl
  n_repr := c.both.1.free X G 52 rfl
  n_sorted := c.both.1.free X G 53 rfl
  n_sum := c.both.1.free X G 54 rfl
  n_tuple := c.both.1.free X G 55 rfl
  g_MOST_ARMS := c.both.1.int X G 56 rfl
  g_MOST_LONG := c.both.1.int X G 57 rfl
  g_MOST_RESULTS := c.both.1.int X G 58 rfl
  g_MOST_STATES := c.both.1.int X G 59 rfl
  g_MOST_STUFFS := c.both.1.int X G 60 rfl
  g_MOST_TICKS := c.both.1.int X G 61 rfl
  g_MOST_TOOLS := c.both.1.int X G 62 rfl
  g_MOST_WASHES := c.both.1.int X G 63 rfl
  g_MOST_ZONES := c.both.1.int X G 64 rfl
  e_BadLength := c.defE1 (e := e_BadLength) (k := 0) X G (mC List.mem_cons_self) rfl rfl rfl ⟨rfl, rfl, rfl, by decide +kernel, by decide +kernel, by decide +kernel, by decide +kernel, rfl, rfl⟩ hP hT (fun _ => rfl) _ (fun _ => rfl) (fun _ => rfl) rfl rfl
    (fun fd h1 h2 us hl => by
      obtain ⟨name, qual, params, body, scope, globals, closure, dV, kV, doc, pm, an, code, ct, blt⟩ := fd
      dsimp only at h1 h2
      subst h1 h2
      match us, hl with
      | [_, _], _ => rfl)
  e_BadNumber := c.defE1 (e := e_BadNumber) (k := 0) X G List.mem_cons_self rfl rfl rfl ⟨rfl, rfl, rfl, by decide +kernel, by decide +kernel, by decide +kernel, by decide +kernel, rfl, rfl⟩ hP hT (fun _ => rfl) _ (fun _ => rfl) (fun _ => rfl) rfl rfl
    (fun fd h1 h2 us hl => by
      obtain ⟨name, qual, params, body, scope, globals, closure, dV, kV, doc, pm, an, code, ct, blt⟩ := fd
      dsimp only at h1 h2
      subst h1 h2
      match us, hl with
      | [_, _], _ => rfl)
  e_BadRow := c.defE1 (e := e_BadRow) (k := 0) X G (mC (mC (mC (mC List.mem_cons_self)))) rfl rfl rfl ⟨rfl, rfl, rfl, by decide +kernel, by decide +kernel, by decide +kernel, by decide +kernel, rfl, rfl⟩ hP hT (fun _ => rfl) _ (fun _ => rfl) (fun _ => rfl) rfl rfl
    (fun fd h1 h2 us hl => by
      obtain ⟨name, qual, params, body, scope, globals, closure, dV, kV, doc, pm, an, code, ct, blt⟩ := fd
      dsimp only at h1 h2
      subst h1 h2
      match us, hl with
      | [_, _], _ => rfl)
  e_BadState := c.defE1 (e := e_BadState) (k := 0) X G (mC (mC (mC List.mem_cons_self))) rfl rfl rfl ⟨rfl, rfl, rfl, by decide +kernel, by decide +kernel, by decide +kernel, by decide +kernel, rfl, rfl⟩ hP hT (fun _ => rfl) _ (fun _ => rfl) (fun _ => rfl) rfl rfl
    (fun fd h1 h2 us hl => by
      obtain ⟨name, qual, params, body, scope, globals, closure, dV, kV, doc, pm, an, code, ct, blt⟩ := fd
      dsimp only at h1 h2
      subst h1 h2
      match us, hl with
      | [_, _], _ => rfl)
  f_BadLength_value := c.defF (e := e_BadLength) X G (mC List.mem_cons_self) rfl (f := "value") (by decide +kernel)
  f_BadNumber_value := c.defF (e := e_BadNumber) X G List.mem_cons_self rfl (f := "value") (by decide +kernel)
  f_BadRow_value := c.defF (e := e_BadRow) X G (mC (mC (mC (mC List.mem_cons_self)))) rfl (f := "value") (by decide +kernel)
  f_BadState_value := c.defF (e := e_BadState) X G (mC (mC (mC List.mem_cons_self))) rfl (f := "value") (by decide +kernel)
  prs := c.prs X G prs_in
def names0 : List Str := ["__name__", "LabError", "BadNumber", "BadLength", "BadLab", "BadState", "BadRow", "is_whole", "is_within", "is_tuple_of", "need_number", "MOST_STATES", "MOST_STUFFS", "MOST_WASHES", "MOST_RESULTS", "MOST_TICKS", "MOST_TOOLS", "MOST_ARMS", "MOST_ZONES", "is_tuple_to", "first_descent", "meets_fault", "wash_fault", "lab_fault"]
def names1 : List Str := ["need_lab", "need_state", "is_stuffs", "free_stop", "row_end", "row_stop", "need_stuffs", "MOST_LONG", "row_counts", "free_row_count", "free_row_at", "next_touch", "free_row_place", "_law_mixed", "_law_folded", "_law_draw", "_law_begun", "_law_like", "_law_of", "_law_is_int", "_law_order", "_law_some", "_law_meets", "_law_washes"]
def names2 : List Str := ["_law_lab", "_law_counts", "_law_stop", "_law_all_rows", "_law_number", "_law_goes", "_law_told", "_law_row_right", "_law_numbers_right", "_law_refused"]
def names : List Str := names0 ++ names1 ++ names2
abbrev RR : PySem.W.OpenRow := PySem.W.OpenLaw.row PySem.Challenge.rw_washedarms_k14_whole_free_rows_numbered
abbrev hkx : PySem.W.Hook := hookE 5 fas css exs fns
def obx (s : PySem.W.SharedT) : AlE := obsEG 5 fas css exs fns (HandSHeadRun.getT s)
theorem obx_eq (s : PySem.W.SharedT) : obx s = hkx.obs s.abs := obsEG_eq (HandSHeadRun.getT_eq s)
set_option maxHeartbeats 0 in
theorem run_top (w : World) : HandSHeadRun.RunEq RR (PySem.W.view RR.prog [63]) hkx obx 20000 names w := by
  intro os
  kernel_rfl
end LW
open PyProof.Rows PySem PySem.Calls PySem.W
set_option maxHeartbeats 0 in
theorem PySem.Challenge.cw_washedarms_k14_whole_free_rows_numbered_holds : PySem.Challenge.rw_washedarms_k14_whole_free_rows_numbered.Holds := by
  w_on; o_law
  refine HandSHeadRun.head_any (r := LW.RR) (q := view LW.RR.prog [63]) (H := LW.hkx) (ob := LW.obx) (M := 20000) (loose := LW.names) (d := HandSHeadRun.topDef LW.RR.prog 63) (kwd := []) LW.obx_eq (by kernel_rfl) (fun s => by kernel_rfl) LW.run_top (by kernel_rfl) (by kernel_rfl) (by kernel_rfl) (by rfl) (by first | assumption | decide +kernel) (by decide +kernel) ⟨rfl, rfl, rfl, rfl, rfl, by decide +kernel⟩ ?hw ?hc
  case hw => w_witness2
  case hc =>
    exact DL.walkE (l := PySem.Challenge.rw_washedarms_k14_whole_free_rows_numbered) (k := 12) rfl (by kernel_rfl) ⟨rfl, by decide, by decide⟩ (by kernel_rfl) (by kernel_rfl) (by kernel_rfl) fun P w K mg h hP hT X G c base => LW.d_law (LW.top_ok hP hT X G c) LW.law_math
#print axioms PySem.Challenge.cw_washedarms_k14_whole_free_rows_numbered_holds
end
