import PyProof.Rows.All
import Wide.All
import OpenK.AllK
import Wide.FinOn
import HandS.ForMost
import HandS.Style
import HandS.Conv
import HandS.Walk
import HandS.TupAny
import HandS.TupMul
import HandS.Deep
import HandS.IsInst
import HandS.Wide
import HandS.WideMore
import HandS.Zip
import PyProof.ReprRoads
import KE.GoesNew
import KE.GoesMore
import HandS.SortInts
import HandS.SetFor
import HandS.Strs
import PySem.Challenge.RW_washedarms_k04_whole_needless_washes_and
import KE.KStateDown
import HandS.Head0
import HandS.Head1
import HandS.Head2
import HandS.HeadEnd
import HandS.HeadHook1
import HandS.HeadHook2
section
set_option Elab.async false
set_option linter.all false
set_option maxRecDepth 100000
set_option maxHeartbeats 3999999
/-! WEng1: values as data, slots, states, the relations between them and the abstract heap -/
namespace L2
open PySem PySem.Spec PyProof.Rows
theorem Same.upd {H : Hp} {p : Addr} {o : HO} (n : H p = none) : Same H (upd H p o) := fun b u e => by rw [upd_ne (ne_of_none e n)]; exact e
end L2
namespace DL
open L2 PySem PyProof.Rows PySem.Spec

abbrev D := PyData
abbrev Frag := PySem.W.Frag

/-- what a slot holds: a datum, a list of its own (no one else knows it), the handle of the drawn numbers -/
inductive Sl where
  | d (x : D) | own (xs : List D) | h | s (ns : List Int) | r (lo hi : Int)
/-- what an expression hands on: a datum, the list that a slot owns, a new list -/
inductive Opd where
  | val (x : D) | slot (i : Nat) | new (xs : List D)
/-- where a statement goes on -/
inductive Out where
  | nx | bk | ct | rt (x : D) | rn (xs : List D)
structure Stt (τ : Type) where
  env : List (Option Sl)
  dr : τ
abbrev M (τ α : Type) := Stt τ → Option (α × Stt τ)
variable {τ α β : Type}
def ret (a : α) : M τ α := fun s => some (a, s)
def stuck : M τ α := fun _ => none
def bnd (m : M τ α) (f : α → M τ β) : M τ β := fun s => match m s with
  | none => none
  | some (a, s') => f a s'
def lift (o : Option α) : M τ α := fun s => match o with
  | none => none
  | some a => some (a, s)
/-- the datum of an operand, as it stands -/
def getO (o : Opd) : M τ D := fun s => match o with
  | .val x => some (x, s)
  | .new xs => some (.list xs, s)
  | .slot i => match s.env[i]? with
    | some (some (.d x)) => some (x, s)
    | some (some (.own xs)) => some (.list xs, s)
    | _ => none
/-- the datum of an operand, shared from now on -/
def toD (o : Opd) : M τ D := fun s => match o with
  | .val x => some (x, s)
  | .new xs => some (.list xs, s)
  | .slot i => match s.env[i]? with
    | some (some (.d x)) => some (x, s)
    | some (some (.own xs)) => some (.list xs, { s with env := s.env.set i (some (.d (.list xs))) })
    | _ => none
def valM (F : M τ Opd) : M τ D := bnd F toD
/-- a new list is shared, a slot stays a slot -/
def lateM (F : M τ Opd) : M τ Opd := bnd F fun o => match o with
  | .new xs => ret (.val (.list xs))
  | .val x => ret (.val x)
  | .slot i => ret (.slot i)

/-- the drawn numbers' state: its handle, the objects that change, how it stands in the heap -/
structure Dr (τ : Type) where
  hv : V
  R : Addr → Prop
  At : τ → Hp → Prop
  stay : ∀ st H H', At st H → (∀ b o, R b → H b = some o → H' b = some o) → At st H'
  live : ∀ st H b, At st H → R b → H b ≠ none
def dr0 : Dr Unit := ⟨.non, fun _ => False, fun _ _ => True, fun _ _ _ _ _ => trivial, fun _ _ _ _ h => h.elim⟩

structure Bd (τ : Type) where
  dr : Dr τ
  H0 : Hp
  S0 : Hp

/-- the heap grows: all stands, what is shared grows by new objects alone -/
structure Grow (H S H' S' : Hp) : Prop where
  h : Same H H'
  s : Same S S'
  sub : Same S' H'
  new : ∀ b o, S' b = some o → S b = none → H b = none
theorem Grow.refl {H S : Hp} (h : Same S H) : Grow H S H S := ⟨Same.refl _, Same.refl _, h, fun b o e n => by rw [n] at e; cases e⟩
theorem Grow.trans {H S H1 S1 H2 S2 : Hp} (a : Grow H S H1 S1) (b : Grow H1 S1 H2 S2) : Grow H S H2 S2 :=
  ⟨a.h.trans b.h, a.s.trans b.s, b.sub, fun c o e n => by
    cases q : S1 c with
    | some u => exact a.new c u q n
    | none => exact a.h.free (b.new c o e q)⟩
theorem Grow.alloc {H S : Hp} {p : Addr} {o : HO} (h : Same S H) (n : H p = none) : Grow H S (upd H p o) (upd S p o) := by
  have ns : S p = none := h.free n
  refine ⟨Same.upd n, Same.upd ns, fun b u e => ?_, fun b u e n' => ?_⟩
  · by_cases hb : b = p
    · subst hb; rw [upd_same] at e ⊢; exact e
    · rw [upd_ne hb] at e ⊢; exact h b u e
  · by_cases hb : b = p
    · subst hb; exact n
    · rw [upd_ne hb, n'] at e; cases e
theorem Grow.fresh {H S : Hp} {p : Addr} {o : HO} (h : Same S H) (n : H p = none) : Grow H S (upd H p o) S :=
  ⟨Same.upd n, Same.refl _, h.trans (Same.upd n), fun b u e n' => by rw [n'] at e; cases e⟩

end DL
namespace L2
open PySem PySem.Spec PyProof.Rows

/-! a value is a datum: what is shared and never changed again -/
mutual
inductive Dq (K : PySem.W.Frag) (H : Hp) : V → PyData → Prop
  | non : Dq K H .non .none
  | bl (b : Bool) : Dq K H (.bl b) (.bool b)
  | int (i : Int) : Dq K H (.int i) (.int i)
  | str (x : Str) : Dq K H (.str x) (.str x)
  | lst {a : Addr} {xs : List V} {ds : List PyData} : H a = some (.lst xs) → DqAll K H xs ds → Dq K H (.ref a) (.list ds)
  | tup {a : Addr} {xs : List V} {ds : List PyData} : SqT K H a xs → DqAll K H xs ds → Dq K H (.ref a) (.tuple ds)
inductive DqAll (K : PySem.W.Frag) (H : Hp) : List V → List PyData → Prop
  | nil : DqAll K H [] []
  | cons {v : V} {vs : List V} {d : PyData} {ds : List PyData} : Dq K H v d → DqAll K H vs ds → DqAll K H (v :: vs) (d :: ds)
end
theorem seqT_mono {K : PySem.W.Frag} {S S' : Hp} (e : Same S S') {a : Addr} {xs : List V} (h : SqT K S a xs) : SqT K S' a xs := by
  rcases h with (h | ⟨o, h⟩) | h
  · exact .inl (.inl (e _ _ h))
  · exact .inl (.inr ⟨o, e _ _ h⟩)
  · exact .inr h
mutual
theorem Dq.mono {K : PySem.W.Frag} {S S' : Hp} (e : Same S S') : ∀ {v : V} {d : PyData}, Dq K S v d → Dq K S' v d
  | _, _, .non => .non
  | _, _, .bl b => .bl b
  | _, _, .int i => .int i
  | _, _, .str x => .str x
  | _, _, .lst h a => .lst (e _ _ h) (DqAll.mono e a)
  | _, _, .tup h a => .tup (seqT_mono e h) (DqAll.mono e a)
theorem DqAll.mono {K : PySem.W.Frag} {S S' : Hp} (e : Same S S') : ∀ {vs : List V} {ds : List PyData}, DqAll K S vs ds → DqAll K S' vs ds
  | _, _, .nil => .nil
  | _, _, .cons h t => .cons (Dq.mono e h) (DqAll.mono e t)
end
mutual
theorem Dq.dp {K : PySem.W.Frag} {H : Hp} : ∀ {v : V} {d : PyData}, Dq K H v d → Dp K H v d
  | _, _, .non => .non
  | _, _, .bl b => .bl b
  | _, _, .int i => .int i
  | _, _, .str x => .str x
  | _, _, .lst h a => .lst (SqL.of h) a.dp
  | _, _, .tup h a => .tup h a.dp
theorem DqAll.dp {K : PySem.W.Frag} {H : Hp} : ∀ {vs : List V} {ds : List PyData}, DqAll K H vs ds → DpAll K H vs ds
  | _, _, .nil => .nil
  | _, _, .cons h t => .cons h.dp t.dp
end
theorem DqAll.len {K : PySem.W.Frag} {S : Hp} : ∀ {vs : List V} {ds : List PyData}, DqAll K S vs ds → vs.length = ds.length
  | _, _, .nil => rfl
  | _, _, .cons _ t => by rw [List.length_cons, List.length_cons, t.len]
theorem DqAll.get {K : PySem.W.Frag} {S : Hp} : ∀ {vs : List V} {ds : List PyData} {i : Nat} {v : V}, DqAll K S vs ds → vs[i]? = some v → ∃ d, ds[i]? = some d ∧ Dq K S v d
  | _, _, _, _, .nil, h => by simp at h
  | _, _, 0, _, .cons h _, e => by simp at e; subst e; exact ⟨_, rfl, h⟩
  | _, _, i + 1, v, .cons _ t, e => by
    obtain ⟨d, h1, h2⟩ := DqAll.get (i := i) (v := v) t (by simpa using e)
    exact ⟨d, by simpa using h1, h2⟩
theorem DqAll.getD {K : PySem.W.Frag} {S : Hp} : ∀ {vs : List V} {ds : List PyData} {i : Nat} {d : PyData}, DqAll K S vs ds → ds[i]? = some d → ∃ v, vs[i]? = some v ∧ Dq K S v d
  | _, _, _, _, .nil, h => by simp at h
  | _, _, 0, _, .cons h _, e => by simp at e; subst e; exact ⟨_, rfl, h⟩
  | _, _, i + 1, d, .cons _ t, e => by
    obtain ⟨v, h1, h2⟩ := DqAll.getD (i := i) (d := d) t (by simpa using e)
    exact ⟨v, by simpa using h1, h2⟩
theorem DqAll.app {K : PySem.W.Frag} {S : Hp} : ∀ {vs ws : List V} {ds es : List PyData}, DqAll K S vs ds → DqAll K S ws es → DqAll K S (vs ++ ws) (ds ++ es)
  | _, _, _, _, .nil, t => t
  | _, _, _, _, .cons h r, t => .cons h (DqAll.app r t)
theorem DqAll.drop {K : PySem.W.Frag} {S : Hp} : ∀ (n : Nat) {vs : List V} {ds : List PyData}, DqAll K S vs ds → DqAll K S (vs.drop n) (ds.drop n)
  | 0, _, _, h => h
  | _ + 1, _, _, .nil => .nil
  | n + 1, _, _, .cons _ t => DqAll.drop n t
theorem DqAll.take {K : PySem.W.Frag} {S : Hp} : ∀ (n : Nat) {vs : List V} {ds : List PyData}, DqAll K S vs ds → DqAll K S (vs.take n) (ds.take n)
  | 0, _, _, _ => .nil
  | _ + 1, _, _, .nil => .nil
  | n + 1, _, _, .cons h t => .cons h (DqAll.take n t)
theorem DqAll.rev {K : PySem.W.Frag} {S : Hp} : ∀ {vs : List V} {ds : List PyData}, DqAll K S vs ds → DqAll K S vs.reverse ds.reverse
  | _, _, .nil => .nil
  | _, _, .cons h t => by
    rw [List.reverse_cons, List.reverse_cons]
    exact t.rev.app (.cons h .nil)
theorem DqAll.set {K : PySem.W.Frag} {S : Hp} {v : V} {d : PyData} (h : Dq K S v d) : ∀ (n : Nat) {vs : List V} {ds : List PyData}, DqAll K S vs ds → DqAll K S (vs.set n v) (ds.set n d)
  | _, _, _, .nil => .nil
  | 0, _, _, .cons _ t => .cons h t
  | n + 1, _, _, .cons g t => .cons g (DqAll.set h n t)
theorem DqAll.ints {K : PySem.W.Frag} {S : Hp} : ∀ ns : List Int, DqAll K S (ns.map V.int) (ns.map PyData.int)
  | [] => .nil
  | n :: ns => .cons (.int n) (DqAll.ints ns)
theorem DqAll.rep {K : PySem.W.Frag} {S : Hp} {vs : List V} {ds : List PyData} (h : DqAll K S vs ds) : ∀ n : Nat, DqAll K S (List.replicate n vs).flatten (List.replicate n ds).flatten
  | 0 => .nil
  | n + 1 => by
    rw [List.replicate_succ, List.replicate_succ, List.flatten_cons, List.flatten_cons]
    exact h.app (h.rep n)
theorem DqAll.nil_iff {K : PySem.W.Frag} {S : Hp} {vs : List V} {ds : List PyData} (h : DqAll K S vs ds) : vs = [] ↔ ds = [] := by
  cases h <;> simp

end L2
namespace DL
open L2 PySem PyProof.Rows PySem.Spec
variable {τ α β : Type}
def SlAt (K : Frag) (dr : Dr τ) (H0 H S : Hp) (v : V) : Sl → Prop
  | .d x => Dq K S v x
  | .own xs => ∃ p vs, v = .ref p ∧ H p = some (.lst vs) ∧ DqAll K S vs xs ∧ S p = none ∧ H0 p = none ∧ ¬ dr.R p
  | .h => v = dr.hv
  | .s ns => ∃ p, v = .ref p ∧ SqL K S p (ns.map V.int)
  | .r lo hi => ∃ p, v = .ref p ∧ S p = some (.rng lo hi)
structure Fr (dr : Dr τ) (H0 S0 H S : Hp) : Prop where
  keep : ∀ b o, H0 b = some o → ¬ dr.R b → H b = some o
  s : Same S0 S
  sub : Same S H
  new : ∀ b o, S b = some o → S0 b = none → H0 b = none
  nor : ∀ b, dr.R b → S b = none
structure Good (K : Frag) (B : Bd τ) (s : Stt τ) (σ : List (Option V)) (H S : Hp) : Prop where
  fr : Fr B.dr B.H0 B.S0 H S
  at_ : B.dr.At s.dr H
  len : s.env.length = σ.length
  slot : ∀ (i : Nat) (z : Sl), s.env[i]? = some (some z) → ∃ v, σ[i]? = some (some v) ∧ SlAt K B.dr B.H0 H S v z
  disj : ∀ (i j : Nat) (xs ys : List D), i ≠ j → s.env[i]? = some (some (.own xs)) → s.env[j]? = some (some (.own ys)) → σ[i]? ≠ σ[j]?

section
variable {K : Frag} {B : Bd τ} {s : Stt τ} {σ : List (Option V)} {H S H' S' : Hp}
theorem Good.live (g : Good K B s σ H S) {b : Addr} (h : B.dr.R b) : H b ≠ none := B.dr.live s.dr H b g.at_ h
theorem Good.grow (g : Good K B s σ H S) (w : Grow H S H' S') : Good K B s σ H' S' := by
  have nb : ∀ b o, S' b = some o → S b = none → ¬ B.dr.R b := fun b o e n r => g.live r (w.new b o e n)
  refine ⟨⟨fun b o e r => w.h b o (g.fr.keep b o e r), g.fr.s.trans w.s, w.sub, fun b o e n => ?_, fun b r => ?_⟩, ?_, g.len, fun i z e => ?_, g.disj⟩
  · cases q : S b with
    | some u => exact g.fr.new b u q n
    | none =>
      have hn := w.new b o e q
      cases q0 : B.H0 b with
      | none => rfl
      | some u => rw [g.fr.keep b u q0 (nb b o e q)] at hn; cases hn
  · cases q : S' b with
    | none => rfl
    | some u => exact absurd r (nb b u q (g.fr.nor b r))
  · exact B.dr.stay _ _ _ g.at_ fun b o _ e => w.h b o e
  · obtain ⟨v, h1, h2⟩ := g.slot i z e
    refine ⟨v, h1, ?_⟩
    cases z with
    | d x => exact Dq.mono w.s h2
    | own xs =>
      obtain ⟨p, vs, e1, e2, e3, e4, e5, e6⟩ := h2
      refine ⟨p, vs, e1, w.h p _ e2, DqAll.mono w.s e3, ?_, e5, e6⟩
      cases q : S' p with
      | none => rfl
      | some u => have := w.new p u q e4; rw [e2] at this; cases this
    | h => exact h2
    | s ns =>
      obtain ⟨p, e1, e2⟩ := h2
      exact ⟨p, e1, w.s.seq e2⟩
    | r lo hi =>
      obtain ⟨p, e1, e2⟩ := h2
      exact ⟨p, e1, w.s p _ e2⟩
theorem Good.get (g : Good K B s σ H S) {i : Nat} {x : D} (e : s.env[i]? = some (some (.d x))) : ∃ v, σ[i]? = some (some v) ∧ Dq K S v x := g.slot i _ e
theorem Good.getOwn (g : Good K B s σ H S) {i : Nat} {xs : List D} (e : s.env[i]? = some (some (.own xs))) :
    ∃ p vs, σ[i]? = some (some (.ref p)) ∧ H p = some (.lst vs) ∧ DqAll K S vs xs ∧ S p = none ∧ B.H0 p = none ∧ ¬ B.dr.R p := by
  obtain ⟨v, h1, p, vs, rfl, h2⟩ := g.slot i _ e
  exact ⟨p, vs, h1, h2⟩
theorem set_get {α : Type} {l : List α} {i j : Nat} {a b : α} (h : (l.set i a)[j]? = some b) : (i = j ∧ a = b) ∨ (i ≠ j ∧ l[j]? = some b) := by
  by_cases e : i = j
  · subst e
    by_cases hl : i < l.length
    · rw [List.getElem?_set_self hl] at h
      exact .inl ⟨rfl, Option.some.inj h⟩
    · rw [List.getElem?_eq_none (by rw [List.length_set]; omega)] at h
      cases h
  · rw [List.getElem?_set_ne e] at h
    exact .inr ⟨e, h⟩
theorem set_at {α : Type} {l : List α} {i : Nat} {a b : α} (h : (l.set i a)[i]? = some b) : i < l.length := by
  by_cases hl : i < l.length
  · exact hl
  · rw [List.getElem?_eq_none (by rw [List.length_set]; omega)] at h
    cases h
/-- a datum goes into a slot -/
theorem Good.set (g : Good K B s σ H S) {i : Nat} {v : V} {x : D} (h : Dq K S v x) : Good K B { s with env := s.env.set i (some (.d x)) } (σ.set i (some v)) H S := by
  refine ⟨g.fr, g.at_, by simp [g.len], fun j z e => ?_, fun j k xs ys n e1 e2 => ?_⟩
  · have hl : i = j → j < σ.length := fun q => by
      subst q
      have := set_at (l := s.env) e
      rw [← g.len]; exact this
    rcases set_get e with ⟨rfl, e'⟩ | ⟨n, e'⟩
    · cases e'
      exact ⟨v, List.getElem?_set_self (hl rfl), h⟩
    · rw [List.getElem?_set_ne n]
      exact g.slot j z e'
  · rcases set_get e1 with ⟨_, q⟩ | ⟨n1, e1'⟩
    · cases q
    rcases set_get e2 with ⟨_, q⟩ | ⟨n2, e2'⟩
    · cases q
    rw [List.getElem?_set_ne n1, List.getElem?_set_ne n2]
    exact g.disj j k xs ys n e1' e2'
/-- a list that nobody else knows -/
structure Free (K : Frag) (B : Bd τ) (s : Stt τ) (σ : List (Option V)) (H S : Hp) (p : Addr) (xs : List D) : Prop where
  at_ : ∃ vs, H p = some (.lst vs) ∧ DqAll K S vs xs
  ns : S p = none
  n0 : B.H0 p = none
  nr : ¬ B.dr.R p
  no : ∀ (j : Nat) (ys : List D), s.env[j]? = some (some (.own ys)) → σ[j]? ≠ some (some (V.ref p))
theorem Good.setOwn (g : Good K B s σ H S) {i : Nat} {p : Addr} {xs : List D} (f : Free K B s σ H S p xs) : Good K B { s with env := s.env.set i (some (.own xs)) } (σ.set i (some (.ref p))) H S := by
  obtain ⟨⟨vs, hp, ha⟩, ns, n0, nr, no⟩ := f
  refine ⟨g.fr, g.at_, by simp [g.len], fun j z e => ?_, fun j k xs ys n e1 e2 => ?_⟩
  · have hl : i = j → j < σ.length := fun q => by
      subst q
      have := set_at (l := s.env) e
      rw [← g.len]; exact this
    rcases set_get e with ⟨rfl, e'⟩ | ⟨n, e'⟩
    · cases e'
      exact ⟨_, List.getElem?_set_self (hl rfl), p, vs, rfl, hp, ha, ns, n0, nr⟩
    · rw [List.getElem?_set_ne n]
      exact g.slot j z e'
  · have hl1 := fun (q : i = j) => (by subst q; have := set_at (l := s.env) e1; rw [← g.len]; exact this : j < σ.length)
    have hl2 := fun (q : i = k) => (by subst q; have := set_at (l := s.env) e2; rw [← g.len]; exact this : k < σ.length)
    rcases set_get e1 with ⟨rfl, q⟩ | ⟨n1, e1'⟩
    · rcases set_get e2 with ⟨q2, _⟩ | ⟨n2, e2'⟩
      · exact absurd q2 n
      · rw [List.getElem?_set_self (hl1 rfl), List.getElem?_set_ne n2]
        exact fun q => no k _ e2' q.symm
    · rcases set_get e2 with ⟨rfl, q⟩ | ⟨n2, e2'⟩
      · rw [List.getElem?_set_self (hl2 rfl), List.getElem?_set_ne n1]
        exact no j _ e1'
      · rw [List.getElem?_set_ne n1, List.getElem?_set_ne n2]
        exact g.disj j k xs ys n e1' e2'
/-- a list object joins what is shared -/
theorem Good.share (g : Good K B s σ H S) {p : Addr} {vs : List V} (hp : H p = some (.lst vs)) (ns : S p = none) (n0 : B.H0 p = none) (nr : ¬ B.dr.R p)
    (no : ∀ (j : Nat) (ys : List D), s.env[j]? = some (some (.own ys)) → σ[j]? ≠ some (some (V.ref p))) : Good K B s σ H (upd S p (.lst vs)) := by
  have ss : Same S (upd S p (.lst vs)) := Same.upd ns
  refine ⟨⟨g.fr.keep, g.fr.s.trans ss, fun b o e => ?_, fun b o e n => ?_, fun b r => ?_⟩, g.at_, g.len, fun i z e => ?_, g.disj⟩
  · by_cases hb : b = p
    · subst hb; rw [upd_same] at e; cases e; exact hp
    · rw [upd_ne hb] at e; exact g.fr.sub b o e
  · by_cases hb : b = p
    · subst hb; exact n0
    · rw [upd_ne hb] at e; exact g.fr.new b o e n
  · rw [upd_ne (fun e => nr (by rw [← e]; exact r))]
    exact g.fr.nor b r
  · obtain ⟨v, h1, h2⟩ := g.slot i z e
    refine ⟨v, h1, ?_⟩
    cases z with
    | d x => exact Dq.mono ss h2
    | own xs =>
      obtain ⟨q, ws, e1, e2, e3, e4, e5, e6⟩ := h2
      subst e1
      exact ⟨q, ws, rfl, e2, DqAll.mono ss e3, by rw [upd_ne (fun z => no i xs e (by rw [h1, z]))]; exact e4, e5, e6⟩
    | h => exact h2
    | s ns =>
      obtain ⟨p, e1, e2⟩ := h2
      exact ⟨p, e1, ss.seq e2⟩
    | r lo hi =>
      obtain ⟨p, e1, e2⟩ := h2
      exact ⟨p, e1, ss p _ e2⟩
/-- the list that slot i owns is shared -/
theorem Good.freeze (g : Good K B s σ H S) {i : Nat} {xs : List D} (e : s.env[i]? = some (some (.own xs))) :
    ∃ p S', σ[i]? = some (some (.ref p)) ∧ Same S S' ∧ Dq K S' (.ref p) (.list xs) ∧ Good K B { s with env := s.env.set i (some (.d (.list xs))) } σ H S' ∧ ∃ ws, S' = upd S p (.lst ws) := by
  obtain ⟨p, vs, h1, hp, ha, ns, n0, nr⟩ := g.getOwn e
  have ss : Same S (upd S p (.lst vs)) := Same.upd ns
  have hd : Dq K (upd S p (.lst vs)) (.ref p) (.list xs) := .lst upd_same (DqAll.mono ss ha)
  have g1 : Good K B { s with env := s.env.set i none } σ H S := by
    refine ⟨g.fr, g.at_, by simp [g.len], fun j z e' => ?_, fun j k as bs n e1 e2 => ?_⟩
    · rcases set_get e' with ⟨_, q⟩ | ⟨_, q⟩
      · cases q
      · exact g.slot j z q
    · rcases set_get e1 with ⟨_, q⟩ | ⟨_, q1⟩
      · cases q
      rcases set_get e2 with ⟨_, q⟩ | ⟨_, q2⟩
      · cases q
      exact g.disj j k as bs n q1 q2
  have g2 := g1.share hp ns n0 nr fun j ys e' => by
    rcases set_get e' with ⟨_, q⟩ | ⟨n, q⟩
    · cases q
    · intro z
      exact g.disj i j xs ys n e q (by rw [h1, z])
  refine ⟨p, _, h1, ss, hd, ⟨g2.fr, g2.at_, by simp [g.len], fun j z e' => ?_, fun j k as bs n e1 e2 => ?_⟩, vs, rfl⟩
  · rcases set_get e' with ⟨rfl, q⟩ | ⟨n, q⟩
    · cases q
      exact ⟨_, h1, hd⟩
    · exact g2.slot j z (by show (s.env.set i none)[j]? = _; rw [List.getElem?_set_ne n]; exact q)
  · rcases set_get e1 with ⟨_, q⟩ | ⟨_, q1⟩
    · cases q
    rcases set_get e2 with ⟨_, q⟩ | ⟨_, q2⟩
    · cases q
    exact g.disj j k as bs n q1 q2
/-- the list that slot i owns is changed -/
theorem Good.change (g : Good K B s σ H S) {i : Nat} {xs ys : List D} {p : Addr} {ws : List V} (e : s.env[i]? = some (some (.own xs))) (h1 : σ[i]? = some (some (.ref p))) (hw : DqAll K S ws ys) :
    Good K B { s with env := s.env.set i (some (.own ys)) } σ (upd H p (.lst ws)) S := by
  obtain ⟨p', vs, h1', hp, ha, ns, n0, nr⟩ := g.getOwn e
  rw [h1] at h1'
  cases h1'
  refine ⟨⟨fun b o e' r => ?_, g.fr.s, fun b o e' => ?_, g.fr.new, g.fr.nor⟩, ?_, by simp [g.len], fun j z e' => ?_, fun j k as bs n e1 e2 => ?_⟩
  · rw [upd_ne (fun q => by rw [q, n0] at e'; cases e')]
    exact g.fr.keep b o e' r
  · rw [upd_ne (fun q => by rw [q, ns] at e'; cases e')]
    exact g.fr.sub b o e'
  · exact B.dr.stay _ _ _ g.at_ fun b o r e' => by rw [upd_ne (fun q => nr (by rw [← q]; exact r))]; exact e'
  · rcases set_get e' with ⟨rfl, q⟩ | ⟨n, q⟩
    · cases q
      exact ⟨_, h1, p, ws, rfl, upd_same, hw, ns, n0, nr⟩
    · obtain ⟨v, g1, g2⟩ := g.slot j z q
      refine ⟨v, g1, ?_⟩
      cases z with
      | d x => exact g2
      | own as =>
        obtain ⟨q', us, e1, e2, e3, e4, e5, e6⟩ := g2
        subst e1
        refine ⟨q', us, rfl, ?_, e3, e4, e5, e6⟩
        rw [upd_ne (fun z => g.disj i j xs as n e q (by rw [h1, g1, z]))]
        exact e2
      | h => exact g2
      | s ns => exact g2
      | r lo hi => exact g2
  · have own_of : ∀ {j : Nat} {as : List D}, (s.env.set i (some (.own ys)))[j]? = some (some (.own as)) → ∃ as', s.env[j]? = some (some (.own as')) := fun {j as} e' => by
      rcases set_get e' with ⟨rfl, _⟩ | ⟨_, q⟩
      · exact ⟨_, e⟩
      · exact ⟨_, q⟩
    obtain ⟨as', q1⟩ := own_of e1
    obtain ⟨bs', q2⟩ := own_of e2
    exact g.disj j k as' bs' n q1 q2
end


/-- what a piece of code leaves: what is shared stays, no place is given back, a list that nobody knows stays so -/
structure Step (K : Frag) (B : Bd τ) (σ : List (Option V)) (s : Stt τ) (H S : Hp) (s' : Stt τ) (H' S' : Hp) : Prop where
  same : Same S S'
  dom : ∀ p, H' p = none → H p = none
  free : ∀ (p : Addr) (xs : List D), Free K B s σ H S p xs → Free K B s' σ H' S' p xs
section
variable {K : Frag} {B : Bd τ} {σ : List (Option V)} {s s1 s2 : Stt τ} {H S H1 S1 H2 S2 : Hp}
theorem Step.refl : Step K B σ s H S s H S := ⟨Same.refl _, fun _ h => h, fun _ _ h => h⟩
theorem Step.trans (a : Step K B σ s H S s1 H1 S1) (b : Step K B σ s1 H1 S1 s2 H2 S2) : Step K B σ s H S s2 H2 S2 :=
  ⟨a.same.trans b.same, fun p h => a.dom p (b.dom p h), fun p xs f => b.free p xs (a.free p xs f)⟩
theorem Free.grow {p : Addr} {xs : List D} (f : Free K B s σ H S p xs) (w : Grow H S H1 S1) : Free K B s σ H1 S1 p xs := by
  obtain ⟨⟨vs, h1, h2⟩, ns, n0, nr, no⟩ := f
  refine ⟨⟨vs, w.h p _ h1, DqAll.mono w.s h2⟩, ?_, n0, nr, no⟩
  cases q : S1 p with
  | none => rfl
  | some u => have := w.new p u q ns; rw [h1] at this; cases this
theorem Grow.step (w : Grow H S H1 S1) : Step K B σ s H S s H1 S1 := ⟨w.s, fun _ h => w.h.free h, fun _ _ f => f.grow w⟩
end
/-- how an operand stands for a value -/
def RelO (K : Frag) (B : Bd τ) (s : Stt τ) (σ : List (Option V)) (H S : Hp) (v : V) : Opd → Prop
  | .val x => Dq K S v x
  | .slot i => σ[i]? = some (some v)
  | .new xs => ∃ p, v = .ref p ∧ Free K B s σ H S p xs
/-- a datum that is looked at: its items are shared, its own list may not be -/
def View (K : Frag) (H S : Hp) (v : V) (d : D) : Prop := Dq K S v d ∨ ∃ p vs xs, v = .ref p ∧ H p = some (.lst vs) ∧ DqAll K S vs xs ∧ d = .list xs
theorem View.full {K : Frag} {H S : Hp} {v : V} {d : D} (h : View K H S v d) (e : Same S H) : Dq K H v d := by
  rcases h with h | ⟨p, vs, xs, rfl, h1, h2, rfl⟩
  · exact Dq.mono e h
  · exact .lst h1 (DqAll.mono e h2)
theorem View.lst {K : Frag} {H S : Hp} {v : V} {xs : List D} (h : View K H S v (.list xs)) (e : Same S H) : ∃ p vs, v = .ref p ∧ H p = some (.lst vs) ∧ DqAll K S vs xs := by
  rcases h with h | ⟨p, vs, ys, rfl, h1, h2, q⟩
  · cases h with
    | lst h1 h2 => exact ⟨_, _, rfl, e _ _ h1, h2⟩
  · cases q
    exact ⟨p, vs, rfl, h1, h2⟩
theorem View.tup {K : Frag} {H S : Hp} {v : V} {xs : List D} (h : View K H S v (.tuple xs)) : ∃ p vs, v = .ref p ∧ SqT K S p vs ∧ DqAll K S vs xs := by
  rcases h with h | ⟨p, vs, ys, rfl, h1, h2, q⟩
  · cases h with
    | tup h1 h2 => exact ⟨_, _, rfl, h1, h2⟩
  · cases q
theorem View.int {K : Frag} {H S : Hp} {v : V} {i : Int} (h : View K H S v (.int i)) : v = .int i := by
  rcases h with h | ⟨p, vs, ys, rfl, h1, h2, q⟩
  · cases h; rfl
  · cases q
theorem View.bl {K : Frag} {H S : Hp} {v : V} {i : Bool} (h : View K H S v (.bool i)) : v = .bl i := by
  rcases h with h | ⟨p, vs, ys, rfl, h1, h2, q⟩
  · cases h; rfl
  · cases q
theorem View.str {K : Frag} {H S : Hp} {v : V} {i : Str} (h : View K H S v (.str i)) : v = .str i := by
  rcases h with h | ⟨p, vs, ys, rfl, h1, h2, q⟩
  · cases h; rfl
  · cases q
theorem View.non {K : Frag} {H S : Hp} {v : V} (h : View K H S v .none) : v = .non := by
  rcases h with h | ⟨p, vs, ys, rfl, h1, h2, q⟩
  · cases h; rfl
  · cases q
/-- a new list was not there ahead -/
def FreshO (H : Hp) (v : V) : Opd → Prop
  | .new _ => ∃ p, v = .ref p ∧ H p = none
  | _ => True
theorem view_of {K : Frag} {B : Bd τ} {s s' : Stt τ} {σ : List (Option V)} {H S : Hp} {v : V} {o : Opd} {d : D} (g : Good K B s σ H S) (r : RelO K B s σ H S v o) (e : getO o s = some (d, s')) : s' = s ∧ View K H S v d := by
  cases o with
  | val x => cases e; exact ⟨rfl, .inl r⟩
  | new xs =>
    cases e
    obtain ⟨p, rfl, ⟨vs, h1, h2⟩, _⟩ := r
    exact ⟨rfl, .inr ⟨p, vs, xs, rfl, h1, h2, rfl⟩⟩
  | slot i =>
    unfold getO at e
    dsimp only at e
    split at e
    · rename_i x q
      cases e
      obtain ⟨w, h1, h2⟩ := g.get q
      rw [show σ[i]? = some (some v) from r] at h1
      cases h1
      exact ⟨rfl, .inl h2⟩
    · rename_i xs q
      cases e
      obtain ⟨p, vs, h1, hp, ha, _⟩ := g.getOwn q
      rw [show σ[i]? = some (some v) from r] at h1
      cases h1
      exact ⟨rfl, .inr ⟨p, vs, xs, rfl, hp, ha, rfl⟩⟩
    · cases e
theorem toD_of {K : Frag} {B : Bd τ} {s s' : Stt τ} {σ : List (Option V)} {H S : Hp} {v : V} {o : Opd} {d : D} (g : Good K B s σ H S) (r : RelO K B s σ H S v o) (e : toD o s = some (d, s')) :
    ∃ S', Same S S' ∧ Good K B s' σ H S' ∧ Dq K S' v d ∧ ∀ (p : Addr) (xs : List D), (∀ ys, o = .new ys → v ≠ .ref p) → Free K B s σ H S p xs → Free K B s' σ H S' p xs := by
  cases o with
  | val x => cases e; exact ⟨S, Same.refl _, g, r, fun _ _ _ f => f⟩
  | new xs =>
    cases e
    obtain ⟨p, rfl, ⟨vs, h1, h2⟩, ns, n0, nr, no⟩ := r
    refine ⟨_, Same.upd ns, g.share h1 ns n0 nr no, .lst upd_same (DqAll.mono (Same.upd ns) h2), fun q ys hq f => ?_⟩
    have hne : q ≠ p := fun z => hq xs rfl (by rw [z])
    obtain ⟨⟨us, f1, f2⟩, f3, f4, f5, f6⟩ := f
    exact ⟨⟨us, f1, DqAll.mono (Same.upd ns) f2⟩, by rw [upd_ne hne]; exact f3, f4, f5, f6⟩
  | slot i =>
    unfold toD at e
    dsimp only at e
    split at e
    · rename_i x q
      cases e
      obtain ⟨w, h1, h2⟩ := g.get q
      rw [show σ[i]? = some (some v) from r] at h1
      cases h1
      exact ⟨S, Same.refl _, g, h2, fun _ _ _ f => f⟩
    · rename_i xs q
      cases e
      obtain ⟨p, S', h1, ss, hd, g', ws, hS⟩ := g.freeze q
      have h1' := h1
      rw [show σ[i]? = some (some v) from r] at h1
      cases h1
      refine ⟨S', ss, g', hd, fun a ys _ f => ?_⟩
      obtain ⟨⟨us, f1, f2⟩, f3, f4, f5, f6⟩ := f
      have hne : a ≠ p := fun z => f6 i xs q (by rw [z]; exact h1')
      refine ⟨⟨us, f1, DqAll.mono ss f2⟩, by rw [hS, upd_ne hne]; exact f3, f4, f5, fun j zs e' => ?_⟩
      rcases set_get e' with ⟨_, z⟩ | ⟨_, z⟩
      · cases z
      · exact f6 j zs z
    · cases e
/-- a new list at a free place -/
theorem Good.free {K : Frag} {B : Bd τ} {s : Stt τ} {σ : List (Option V)} {H S : Hp} {p : Addr} {vs : List V} {xs : List D} (g : Good K B s σ H S) (n : H p = none) (h : DqAll K S vs xs) :
    Good K B s σ (upd H p (.lst vs)) S ∧ Free K B s σ (upd H p (.lst vs)) S p xs := by
  have nr : ¬ B.dr.R p := fun r => g.live r n
  refine ⟨g.grow (Grow.fresh g.fr.sub n), ⟨vs, upd_same, h⟩, g.fr.sub.free n, ?_, nr, fun j ys e q => ?_⟩
  · cases z : B.H0 p with
    | none => rfl
    | some o => rw [g.fr.keep p o z nr] at n; cases n
  · obtain ⟨p', ws, h1, hp, _⟩ := g.getOwn e
    rw [q] at h1
    cases h1
    rw [n] at hp; cases hp
end DL
end

section
set_option Elab.async false
set_option linter.all false
set_option maxRecDepth 100000
set_option maxHeartbeats 3999999
/-! WEng2: what an expression means: the judgement, names, constants, operators, tests, subscripts, calls -/
namespace DL
open L2 PySem PyProof.Rows PySem.Spec
variable {τ α β : Type}

/-- what all contexts of a def's body (and of its comprehensions) share -/
structure Gam where
  P : Program
  w : World
  K : Frag
  mg : Str → Option Value
  base : Heap
  A : Around
  N : List Str
  sc : Scope
  fn : Str → Bool
structure Gam.Has (Γ : Gam) (X : Cx) : Prop where
  P : X.prog = Γ.P
  w : X.w = Γ.w
  K : X.K = Γ.K
  mg : X.mg = Γ.mg
  base : X.base = Γ.base
  A : X.A = Γ.A
  N : X.N = Γ.N
  sc : X.env.scope = Γ.sc
  calm : X.calm = true
  fn : ∀ x, Γ.fn x = true → X.fn x = true ∨ X.env.scope.names.lookup x = some .local
  pass : PassesOwn (model X.prog X.w) X.A X.env X.xe
/-- what a def's body may lean on -/
structure Gam.Ok (Γ : Gam) (k : Nat) : Prop where
  nd : Γ.N.Nodup
  room : Room k Γ.A
  gd : Γ.A.guards = some []
theorem Gam.Ok.hu {Γ : Gam} {k : Nat} (h : Γ.Ok k) : Γ.A.units + 65 < cLine := by have := h.room.un; omega
theorem Gam.Ok.mono {Γ : Gam} {j k : Nat} (h : Γ.Ok k) (l : j ≤ k) : Γ.Ok j := ⟨h.nd, h.room.mono l, h.gd⟩

def Mean (K : Frag) (B : Bd τ) (t : TE) (F : M τ Opd) : Prop := ∀ s σ H S, Good K B s σ H S → ∀ o s', F s = some (o, s') →
  ∀ Q : VK, (∀ v H' S', Good K B s' σ H' S' → Step K B σ s H S s' H' S' → RelO K B s' σ H' S' v o → FreshO H v o → Q v H') → t σ H Q
def DO (Γ : Gam) (B : Bd τ) (e : Expr) (F : M τ Opd) : Prop := ∃ t, (∀ X, Γ.Has X → PE X e t) ∧ Mean Γ.K B t F
def MeanT (K : Frag) (B : Bd τ) (t : TT) (F : M τ Bool) : Prop := ∀ s σ H S, Good K B s σ H S → ∀ b s', F s = some (b, s') →
  ∀ Q : Bool → Hp → Prop, (∀ H' S', Good K B s' σ H' S' → Step K B σ s H S s' H' S' → Q b H') → t σ H Q
def DT (Γ : Gam) (B : Bd τ) (e : Expr) (F : M τ Bool) : Prop := ∃ t, (∀ X, Γ.Has X → PT X e t) ∧ MeanT Γ.K B t F
def DW (Γ : Gam) (B : Bd τ) (e : Expr) (F : M τ Bool) : Prop := ∃ t, (∀ X, Γ.Has X → PW X e t) ∧ MeanT Γ.K B t F
/-- a datum or a slot: what stays while more is reckoned -/
def RelS (K : Frag) (S : Hp) (σ : List (Option V)) (v : V) : Opd → Prop
  | .val x => Dq K S v x
  | .slot i => σ[i]? = some (some v)
  | .new _ => False
def RelL (K : Frag) (S : Hp) (σ : List (Option V)) : List V → List Opd → Prop
  | [], [] => True
  | v :: vs, o :: os => RelS K S σ v o ∧ RelL K S σ vs os
  | _, _ => False
def MeanA (K : Frag) (B : Bd τ) (t : TA) (F : M τ (List Opd)) : Prop := ∀ s σ H S, Good K B s σ H S → ∀ os s', F s = some (os, s') →
  ∀ Q : List V → Hp → Prop, (∀ vs H' S', Good K B s' σ H' S' → Step K B σ s H S s' H' S' → RelL K S' σ vs os → Q vs H') → t σ H Q
def DA (Γ : Gam) (B : Bd τ) (es : List Expr) (F : M τ (List Opd)) : Prop := ∃ t, (∀ X, Γ.Has X → PA X es t) ∧ MeanA Γ.K B t F
/-- .. all of them data -/
def MeanV (K : Frag) (B : Bd τ) (t : TA) (F : M τ (List D)) : Prop := ∀ s σ H S, Good K B s σ H S → ∀ os s', F s = some (os, s') →
  ∀ Q : List V → Hp → Prop, (∀ vs H' S', Good K B s' σ H' S' → Step K B σ s H S s' H' S' → DqAll K S' vs os → Q vs H') → t σ H Q
def DV (Γ : Gam) (B : Bd τ) (es : List Expr) (F : M τ (List D)) : Prop := ∃ t, (∀ X, Γ.Has X → PA X es t) ∧ MeanV Γ.K B t F

theorem bnd_some {m : M τ α} {f : α → M τ β} {s s'' : Stt τ} {b : β} (h : bnd m f s = some (b, s'')) : ∃ a s', m s = some (a, s') ∧ f a s' = some (b, s'') := by
  unfold bnd at h
  split at h
  · cases h
  · rename_i a s' e
    exact ⟨a, s', e, h⟩
theorem lift_some {o : Option α} {s s' : Stt τ} {a : α} (h : lift o s = some (a, s')) : o = some a ∧ s' = s := by
  unfold lift at h
  split at h
  · cases h
  · cases h; exact ⟨rfl, rfl⟩
theorem ret_some {a b : α} {s s' : Stt τ} (h : ret a s = some (b, s')) : b = a ∧ s' = s := by cases h; exact ⟨rfl, rfl⟩

section
variable {K : Frag} {B : Bd τ} {s s' : Stt τ} {σ : List (Option V)} {H S : Hp}
/-- a value that has come, as a datum -/
theorem Mean.val {t : TE} {F : M τ Opd} (m : Mean K B t F) (g : Good K B s σ H S) {d : D} (e : valM F s = some (d, s')) {Q : VK}
    (h : ∀ v H' S', Good K B s' σ H' S' → Step K B σ s H S s' H' S' → Dq K S' v d → Q v H') : t σ H Q := by
  obtain ⟨o, s1, e1, e2⟩ := bnd_some e
  refine m s σ H S g o s1 e1 Q fun v H1 S1 g1 w1 r1 f1 => ?_
  obtain ⟨S2, w2, g2, r2, f2⟩ := toD_of g1 r1 e2
  refine h v H1 S2 g2 ⟨w1.same.trans w2, w1.dom, fun p xs f => f2 p xs (fun ys q z => ?_) (w1.free p xs f)⟩ r2
  subst q
  obtain ⟨p', z', n⟩ := f1
  rw [z] at z'
  cases z'
  obtain ⟨vs, q, _⟩ := f.at_
  rw [n] at q
  cases q
/-- .. as an operand that stays -/
theorem Mean.late {t : TE} {F : M τ Opd} (m : Mean K B t F) (g : Good K B s σ H S) {o : Opd} (e : lateM F s = some (o, s')) {Q : VK}
    (h : ∀ v H' S', Good K B s' σ H' S' → Step K B σ s H S s' H' S' → RelS K S' σ v o → Q v H') : t σ H Q := by
  obtain ⟨o1, s1, e1, e2⟩ := bnd_some e
  cases o1 with
  | val x => cases e2; exact m s σ H S g _ _ e1 Q fun v H1 S1 g1 w1 r1 _ => h v H1 S1 g1 w1 r1
  | slot i => cases e2; exact m s σ H S g _ _ e1 Q fun v H1 S1 g1 w1 r1 _ => h v H1 S1 g1 w1 r1
  | new xs =>
    cases e2
    exact m.val g (d := .list xs) (s' := s') (by unfold valM bnd; rw [e1]; rfl) fun v H1 S1 g1 w1 r1 => h v H1 S1 g1 w1 r1
theorem RelS.mono {K : Frag} {S S' : Hp} {σ : List (Option V)} {v : V} {o : Opd} (w : Same S S') (r : RelS K S σ v o) : RelS K S' σ v o := by
  cases o with
  | val x => exact Dq.mono w r
  | slot i => exact r
  | new xs => exact r
theorem RelS.rel {v : V} {o : Opd} (r : RelS K S σ v o) : RelO K B s σ H S v o := by
  cases o with
  | val x => exact r
  | slot i => exact r
  | new xs => exact r.elim
theorem RelL.mono {K : Frag} {S S' : Hp} {σ : List (Option V)} (w : Same S S') : ∀ {vs : List V} {os : List Opd}, RelL K S σ vs os → RelL K S' σ vs os
  | [], [], _ => trivial
  | _ :: _, _ :: _, h => ⟨h.1.mono w, RelL.mono w h.2⟩
end

/-! ### names, constants -/
def nameM (i : Nat) : M τ Opd := fun s => match s.env[i]? with
  | some (some (.d _)) => some (.slot i, s)
  | some (some (.own _)) => some (.slot i, s)
  | _ => none
section
variable {Γ : Gam} {B : Bd τ} {pos : Pos}
theorem DO.name {i : Nat} {x : Str} (hN : Γ.N[i]? = some x) (hv : Vis Γ.sc x) (hd : (x == ("__debug__" : Str)) = false := by decide) (hcd : (x == ("__classdict__" : Str)) = false := by decide) : DO Γ B (.Name x pos) (nameM i) := by
  refine ⟨tVar i, fun X h => pe_var (by rw [h.N]; exact hN) (by rw [h.sc]; exact hv) hd hcd, fun s σ H S g o s' e Q q => ?_⟩
  have fin : ∀ z, s.env[i]? = some (some z) → o = .slot i → s' = s → tVar i σ H Q := fun z q1 q2 q3 => by
    subst q2; subst q3
    obtain ⟨v, h1, _⟩ := g.slot i z q1
    exact ⟨v, h1, q v H S g Step.refl h1 trivial⟩
  unfold nameM at e
  split at e
  · rename_i q1; cases e; exact fin _ q1 rfl rfl
  · rename_i q1; cases e; exact fin _ q1 rfl rfl
  · cases e
theorem mean_c {v : V} {d : D} (h : ∀ S, Dq Γ.K S v d) : Mean Γ.K B (tC v) (ret (.val d)) := fun s σ H S g o s' e Q q => by
  obtain ⟨rfl, rfl⟩ := ret_some e
  exact q v H S g Step.refl (h S) trivial
theorem DO.int {i : Int} {j} : DO Γ B (.Constant (.int i) j pos) (ret (.val (.int i))) := ⟨_, fun X h => pe_int, mean_c fun _ => .int i⟩
theorem DO.bl {b : Bool} {j} : DO Γ B (.Constant (.bool b) j pos) (ret (.val (.bool b))) := ⟨_, fun X h => pe_bl, mean_c fun _ => .bl b⟩
theorem DO.non {j} : DO Γ B (.Constant .none j pos) (ret (.val .none)) := ⟨_, fun X h => pe_non, mean_c fun _ => .non⟩
theorem DO.str {x : Str} {j} : DO Γ B (.Constant (.str x) j pos) (ret (.val (.str x))) := ⟨_, fun X h => pe_str, mean_c fun _ => .str x⟩
theorem gl_of {X : Cx} (h : Γ.Has X) {x : Str} (hg : Γ.sc.names.lookup x = some .globalImplicit) : Gl X x := by
  show X.env.scope.names.lookup x = _
  rw [h.sc]; exact hg
/-- a constant of the module -/
theorem DO.glob {x : Str} {u : Value} {v : V} {d : D} (hg : Γ.sc.names.lookup x = some .globalImplicit) (hm : Γ.mg x = some u) (r : RelV v u) (hd : ∀ S, Dq Γ.K S v d) (hdb : (x == ("__debug__" : Str)) = false := by decide) :
    DO Γ B (.Name x pos) (ret (.val d)) := ⟨tC v, fun X h => pe_glob (gl_of h hg) (by rw [h.mg]; exact hm) r hdb, mean_c hd⟩
end

/-! ### what an operation hands on -/
inductive ResR (K : Frag) (H S : Hp) : V → Hp → Hp → Opd → Prop
  | val {z : V} {H' S' : Hp} {d : D} : Grow H S H' S' → Dq K S' z d → ResR K H S z H' S' (.val d)
  | new {p : Addr} {vs : List V} {xs : List D} : H p = none → DqAll K S vs xs → ResR K H S (.ref p) (upd H p (.lst vs)) S (.new xs)
theorem ResR.good {K : Frag} {B : Bd τ} {s : Stt τ} {σ : List (Option V)} {H S H' S' : Hp} {z : V} {o : Opd} (g : Good K B s σ H S) (r : ResR K H S z H' S' o) :
    Good K B s σ H' S' ∧ Step K B σ s H S s H' S' ∧ RelO K B s σ H' S' z o ∧ FreshO H z o := by
  cases r with
  | val w h => exact ⟨g.grow w, w.step, h, trivial⟩
  | new n h =>
    obtain ⟨g', f⟩ := Good.free g n h
    exact ⟨g', (Grow.fresh g.fr.sub n).step, ⟨_, rfl, f⟩, _, rfl, n⟩
theorem FreshO.dom {K : Frag} {B : Bd τ} {σ : List (Option V)} {s s1 : Stt τ} {H S H1 S1 : Hp} {v : V} {o : Opd} (f : FreshO H1 v o) (w : Step K B σ s H S s1 H1 S1) : FreshO H v o := by
  cases o with
  | new xs =>
    obtain ⟨p, e, n⟩ := f
    exact ⟨p, e, w.dom p n⟩
  | _ => trivial
def OpM (K : Frag) (r : R2) (op : D → D → Option Opd) : Prop := ∀ H S v u x y o, Same S H → View K H S v x → View K H S u y → op x y = some o →
  ∀ Q : VK, (∀ z H' S', ResR K H S z H' S' o → Q z H') → r v u H Q
def OpD (Γ : Gam) (f : Value → Value → Sem Value) (op : D → D → Option Opd) : Prop := ∃ r, (∀ X, Γ.Has X → OpR X f r) ∧ OpM Γ.K r op
def op2 (op : D → D → Option Opd) (Fa Fb : M τ Opd) : M τ Opd := bnd (lateM Fa) fun o1 => bnd Fb fun o2 => bnd (getO o1) fun x => bnd (getO o2) fun y => lift (op x y)
/-- one operation or another -/
def orO (f g : D → D → Option Opd) : D → D → Option Opd := fun x y => match f x y with
  | some o => some o
  | none => g x y
theorem OpD.or {Γ : Gam} {f : Value → Value → Sem Value} {g1 g2 : D → D → Option Opd} (h1 : OpD Γ f g1) (h2 : OpD Γ f g2) : OpD Γ f (orO g1 g2) := by
  obtain ⟨r1, a1, b1⟩ := h1
  obtain ⟨r2, a2, b2⟩ := h2
  refine ⟨_, fun X h => OpR.or (a1 X h) (a2 X h), fun H S v u x y o w vx vy e Q q => ?_⟩
  unfold orO at e
  split at e
  · rename_i o' e'
    cases e
    exact .inl (b1 H S v u x y _ w vx vy e' Q q)
  · exact .inr (b2 H S v u x y o w vx vy e Q q)
section
variable {Γ : Gam} {B : Bd τ} {pos : Pos} {a b c : Expr} {Fa Fb Fc : M τ Opd}
theorem mean_op {ta tb : TE} {r : R2} {op : D → D → Option Opd} (ha : Mean Γ.K B ta Fa) (hb : Mean Γ.K B tb Fb) (ho : OpM Γ.K r op) : Mean Γ.K B (tOp r ta tb) (op2 op Fa Fb) := fun s σ H S g o s' e Q q => by
  obtain ⟨o1, s1, e1, e⟩ := bnd_some e
  obtain ⟨o2, s2, e2, e⟩ := bnd_some e
  obtain ⟨x, s3, e3, e⟩ := bnd_some e
  obtain ⟨y, s4, e4, e⟩ := bnd_some e
  obtain ⟨ez, rfl⟩ := lift_some e
  refine ha.late g e1 fun v H1 S1 g1 w1 r1 => ?_
  refine hb s1 σ H1 S1 g1 o2 s2 e2 _ fun u H2 S2 g2 w2 r2 _ => ?_
  obtain ⟨rfl, vx⟩ := view_of g2 ((r1.mono w2.same).rel) e3
  obtain ⟨rfl, vy⟩ := view_of g2 r2 e4
  refine ho H2 S2 v u x y o g2.fr.sub vx vy ez Q fun z H3 S3 rr => ?_
  obtain ⟨g3, w3, r3, f3⟩ := rr.good g2
  exact q z H3 S3 g3 ((w1.trans w2).trans w3) r3 (f3.dom (w1.trans w2))
theorem DO.bin {op : Operator} {f : D → D → Option Opd} (ho : OpD Γ (binaryOp op) f) (ha : DO Γ B a Fa) (hb : DO Γ B b Fb) : DO Γ B (.BinOp a op b pos) (op2 f Fa Fb) := by
  obtain ⟨ta, pa, ma⟩ := ha
  obtain ⟨tb, pb, mb⟩ := hb
  obtain ⟨r, ro, mo⟩ := ho
  exact ⟨_, fun X h => pe_op (ro X h) (pa X h) (pb X h), mean_op ma mb mo⟩
theorem DO.cmp {op : CmpOp} {f : D → D → Option Opd} (ho : OpD Γ (compareOp op) f) (ha : DO Γ B a Fa) (hb : DO Γ B b Fb) (hm : behindInMarks op b = false) : DO Γ B (.Compare a [op] [b] pos) (op2 f Fa Fb) := by
  obtain ⟨ta, pa, ma⟩ := ha
  obtain ⟨tb, pb, mb⟩ := hb
  obtain ⟨r, ro, mo⟩ := ho
  exact ⟨_, fun X h => pe_cmpR (ro X h) (pa X h) (pb X h) hm, mean_op ma mb mo⟩
/-- the truth of a value that is True or False -/
def boolO (o : Opd) : M τ Bool := bnd (getO o) fun x => match x with
  | .bool b => ret b
  | _ => stuck
theorem mean_test {t : TE} {F : M τ Opd} (h : Mean Γ.K B t F) : MeanT Γ.K B (tTest t) (bnd F boolO) := fun s σ H S g k s' e Q q => by
  obtain ⟨o, s1, e1, e⟩ := bnd_some e
  obtain ⟨x, s2, e2, e⟩ := bnd_some e
  refine h s σ H S g o s1 e1 _ fun v H1 S1 g1 w1 r1 _ => ?_
  obtain ⟨rfl, vx⟩ := view_of g1 r1 e2
  cases x with
  | bool c =>
    obtain ⟨rfl, rfl⟩ := ret_some e
    obtain rfl := vx.bl
    exact ⟨k, rfl, q H1 S1 g1 w1⟩
  | _ => cases e
theorem DT.cmp {op : CmpOp} {f : D → D → Option Opd} (ho : OpD Γ (compareOp op) f) (ha : DO Γ B a Fa) (hb : DO Γ B b Fb) (hm : behindInMarks op b = false) : DT Γ B (.Compare a [op] [b] pos) (bnd (op2 f Fa Fb) boolO) := by
  obtain ⟨ta, pa, ma⟩ := ha
  obtain ⟨tb, pb, mb⟩ := hb
  obtain ⟨r, ro, mo⟩ := ho
  exact ⟨_, fun X h => pt_cmpR (ro X h) (pa X h) (pb X h) hm, mean_test (mean_op ma mb mo)⟩
/-- a value as a test: calls, names, subscripts -/
theorem DT.val {F : M τ Opd} (ha : DO Γ B a F) (he : ∀ X : Cx, ∀ whole, isTrue a X.env whole = (do let v ← whole; standAt a.pos; holding [v] (truthy v)) := by intro _ _; rfl) : DT Γ B a (bnd F boolO) := by
  obtain ⟨ta, pa, ma⟩ := ha
  exact ⟨_, fun X h => pt_val (pa X h) (he X), mean_test ma⟩
/-- a op b op' c -/
def chainM (f f' : D → D → Option Opd) (Fa Fb Fc : M τ Opd) : M τ Opd := bnd (lateM Fa) fun o1 => bnd (lateM Fb) fun o2 => bnd (getO o1) fun x => bnd (getO o2) fun y => bnd (lift (f x y)) fun o => bnd (boolO o) fun k =>
  if k then bnd Fc fun o3 => bnd (getO o2) fun y => bnd (getO o3) fun z => lift (f' y z) else ret (.val (.bool false))
theorem mean_chain {ta tb tc : TE} {r r' : R2} {f f' : D → D → Option Opd} (ha : Mean Γ.K B ta Fa) (hb : Mean Γ.K B tb Fb) (hc : Mean Γ.K B tc Fc) (ho : OpM Γ.K r f) (ho' : OpM Γ.K r' f') :
    Mean Γ.K B (tChain r r' ta tb tc) (chainM f f' Fa Fb Fc) := fun s σ H S g o s' e Q q => by
  obtain ⟨o1, s1, e1, e⟩ := bnd_some e
  obtain ⟨o2, s2, e2, e⟩ := bnd_some e
  obtain ⟨x, s3, e3, e⟩ := bnd_some e
  obtain ⟨y, s4, e4, e⟩ := bnd_some e
  obtain ⟨ok, s5, e5, eA⟩ := bnd_some e
  obtain ⟨k, s6, e6, eB⟩ := bnd_some eA
  obtain ⟨ez5, rfl⟩ := lift_some e5
  refine ha.late g e1 fun v H1 S1 g1 w1 r1 => ?_
  refine hb.late g1 e2 fun u H2 S2 g2 w2 r2 => ?_
  obtain ⟨rfl, vx⟩ := view_of g2 ((r1.mono w2.same).rel) e3
  obtain ⟨rfl, vy⟩ := view_of g2 r2.rel e4
  refine ho H2 S2 v u x y ok g2.fr.sub vx vy ez5 _ fun z H3 S3 rr => ?_
  obtain ⟨g3, w3, r3, _⟩ := rr.good g2
  obtain ⟨bx, s7, e7, e8⟩ := bnd_some e6
  obtain ⟨rfl, vz⟩ := view_of g3 r3 e7
  cases bx with
  | bool c =>
    obtain ⟨rfl, rfl⟩ := ret_some e8
    obtain rfl := vz.bl
    refine ⟨k, rfl, ?_⟩
    cases k with
    | false =>
      obtain ⟨rfl, rfl⟩ := ret_some eB
      exact q _ H3 S3 g3 ((w1.trans w2).trans w3) (.bl false) trivial
    | true =>
      obtain ⟨o3, s8, e8, e⟩ := bnd_some (show (bnd Fc fun o3 => bnd (getO o2) fun y => bnd (getO o3) fun z => lift (f' y z)) _ = some (o, s') from eB)
      obtain ⟨y', s9, e9, e⟩ := bnd_some e
      obtain ⟨z', s10, e10, e⟩ := bnd_some e
      obtain ⟨ez, rfl⟩ := lift_some e
      refine hc _ σ H3 S3 g3 o3 s8 e8 _ fun w H4 S4 g4 w4 r4 _ => ?_
      obtain ⟨rfl, vy'⟩ := view_of g4 ((r2.mono (w3.trans w4).same).rel) e9
      obtain ⟨rfl, vz'⟩ := view_of g4 r4 e10
      refine ho' H4 S4 u w y' z' o g4.fr.sub vy' vz' ez Q fun z5 H5 S5 rr5 => ?_
      obtain ⟨g5, w5, r5, f5⟩ := rr5.good g4
      exact q z5 H5 S5 g5 ((((w1.trans w2).trans w3).trans w4).trans w5) r5 (f5.dom (((w1.trans w2).trans w3).trans w4))
  | _ => cases e8
theorem DO.chain {op op' : CmpOp} {f f' : D → D → Option Opd} (ho : OpD Γ (compareOp op) f) (ho' : OpD Γ (compareOp op') f') (ha : DO Γ B a Fa) (hb : DO Γ B b Fb) (hc : DO Γ B c Fc)
    (hm : lastMarks [op, op'] [b, c] = false := by with_unfolding_all rfl) : DO Γ B (.Compare a [op, op'] [b, c] pos) (chainM f f' Fa Fb Fc) := by
  obtain ⟨ta, pa, ma⟩ := ha
  obtain ⟨tb, pb, mb⟩ := hb
  obtain ⟨tc, pc, mc⟩ := hc
  obtain ⟨r, ro, mo⟩ := ho
  obtain ⟨r', ro', mo'⟩ := ho'
  exact ⟨_, fun X h => pe_chain (ro X h) (ro' X h) (pa X h) (pb X h) (pc X h) hm, mean_chain ma mb mc mo mo'⟩
theorem DT.chain {op op' : CmpOp} {f f' : D → D → Option Opd} (ho : OpD Γ (compareOp op) f) (ho' : OpD Γ (compareOp op') f') (ha : DO Γ B a Fa) (hb : DO Γ B b Fb) (hc : DO Γ B c Fc)
    (hm : lastMarks [op, op'] [b, c] = false := by with_unfolding_all rfl) : DT Γ B (.Compare a [op, op'] [b, c] pos) (bnd (chainM f f' Fa Fb Fc) boolO) := by
  obtain ⟨ta, pa, ma⟩ := ha
  obtain ⟨tb, pb, mb⟩ := hb
  obtain ⟨tc, pc, mc⟩ := hc
  obtain ⟨r, ro, mo⟩ := ho
  obtain ⟨r', ro', mo'⟩ := ho'
  exact ⟨_, fun X h => pt_chain (ro X h) (ro' X h) (pa X h) (pb X h) (pc X h) hm, mean_test (mean_chain ma mb mc mo mo')⟩
end

/-! ### and, or, not, if else -/
section
variable {Γ : Gam} {B : Bd τ} {pos : Pos} {a b c : Expr} {rest : List Expr} {Ta Tb : M τ Bool} {Fa Fb : M τ Opd}
def andT (F G : M τ Bool) : M τ Bool := bnd F fun k => if k then G else ret false
def orT (F G : M τ Bool) : M τ Bool := bnd F fun k => if k then ret true else G
def notT (F : M τ Bool) : M τ Bool := bnd F fun k => ret (!k)
theorem meanT_and {ta tb : TT} (ha : MeanT Γ.K B ta Ta) (hb : MeanT Γ.K B tb Tb) : MeanT Γ.K B (tAnd ta tb) (andT Ta Tb) := fun s σ H S g k s' e Q q => by
  obtain ⟨c, s1, e1, e⟩ := bnd_some e
  refine ha s σ H S g c s1 e1 _ fun H1 S1 g1 w1 => ?_
  cases c with
  | true => exact iteT (hb s1 σ H1 S1 g1 k s' e Q fun H2 S2 g2 w2 => q H2 S2 g2 (w1.trans w2))
  | false =>
    obtain ⟨rfl, rfl⟩ := ret_some e
    exact iteF (q H1 S1 g1 w1)
theorem meanT_or {ta tb : TT} (ha : MeanT Γ.K B ta Ta) (hb : MeanT Γ.K B tb Tb) : MeanT Γ.K B (tOr ta tb) (orT Ta Tb) := fun s σ H S g k s' e Q q => by
  obtain ⟨c, s1, e1, e⟩ := bnd_some e
  refine ha s σ H S g c s1 e1 _ fun H1 S1 g1 w1 => ?_
  cases c with
  | false => exact iteF (hb s1 σ H1 S1 g1 k s' e Q fun H2 S2 g2 w2 => q H2 S2 g2 (w1.trans w2))
  | true =>
    obtain ⟨rfl, rfl⟩ := ret_some e
    exact iteT (q H1 S1 g1 w1)
theorem DW.pt (h : DW Γ B a Ta) : DT Γ B a Ta := by
  obtain ⟨t, p, m⟩ := h
  exact ⟨t, fun X h => (p X h).pt, m⟩
theorem DW.and1 (ha : DT Γ B a Ta) : DW Γ B (.BoolOp .And [a] pos) Ta := by
  obtain ⟨t, p, m⟩ := ha
  exact ⟨t, fun X h => pw_and1 (p X h), m⟩
theorem DW.or1 (ha : DT Γ B a Ta) : DW Γ B (.BoolOp .Or [a] pos) Ta := by
  obtain ⟨t, p, m⟩ := ha
  exact ⟨t, fun X h => pw_or1 (p X h), m⟩
theorem DW.and (ha : DT Γ B a Ta) (hb : DW Γ B (.BoolOp .And (b :: rest) pos) Tb) : DW Γ B (.BoolOp .And (a :: b :: rest) pos) (andT Ta Tb) := by
  obtain ⟨ta, pa, ma⟩ := ha
  obtain ⟨tb, pb, mb⟩ := hb
  exact ⟨_, fun X h => pw_and (pa X h) (pb X h), meanT_and ma mb⟩
theorem DW.or (ha : DT Γ B a Ta) (hb : DW Γ B (.BoolOp .Or (b :: rest) pos) Tb) : DW Γ B (.BoolOp .Or (a :: b :: rest) pos) (orT Ta Tb) := by
  obtain ⟨ta, pa, ma⟩ := ha
  obtain ⟨tb, pb, mb⟩ := hb
  exact ⟨_, fun X h => pw_or (pa X h) (pb X h), meanT_or ma mb⟩
theorem DT.not (ha : DT Γ B a Ta) : DT Γ B (.UnaryOp .Not a pos) (notT Ta) := by
  obtain ⟨ta, pa, ma⟩ := ha
  refine ⟨_, fun X h => pt_not (pa X h), fun s σ H S g k s' e Q q => ?_⟩
  obtain ⟨c, s1, e1, e⟩ := bnd_some e
  obtain ⟨rfl, rfl⟩ := ret_some e
  exact ma s σ H S g c _ e1 _ q
/-- .. as values -/
def andV (F : M τ Opd) (G : M τ Opd) : M τ Opd := bnd (bnd F boolO) fun k => if k then G else ret (.val (.bool false))
def orV (F : M τ Opd) (G : M τ Opd) : M τ Opd := bnd (bnd F boolO) fun k => if k then ret (.val (.bool true)) else G
def notV (F : M τ Opd) : M τ Opd := bnd (bnd F boolO) fun k => ret (.val (.bool (!k)))
theorem DO.one {op} (ha : DO Γ B a Fa) : DO Γ B (.BoolOp op [a] pos) Fa := by
  obtain ⟨t, p, m⟩ := ha
  exact ⟨t, fun X h => pe_one (p X h), m⟩
theorem DO.and (ha : DO Γ B a Fa) (hb : DO Γ B (.BoolOp .And (b :: rest) pos) Fb) : DO Γ B (.BoolOp .And (a :: b :: rest) pos) (andV Fa Fb) := by
  obtain ⟨ta, pa, ma⟩ := ha
  obtain ⟨tb, pb, mb⟩ := hb
  refine ⟨_, fun X h => pe_and (pa X h) (pb X h), fun s σ H S g o s' e Q q => ?_⟩
  obtain ⟨k, s1, e1, e⟩ := bnd_some e
  refine mean_test ma s σ H S g k s1 e1 (fun k H1 => if k = true then tb σ H1 Q else Q (.bl false) H1) fun H1 S1 g1 w1 => ?_
  cases k with
  | true => exact iteT (mb s1 σ H1 S1 g1 o s' e Q fun v H2 S2 g2 w2 r2 f2 => q v H2 S2 g2 (w1.trans w2) r2 (f2.dom w1))
  | false =>
    obtain ⟨rfl, rfl⟩ := ret_some e
    exact iteF (q _ H1 S1 g1 w1 (.bl false) trivial)
theorem DO.or (ha : DO Γ B a Fa) (hb : DO Γ B (.BoolOp .Or (b :: rest) pos) Fb) : DO Γ B (.BoolOp .Or (a :: b :: rest) pos) (orV Fa Fb) := by
  obtain ⟨ta, pa, ma⟩ := ha
  obtain ⟨tb, pb, mb⟩ := hb
  refine ⟨_, fun X h => pe_or (pa X h) (pb X h), fun s σ H S g o s' e Q q => ?_⟩
  obtain ⟨k, s1, e1, e⟩ := bnd_some e
  refine mean_test ma s σ H S g k s1 e1 (fun k H1 => if k = true then Q (.bl true) H1 else tb σ H1 Q) fun H1 S1 g1 w1 => ?_
  cases k with
  | false => exact iteF (mb s1 σ H1 S1 g1 o s' e Q fun v H2 S2 g2 w2 r2 f2 => q v H2 S2 g2 (w1.trans w2) r2 (f2.dom w1))
  | true =>
    obtain ⟨rfl, rfl⟩ := ret_some e
    exact iteT (q _ H1 S1 g1 w1 (.bl true) trivial)
theorem DO.not (ha : DO Γ B a Fa) : DO Γ B (.UnaryOp .Not a pos) (notV Fa) := by
  obtain ⟨ta, pa, ma⟩ := ha
  refine ⟨_, fun X h => pe_not (pa X h), fun s σ H S g o s' e Q q => ?_⟩
  obtain ⟨k, s1, e1, e⟩ := bnd_some e
  obtain ⟨rfl, rfl⟩ := ret_some e
  exact mean_test ma s σ H S g k _ e1 (fun k H1 => Q (.bl (!k)) H1) fun H1 S1 g1 w1 => q _ H1 S1 g1 w1 (.bl _) trivial
def iteM (T : M τ Bool) (F G : M τ Opd) : M τ Opd := bnd T fun k => if k then F else G
theorem DO.ite {Tc : M τ Bool} (hc : DT Γ B c Tc) (ha : DO Γ B a Fa) (hb : DO Γ B b Fb) : DO Γ B (.IfExp c a b pos) (iteM Tc Fa Fb) := by
  obtain ⟨tc, pc, mc⟩ := hc
  obtain ⟨ta, pa, ma⟩ := ha
  obtain ⟨tb, pb, mb⟩ := hb
  refine ⟨_, fun X h => pe_ifExp (pc X h) (pa X h) (pb X h), fun s σ H S g o s' e Q q => ?_⟩
  obtain ⟨k, s1, e1, e⟩ := bnd_some e
  refine mc s σ H S g k s1 e1 _ fun H1 S1 g1 w1 => ?_
  cases k with
  | true => exact iteT (ma s1 σ H1 S1 g1 o s' e Q fun v H2 S2 g2 w2 r2 f2 => q v H2 S2 g2 (w1.trans w2) r2 (f2.dom w1))
  | false => exact iteF (mb s1 σ H1 S1 g1 o s' e Q fun v H2 S2 g2 w2 r2 f2 => q v H2 S2 g2 (w1.trans w2) r2 (f2.dom w1))
end

/-! ### arguments, displays -/
section
variable {Γ : Gam} {B : Bd τ} {pos : Pos} {e : Expr} {es : List Expr}
def nilM : M τ (List α) := ret []
def consO (F : M τ Opd) (G : M τ (List Opd)) : M τ (List Opd) := bnd (lateM F) fun o => bnd G fun os => ret (o :: os)
def consD (F : M τ Opd) (G : M τ (List D)) : M τ (List D) := bnd (valM F) fun d => bnd G fun ds => ret (d :: ds)
theorem DA.nil : DA Γ B [] nilM := ⟨_, fun X h => pa_nil, fun s σ H S g os s' e Q q => by
  obtain ⟨rfl, rfl⟩ := ret_some e
  exact q [] H S g Step.refl trivial⟩
theorem DA.cons {F : M τ Opd} {G : M τ (List Opd)} (h : DO Γ B e F) (hs : DA Γ B es G) (hst : ∀ X : Cx, starEach (e :: es) X.env = (false, eval e X.env) :: starEach es X.env := by intro _; rfl) : DA Γ B (e :: es) (consO F G) := by
  obtain ⟨t, p, m⟩ := h
  obtain ⟨u, pu, mu⟩ := hs
  refine ⟨_, fun X h => pa_cons (p X h) (pu X h) (hst X), fun s σ H S g os s' e Q q => ?_⟩
  obtain ⟨o, s1, e1, e⟩ := bnd_some e
  obtain ⟨os', s2, e2, e⟩ := bnd_some e
  obtain ⟨rfl, rfl⟩ := ret_some e
  refine m.late g e1 fun v H1 S1 g1 w1 r1 => ?_
  exact mu s1 σ H1 S1 g1 os' _ e2 _ fun vs H2 S2 g2 w2 r2 => q _ H2 S2 g2 (w1.trans w2) ⟨r1.mono w2.same, r2⟩
theorem DV.nil : DV Γ B [] nilM := ⟨_, fun X h => pa_nil, fun s σ H S g os s' e Q q => by
  obtain ⟨rfl, rfl⟩ := ret_some e
  exact q [] H S g Step.refl .nil⟩
theorem DV.cons {F : M τ Opd} {G : M τ (List D)} (h : DO Γ B e F) (hs : DV Γ B es G) (hst : ∀ X : Cx, starEach (e :: es) X.env = (false, eval e X.env) :: starEach es X.env := by intro _; rfl) : DV Γ B (e :: es) (consD F G) := by
  obtain ⟨t, p, m⟩ := h
  obtain ⟨u, pu, mu⟩ := hs
  refine ⟨_, fun X h => pa_cons (p X h) (pu X h) (hst X), fun s σ H S g os s' e Q q => ?_⟩
  obtain ⟨o, s1, e1, e⟩ := bnd_some e
  obtain ⟨os', s2, e2, e⟩ := bnd_some e
  obtain ⟨rfl, rfl⟩ := ret_some e
  refine m.val g e1 fun v H1 S1 g1 w1 r1 => ?_
  exact mu s1 σ H1 S1 g1 os' _ e2 _ fun vs H2 S2 g2 w2 r2 => q _ H2 S2 g2 (w1.trans w2) (.cons (Dq.mono w2.same r1) r2)
def fitsL (ds : List D) : Bool := decide (ds.length ≤ sizeLine)
def tupM (G : M τ (List D)) : M τ Opd := bnd G fun ds => if fitsL ds then ret (.val (.tuple ds)) else stuck
def lstM (G : M τ (List D)) : M τ Opd := bnd G fun ds => if fitsL ds then ret (.new ds) else stuck
theorem DO.tup {x1} {G : M τ (List D)} (h : DV Γ B es G) : DO Γ B (.Tuple es x1 pos) (tupM G) := by
  obtain ⟨t, p, m⟩ := h
  refine ⟨_, fun X h => pe_tup (p X h), fun s σ H S g o s' e Q q => ?_⟩
  obtain ⟨ds, s1, e1, e⟩ := bnd_some e
  by_cases hf : fitsL ds = true
  · rw [if_pos hf] at e
    obtain ⟨rfl, rfl⟩ := ret_some e
    refine m s σ H S g ds _ e1 _ fun vs H1 S1 g1 w1 r1 => ⟨by rw [r1.len]; exact of_decide_eq_true hf, fun p n => ?_⟩
    have w := Grow.alloc (o := .tup vs) g1.fr.sub n
    exact q _ _ _ (g1.grow w) (w1.trans w.step) (.tup (SqT.of upd_same) (DqAll.mono w.s r1)) trivial
  · rw [if_neg hf] at e
    cases e
theorem DO.lst {G : M τ (List D)} (h : DV Γ B es G) : DO Γ B (.List es pos) (lstM G) := by
  obtain ⟨t, p, m⟩ := h
  refine ⟨_, fun X h => pe_lst (p X h), fun s σ H S g o s' e Q q => ?_⟩
  obtain ⟨ds, s1, e1, e⟩ := bnd_some e
  by_cases hf : fitsL ds = true
  · rw [if_pos hf] at e
    obtain ⟨rfl, rfl⟩ := ret_some e
    refine m s σ H S g ds _ e1 _ fun vs H1 S1 g1 w1 r1 => ⟨by rw [r1.len]; exact of_decide_eq_true hf, fun p n => ?_⟩
    obtain ⟨g2, f⟩ := Good.free g1 n r1
    exact q _ _ _ g2 (w1.trans (Grow.fresh g1.fr.sub n).step) ⟨p, rfl, f⟩ ⟨p, rfl, w1.dom p n⟩
  · rw [if_neg hf] at e
    cases e
end

/-! ### subscripts, slices, calls -/
section
variable {Γ : Gam} {B : Bd τ} {pos : Pos} {a b e : Expr} {es : List Expr} {Fa Fb : M τ Opd}
theorem DO.ix {f : D → D → Option Opd} (ho : ∃ r, (∀ X, Γ.Has X → IxR X r) ∧ OpM Γ.K r f) (ha : DO Γ B a Fa) (hb : DO Γ B b Fb) (hs : PlainIx b := by intro _ _; rfl) : DO Γ B (.Subscript a b pos) (op2 f Fa Fb) := by
  obtain ⟨ta, pa, ma⟩ := ha
  obtain ⟨tb, pb, mb⟩ := hb
  obtain ⟨r, ro, mo⟩ := ho
  exact ⟨_, fun X h => pe_ix (ro X h) (pa X h) (pb X h) hs, mean_op ma mb mo⟩
/-- a part of a slice -/
def MeanP (K : Frag) (B : Bd τ) (t : TO) (F : M τ (Option Int)) : Prop := ∀ s σ H S, Good K B s σ H S → ∀ o s', F s = some (o, s') →
  ∀ Q : Option Int → Hp → Prop, (∀ H' S', Good K B s' σ H' S' → Step K B σ s H S s' H' S' → Q o H') → t σ H Q
def DP (Γ : Gam) (B : Bd τ) (e : Option Expr) (F : M τ (Option Int)) : Prop := ∃ t, (∀ X, Γ.Has X → PO X e t) ∧ MeanP Γ.K B t F
theorem DP.none : DP Γ B none (ret none) := ⟨_, fun X h => po_none, fun s σ H S g o s' e Q q => by
  obtain ⟨rfl, rfl⟩ := ret_some e
  exact q H S g Step.refl⟩
def intO (o : Opd) : M τ (Option Int) := bnd (getO o) fun x => match x with
  | .int i => ret (some i)
  | _ => stuck
theorem DP.some (ha : DO Γ B a Fa) : DP Γ B (some a) (bnd Fa intO) := by
  obtain ⟨ta, pa, ma⟩ := ha
  refine ⟨_, fun X h => po_some (pa X h), fun s σ H S g o s' e Q q => ?_⟩
  obtain ⟨o1, s1, e1, e⟩ := bnd_some e
  obtain ⟨x, s2, e2, e⟩ := bnd_some e
  refine ma s σ H S g o1 s1 e1 _ fun v H1 S1 g1 w1 r1 _ => ?_
  obtain ⟨rfl, vx⟩ := view_of g1 r1 e2
  cases x with
  | int i =>
    obtain ⟨rfl, rfl⟩ := ret_some e
    obtain rfl := vx.int
    exact ⟨i, rfl, q H1 S1 g1 w1⟩
  | _ => cases e
def SlM (K : Frag) (r : V → Option Int → Option Int → Hp → VK → Prop) (f : D → Option Int → Option Int → Option Opd) : Prop := ∀ H S v x lo hi o, Same S H → View K H S v x → f x lo hi = some o →
  ∀ Q : VK, (∀ z H' S', ResR K H S z H' S' o → Q z H') → r v lo hi H Q
def sliceM (f : D → Option Int → Option Int → Option Opd) (F : M τ Opd) (L U : M τ (Option Int)) : M τ Opd := bnd (lateM F) fun o => bnd L fun l => bnd U fun u => bnd (getO o) fun x => lift (f x l u)
theorem DO.slice {f : D → Option Int → Option Int → Option Opd} {lo hi : Option Expr} {L U : M τ (Option Int)} {p2 : Pos} (ho : ∃ r, (∀ X, Γ.Has X → SlR X r) ∧ SlM Γ.K r f) (ha : DO Γ B a Fa) (hl : DP Γ B lo L) (hh : DP Γ B hi U) :
    DO Γ B (.Subscript a (.Slice lo hi none p2) pos) (sliceM f Fa L U) := by
  obtain ⟨ta, pa, ma⟩ := ha
  obtain ⟨tl, pl, ml⟩ := hl
  obtain ⟨tu, pu, mu⟩ := hh
  obtain ⟨r, ro, mo⟩ := ho
  refine ⟨_, fun X h => pe_slice (ro X h) (pa X h) (pl X h) (pu X h), fun s σ H S g o s' e Q q => ?_⟩
  obtain ⟨o1, s1, e1, e⟩ := bnd_some e
  obtain ⟨l, s2, e2, e⟩ := bnd_some e
  obtain ⟨u, s3, e3, e⟩ := bnd_some e
  obtain ⟨x, s4, e4, e⟩ := bnd_some e
  obtain ⟨ez, rfl⟩ := lift_some e
  refine ma.late g e1 fun v H1 S1 g1 w1 r1 => ?_
  refine ml s1 σ H1 S1 g1 l s2 e2 _ fun H2 S2 g2 w2 => ?_
  refine mu s2 σ H2 S2 g2 u s3 e3 _ fun H3 S3 g3 w3 => ?_
  obtain ⟨rfl, vx⟩ := view_of g3 ((r1.mono (w2.trans w3).same).rel) e4
  refine mo H3 S3 v x l u o g3.fr.sub vx ez Q fun z H4 S4 rr => ?_
  obtain ⟨g4, w4, r4, f4⟩ := rr.good g3
  exact q z H4 S4 g4 (((w1.trans w2).trans w3).trans w4) r4 (f4.dom ((w1.trans w2).trans w3))
/-- operands, looked at -/
def getL : List Opd → M τ (List D)
  | [] => ret []
  | o :: os => bnd (getO o) fun x => bnd (getL os) fun xs => ret (x :: xs)
def ViewL (K : Frag) (H S : Hp) : List V → List D → Prop
  | [], [] => True
  | v :: vs, x :: xs => View K H S v x ∧ ViewL K H S vs xs
  | _, _ => False
theorem viewL_of {K : Frag} {B : Bd τ} {s s' : Stt τ} {σ : List (Option V)} {H S : Hp} (g : Good K B s σ H S) : ∀ {vs : List V} {os : List Opd} {ds : List D}, RelL K S σ vs os → getL os s = some (ds, s') → s' = s ∧ ViewL K H S vs ds
  | [], [], ds, _, e => by
    obtain ⟨rfl, rfl⟩ := ret_some e
    exact ⟨rfl, trivial⟩
  | v :: vs, o :: os, ds, r, e => by
    obtain ⟨x, s1, e1, eA⟩ := bnd_some e
    obtain ⟨xs, s2, e2, eB⟩ := bnd_some eA
    obtain ⟨rfl, rfl⟩ := ret_some eB
    obtain ⟨rfl, vx⟩ := view_of g r.1.rel e1
    obtain ⟨q, vl⟩ := viewL_of g r.2 e2
    exact ⟨q, vx, vl⟩
  | [], _ :: _, _, r, _ => r.elim
  | _ :: _, [], _, r, _ => r.elim
def CallM (K : Frag) (r : List V → Hp → VK → Prop) (f : List D → Option Opd) : Prop := ∀ H S vs xs o, Same S H → ViewL K H S vs xs → f xs = some o →
  ∀ Q : VK, (∀ z H' S', ResR K H S z H' S' o → Q z H') → r vs H Q
def callM (f : List D → Option Opd) (G : M τ (List Opd)) : M τ Opd := bnd G fun os => bnd (getL os) fun xs => lift (f xs)
theorem mean_call {t : TA} {r : List V → Hp → VK → Prop} {f : List D → Option Opd} {G : M τ (List Opd)} (m : MeanA Γ.K B t G) (mo : CallM Γ.K r f) : Mean Γ.K B (tCB r t) (callM f G) := fun s σ H S g o s' e Q q => by
  obtain ⟨os, s1, e1, e⟩ := bnd_some e
  obtain ⟨xs, s2, e2, e⟩ := bnd_some e
  obtain ⟨ez, rfl⟩ := lift_some e
  refine m s σ H S g os s1 e1 _ fun vs H1 S1 g1 w1 r1 => ?_
  obtain ⟨rfl, vl⟩ := viewL_of g1 r1 e2
  refine mo H1 S1 vs xs o g1.fr.sub vl ez Q fun z H2 S2 rr => ?_
  obtain ⟨g2, w2, r2, f2⟩ := rr.good g1
  exact q z H2 S2 g2 (w1.trans w2) r2 (f2.dom w1)
def CallD (Γ : Gam) (fv : Value) (f : List D → Option Opd) : Prop := ∃ r, (∀ X, Γ.Has X → CallR X fv r) ∧ CallM Γ.K r f
theorem DO.callB {x : Str} {id : String} {f : List D → Option Opd} {G : M τ (List Opd)} {p : Pos} (hc : CallD Γ (.builtin id) f) (hg : Γ.sc.names.lookup x = some .globalImplicit) (hm : Γ.mg x = none) (hv : bootBuiltins x = some (.builtin id)) (ha : DA Γ B (e :: es) G)
    (hn : x ≠ "__name__" := by decide) (hdb : (x == ("__debug__" : Str)) = false := by decide) (he : ∀ X : Cx, starEach (e :: es) X.env = (false, eval e X.env) :: starEach es X.env := by intro _; rfl) (hpl : ∀ X : Cx, (backTo pos (starEach es X.env)).any (·.1) = false := by intro _; rfl) :
    DO Γ B (.Call (.Name x p) (e :: es) [] pos) (callM f G) := by
  obtain ⟨t, pa, m⟩ := ha
  obtain ⟨r, ro, mo⟩ := hc
  exact ⟨_, fun X h => pe_callB (ro X h) (gl_of h hg) (by rw [h.mg]; exact hm) hv (pa X h) hn hdb (he X) (hpl X), mean_call m mo⟩
theorem DO.callTy {x : Str} {T : String} {f : List D → Option Opd} {G : M τ (List Opd)} {p : Pos} (hc : CallD Γ (.type T) f) (hg : Γ.sc.names.lookup x = some .globalImplicit) (hm : Γ.mg x = none) (hv : bootBuiltins x = some (.type T)) (ha : DA Γ B (e :: es) G)
    (hn : x ≠ "__name__" := by decide) (hdb : (x == ("__debug__" : Str)) = false := by decide) (he : ∀ X : Cx, starEach (e :: es) X.env = (false, eval e X.env) :: starEach es X.env := by intro _; rfl) (hpl : ∀ X : Cx, (backTo pos (starEach es X.env)).any (·.1) = false := by intro _; rfl) :
    DO Γ B (.Call (.Name x p) (e :: es) [] pos) (callM f G) := by
  obtain ⟨t, pa, m⟩ := ha
  obtain ⟨r, ro, mo⟩ := hc
  exact ⟨_, fun X h => pe_callTy (ro X h) (gl_of h hg) (by rw [h.mg]; exact hm) hv (pa X h) hn hdb (he X) (hpl X), mean_call m mo⟩
end
end DL
end

section
set_option Elab.async false
set_option linter.all false
set_option maxRecDepth 100000
set_option maxHeartbeats 3999999
/-! WEng3: the operations on data -/
namespace DL
open L2 PySem PyProof.Rows PySem.Spec
variable {τ α β : Type}

/-! ### whole numbers -/
def opI (C : Int → Int → Bool) (f : Int → Int → D) : D → D → Option Opd := fun x y => match x, y with
  | .int i, .int j => if C i j then some (.val (f i j)) else none
  | _, _ => none
theorem opM_int {K : Frag} {S H : Hp} {v : V} {d : D} (w : Same S H) (h : Dq K S v d) {Q : VK} (q : ∀ z H' S', ResR K H S z H' S' (.val d) → Q z H') : Q v H := q v H S (.val (Grow.refl w) h)
theorem opI_of {Γ : Gam} {f : Value → Value → Sem Value} {C : Int → Int → Bool} {C' : Int → Int → Prop} {g : Int → Int → V} {d : Int → Int → D} (ho : ∀ X, Γ.Has X → OpR X f (rI C' g)) (hc : ∀ i j, C i j = true → C' i j)
    (hd : ∀ S i j, Dq Γ.K S (g i j) (d i j)) : OpD Γ f (opI C d) := ⟨_, ho, fun H S v u x y o w vx vy e Q q => by
  unfold opI at e
  split at e
  · rename_i i j
    by_cases hC : C i j = true
    · rw [if_pos hC] at e
      cases e
      exact ⟨i, j, vx.int, vy.int, hc i j hC, opM_int w (hd S i j) q⟩
    · rw [if_neg hC] at e
      cases e
  · cases e⟩
theorem opI0_of {Γ : Gam} {f : Value → Value → Sem Value} {g : Int → Int → V} {d : Int → Int → D} (ho : ∀ X, Γ.Has X → OpR X f (rI0 g))
    (hd : ∀ S i j, Dq Γ.K S (g i j) (d i j)) : OpD Γ f (opI (fun _ _ => true) d) := ⟨_, ho, fun H S v u x y o w vx vy e Q q => by
  unfold opI at e
  split at e
  · rename_i i j
    cases e
    exact ⟨i, j, vx.int, vy.int, opM_int w (hd S i j) q⟩
  · cases e⟩
def mulOk (i j : Int) : Bool := decide (i.natAbs.log2 + j.natAbs.log2 < 1000000)
def divOk (_ j : Int) : Bool := decide (0 < j) && decide (j.natAbs.log2 < 9000)
def modOk (_ j : Int) : Bool := decide (0 < j)
def powOk (i j : Int) : Bool := decide (0 ≤ j) && decide (j ≤ 1000000) && decide (i.natAbs < 2 ^ 64)
def subD : D → D → Option Opd := opI (fun _ _ => true) fun i j => .int (i - j)
def fdivD : D → D → Option Opd := opI divOk fun i j => .int (i / j)
def modD : D → D → Option Opd := opI modOk fun i j => .int (i % j)
def powD : D → D → Option Opd := opI powOk fun i j => .int (i ^ j.toNat)
def ltD : D → D → Option Opd := opI (fun _ _ => true) fun i j => .bool (decide (i < j))
def leD : D → D → Option Opd := opI (fun _ _ => true) fun i j => .bool (decide (i ≤ j))
def gtD : D → D → Option Opd := opI (fun _ _ => true) fun i j => .bool (decide (j < i))
def geD : D → D → Option Opd := opI (fun _ _ => true) fun i j => .bool (decide (j ≤ i))
section
variable {Γ : Gam}
theorem od_sub : OpD Γ (binaryOp .Sub) subD := opI0_of (fun _ _ => op_sub) fun _ _ _ => .int _
theorem od_fdiv : OpD Γ (binaryOp .FloorDiv) fdivD := opI_of (fun _ _ => op_fdivW) (fun i j h => by
  have h' := Bool.and_eq_true_iff.mp h
  exact ⟨of_decide_eq_true h'.1, of_decide_eq_true h'.2⟩) fun _ _ _ => .int _
theorem od_mod : OpD Γ (binaryOp .Mod) modD := opI_of (fun _ _ => op_mod) (fun i j h => of_decide_eq_true h) fun _ _ _ => .int _
theorem od_pow : OpD Γ (binaryOp .Pow) powD := opI_of (fun _ _ => op_pow) (fun i j h => by
  have h' := Bool.and_eq_true_iff.mp h
  have h2 := Bool.and_eq_true_iff.mp h'.1
  exact ⟨of_decide_eq_true h2.1, of_decide_eq_true h2.2, of_decide_eq_true h'.2⟩) fun _ _ _ => .int _
theorem od_lt : OpD Γ (compareOp .Lt) ltD := opI0_of (fun _ _ => op_lt) fun _ _ _ => .bl _
theorem od_le : OpD Γ (compareOp .LtE) leD := opI0_of (fun _ _ => op_le) fun _ _ _ => .bl _
theorem od_gt : OpD Γ (compareOp .Gt) gtD := opI0_of (fun _ _ => op_gt) fun _ _ _ => .bl _
theorem od_ge : OpD Γ (compareOp .GtE) geD := opI0_of (fun _ _ => op_ge) fun _ _ _ => .bl _
theorem od_addI : OpD Γ (binaryOp .Add) (opI (fun _ _ => true) fun i j => .int (i + j)) := opI0_of (fun _ _ => op_add) fun _ _ _ => .int _
theorem od_mulI : OpD Γ (binaryOp .Mult) (opI mulOk fun i j => .int (i * j)) := opI_of (fun _ _ => op_mulW) (fun i j h => (of_decide_eq_true h : i.natAbs.log2 + j.natAbs.log2 < 1000000)) fun _ _ _ => .int _

/-! ### sequences added, repeated -/
def catL : D → D → Option Opd := fun x y => match x, y with
  | .list xs, .list ys => if xs.length + ys.length ≤ sizeLine then some (.new (xs ++ ys)) else none
  | _, _ => none
theorem od_catL : OpD Γ (binaryOp .Add) catL := ⟨_, fun _ _ => op_cat, fun H S v u x y o w vx vy e Q q => by
  unfold catL at e
  split at e
  · rename_i xs ys
    obtain ⟨p, vs, rfl, hp, ha⟩ := vx.lst w
    obtain ⟨b, us, rfl, hb, hu⟩ := vy.lst w
    by_cases hz : xs.length + ys.length ≤ sizeLine
    · rw [if_pos hz] at e
      cases e
      exact ⟨p, b, vs, us, rfl, rfl, hp, hb, by rw [ha.len, hu.len]; exact hz, fun p' n => q _ _ _ (.new n (ha.app hu))⟩
    · rw [if_neg hz] at e
      cases e
  · cases e⟩
def catT : D → D → Option Opd := fun x y => match x, y with
  | .tuple xs, .tuple ys => if xs.length + ys.length ≤ sizeLine then some (.val (.tuple (xs ++ ys))) else none
  | _, _ => none
theorem od_catT : OpD Γ (binaryOp .Add) catT := by
  refine ⟨rCatA Γ.K, fun X h => by have := @op_catA X; rw [h.K] at this; exact this, fun H S v u x y o w vx vy e Q q => ?_⟩
  unfold catT at e
  split at e
  · rename_i xs ys
    obtain ⟨p, vs, rfl, hp, ha⟩ := vx.tup
    obtain ⟨b, us, rfl, hb, hu⟩ := vy.tup
    by_cases hz : xs.length + ys.length ≤ sizeLine
    · rw [if_pos hz] at e
      cases e
      refine ⟨p, b, vs, us, rfl, rfl, seqT_mono w hp, seqT_mono w hb, by rw [ha.len, hu.len]; exact hz, fun e1 => ?_, fun e1 e2 => ?_, fun e1 e2 p' n => ?_⟩
      · obtain rfl := ha.nil_iff.mp e1
        exact q _ H S (.val (Grow.refl w) (.tup hb hu))
      · obtain rfl := hu.nil_iff.mp e2
        rw [List.append_nil] at q
        exact q _ H S (.val (Grow.refl w) (.tup hp ha))
      · have g := Grow.alloc (o := .tup (vs ++ us)) w n
        exact q _ _ _ (.val g (.tup (SqT.of upd_same) (DqAll.mono g.s (ha.app hu))))
    · rw [if_neg hz] at e
      cases e
  · cases e
def catS : D → D → Option Opd := fun x y => match x, y with
  | .str a, .str b => if a.length + b.length ≤ sizeLine then some (.val (.str (a ++ b))) else none
  | _, _ => none
theorem od_catS : OpD Γ (binaryOp .Add) catS := ⟨_, fun _ _ => op_add_str, fun H S v u x y o w vx vy e Q q => by
  unfold catS at e
  split at e
  · rename_i a b
    by_cases hz : a.length + b.length ≤ sizeLine
    · rw [if_pos hz] at e
      cases e
      exact ⟨a, b, vx.str, vy.str, hz, opM_int w (.str _) q⟩
    · rw [if_neg hz] at e
      cases e
  · cases e⟩
def addD : D → D → Option Opd := orO (opI (fun _ _ => true) fun i j => .int (i + j)) (orO catT (orO catL catS))
theorem od_add : OpD Γ (binaryOp .Add) addD := od_addI.or (od_catT.or (od_catL.or od_catS))
def repT : D → D → Option Opd := fun x y => match x, y with
  | .tuple xs, .int k => if xs ≠ [] ∧ 2 ≤ k ∧ k ≤ 1000 ∧ xs.length ≤ 1000 then some (.val (.tuple (List.replicate k.toNat xs).flatten)) else none
  | _, _ => none
theorem od_repT : OpD Γ (binaryOp .Mult) repT := by
  refine ⟨rRepT Γ.K, fun X h => by have := @op_repT X; rw [h.K] at this; exact this, fun H S v u x y o w vx vy e Q q => ?_⟩
  unfold repT at e
  split at e
  · rename_i xs k
    obtain ⟨p, vs, rfl, hp, ha⟩ := vx.tup
    by_cases hz : xs ≠ [] ∧ 2 ≤ k ∧ k ≤ 1000 ∧ xs.length ≤ 1000
    · rw [if_pos hz] at e
      cases e
      obtain ⟨h1, h2, h3, h4⟩ := hz
      refine ⟨p, k, vs, rfl, vy.int, seqT_mono w hp, fun z => h1 (ha.nil_iff.mp z), h2, h3, by rw [ha.len]; exact h4, fun p' n => ?_⟩
      have g := Grow.alloc (o := .tup (List.replicate k.toNat vs).flatten) w n
      exact q _ _ _ (.val g (.tup (SqT.of upd_same) (DqAll.mono g.s (ha.rep _))))
    · rw [if_neg hz] at e
      cases e
  · cases e
theorem tuple_mul1 (l : Addr) (its : Array Value) (n : Nat) (dd : Option Addr) (sl : Array (Option Value)) (u : Tok) :
    Meets (Builtin.«tuple.__mul__» ⟨[.ref l, .int 1 u], []⟩) (fun _ R s => s.heap.get? l = some { cls := .type "tuple", dict := dd, data := .seq its n, slots := sl } ∧ R (.ok (.ret (.ref l))) s) :=
  .of_wp fun prog w A R s h => by
    obtain ⟨hp, g, d, tk, os⟩ := s
    obtain ⟨hl, h⟩ := h
    have f1 := AutoSeq1.idx_int
    wp_walk using wpAny_loadPart' hl
    exact ⟨_, rfl, h⟩
/-- a tuple times one is that tuple -/
def rRep1 (K : Frag) : R2 := fun x y H Q => ∃ l xs, x = .ref l ∧ y = .int 1 ∧ SqT K H l xs ∧ Q (.ref l) H
theorem op_rep1 {X : Cx} : OpR X (binaryOp .Mult) (rRep1 X.K) := by
  intro pins s σ H x y v u Q I rx ry h
  obtain ⟨l, xs, rfl, rfl, hT, q⟩ := h
  cases rx
  obtain ⟨t, rfl⟩ := ry
  obtain ⟨its, r, ⟨⟨cls, dd, data, sl⟩, ho, hc, n, hd⟩, hs⟩ := I.tuple hT
  simp only at hc hd
  subst hc hd
  refine wpAny_binaryOp_repeat_ref (T := "tuple") (U := "int") (by decide) ⟨_, ho, rfl⟩ (fun s' => typeIs_int s' 1 t) noFill_tuple_mul F.fills_int_mul F.slot_int_rmul repeat_tuple F.slot_int_index.lookup
    (call_meets F.slot_int_rmul (typeIs_int s 1 t) F.entry_int_rmul (F.args_int_rmul_2 _ _) (int_rmul_tuple 1 t l its.toArray n dd sl)
      ⟨ho, rfl, ⟨_, ho, rfl⟩, call_meets F.slot_tuple_mul ⟨_, ho, rfl⟩ F.entry_tuple_mul (F.args_tuple_mul_2 _ _) (tuple_mul1 l its.toArray n dd sl t) ⟨ho, ?_⟩⟩)
  exact ⟨.ref l, H, I, rfl, q⟩
def rep1 : D → D → Option Opd := fun x y => match x, y with
  | .tuple xs, .int k => if k = 1 then some (.val (.tuple xs)) else none
  | _, _ => none
theorem od_rep1 : OpD Γ (binaryOp .Mult) rep1 := by
  refine ⟨rRep1 Γ.K, fun X h => by have := @op_rep1 X; rw [h.K] at this; exact this, fun H S v u x y o w vx vy e Q q => ?_⟩
  unfold rep1 at e
  split at e
  · rename_i xs k
    split at e
    · rename_i hk
      cases e
      subst hk
      obtain ⟨p, vs, rfl, hp, ha⟩ := vx.tup
      obtain rfl := vy.int
      exact ⟨p, vs, rfl, rfl, seqT_mono w hp, q _ H S (.val (Grow.refl w) (.tup hp ha))⟩
    · cases e
  · cases e
def repL : D → D → Option Opd := fun x y => match x, y with
  | .list xs, .int k => if -(2 ^ 63) ≤ k ∧ k < 2 ^ 63 ∧ xs.length * k.toNat ≤ sizeLine then some (.new (List.replicate k.toNat xs).flatten) else none
  | _, _ => none
theorem od_repL : OpD Γ (binaryOp .Mult) repL := ⟨_, fun _ _ => op_rep, fun H S v u x y o w vx vy e Q q => by
  unfold repL at e
  split at e
  · rename_i xs k
    obtain ⟨p, vs, rfl, hp, ha⟩ := vx.lst w
    by_cases hz : -(2 ^ 63) ≤ k ∧ k < 2 ^ 63 ∧ xs.length * k.toNat ≤ sizeLine
    · rw [if_pos hz] at e
      cases e
      obtain ⟨h1, h2, h3⟩ := hz
      exact ⟨p, k, vs, rfl, vy.int, hp, h1, h2, by rw [ha.len]; exact h3, fun p' n => q _ _ _ (.new n (ha.rep _))⟩
    · rw [if_neg hz] at e
      cases e
  · cases e⟩
def mulD : D → D → Option Opd := orO (opI mulOk fun i j => .int (i * j)) (orO repT (orO rep1 repL))
theorem od_mul : OpD Γ (binaryOp .Mult) mulD := od_mulI.or (od_repT.or (od_rep1.or od_repL))

/-! ### comparisons -/
def eqD : D → D → Option Opd := fun x y => if SeqAt.shaped x && SeqAt.shaped y then some (.val (.bool (PyData.eqv x y))) else none
def neD : D → D → Option Opd := fun x y => if SeqAt.shaped x && SeqAt.shaped y then some (.val (.bool (!PyData.eqv x y))) else none
theorem od_eq {k : Nat} (ok : Γ.Ok k) : OpD Γ (compareOp .Eq) eqD := by
  refine ⟨rEqD Γ.K, fun X h => by have := @op_eqD X (by rw [h.A]; exact ok.room.units); rw [h.K] at this; exact this, fun H S v u x y o w vx vy e Q q => ?_⟩
  unfold eqD at e
  by_cases hz : (SeqAt.shaped x && SeqAt.shaped y) = true
  · rw [if_pos hz] at e
    cases e
    obtain ⟨h1, h2⟩ := Bool.and_eq_true_iff.mp hz
    exact ⟨x, y, (vx.full w).dp, (vy.full w).dp, h1, h2, opM_int w (.bl _) q⟩
  · rw [if_neg hz] at e
    cases e
theorem od_ne {k : Nat} (ok : Γ.Ok k) : OpD Γ (compareOp .NotEq) neD := by
  refine ⟨rNeD Γ.K, fun X h => by have := @op_neD X (by rw [h.A]; exact ok.room.units); rw [h.K] at this; exact this, fun H S v u x y o w vx vy e Q q => ?_⟩
  unfold neD at e
  by_cases hz : (SeqAt.shaped x && SeqAt.shaped y) = true
  · rw [if_pos hz] at e
    cases e
    obtain ⟨h1, h2⟩ := Bool.and_eq_true_iff.mp hz
    exact ⟨x, y, (vx.full w).dp, (vy.full w).dp, h1, h2, opM_int w (.bl _) q⟩
  · rw [if_neg hz] at e
    cases e
def isNoneB : D → Bool
  | .none => true
  | _ => false
theorem View.isN {K : Frag} {H S : Hp} {v : V} {d : D} (h : View K H S v d) : decide (v = .non) = isNoneB d := by
  rcases h with h | ⟨p, vs, xs, rfl, _, _, rfl⟩
  · cases h <;> rfl
  · rfl
def isD : D → D → Option Opd := fun x y => match y with
  | .none => some (.val (.bool (isNoneB x)))
  | _ => none
def isNotD : D → D → Option Opd := fun x y => match y with
  | .none => some (.val (.bool (!isNoneB x)))
  | _ => none
theorem od_is : OpD Γ (compareOp .Is) isD := ⟨_, fun _ _ => op_isN, fun H S v u x y o w vx vy e Q q => by
  unfold isD at e
  split at e
  · cases e
    exact ⟨vy.non, by rw [vx.isN]; exact opM_int w (.bl _) q⟩
  · cases e⟩
theorem od_isNot : OpD Γ (compareOp .IsNot) isNotD := ⟨_, fun _ _ => op_notN, fun H S v u x y o w vx vy e Q q => by
  unfold isNotD at e
  split at e
  · cases e
    exact ⟨vy.non, by rw [vx.isN]; exact opM_int w (.bl _) q⟩
  · cases e⟩
def flatD : D → Bool
  | .none => true
  | .bool _ => true
  | .int _ => true
  | .str _ => true
  | _ => false
theorem flat_of {K : Frag} {S : Hp} {v : V} {d : D} (h : Dq K S v d) : flatV v = flatD d := by cases h <;> rfl
theorem flats_of {K : Frag} {S : Hp} : ∀ {vs : List V} {ds : List D}, DqAll K S vs ds → vs.all flatV = ds.all flatD
  | _, _, .nil => rfl
  | _, _, .cons h t => by rw [List.all_cons, List.all_cons, flat_of h, flats_of t]
theorem eqV_of {K : Frag} {S : Hp} {v u : V} {x y : D} (h : Dq K S v x) (h' : Dq K S u y) (fx : flatD x = true) (fy : flatD y = true) : eqV v u = PyData.eqv x y := by
  cases h <;> first | (cases fx; done) | (cases h' <;> first | (cases fy; done) | rfl | simp [eqV, PyData.eqv])
theorem inV_of {K : Frag} {S : Hp} {u : V} {y : D} (h' : Dq K S u y) (fy : flatD y = true) : ∀ {vs : List V} {ds : List D}, DqAll K S vs ds → ds.all flatD = true → inV u vs = ds.any fun z => PyData.eqv z y
  | _, _, .nil, _ => rfl
  | _, _, .cons h t, f => by
    rw [List.all_cons, Bool.and_eq_true] at f
    show List.any _ _ = _
    rw [List.any_cons, List.any_cons, eqV_of h h' f.1 fy]
    exact congrArg _ (inV_of h' fy t f.2)
def inT (neg : Bool) : D → D → Option Opd := fun x y => match y with
  | .tuple ys => if flatD x && ys.all flatD then some (.val (.bool (if neg then !(ys.any fun z => PyData.eqv z x) else ys.any fun z => PyData.eqv z x))) else none
  | _ => none
theorem opM_inT (neg : Bool) : OpM Γ.K (rIn Γ.K neg) (inT neg) := fun H S v u x y o w vx vy e Q q => by
  unfold inT at e
  split at e
  · rename_i ys
    obtain ⟨p, vs, rfl, hp, ha⟩ := vy.tup
    by_cases hz : (flatD x && ys.all flatD) = true
    · rw [if_pos hz] at e
      cases e
      obtain ⟨h1, h2⟩ := Bool.and_eq_true_iff.mp hz
      have hx : Dq Γ.K S v x := by
        rcases vx with h | ⟨_, _, xs, _, _, _, rfl⟩
        · exact h
        · cases h1
      exact ⟨p, vs, rfl, .inr (seqT_mono w hp), by rw [flat_of hx]; exact h1, by rw [flats_of ha]; exact h2, by rw [inV_of hx h1 ha h2]; exact opM_int w (.bl _) q⟩
    · rw [if_neg hz] at e
      cases e
  · cases e
def inL (neg : Bool) : D → D → Option Opd := fun x y => match y with
  | .list ys => if SeqAt.shaped x && SeqAt.shaped (.list ys) then some (.val (.bool (if neg then !(ys.any fun z => PyData.eqv z x) else ys.any fun z => PyData.eqv z x))) else none
  | _ => none
theorem od_inT : OpD Γ (compareOp .In) (inT false) := ⟨rIn Γ.K false, fun X h => by have := @op_in_seq X; rw [h.K] at this; exact this, opM_inT false⟩
theorem od_notInT : OpD Γ (compareOp .NotIn) (inT true) := ⟨rIn Γ.K true, fun X h => by have := @op_notIn_seq X; rw [h.K] at this; exact this, opM_inT true⟩
theorem od_inL {k : Nat} (ok : Γ.Ok k) : OpD Γ (compareOp .In) (inL false) := by
  refine ⟨rInD Γ.K, fun X h => by have := @op_inD X (by rw [h.A]; exact ok.hu); rw [h.K] at this; exact this, fun H S v u x y o w vx vy e Q q => ?_⟩
  unfold inL at e
  split at e
  · rename_i ys
    by_cases hz : (SeqAt.shaped x && SeqAt.shaped (.list ys)) = true
    · rw [if_pos hz] at e
      cases e
      obtain ⟨h1, h2⟩ := Bool.and_eq_true_iff.mp hz
      exact ⟨x, ys, (vx.full w).dp, (vy.full w).dp, h1, h2, opM_int w (.bl _) q⟩
    · rw [if_neg hz] at e
      cases e
  · cases e
theorem od_notInL {k : Nat} (ok : Γ.Ok k) : OpD Γ (compareOp .NotIn) (inL true) := by
  refine ⟨rNotInD Γ.K, fun X h => by have := @op_notInD X (by rw [h.A]; exact ok.hu); rw [h.K] at this; exact this, fun H S v u x y o w vx vy e Q q => ?_⟩
  unfold inL at e
  split at e
  · rename_i ys
    by_cases hz : (SeqAt.shaped x && SeqAt.shaped (.list ys)) = true
    · rw [if_pos hz] at e
      cases e
      obtain ⟨h1, h2⟩ := Bool.and_eq_true_iff.mp hz
      exact ⟨x, ys, (vx.full w).dp, (vy.full w).dp, h1, h2, opM_int w (.bl _) q⟩
    · rw [if_neg hz] at e
      cases e
  · cases e
def inD : D → D → Option Opd := orO (inT false) (inL false)
def notInD : D → D → Option Opd := orO (inT true) (inL true)
theorem od_in {k : Nat} (ok : Γ.Ok k) : OpD Γ (compareOp .In) inD := od_inT.or (od_inL ok)
theorem od_notIn {k : Nat} (ok : Γ.Ok k) : OpD Γ (compareOp .NotIn) notInD := od_notInT.or (od_notInL ok)

/-! ### items, slices -/
def ixD : D → D → Option Opd := fun x y => match x, y with
  | .list xs, .int i => (atI xs i).map .val
  | .tuple xs, .int i => (atI xs i).map .val
  | _, _ => none
theorem atI_of {K : Frag} {S : Hp} {vs : List V} {ds : List D} {i : Int} {d : D} (h : DqAll K S vs ds) (e : atI ds i = some d) : ∃ v, atI vs i = some v ∧ Dq K S v d := by
  unfold atI at e ⊢
  rw [h.len]
  cases q : ixN ds.length i with
  | none => rw [q] at e; cases e
  | some j =>
    rw [q] at e
    exact h.getD (i := j) e
theorem od_ix : ∃ r, (∀ X, Γ.Has X → IxR X r) ∧ OpM Γ.K r ixD := by
  refine ⟨_, fun X h => IxR.or (by have := @ix_list X; rw [h.K] at this; exact this) (by have := @ix_tup X; rw [h.K] at this; exact this), fun H S v u x y o w vx vy e Q q => ?_⟩
  unfold ixD at e
  split at e
  · rename_i xs i
    obtain ⟨p, vs, rfl, hp, ha⟩ := vx.lst w
    cases q1 : atI xs i with
    | none => rw [q1] at e; cases e
    | some d =>
      rw [q1] at e
      cases e
      obtain ⟨z, hz, hd⟩ := atI_of ha q1
      exact .inl ⟨p, vs, i, z, rfl, vy.int, SqL.of hp, hz, opM_int w hd q⟩
  · rename_i xs i
    obtain ⟨p, vs, rfl, hp, ha⟩ := vx.tup
    cases q1 : atI xs i with
    | none => rw [q1] at e; cases e
    | some d =>
      rw [q1] at e
      cases e
      obtain ⟨z, hz, hd⟩ := atI_of ha q1
      exact .inr ⟨p, vs, i, z, rfl, vy.int, seqT_mono w hp, hz, opM_int w hd q⟩
  · cases e
def cutD (xs : List D) (lo hi : Option Int) : List D := (xs.drop (HT.sIx xs.length 0 lo)).take (HT.sIx xs.length xs.length hi - HT.sIx xs.length 0 lo)
theorem cut_of {K : Frag} {S : Hp} {vs : List V} {ds : List D} (h : DqAll K S vs ds) (lo hi : Option Int) : DqAll K S (cutV vs lo hi) (cutD ds lo hi) := by
  unfold cutV cutD
  rw [h.len]
  exact (h.drop _).take _
def slD : D → Option Int → Option Int → Option Opd := fun x lo hi => match x with
  | .list xs => some (.new (cutD xs lo hi))
  | .tuple xs => some (.val (.tuple (cutD xs lo hi)))
  | _ => none
theorem od_sl : ∃ r, (∀ X, Γ.Has X → SlR X r) ∧ SlM Γ.K r slD := by
  refine ⟨_, fun X h => SlR.or (by have := @sl_list X; rw [h.K] at this; exact this) (by have := @sl_tupA X; rw [h.K] at this; exact this), fun H S v x lo hi o w vx e Q q => ?_⟩
  unfold slD at e
  split at e
  · rename_i xs
    obtain ⟨p, vs, rfl, hp, ha⟩ := vx.lst w
    cases e
    exact .inl ⟨p, vs, rfl, SqL.of hp, fun p' n => q _ _ _ (.new n (cut_of ha lo hi))⟩
  · rename_i xs
    obtain ⟨p, vs, rfl, hp, ha⟩ := vx.tup
    cases e
    refine .inr ⟨p, vs, rfl, seqT_mono w hp, fun ⟨e1, e2⟩ => ?_, fun _ p' n => ?_⟩
    · have ec : cutD xs lo hi = xs := by
        unfold cutD
        rw [ha.len] at e1 e2
        rw [e1, e2]
        simp
      rw [ec] at q
      exact q _ H S (.val (Grow.refl w) (.tup hp ha))
    · have g := Grow.alloc (o := .tup (cutV vs lo hi)) w n
      exact q _ _ _ (.val g (.tup (SqT.of upd_same) (DqAll.mono g.s (cut_of ha lo hi))))
  · cases e
def revM (F : M τ Opd) : M τ Opd := bnd F fun o => bnd (getO o) fun x => match x with
  | .list xs => ret (.new xs.reverse)
  | _ => stuck
theorem DO.rev {B : Bd τ} {e : Expr} {F : M τ Opd} {k p1 p2 p3} (h : DO Γ B e F) {pos : Pos} : DO Γ B (.Subscript e (.Slice none none (some (.UnaryOp .USub (.Constant (.int 1) k p1) p2)) p3) pos) (revM F) := by
  obtain ⟨t, pe, m⟩ := h
  refine ⟨tRevL Γ.K t, fun X h => by have := pe_revL (k := k) (p1 := p1) (p2 := p2) (p3 := p3) (pos := pos) (pe X h); rw [h.K] at this; exact this, fun s σ H S g o s' e Q q => ?_⟩
  obtain ⟨o1, s1, e1, eA⟩ := bnd_some e
  obtain ⟨x, s2, e2, eB⟩ := bnd_some eA
  refine m s σ H S g o1 s1 e1 _ fun v H1 S1 g1 w1 r1 _ => ?_
  obtain ⟨rfl, vx⟩ := view_of g1 r1 e2
  cases x with
  | list xs =>
    obtain ⟨rfl, rfl⟩ := ret_some eB
    obtain ⟨p, vs, rfl, hp, ha⟩ := vx.lst g1.fr.sub
    refine ⟨p, vs, rfl, SqL.of hp, fun p' n => ?_⟩
    obtain ⟨g2, f⟩ := Good.free g1 n ha.rev
    exact q _ _ _ g2 (w1.trans (Grow.fresh g1.fr.sub n).step) ⟨p', rfl, f⟩ ⟨p', rfl, w1.dom p' n⟩
  | _ => cases eB

/-! ### built-ins -/
def lenD : List D → Option Opd := fun xs => match xs with
  | [.list ys] => some (.val (.int ys.length))
  | [.tuple ys] => some (.val (.int ys.length))
  | [.str y] => if y.length ≤ sizeLine then some (.val (.int y.length)) else none
  | _ => none
theorem viewL1 {K : Frag} {H S : Hp} {vs : List V} {x : D} (h : ViewL K H S vs [x]) : ∃ v, vs = [v] ∧ View K H S v x := by
  match vs, h with
  | [v], h => exact ⟨v, rfl, h.1⟩
  | [], h => exact h.elim
  | _ :: _ :: _, h => exact h.2.elim
theorem viewL2 {K : Frag} {H S : Hp} {vs : List V} {x y : D} (h : ViewL K H S vs [x, y]) : ∃ v u, vs = [v, u] ∧ View K H S v x ∧ View K H S u y := by
  match vs, h with
  | [v, u], h => exact ⟨v, u, rfl, h.1, h.2.1⟩
  | [], h => exact h.elim
  | [_], h => exact h.2.elim
  | _ :: _ :: _ :: _, h => exact h.2.2.elim
theorem cd_len : CallD Γ (.builtin "len") lenD := by
  refine ⟨fun xs H Q => ∃ x n, xs = [x] ∧ LenV Γ.K x H n ∧ Q (.int n) H, fun X h => by have := @call_len X; rw [h.K] at this; exact this, fun H S vs xs o w vl e Q q => ?_⟩
  unfold lenD at e
  split at e
  · rename_i ys
    obtain ⟨v, rfl, vx⟩ := viewL1 vl
    obtain ⟨p, us, rfl, hp, ha⟩ := vx.lst w
    cases e
    exact ⟨_, ys.length, rfl, .inl ⟨us, SqL.of hp, ha.len.symm⟩, opM_int w (.int _) q⟩
  · rename_i ys
    obtain ⟨v, rfl, vx⟩ := viewL1 vl
    obtain ⟨p, us, rfl, hp, ha⟩ := vx.tup
    cases e
    exact ⟨_, ys.length, rfl, .inr ⟨us, seqT_mono w hp, ha.len.symm⟩, opM_int w (.int _) q⟩
  · rename_i y
    obtain ⟨v, rfl, vx⟩ := viewL1 vl
    obtain rfl := vx.str
    by_cases hz : y.length ≤ sizeLine
    · rw [if_pos hz] at e
      cases e
      exact ⟨_, y.length, rfl, ⟨hz, rfl⟩, opM_int w (.int _) q⟩
    · rw [if_neg hz] at e
      cases e
  · cases e
def listD : List D → Option Opd := fun xs => match xs with
  | [.list ys] => some (.new ys)
  | [.tuple ys] => some (.new ys)
  | _ => none
theorem cd_list : CallD Γ (.type "list") listD := by
  refine ⟨_, fun X h => by have := @call_list_of X; rw [h.K] at this; exact this, fun H S vs xs o w vl e Q q => ?_⟩
  unfold listD at e
  split at e
  · rename_i ys
    obtain ⟨v, rfl, vx⟩ := viewL1 vl
    obtain ⟨p, us, rfl, hp, ha⟩ := vx.lst w
    cases e
    exact ⟨p, us, rfl, .inl (SqL.of hp), fun l n => q _ _ _ (.new n ha)⟩
  · rename_i ys
    obtain ⟨v, rfl, vx⟩ := viewL1 vl
    obtain ⟨p, us, rfl, hp, ha⟩ := vx.tup
    cases e
    exact ⟨p, us, rfl, .inr (seqT_mono w hp), fun l n => q _ _ _ (.new n ha)⟩
  · cases e
def tupleD : List D → Option Opd := fun xs => match xs with
  | [.list ys] => some (.val (.tuple ys))
  | [.tuple ys] => some (.val (.tuple ys))
  | _ => none
theorem cd_tuple : CallD Γ (.type "tuple") tupleD := by
  refine ⟨_, fun X h => by have := @call_tuple_of X; rw [h.K] at this; exact this, fun H S vs xs o w vl e Q q => ?_⟩
  unfold tupleD at e
  split at e
  · rename_i ys
    obtain ⟨v, rfl, vx⟩ := viewL1 vl
    obtain ⟨p, us, rfl, hp, ha⟩ := vx.lst w
    cases e
    refine ⟨p, us, rfl, .inl ⟨SqL.of hp, fun l n => ?_⟩⟩
    have g := Grow.alloc (o := .tup us) w n
    exact q _ _ _ (.val g (.tup (SqT.of upd_same) (DqAll.mono g.s ha)))
  · rename_i ys
    obtain ⟨v, rfl, vx⟩ := viewL1 vl
    obtain ⟨p, us, rfl, hp, ha⟩ := vx.tup
    cases e
    exact ⟨p, us, rfl, .inr ⟨seqT_mono w hp, q _ H S (.val (Grow.refl w) (.tup hp ha))⟩⟩
  · cases e
def intD : List D → Option Opd := fun xs => match xs with
  | [.int i] => some (.val (.int i))
  | [.bool b] => some (.val (.int (if b then 1 else 0)))
  | _ => none
theorem cd_int : CallD Γ (.type "int") intD := ⟨_, fun _ _ => call_int1, fun H S vs xs o w vl e Q q => by
  unfold intD at e
  split at e
  · rename_i i
    obtain ⟨v, rfl, vx⟩ := viewL1 vl
    obtain rfl := vx.int
    cases e
    exact .inl ⟨i, rfl, opM_int w (.int _) q⟩
  · rename_i b
    obtain ⟨v, rfl, vx⟩ := viewL1 vl
    obtain rfl := vx.bl
    cases e
    exact .inr ⟨b, rfl, opM_int w (.int _) q⟩
  · cases e⟩
def minD : List D → Option Opd := fun xs => match xs with
  | [.int i, .int j] => some (.val (.int (if j < i then j else i)))
  | _ => none
def maxD : List D → Option Opd := fun xs => match xs with
  | [.int i, .int j] => some (.val (.int (if j > i then j else i)))
  | _ => none
theorem cd_min : CallD Γ (.builtin "min") minD := ⟨_, fun X h => call_min2 h.calm, fun H S vs xs o w vl e Q q => by
  unfold minD at e
  split at e
  · rename_i i j
    obtain ⟨v, u, rfl, vx, vy⟩ := viewL2 vl
    obtain rfl := vx.int
    obtain rfl := vy.int
    cases e
    exact ⟨i, j, rfl, opM_int w (.int _) q⟩
  · cases e⟩
theorem cd_max : CallD Γ (.builtin "max") maxD := ⟨_, fun X h => call_max2 h.calm, fun H S vs xs o w vl e Q q => by
  unfold maxD at e
  split at e
  · rename_i i j
    obtain ⟨v, u, rfl, vx, vy⟩ := viewL2 vl
    obtain rfl := vx.int
    obtain rfl := vy.int
    cases e
    exact ⟨i, j, rfl, opM_int w (.int _) q⟩
  · cases e⟩
def boolsOf : List D → Option (List Bool)
  | [] => some []
  | .bool b :: r => (boolsOf r).map (b :: ·)
  | _ :: _ => none
theorem bools_of {K : Frag} {S : Hp} : ∀ {vs : List V} {ds : List D} {bs : List Bool}, DqAll K S vs ds → boolsOf ds = some bs → vs = bs.map V.bl
  | _, _, _, .nil, e => by cases e; rfl
  | _, _, _, .cons h t, e => by
    cases h with
    | bl b =>
      unfold boolsOf at e
      obtain ⟨r, e1, e2⟩ := Option.map_eq_some_iff.mp e
      subst e2
      rw [List.map_cons, bools_of t e1]
    | _ => cases e
def intsOf : List D → Option (List Int)
  | [] => some []
  | .int b :: r => (intsOf r).map (b :: ·)
  | _ :: _ => none
theorem ints_of {K : Frag} {S : Hp} : ∀ {vs : List V} {ds : List D} {bs : List Int}, DqAll K S vs ds → intsOf ds = some bs → vs = bs.map V.int
  | _, _, _, .nil, e => by cases e; rfl
  | _, _, _, .cons h t, e => by
    cases h with
    | int b =>
      unfold intsOf at e
      obtain ⟨r, e1, e2⟩ := Option.map_eq_some_iff.mp e
      subst e2
      rw [List.map_cons, ints_of t e1]
    | _ => cases e
def allD : List D → Option Opd := fun xs => match xs with
  | [.list ys] => (boolsOf ys).map fun bs => .val (.bool (bs.all id))
  | _ => none
def anyD : List D → Option Opd := fun xs => match xs with
  | [.list ys] => (boolsOf ys).map fun bs => .val (.bool (bs.any id))
  | _ => none
def sumD : List D → Option Opd := fun xs => match xs with
  | [.list ys] => (intsOf ys).map fun bs => .val (.int bs.sum)
  | _ => none
theorem cd_all : CallD Γ (.builtin "all") allD := by
  refine ⟨rAll Γ.K, fun X h => by have := @cr_all X h.calm; rw [h.K] at this; exact this, fun H S vs xs o w vl e Q q => ?_⟩
  unfold allD at e
  split at e
  · rename_i ys
    obtain ⟨v, rfl, vx⟩ := viewL1 vl
    obtain ⟨p, us, rfl, hp, ha⟩ := vx.lst w
    obtain ⟨bs, e1, rfl⟩ := Option.map_eq_some_iff.mp e
    obtain rfl := bools_of ha e1
    exact ⟨p, bs, rfl, SqL.of hp, opM_int w (.bl _) q⟩
  · cases e
theorem cd_any : CallD Γ (.builtin "any") anyD := by
  refine ⟨rAny Γ.K, fun X h => by have := @cr_any X h.calm; rw [h.K] at this; exact this, fun H S vs xs o w vl e Q q => ?_⟩
  unfold anyD at e
  split at e
  · rename_i ys
    obtain ⟨v, rfl, vx⟩ := viewL1 vl
    obtain ⟨p, us, rfl, hp, ha⟩ := vx.lst w
    obtain ⟨bs, e1, rfl⟩ := Option.map_eq_some_iff.mp e
    obtain rfl := bools_of ha e1
    exact ⟨p, bs, rfl, SqL.of hp, opM_int w (.bl _) q⟩
  · cases e
theorem cd_sum : CallD Γ (.builtin "sum") sumD := by
  refine ⟨rSum Γ.K, fun X h => by have := @cr_sum X h.calm; rw [h.K] at this; exact this, fun H S vs xs o w vl e Q q => ?_⟩
  unfold sumD at e
  split at e
  · rename_i ys
    obtain ⟨v, rfl, vx⟩ := viewL1 vl
    obtain ⟨p, us, rfl, hp, ha⟩ := vx.lst w
    obtain ⟨bs, e1, rfl⟩ := Option.map_eq_some_iff.mp e
    obtain rfl := ints_of ha e1
    exact ⟨p, bs, rfl, SqL.of hp, opM_int w (.int _) q⟩
  · cases e
/-- repr of data -/
theorem call_reprD {X : Cx} (hg : X.A.guards = some []) (hu : X.A.units + 70 < cLine) : CallR X (.builtin "repr") (fun xs H Q => ∃ x d, xs = [x] ∧ Dp X.K H x d ∧ d.showable = true ∧ d.hasDict = false ∧ d.depth ≤ 64 ∧ d.shown.length ≤ sizeLine ∧ Q (.str d.shown) H) := by
  intro pins s σ H xs us Q I r h
  obtain ⟨x, d, rfl, hd, h1, h2, h3, h4, q⟩ := h
  obtain ⟨u, rfl, rx⟩ := vals1 r
  have fin : ∀ (d : D) (t : Tok), Q (.str d.shown) H → EP X pins σ Q (.str d.shown t) { s with toks := s.toks + 1 } := fun d t q => ⟨.str d.shown, H, I.tok _, ⟨t, rfl⟩, q⟩
  obtain ⟨as, rd⟩ := Dp.reads I d x u hd rx
  cases hd with
  | non => cases rx; exact PySem.P.repr_of_none (fin .none _ q)
  | bl b => cases rx; exact PySem.P.repr_of_bool (fin (.bool b) _ q)
  | int i =>
    obtain ⟨t, rfl⟩ := rx
    exact PySem.P.repr_of_int (of_decide_eq_true h1) (fin (.int i) _ q)
  | str y =>
    obtain ⟨t, rfl⟩ := rx
    exact PySem.P.repr_of_str (fin (.str y) _ q) h4
  | lst a b =>
    cases rx
    exact repr_of_reads' rd h1 (PyData.noDict_hsm h2) hg (by omega) (fun _ _ e => e) (fun h' t tk hk => ⟨.str _, H, I.kept hk, ⟨t, rfl⟩, q⟩) h4
  | tup a b =>
    cases rx
    exact repr_of_reads' rd h1 (PyData.noDict_hsm h2) hg (by omega) (fun _ _ e => e) (fun h' t tk hk => ⟨.str _, H, I.kept hk, ⟨t, rfl⟩, q⟩) h4
def reprOk (x : D) : Bool := x.showable && !x.hasDict && decide (x.depth ≤ 64) && decide (x.shown.length ≤ sizeLine)
def reprD : List D → Option Opd := fun xs => match xs with
  | [x] => if reprOk x then some (.val (.str x.shown)) else none
  | _ => none
theorem cd_repr {k : Nat} (ok : Γ.Ok k) : CallD Γ (.builtin "repr") reprD := by
  refine ⟨_, fun X h => by have := @call_reprD X (by rw [h.A]; exact ok.gd) (by rw [h.A]; have := ok.room.un; omega); rw [h.K] at this; exact this, fun H S vs xs o w vl e Q q => ?_⟩
  unfold reprD at e
  split at e
  · rename_i x
    obtain ⟨v, rfl, vx⟩ := viewL1 vl
    by_cases hz : reprOk x = true
    · rw [if_pos hz] at e
      cases e
      unfold reprOk at hz
      simp only [Bool.and_eq_true, Bool.not_eq_true', decide_eq_true_eq] at hz
      obtain ⟨⟨⟨h1, h2⟩, h3⟩, h4⟩ := hz
      exact ⟨v, x, rfl, (vx.full w).dp, h1, h2, h3, h4, opM_int w (.str _) q⟩
    · rw [if_neg hz] at e
      cases e
  · cases e
end
end DL
end

section
set_option Elab.async false
set_option linter.all false
set_option maxRecDepth 100000
set_option maxHeartbeats 3999999
/-! WEng4: enumerate of a tuple (the layer has lists and texts alone); isinstance; list of a range; what is walked; comprehensions -/
namespace PySem
open Sem (wp)
open AutoSeq1 (wpAny_loadPart')
theorem dl_enum_new (t : Addr) (items : Array Value) (n : Nat) (dct : Option Addr) (sl : Array (Option Value)) :
    Meets (Builtin.«enumerate.__new__» ⟨[.type "enumerate", .ref t], []⟩) (fun _ R s =>
      s.heap.get? t = some { cls := .type "tuple", dict := dct, data := .seq items n, slots := sl } ∧
      R (.ok (.ret (.ref (s.heap.push { cls := .type "tuple_iterator", data := .fields #[.ref t, .int 0 0] }).objs.size)))
        ⟨(s.heap.push { cls := .type "tuple_iterator", data := .fields #[.ref t, .int 0 0] }).push { cls := .type "enumerate", data := .fields #[.none, .bool false, .ref s.heap.objs.size, rawInt 0, .none, .none] }, s.gens, s.drawn, s.toks, s.os⟩) :=
  .of_wp fun prog w A R s hh => by
    obtain ⟨hp, g, d, tk, os⟩ := s
    obtain ⟨ht, hr⟩ := hh
    have hsub := sub_enumerate
    have hT : Heap.IsTuple (Shared.heap ⟨hp, g, d, tk, os⟩) t items := ⟨_, ht, rfl, n, rfl⟩
    wp_walk using wpAny_loadPart' ht
    refine wpAny_stack_any fun st => wpAny_pure ?_
    split
    · rename_i c _ _ _ _ _
      cases (c == Value.type "enumerate") <;>
      · wp_walk using wpAny_loadPart' ht, wpAny_pyIter_tuple hT
        exact ⟨_, rfl, hr⟩
    · wp_walk using wpAny_loadPart' ht, wpAny_pyIter_tuple hT
      exact ⟨_, rfl, hr⟩
section
variable {prog : Program} {w : World} {A : Around} {E : Value → Shared → Prop} {s : Shared}
theorem dl_call_enum {t : Addr} {items : Array Value} {Q : Value → Shared → Prop} (hT : s.heap.IsTuple t items)
    (k : ∀ h', IsEnum h' (s.heap.objs.size + 1) s.heap.objs.size 0 .none → h'.IsTupleIter s.heap.objs.size t 0 →
      (∀ b o, s.heap.get? b = some o → h'.get? b = some o) → Q (.ref (s.heap.objs.size + 1)) { s with heap := h' }) :
    wpAny (model prog w) A (call (.type "enumerate") [.ref t]) Q E s := by
  obtain ⟨⟨c, dct, dt, sl⟩, ht, hc, n, hd⟩ := hT
  simp only at hc hd
  subst hc hd
  refine callType_new F.called_enumerate (by decide) (F.typeCall_enumerate_1 _) (F.newCall_enumerate_1 _)
    (fun obj => F.args_object_init_2 obj _) F.entry_enumerate_new (dl_enum_new t items n dct sl) ⟨ht, ?_⟩
  generalize hit : ({ cls := .type "tuple_iterator", data := .fields #[.ref t, .int 0 0] } : Obj) = oi
  have hz : (s.heap.push oi).objs.size = s.heap.objs.size + 1 := Heap.size_push ..
  have hf : oi.isFreed = false := by subst hit; rfl
  show _ ∧ _
  rw [hz]
  have he := Heap.get?_push_size (s.heap.push oi) (o := { cls := .type "enumerate", data := .fields #[.none, .bool false, .ref s.heap.objs.size, rawInt 0, .none, .none] }) rfl
  rw [hz] at he
  refine ⟨⟨_, he, rfl⟩, k _ he ⟨oi, Heap.get?_push_of_some _ (Heap.get?_push_size _ hf), ?_, ?_⟩ fun b o x => Heap.get?_push_of_some _ (Heap.get?_push_of_some _ x)⟩
  · subst hit; rfl
  · subst hit; rfl
end
end PySem
namespace DL
open L2 PySem PyProof.Rows PySem.Spec
/-- the tuple at a, its items numbered, in new pairs -/
def IteT (K : Frag) (a : Addr) : It where
  go := fun i H => ∃ (xs : List V) (x : V), SqT K H a xs ∧ xs[i]? = some x
  yld := fun i H v H' => ∃ T x, v = .ref T ∧ H T = none ∧ H' = upd H T (.tup [.int (i : Nat), x]) ∧ ∀ xs, SqT K H a xs → xs[i]? = some x
  stop := fun i H => ∃ xs : List V, SqT K H a xs ∧ xs.length = i
theorem turn_enumT {P : Program} {w : World} {K : Frag} {elts : List Expr} {kk : Nat} {tpos : Pos} (a e it : Addr) :
    Turn P w K (.Tuple elts kk tpos) (IteT K a) [e, it] e (fun i h => (∃ old, IsEnum h e it ((i : Nat) : Int) old) ∧ h.IsTupleIter it a i ∧ e ≠ it ∧ a ≠ it ∧ a ≠ e) where
  mem := by simp
  obj := fun i h st b hb => by
    obtain ⟨⟨old, he⟩, ⟨o, ho, hc, hd⟩, _⟩ := st
    have e' : b = e ∨ b = it := by simpa using hb
    rcases e' with rfl | rfl
    · exact ⟨_, he, fun v q => nomatch q⟩
    · exact ⟨o, ho, fun v q => by rw [hd] at q; cases q⟩
  keep := fun i h h' st k => ⟨st.1.elim fun old he => ⟨old, k e (by simp) _ he⟩, st.2.1.at fun o q => k it (by simp) o q, st.2.2⟩
  item := by
    intro X hP hw hK hc i pins s σ H E I hf st hg
    subst hP hw hK
    obtain ⟨hen, hit, hne, hai, hae⟩ := st
    obtain ⟨xs, x, hq, hx⟩ := hg
    obtain ⟨its, rv, p, hz⟩ := I.tuple hq
    obtain ⟨u, hu, ru⟩ := rv.get hx
    have hi : i < its.toArray.size := by
      obtain ⟨hlt, _⟩ := List.getElem?_eq_some_iff.mp hu
      simpa using hlt
    have G := GoesN.enumFrom (elts := elts) (x1 := kk) (pos := tpos) 0 (Draws.tuple (prog := X.prog) (w := X.w) (A := X.A.in1) (I.ok.hd hc) it a hai its.toArray) e hne (by simp [hne, Ne.symm hae]) (by simp)
    obtain ⟨old, he⟩ := hen
    refine wpAny_mono (G.goes i s (fun v s2 => ∃ x' H', Inv X pins σ H' s2 ∧ RelV x' v ∧ (IteT X.K a).yld i H x' H' ∧ (((∃ old, IsEnum s2.heap e it (((i + 1 : Nat) : Nat) : Int) old) ∧ s2.heap.IsTupleIter it a (i + 1) ∧ e ≠ it ∧ a ≠ it ∧ a ≠ e) ∧ ∀ b ∈ [e, it], H' b = none)) E hi
      ⟨⟨old, by rw [Int.zero_add]; exact he⟩, hit, p⟩ fun v h' tk hY st' hk htk => ?_) (fun r s1 h1 => ?_) fun _ _ z => z
    · obtain ⟨T, t, y, rfl, hT, hy, hTup⟩ := hY
      obtain ⟨⟨old', he'⟩, hit', _⟩ := st'
      have hy' : its[i]? = some y := by simpa using hy
      rw [hu] at hy'
      cases hy'
      rw [Int.zero_add] at hTup
      have hn : H T = none := I.hok.fresh hT
      have new : ObjOk X.prog X.w (upd H T (.tup [.int (i : Nat), x])) h' T (.tup [.int (i : Nat), x]) :=
        ⟨by show 2 ≤ sizeLine; decide, [.int (i : Nat) t, u], .cons ⟨_, rfl⟩ (.cons ru .nil), hTup⟩
      have I1 : Inv X pins σ (upd H T (.tup [.int (i : Nat), x])) { s with heap := h', toks := tk } := I.turnedNew (ch := [e, it]) hk hf hT new
      refine ⟨.ref T, _, I1, rfl, ⟨T, x, rfl, hn, rfl, fun ys hy => by rw [I.tuple_inj hy hq]; exact hx⟩, ⟨⟨old', ?_⟩, hit', hne, hai, hae⟩, fun b hb => ?_⟩
      · have e1 : ((i + 1 : Nat) : Int) = 0 + ((i + 1 : Nat) : Int) := by omega
        rw [e1]; exact he'
      · have hbl : b < s.heap.objs.size := by
          have e' : b = e ∨ b = it := by simpa using hb
          rcases e' with rfl | rfl
          · exact Heap.lt_size he
          · obtain ⟨_, q, _⟩ := hit; exact Heap.lt_size q
        rw [upd_ne (Nat.ne_of_lt (Nat.lt_of_lt_of_le hbl hT))]
        exact (hf b hb).1
    · obtain ⟨v, hr, h2⟩ := h1
      exact ⟨v, hr, h2⟩
  done := by
    intro X hP hw hK hc i pins s σ H E I hf st hg
    subst hP hw hK
    obtain ⟨⟨old, he⟩, hit, hne, hai, hae⟩ := st
    obtain ⟨xs, hq, hx⟩ := hg
    obtain ⟨its, rv, p, hz⟩ := I.tuple hq
    have hl := rv.length
    obtain ⟨f0, f1, f2, f3, f4, f5⟩ := hf it (by simp)
    have hn : its.toArray.size = i := by simp; omega
    refine wpAny_pyNext_enum_endD (Draws.tuple (prog := X.prog) (w := X.w) (A := X.A.in1) (I.ok.hd hc) it a hai its.toArray) he ⟨by rw [hn]; exact hit, p⟩ fun h' hx' => ?_
    exact ⟨rfl, I.turned (t' := s.toks) (fun b o hb q => hx' b o hb q) f0 f1 f3 f4 f5⟩
  self := fun A i s Q E st h => let ⟨⟨_, he⟩, _⟩ := st; wpAny_pyIter_enum he h
end DL
end

section
set_option Elab.async false
set_option linter.all false
set_option maxRecDepth 100000
set_option maxHeartbeats 3999999
/-! WEng5: isinstance, list of a range, what is walked, targets, comprehensions -/
namespace DL
open L2 PySem PyProof.Rows PySem.Spec
variable {τ α β : Type}
section
variable {Γ : Gam} {B : Bd τ} {pos : Pos} {e a b : Expr} {F Fa Fb : M τ Opd}
/-! ### isinstance with a built-in class -/
def tyD : D → String
  | .none => "NoneType"
  | .bool _ => "bool"
  | .int _ => "int"
  | .str _ => "str"
  | .list _ => "list"
  | .tuple _ => "tuple"
  | .dict _ => "dict"
def isiB (t T : String) : Bool := t == T || (t == "bool" && T == "int")
theorem kit_isi : ∀ t ∈ ["NoneType", "bool", "int", "str", "list", "tuple"], ∀ T ∈ ["bool", "int", "str", "list", "tuple", "dict"], kitB t T = some (isiB t T) := by decide +kernel
theorem tyD_mem {K : Frag} {S : Hp} {v : V} {d : D} (h : Dq K S v d) : tyD d ∈ ["NoneType", "bool", "int", "str", "list", "tuple"] := by cases h <;> simp [tyD]
theorem View.ty {K : Frag} {H S : Hp} {v : V} {d : D} (h : View K H S v d) (w : Same S H) : TyX K H v (.type (tyD d)) ∧ tyD d ∈ ["NoneType", "bool", "int", "str", "list", "tuple"] := by
  have go : ∀ {v : V} {d : D}, Dq K H v d → TyX K H v (.type (tyD d)) := fun {v d} h => by
    cases h with
    | non => exact .base .non
    | bl b => exact .base (.bl b)
    | int i => exact .base (.int i)
    | str x => exact .base (.str x)
    | lst h1 h2 => exact .base (.lst h1)
    | tup h1 h2 =>
      rcases h1 with (h1 | ⟨o, h1⟩) | ⟨o, its, n, h1, h2, _⟩
      · exact .base (.tup h1)
      · exact .fTuple h1
      · exact .kTuple h1 h2
  rcases h with h | ⟨p, vs, xs, rfl, h1, h2, rfl⟩
  · exact ⟨go (Dq.mono w h), tyD_mem h⟩
  · exact ⟨.base (.lst h1), by show "list" ∈ _; decide⟩
def isiM (T : String) (F : M τ Opd) : M τ Opd := bnd F fun o => bnd (getO o) fun x => ret (.val (.bool (isiB (tyD x) T)))
theorem DO.isi {T : String} {Tn : Str} {p q : Pos} (hT : T ∈ ["bool", "int", "str", "list", "tuple", "dict"]) (h : DO Γ B e F) (hg : Γ.sc.names.lookup ("isinstance" : Str) = some .globalImplicit) (hm : Γ.mg "isinstance" = none)
    (hg2 : Γ.sc.names.lookup Tn = some .globalImplicit) (hm2 : Γ.mg Tn = none) (hv : bootBuiltins Tn = some (.type T)) (hn : Tn ≠ "__name__" := by decide) (hd : (Tn == ("__debug__" : Str)) = false := by decide)
    (hst : ∀ X : Cx, starEach [e, .Name Tn q] X.env = (false, eval e X.env) :: starEach [.Name Tn q] X.env := by intro _; rfl) (hpl : ∀ X : Cx, (backTo pos (starEach [.Name Tn q] X.env)).any (·.1) = false := by intro _; rfl) :
    DO Γ B (.Call (.Name "isinstance" p) [e, .Name Tn q] [] pos) (isiM T F) := by
  obtain ⟨t, pe, m⟩ := h
  refine ⟨_, fun X h => pe_callB (r := rIsi Γ.K) (by have := @call_isi X; rw [h.K] at this; exact this) (gl_of h hg) (by rw [h.mg]; exact hm) (by decide +kernel)
    (pa_cons (pe X h) (pa_cons (pe_bltn (v := .ty T) (gl_of h hg2) (by rw [h.mg]; exact hm2) hv rfl hn hd) pa_nil) (hst X)) (by decide) (by decide) (hst X) (hpl X), fun s σ H S g o s' e Q q => ?_⟩
  obtain ⟨o1, s1, e1, eA⟩ := bnd_some e
  obtain ⟨x, s2, e2, eB⟩ := bnd_some eA
  obtain ⟨rfl, rfl⟩ := ret_some eB
  refine m s σ H S g o1 s1 e1 _ fun v H1 S1 g1 w1 r1 _ => ?_
  obtain ⟨rfl, vx⟩ := view_of g1 r1 e2
  obtain ⟨t1, t2⟩ := vx.ty g1.fr.sub
  exact ⟨v, .ty T, _, _, isiB (tyD x) T, rfl, .ty T, t1, kit_ty (kit_isi _ t2 T hT), q _ H1 S1 g1 w1 (.bl _) trivial⟩

/-! ### list(range(..)) -/
def rgD (a b : Int) : List D := (List.range (b - a).toNat).map fun i => .int (a + (i : Nat))
theorem rg_of {K : Frag} {S : Hp} (a b : Int) : DqAll K S (rgV a b) (rgD a b) := by
  have h := DqAll.ints (K := K) (S := S) ((List.range (b - a).toNat).map fun i => a + (i : Nat))
  rw [List.map_map, List.map_map] at h
  exact h
def rgOk (a b : Int) : Bool := decide (-(2 ^ 62) ≤ a) && decide (a < 2 ^ 62) && decide (-(2 ^ 62) ≤ b) && decide (b < 2 ^ 62) && decide ((b - a).toNat ≤ 2 ^ 24)
theorem rgOk_of {a b : Int} (h : rgOk a b = true) : RgOk a b := by
  unfold rgOk at h
  simp only [Bool.and_eq_true, decide_eq_true_eq] at h
  obtain ⟨⟨⟨⟨h1, h2⟩, h3⟩, h4⟩, h5⟩ := h
  exact ⟨h1, h2, h3, h4, h5⟩
def intsM (G : M τ (List Opd)) : M τ (List D) := bnd G fun os => getL os
def rng2 : List D → Option (Int × Int)
  | [.int n] => some (0, n)
  | [.int a, .int b] => some (a, b)
  | _ => none
def listRgM (G : M τ (List Opd)) : M τ Opd := bnd (intsM G) fun ds => bnd (lift (rng2 ds)) fun ab => if rgOk ab.1 ab.2 then ret (.new (rgD ab.1 ab.2)) else stuck
theorem viewL_fin {K : Frag} {B : Bd τ} {s s' : Stt τ} {σ : List (Option V)} {H S : Hp} {ds : List D} {os : List Opd} {vs : List V} (g : Good K B s σ H S) (r : RelL K S σ vs os) (e : getL os s = some (ds, s')) : s' = s ∧ ViewL K H S vs ds := viewL_of g r e
theorem DO.listRg1 {p pos p2 pos2 : Pos} (ha : DO Γ B a Fa) (hg : Γ.sc.names.lookup ("list" : Str) = some .globalImplicit) (hm : Γ.mg "list" = none) (hg2 : Γ.sc.names.lookup ("range" : Str) = some .globalImplicit) (hm2 : Γ.mg "range" = none)
    (na : ∀ X : Cx, starEach [a] X.env = (false, eval a X.env) :: starEach [] X.env := by intro _; rfl) (nb : ∀ X : Cx, starEach [.Call (.Name "range" p2) [a] [] pos2] X.env = (false, eval (.Call (.Name "range" p2) [a] [] pos2) X.env) :: starEach [] X.env := by intro _; rfl) :
    DO Γ B (.Call (.Name "list" p) [.Call (.Name "range" p2) [a] [] pos2] [] pos) (listRgM (consO Fa nilM)) := by
  obtain ⟨t, pe, m⟩ := ha
  refine ⟨_, fun X h => pe_listRg h.calm (gl_of h hg) (by rw [h.mg]; exact hm) (prg_1 (gl_of h hg2) (by rw [h.mg]; exact hm2) (pe X h) (na X)) (nb X), fun s σ H S g o s' e Q q => ?_⟩
  obtain ⟨ds, s1, e1, eA⟩ := bnd_some e
  obtain ⟨os, s2, e2, e3⟩ := bnd_some e1
  obtain ⟨o1, s3, e4, e5⟩ := bnd_some e2
  obtain ⟨os', s4, e6, e7⟩ := bnd_some e5
  obtain ⟨rfl, rfl⟩ := ret_some e6
  obtain ⟨rfl, rfl⟩ := ret_some e7
  obtain ⟨ab, s5, e8, e9⟩ := bnd_some eA
  obtain ⟨ez, rfl⟩ := lift_some e8
  refine m.late g e4 fun v H1 S1 g1 w1 r1 => ?_
  obtain ⟨rfl, vl⟩ := viewL_fin (vs := [v]) (os := [_]) g1 ⟨r1, trivial⟩ e3
  match ds, vl, ez with
  | [.int n], vl, ez =>
    cases ez
    obtain rfl := vl.1.int
    by_cases hz : rgOk 0 n = true
    · rw [if_pos hz] at e9
      obtain ⟨rfl, rfl⟩ := ret_some e9
      refine ⟨n, rfl, rgOk_of hz, fun p' np => ?_⟩
      obtain ⟨g2, f⟩ := Good.free g1 np (rg_of 0 n)
      exact q _ _ _ g2 (w1.trans (Grow.fresh g1.fr.sub np).step) ⟨p', rfl, f⟩ ⟨p', rfl, w1.dom p' np⟩
    · rw [if_neg hz] at e9
      cases e9
  | [.int a, .int b], vl, ez => exact vl.2.elim
theorem DO.listRg2 {p pos p2 pos2 : Pos} (ha : DO Γ B a Fa) (hb : DO Γ B b Fb) (hg : Γ.sc.names.lookup ("list" : Str) = some .globalImplicit) (hm : Γ.mg "list" = none) (hg2 : Γ.sc.names.lookup ("range" : Str) = some .globalImplicit) (hm2 : Γ.mg "range" = none)
    (na : ∀ X : Cx, starEach [a, b] X.env = (false, eval a X.env) :: starEach [b] X.env := by intro _; rfl) (nc : ∀ X : Cx, starEach [b] X.env = (false, eval b X.env) :: starEach [] X.env := by intro _; rfl) (np : ∀ X : Cx, (backTo pos2 (starEach [b] X.env)).any (·.1) = false := by intro _; rfl)
    (nb : ∀ X : Cx, starEach [.Call (.Name "range" p2) [a, b] [] pos2] X.env = (false, eval (.Call (.Name "range" p2) [a, b] [] pos2) X.env) :: starEach [] X.env := by intro _; rfl) :
    DO Γ B (.Call (.Name "list" p) [.Call (.Name "range" p2) [a, b] [] pos2] [] pos) (listRgM (consO Fa (consO Fb nilM))) := by
  obtain ⟨t, pe, m⟩ := ha
  obtain ⟨tb, peb, mb⟩ := hb
  refine ⟨_, fun X h => pe_listRg h.calm (gl_of h hg) (by rw [h.mg]; exact hm) (prg_2 (gl_of h hg2) (by rw [h.mg]; exact hm2) (pe X h) (peb X h) (na X) (nc X) (np X)) (nb X), fun s σ H S g o s' e Q q => ?_⟩
  obtain ⟨ds, s1, e1, eA⟩ := bnd_some e
  obtain ⟨os, s2, e2, e3⟩ := bnd_some e1
  obtain ⟨o1, s3, e4, e5⟩ := bnd_some e2
  obtain ⟨os', s4, e6, e7⟩ := bnd_some e5
  obtain ⟨o2, s6, e10, e11⟩ := bnd_some e6
  obtain ⟨os2, s7, e12, e13⟩ := bnd_some e11
  obtain ⟨rfl, rfl⟩ := ret_some e12
  obtain ⟨rfl, rfl⟩ := ret_some e13
  obtain ⟨rfl, rfl⟩ := ret_some e7
  obtain ⟨ab, s5, e8, e9⟩ := bnd_some eA
  obtain ⟨ez, rfl⟩ := lift_some e8
  refine m.late g e4 fun v H1 S1 g1 w1 r1 => ?_
  refine mb.late g1 e10 fun u H2 S2 g2 w2 r2 => ?_
  obtain ⟨rfl, vl⟩ := viewL_fin (vs := [v, u]) (os := [_, _]) g2 ⟨r1.mono w2.same, r2, trivial⟩ e3
  match ds, vl, ez with
  | [.int n], vl, ez => exact vl.2.elim
  | [.int i, .int j], vl, ez =>
    cases ez
    obtain rfl := vl.1.int
    obtain rfl := vl.2.1.int
    by_cases hz : rgOk i j = true
    · rw [if_pos hz] at e9
      obtain ⟨rfl, rfl⟩ := ret_some e9
      refine ⟨i, j, rfl, rfl, rgOk_of hz, fun p' np => ?_⟩
      obtain ⟨g3, f⟩ := Good.free g2 np (rg_of i j)
      exact q _ _ _ g3 ((w1.trans w2).trans (Grow.fresh g2.fr.sub np).step) ⟨p', rfl, f⟩ ⟨p', rfl, (w1.trans w2).dom p' np⟩
    · rw [if_neg hz] at e9
      cases e9

/-! ### what is walked -/
structure DWalk (K : Frag) (S : Hp) (J : It) (xs : List D) : Prop where
  go : ∀ i H, i < xs.length → Same S H → J.go i H
  stop : ∀ H, Same S H → J.stop xs.length H
  yld : ∀ i H x H' S1 d, xs[i]? = some d → Same S S1 → Same S1 H → J.yld i H x H' → ∃ S2, Grow H S1 H' S2 ∧ Dq K S2 x d
def MeanI (K : Frag) (B : Bd τ) (wi : TI) (F : M τ (List D)) : Prop := ∀ s σ H S, Good K B s σ H S → ∀ xs s', F s = some (xs, s') →
  ∀ R : It → Hp → Prop, (∀ J H' S', Good K B s' σ H' S' → Step K B σ s H S s' H' S' → DWalk K S' J xs → R J H') → wi σ H R
def DI (Γ : Gam) (B : Bd τ) (tg iter : Expr) (F : M τ (List D)) : Prop := ∃ wi, (∀ X, Γ.Has X → PI X tg iter wi) ∧ MeanI Γ.K B wi F
def iOr (w1 w2 : TI) : TI := fun σ H R => w1 σ H R ∨ w2 σ H R
theorem pi_or {X : Cx} {tg iter : Expr} {w1 w2 : TI} (h1 : PI X tg iter w1) (h2 : PI X tg iter w2) : PI X tg iter (iOr w1 w2) :=
  ⟨fun pins s σ H R I h => h.elim (fun h => h1.run pins s σ H R I h) fun h => h2.run pins s σ H R I h⟩
theorem lt_get {α : Type} {l : List α} {i : Nat} (h : i < l.length) : ∃ a, l[i]? = some a := ⟨l[i], List.getElem?_eq_getElem h⟩
theorem walkL {K : Frag} {S : Hp} {a : Addr} {vs : List V} {xs : List D} (h : S a = some (.lst vs)) (q : DqAll K S vs xs) : DWalk K S (Itl K a) xs where
  go := fun i H hi w => by
    obtain ⟨x, hx⟩ := lt_get hi
    obtain ⟨v, hv, _⟩ := q.getD hx
    exact ⟨vs, v, SqL.of (w _ _ h), hv⟩
  stop := fun H w => ⟨vs, SqL.of (w _ _ h), by rw [q.len]; exact Nat.le_refl _⟩
  yld := fun i H x H' S1 d hd w w1 y => by
    obtain ⟨rfl, y⟩ := y
    have hx := y vs (SqL.of (w1 _ _ (w _ _ h)))
    obtain ⟨v, hv, hq⟩ := q.getD hd
    rw [hx] at hv
    cases hv
    exact ⟨S1, Grow.refl w1, Dq.mono w hq⟩
theorem walkT {K : Frag} {S : Hp} {a : Addr} {vs : List V} {xs : List D} (h : SqT K S a vs) (q : DqAll K S vs xs) : DWalk K S (Itt K a) xs where
  go := fun i H hi w => by
    obtain ⟨x, hx⟩ := lt_get hi
    obtain ⟨v, hv, _⟩ := q.getD hx
    exact ⟨vs, v, seqT_mono w h, hv⟩
  stop := fun H w => ⟨vs, seqT_mono w h, by rw [q.len]; exact Nat.le_refl _⟩
  yld := fun i H x H' S1 d hd w w1 y => by
    obtain ⟨rfl, y⟩ := y
    have hx := y vs (seqT_mono w1 (seqT_mono w h))
    obtain ⟨v, hv, hq⟩ := q.getD hd
    rw [hx] at hv
    cases hv
    exact ⟨S1, Grow.refl w1, Dq.mono w hq⟩
def seqO (d : D) : M τ (List D) := match d with
  | .list xs => ret xs
  | .tuple xs => ret xs
  | _ => stuck
def iterM (F : M τ Opd) : M τ (List D) := bnd (valM F) seqO
theorem DI.seq {tg : Expr} (h : DO Γ B e F) : DI Γ B tg e (iterM F) := by
  obtain ⟨t, pe, m⟩ := h
  refine ⟨iOr (iList Γ.K t) (iTup Γ.K t), fun X h => pi_or (by have := @pi_list X tg e t (pe X h); rw [h.K] at this; exact this) (by have := @pi_tup X tg e t (pe X h); rw [h.K] at this; exact this), fun s σ H S g xs s' e R q => ?_⟩
  obtain ⟨d, s1, e1, e2⟩ := bnd_some e
  cases d with
  | list ys =>
    obtain ⟨rfl, rfl⟩ := ret_some e2
    refine .inl (m.val g e1 fun v H1 S1 g1 w1 r1 => ?_)
    cases r1 with
    | lst h1 h2 => exact ⟨_, rfl, ⟨_, SqL.of (g1.fr.sub _ _ h1)⟩, q _ H1 S1 g1 w1 (walkL h1 h2)⟩
  | tuple ys =>
    obtain ⟨rfl, rfl⟩ := ret_some e2
    refine .inr (m.val g e1 fun v H1 S1 g1 w1 r1 => ?_)
    cases r1 with
    | tup h1 h2 => exact ⟨_, rfl, ⟨_, seqT_mono g1.fr.sub h1⟩, q _ H1 S1 g1 w1 (walkT h1 h2)⟩
  | _ => cases e2
theorem walkR {K : Frag} {S : Hp} (a b : Int) : DWalk K S (Itr a (b - a).toNat) (rgD a b) where
  go := fun i H hi w => by
    show i < (b - a).toNat
    unfold rgD at hi
    rw [List.length_map, List.length_range] at hi
    exact hi
  stop := fun H w => by
    show (b - a).toNat ≤ (rgD a b).length
    unfold rgD
    simp
  yld := fun i H x H' S1 d hd w w1 y => by
    obtain ⟨rfl, rfl⟩ := y
    unfold rgD at hd
    rw [List.getElem?_map] at hd
    obtain ⟨j, h1, h2⟩ := Option.map_eq_some_iff.mp hd
    have hj : j = i := by
      have := List.getElem?_eq_some_iff.mp h1
      obtain ⟨hl, h3⟩ := this
      rw [List.getElem_range] at h3
      exact h3.symm
    subst hj
    subst h2
    exact ⟨S1, Grow.refl w1, .int _⟩
def rangeM (G : M τ (List Opd)) : M τ (List D) := bnd (intsM G) fun ds => bnd (lift (rng2 ds)) fun ab => if rgOk ab.1 ab.2 then ret (rgD ab.1 ab.2) else stuck
theorem DI.range1 {tg : Expr} {p : Pos} (ha : DA Γ B [a] (consO Fa nilM)) (hg : Γ.sc.names.lookup ("range" : Str) = some .globalImplicit) (hm : Γ.mg "range" = none) (hs : ∀ X : Cx, starEach [a] X.env = [(false, eval a X.env)] := by intro _; rfl) :
    DI Γ B tg (.Call (.Name "range" p) [a] [] pos) (rangeM (consO Fa nilM)) := by
  obtain ⟨t, pa, m⟩ := ha
  refine ⟨_, fun X h => pi_range1 (gl_of h hg) (by rw [h.mg]; exact hm) (pa X h) (hs X), fun s σ H S g xs s' e R q => ?_⟩
  obtain ⟨ds, s1, e1, eA⟩ := bnd_some e
  obtain ⟨os, s2, e2, e3⟩ := bnd_some e1
  obtain ⟨ab, s5, e8, e9⟩ := bnd_some eA
  obtain ⟨ez, rfl⟩ := lift_some e8
  have hos : ∃ o1, os = [o1] := by
    obtain ⟨o1, s3, e4, e5⟩ := bnd_some e2
    obtain ⟨os', s4, e6, e7⟩ := bnd_some e5
    obtain ⟨rfl, rfl⟩ := ret_some e6
    obtain ⟨rfl, rfl⟩ := ret_some e7
    exact ⟨_, rfl⟩
  obtain ⟨o1, rfl⟩ := hos
  refine m s σ H S g _ s2 e2 _ fun vs H1 S1 g1 w1 r1 => ?_
  obtain ⟨rfl, vl⟩ := viewL_fin g1 r1 e3
  match vs, r1, ds, vl, ez with
  | [v], r1, [.int n], vl, ez =>
    cases ez
    obtain rfl := vl.1.int
    by_cases hz : rgOk 0 n = true
    · rw [if_pos hz] at e9
      obtain ⟨rfl, rfl⟩ := ret_some e9
      obtain ⟨b1, b2, b3, b4, b5⟩ := rgOk_of hz
      have wk := walkR (K := Γ.K) (S := S1) 0 n
      rw [Int.sub_zero] at wk
      exact ⟨n, rfl, b3, b4, q _ H1 S1 g1 w1 wk⟩
    · rw [if_neg hz] at e9
      cases e9
  | [v], r1, [.int i, .int j], vl, ez => exact vl.2.elim
theorem DI.range2 {tg : Expr} {p : Pos} (ha : DA Γ B [a, b] (consO Fa (consO Fb nilM))) (hg : Γ.sc.names.lookup ("range" : Str) = some .globalImplicit) (hm : Γ.mg "range" = none) (hs : ∀ X : Cx, starEach [a, b] X.env = [(false, eval a X.env), (false, eval b X.env)] := by intro _; rfl)
    (hs2 : ∀ X : Cx, starEach [b] X.env = [(false, eval b X.env)] := by intro _; rfl) : DI Γ B tg (.Call (.Name "range" p) [a, b] [] pos) (rangeM (consO Fa (consO Fb nilM))) := by
  obtain ⟨t, pa, m⟩ := ha
  refine ⟨_, fun X h => pi_range2 (gl_of h hg) (by rw [h.mg]; exact hm) (pa X h) (hs X) (hs2 X), fun s σ H S g xs s' e R q => ?_⟩
  obtain ⟨ds, s1, e1, eA⟩ := bnd_some e
  obtain ⟨os, s2, e2, e3⟩ := bnd_some e1
  obtain ⟨ab, s5, e8, e9⟩ := bnd_some eA
  obtain ⟨ez, rfl⟩ := lift_some e8
  have hos : ∃ o1 o2, os = [o1, o2] := by
    obtain ⟨o1, s3, e4, e5⟩ := bnd_some e2
    obtain ⟨os', s4, e6, e7⟩ := bnd_some e5
    obtain ⟨o2, s6, e10, e11⟩ := bnd_some e6
    obtain ⟨os2, s7, e12, e13⟩ := bnd_some e11
    obtain ⟨rfl, rfl⟩ := ret_some e12
    obtain ⟨rfl, rfl⟩ := ret_some e13
    obtain ⟨rfl, rfl⟩ := ret_some e7
    exact ⟨_, _, rfl⟩
  obtain ⟨o1, o2, rfl⟩ := hos
  refine m s σ H S g _ s2 e2 _ fun vs H1 S1 g1 w1 r1 => ?_
  obtain ⟨rfl, vl⟩ := viewL_fin g1 r1 e3
  match vs, r1, ds, vl, ez with
  | [v, u], r1, [.int i, .int j], vl, ez =>
    cases ez
    obtain rfl := vl.1.int
    obtain rfl := vl.2.1.int
    by_cases hz : rgOk i j = true
    · rw [if_pos hz] at e9
      obtain ⟨rfl, rfl⟩ := ret_some e9
      obtain ⟨b1, b2, b3, b4, b5⟩ := rgOk_of hz
      exact ⟨i, j, rfl, ⟨b1, b2, b3, b4⟩, q _ H1 S1 g1 w1 (walkR i j)⟩
    · rw [if_neg hz] at e9
      cases e9
  | [v, u], r1, [.int i], vl, ez => exact vl.2.elim
/-! enumerate -/
def enumL : Nat → List D → List D
  | _, [] => []
  | k, x :: xs => .tuple [.int (k : Nat), x] :: enumL (k + 1) xs
theorem enumL_len : ∀ (k : Nat) (xs : List D), (enumL k xs).length = xs.length
  | _, [] => rfl
  | k, x :: xs => by rw [enumL, List.length_cons, List.length_cons, enumL_len]
theorem enumL_get : ∀ (k : Nat) (xs : List D) (i : Nat) (d : D), (enumL k xs)[i]? = some d → ∃ x, xs[i]? = some x ∧ d = .tuple [.int ((k + i : Nat)), x]
  | _, [], _, _, h => by simp [enumL] at h
  | k, x :: xs, 0, d, h => by
    simp [enumL] at h
    exact ⟨x, rfl, h.symm⟩
  | k, x :: xs, i + 1, d, h => by
    have h' : (enumL (k + 1) xs)[i]? = some d := by simpa [enumL] using h
    obtain ⟨y, h1, h2⟩ := enumL_get (k + 1) xs i d h'
    exact ⟨y, by simpa using h1, by rw [h2, show k + 1 + i = k + (i + 1) by omega]⟩
theorem new_pair {K : Frag} {H S1 : Hp} {T : Addr} {v u : V} {x y : D} (w : Same S1 H) (n : H T = none) (h1 : Dq K S1 v x) (h2 : Dq K S1 u y) :
    ∃ S2, Grow H S1 (upd H T (.tup [v, u])) S2 ∧ Dq K S2 (.ref T) (.tuple [x, y]) := by
  have g := Grow.alloc (o := .tup [v, u]) w n
  exact ⟨_, g, .tup (SqT.of upd_same) (.cons (Dq.mono g.s h1) (.cons (Dq.mono g.s h2) .nil))⟩
theorem walkEL {K : Frag} {S : Hp} {a : Addr} {vs : List V} {xs : List D} (h : S a = some (.lst vs)) (q : DqAll K S vs xs) : DWalk K S (Ite K a) (enumL 0 xs) where
  go := fun i H hi w => by
    rw [enumL_len] at hi
    obtain ⟨x, hx⟩ := lt_get hi
    obtain ⟨v, hv, _⟩ := q.getD hx
    exact ⟨vs, v, SqL.of (w _ _ h), hv⟩
  stop := fun H w => ⟨vs, SqL.of (w _ _ h), by rw [q.len, enumL_len]; exact Nat.le_refl _⟩
  yld := fun i H x H' S1 d hd w w1 y => by
    obtain ⟨T, v, rfl, n, rfl, y⟩ := y
    have hx := y vs (SqL.of (w1 _ _ (w _ _ h)))
    obtain ⟨z, hz, rfl⟩ := enumL_get _ _ _ _ hd
    obtain ⟨v', hv, hq⟩ := q.getD hz
    rw [hx] at hv
    cases hv
    rw [Nat.zero_add]
    exact new_pair w1 n (.int _) (Dq.mono w hq)
theorem walkET {K : Frag} {S : Hp} {a : Addr} {vs : List V} {xs : List D} (h : SqT K S a vs) (q : DqAll K S vs xs) : DWalk K S (IteT K a) (enumL 0 xs) where
  go := fun i H hi w => by
    rw [enumL_len] at hi
    obtain ⟨x, hx⟩ := lt_get hi
    obtain ⟨v, hv, _⟩ := q.getD hx
    exact ⟨vs, v, seqT_mono w h, hv⟩
  stop := fun H w => ⟨vs, seqT_mono w h, by rw [q.len, enumL_len]⟩
  yld := fun i H x H' S1 d hd w w1 y => by
    obtain ⟨T, v, rfl, n, rfl, y⟩ := y
    have hx := y vs (seqT_mono w1 (seqT_mono w h))
    obtain ⟨z, hz, rfl⟩ := enumL_get _ _ _ _ hd
    obtain ⟨v', hv, hq⟩ := q.getD hz
    rw [hx] at hv
    cases hv
    rw [Nat.zero_add]
    exact new_pair w1 n (.int _) (Dq.mono w hq)
def iEnumT (K : Frag) (ta : TA) : TI := fun σ H R => ta σ H fun vs H1 => ∃ a xs, vs = [.ref a] ∧ SqT K H1 a xs ∧ R (IteT K a) H1
theorem pi_enumT {X : Cx} {e : Expr} {ta : TA} {p pos tpos : Pos} {elts : List Expr} {kk : Nat} (hg : Gl X "enumerate") (hm : X.mg "enumerate" = none) (ha : PA X [e] ta) (hs : starEach [e] X.env = [(false, eval e X.env)]) :
    PI X (.Tuple elts kk tpos) (.Call (.Name "enumerate" p) [e] [] pos) (iEnumT X.K ta) := by
  refine ⟨fun pins s σ H R I h => ?_⟩
  refine Call_ (ld_blt I hg hm PyProof.Rows.boot_enumerate (PyProof.Rows.callWith_type1 (thn (ha.run pos pins s σ H _ I h) fun us s1 ⟨vs, H1, I1, r1, q1⟩ => ?_) hs rfl))
  obtain ⟨a, xs, ex, hq, q⟩ := q1
  subst ex
  obtain ⟨u, rfl, ru⟩ := vals1 r1
  cases ru
  obtain ⟨its, rv, p', hz⟩ := I1.tuple hq
  have hal : a < s1.heap.objs.size := p'.lt
  refine dl_call_enum (show s1.heap.IsTuple a its.toArray from p') fun h' he hit hk => wpAny_pyIter_enum he ?_
  have I2 : Inv X pins σ H1 { s1 with heap := h' } := I1.kept (t' := s1.toks) hk
  refine ⟨s1.heap.objs.size + 1, [s1.heap.objs.size + 1, s1.heap.objs.size], _, _, H1, rfl, I2, turn_enumT a (s1.heap.objs.size + 1) s1.heap.objs.size, ⟨⟨.none, he⟩, hit, Nat.succ_ne_self _, Nat.ne_of_lt hal, Nat.ne_of_lt (Nat.lt_succ_of_lt hal)⟩, fun b hb => ?_, q⟩
  have hle : s1.heap.objs.size ≤ b := by
    have e' : b = s1.heap.objs.size + 1 ∨ b = s1.heap.objs.size := by simpa using hb
    rcases e' with z | z
    · rw [z]; exact Nat.le_succ _
    · rw [z]; exact Nat.le_refl _
  exact I1.fpOk hle (I1.hok.fresh hle)
def enumM (F : M τ Opd) : M τ (List D) := bnd (iterM F) fun xs => ret (enumL 0 xs)
theorem DI.enum {p tpos : Pos} {elts : List Expr} {kk : Nat} (h : DO Γ B e F) (hg : Γ.sc.names.lookup ("enumerate" : Str) = some .globalImplicit) (hm : Γ.mg "enumerate" = none) (hs : ∀ X : Cx, starEach [e] X.env = [(false, eval e X.env)] := by intro _; rfl) :
    DI Γ B (.Tuple elts kk tpos) (.Call (.Name "enumerate" p) [e] [] pos) (enumM F) := by
  obtain ⟨t, pe, m⟩ := h
  have hs' : ∀ X : Cx, starEach [e] X.env = (false, eval e X.env) :: starEach [] X.env := fun X => hs X
  refine ⟨iOr (iEnum Γ.K (tCons t tNil)) (iEnumT Γ.K (tCons t tNil)), fun X h => pi_or (by have := @pi_enum X e _ p pos tpos elts kk (gl_of h hg) (by rw [h.mg]; exact hm) (pa_cons (pe X h) pa_nil (hs' X)) (hs X); rw [h.K] at this; exact this)
    (by have := @pi_enumT X e _ p pos tpos elts kk (gl_of h hg) (by rw [h.mg]; exact hm) (pa_cons (pe X h) pa_nil (hs' X)) (hs X); rw [h.K] at this; exact this), fun s σ H S g xs s' e R q => ?_⟩
  obtain ⟨ys, s1, e1, e2⟩ := bnd_some e
  obtain ⟨rfl, rfl⟩ := ret_some e2
  obtain ⟨d, s2, e3, e4⟩ := bnd_some e1
  cases d with
  | list zs =>
    obtain ⟨rfl, rfl⟩ := ret_some e4
    refine .inl (m.val g e3 fun v H1 S1 g1 w1 r1 => ?_)
    cases r1 with
    | lst h1 h2 => exact ⟨_, _, rfl, SqL.of (g1.fr.sub _ _ h1), q _ H1 S1 g1 w1 (walkEL h1 h2)⟩
  | tuple zs =>
    obtain ⟨rfl, rfl⟩ := ret_some e4
    refine .inr (m.val g e3 fun v H1 S1 g1 w1 r1 => ?_)
    cases r1 with
    | tup h1 h2 => exact ⟨_, _, rfl, seqT_mono g1.fr.sub h1, q _ H1 S1 g1 w1 (walkET h1 h2)⟩
  | _ => cases e4
/-! zip of two lists or of two tuples -/
def zipL : List D → List D → List D
  | x :: xs, y :: ys => .tuple [x, y] :: zipL xs ys
  | _, _ => []
theorem zipL_len : ∀ (xs ys : List D), (zipL xs ys).length = min xs.length ys.length
  | [], _ => by simp [zipL]
  | _ :: _, [] => by simp [zipL]
  | x :: xs, y :: ys => by rw [zipL, List.length_cons, zipL_len, List.length_cons, List.length_cons]; omega
theorem zipL_get : ∀ (xs ys : List D) (i : Nat) (d : D), (zipL xs ys)[i]? = some d → ∃ x y, xs[i]? = some x ∧ ys[i]? = some y ∧ d = .tuple [x, y]
  | [], _, _, _, h => by simp [zipL] at h
  | _ :: _, [], _, _, h => by simp [zipL] at h
  | x :: xs, y :: ys, 0, d, h => by
    simp [zipL] at h
    exact ⟨x, y, rfl, rfl, h.symm⟩
  | x :: xs, y :: ys, i + 1, d, h => by
    have h' : (zipL xs ys)[i]? = some d := by simpa [zipL] using h
    obtain ⟨a, b, h1, h2, h3⟩ := zipL_get xs ys i d h'
    exact ⟨a, b, by simpa using h1, by simpa using h2, h3⟩
theorem walkZ {K : Frag} {S : Hp} {a b : Addr} {vs us : List V} {xs ys : List D} (h : S a = some (.lst vs)) (h' : S b = some (.lst us)) (q : DqAll K S vs xs) (q' : DqAll K S us ys) : DWalk K S (Itz K a b) (zipL xs ys) where
  go := fun i H hi w => by
    rw [zipL_len] at hi
    obtain ⟨x, hx⟩ := lt_get (show i < xs.length by omega)
    obtain ⟨y, hy⟩ := lt_get (show i < ys.length by omega)
    obtain ⟨v, hv, _⟩ := q.getD hx
    obtain ⟨u, hu, _⟩ := q'.getD hy
    exact ⟨vs, us, v, u, SqL.of (w _ _ h), SqL.of (w _ _ h'), hv, hu⟩
  stop := fun H w => ⟨vs, us, SqL.of (w _ _ h), SqL.of (w _ _ h'), by rw [q.len, q'.len, zipL_len]; omega⟩
  yld := fun i H x H' S1 d hd w w1 y => by
    obtain ⟨T, v, u, rfl, n, rfl, y1, y2⟩ := y
    have hx := y1 vs (SqL.of (w1 _ _ (w _ _ h)))
    have hy := y2 us (SqL.of (w1 _ _ (w _ _ h')))
    obtain ⟨z, z', hz, hz', rfl⟩ := zipL_get _ _ _ _ hd
    obtain ⟨v', hv, hq⟩ := q.getD hz
    obtain ⟨u', hu, hq'⟩ := q'.getD hz'
    rw [hx] at hv
    rw [hy] at hu
    cases hv
    cases hu
    exact new_pair w1 n (Dq.mono w hq) (Dq.mono w hq')
theorem walkZT {K : Frag} {S : Hp} {a b : Addr} {vs us : List V} {xs ys : List D} (h : SqT K S a vs) (h' : SqT K S b us) (q : DqAll K S vs xs) (q' : DqAll K S us ys) : DWalk K S (RZ.ItzT K a b) (zipL xs ys) where
  go := fun i H hi w => by
    rw [zipL_len] at hi
    obtain ⟨x, hx⟩ := lt_get (show i < xs.length by omega)
    obtain ⟨y, hy⟩ := lt_get (show i < ys.length by omega)
    obtain ⟨v, hv, _⟩ := q.getD hx
    obtain ⟨u, hu, _⟩ := q'.getD hy
    exact ⟨vs, us, v, u, seqT_mono w h, seqT_mono w h', hv, hu⟩
  stop := fun H w => ⟨vs, us, seqT_mono w h, seqT_mono w h', by rw [q.len, q'.len, zipL_len]; omega⟩
  yld := fun i H x H' S1 d hd w w1 y => by
    obtain ⟨T, v, u, rfl, n, rfl, y1, y2⟩ := y
    have hx := y1 vs (seqT_mono w1 (seqT_mono w h))
    have hy := y2 us (seqT_mono w1 (seqT_mono w h'))
    obtain ⟨z, z', hz, hz', rfl⟩ := zipL_get _ _ _ _ hd
    obtain ⟨v', hv, hq⟩ := q.getD hz
    obtain ⟨u', hu, hq'⟩ := q'.getD hz'
    rw [hx] at hv
    rw [hy] at hu
    cases hv
    cases hu
    exact new_pair w1 n (Dq.mono w hq) (Dq.mono w hq')
def zipD : List D → Option (List D)
  | [.list xs, .list ys] => some (zipL xs ys)
  | [.tuple xs, .tuple ys] => some (zipL xs ys)
  | _ => none
def zipM (G : M τ (List D)) : M τ (List D) := bnd G fun ds => lift (zipD ds)
theorem DI.zip {p tpos : Pos} {elts : List Expr} {kk : Nat} {G : M τ (List D)} (h : DV Γ B [a, b] G) (hg : Γ.sc.names.lookup ("zip" : Str) = some .globalImplicit) (hm : Γ.mg "zip" = none) (hz : ∀ X : Cx, starEach [a, b] X.env = (false, eval a X.env) :: starEach [b] X.env := by intro _; rfl)
    (hz2 : ∀ X : Cx, (backTo pos (starEach [b] X.env)).any (·.1) = false := by intro _; rfl) :
    DI Γ B (.Tuple elts kk tpos) (.Call (.Name "zip" p) [a, b] [] pos) (zipM G) := by
  obtain ⟨t, pa, m⟩ := h
  refine ⟨RZ.iZipA Γ.K t, fun X h => by have := RZ.pi_zipA (X := X) (elts := elts) (kk := kk) (tpos := tpos) (p := p) (pos := pos) (gl_of h hg) (by rw [h.mg]; exact hm) (pa X h) (hz X) (hz2 X); rw [h.K] at this; exact this, fun s σ H S g xs s' e R q => ?_⟩
  obtain ⟨ds, s1, e1, e2⟩ := bnd_some e
  obtain ⟨ez, rfl⟩ := lift_some e2
  refine m s σ H S g ds _ e1 _ fun vs H1 S1 g1 w1 r1 => ?_
  match ds, r1, ez with
  | [.list xs, .list ys], .cons (.lst h1 h2) (.cons (.lst h3 h4) .nil), ez =>
    cases ez
    exact ⟨_, _, _, _, rfl, .inl ⟨SqL.of (g1.fr.sub _ _ h1), SqL.of (g1.fr.sub _ _ h3), q _ H1 S1 g1 w1 (walkZ h1 h3 h2 h4)⟩⟩
  | [.tuple xs, .tuple ys], .cons (.tup h1 h2) (.cons (.tup h3 h4) .nil), ez =>
    cases ez
    exact ⟨_, _, _, _, rfl, .inr ⟨seqT_mono g1.fr.sub h1, seqT_mono g1.fr.sub h3, q _ H1 S1 g1 w1 (walkZT h1 h3 h2 h4)⟩⟩
end
end DL
end

section
set_option Elab.async false
set_option linter.all false
set_option maxRecDepth 100000
set_option maxHeartbeats 3999999
/-! WEng6: targets, comprehensions -/
namespace DL
open L2 PySem PyProof.Rows PySem.Spec
variable {τ α β : Type}

/-! ### slots forgotten -/
def wipeE (env : List (Option Sl)) : List Nat → List (Option Sl)
  | [] => env
  | v :: vs => (wipeE env vs).set v none
theorem wipeE_len (env : List (Option Sl)) : ∀ vs, (wipeE env vs).length = env.length
  | [] => rfl
  | v :: vs => by unfold wipeE; rw [List.length_set, wipeE_len]
theorem wipeE_some {env : List (Option Sl)} {i : Nat} {z : Sl} : ∀ {vs : List Nat}, (wipeE env vs)[i]? = some (some z) → env[i]? = some (some z) ∧ i ∉ vs
  | [], h => ⟨h, by simp⟩
  | v :: vs, h => by
    unfold wipeE at h
    rcases set_get h with ⟨_, q⟩ | ⟨n, q⟩
    · cases q
    · obtain ⟨h1, h2⟩ := wipeE_some q
      exact ⟨h1, fun m => (List.mem_cons.mp m).elim (fun e => n e.symm) h2⟩
theorem wipe_get (σ : List (Option V)) (j : Nat) : ∀ vs : List Nat, (wipe σ vs)[j]? = if j ∈ vs then σ[j]?.map (fun _ => none) else σ[j]?
  | [] => by simp [wipe]
  | v :: vs => by
    unfold wipe
    by_cases e : v = j
    · subst e
      rw [if_pos List.mem_cons_self]
      by_cases hl : v < (wipe σ vs).length
      · rw [List.getElem?_set_self hl]
        rw [wipe_length] at hl
        rw [List.getElem?_eq_getElem hl]
        rfl
      · rw [List.getElem?_eq_none (by rw [List.length_set]; omega)]
        rw [wipe_length] at hl
        rw [List.getElem?_eq_none (by omega)]
        rfl
    · rw [List.getElem?_set_ne e, wipe_get]
      by_cases m : j ∈ vs
      · rw [if_pos m, if_pos (List.mem_cons_of_mem _ m)]
      · rw [if_neg m, if_neg (fun q => (List.mem_cons.mp q).elim (fun z => e z.symm) m)]
theorem wipe_set {σ : List (Option V)} {i : Nat} {x : Option V} {vs : List Nat} (h : i ∈ vs) : wipe (σ.set i x) vs = wipe σ vs := by
  apply List.ext_getElem?
  intro j
  rw [wipe_get, wipe_get]
  by_cases e : i = j
  · subst e
    rw [if_pos h, if_pos h]
    by_cases hl : i < σ.length
    · rw [List.getElem?_set_self hl, List.getElem?_eq_getElem hl]; rfl
    · rw [List.getElem?_eq_none (by rw [List.length_set]; omega), List.getElem?_eq_none (by omega)]
  · rw [List.getElem?_set_ne e]
theorem wipe_wipe {σ : List (Option V)} {us vs : List Nat} (h : ∀ i ∈ us, i ∈ vs) : wipe (wipe σ us) vs = wipe σ vs := by
  apply List.ext_getElem?
  intro j
  rw [wipe_get, wipe_get, wipe_get]
  by_cases m : j ∈ vs
  · rw [if_pos m, if_pos m]
    by_cases m' : j ∈ us
    · rw [if_pos m']; cases σ[j]? <;> rfl
    · rw [if_neg m']
  · rw [if_neg m, if_neg m, if_neg (fun q => m (h j q))]
section
variable {K : Frag} {B : Bd τ} {s s' s1 : Stt τ} {σ : List (Option V)} {H S H' S' : Hp} {ws : List Nat}
theorem Good.wipe (g : Good K B s σ H S) (ws : List Nat) : Good K B { s with env := wipeE s.env ws } (L2.wipe σ ws) H S := by
  refine ⟨g.fr, g.at_, by rw [wipeE_len, wipe_length]; exact g.len, fun i z e => ?_, fun i j xs ys n e1 e2 => ?_⟩
  · obtain ⟨e', hn⟩ := wipeE_some e
    rw [wipe_out hn]
    exact g.slot i z e'
  · obtain ⟨q1, n1⟩ := wipeE_some e1
    obtain ⟨q2, n2⟩ := wipeE_some e2
    rw [wipe_out n1, wipe_out n2]
    exact g.disj i j xs ys n q1 q2
theorem Free.wipe {p : Addr} {xs : List D} (f : Free K B s σ H S p xs) (ws : List Nat) : Free K B { s with env := wipeE s.env ws } (L2.wipe σ ws) H S p xs :=
  ⟨f.at_, f.ns, f.n0, f.nr, fun j ys e => by
    obtain ⟨e', hn⟩ := wipeE_some e
    rw [wipe_out hn]
    exact f.no j ys e'⟩
def keepD : Option (Option Sl) → Option Sl
  | some (some (.d x)) => some (.d x)
  | _ => none
def restE (env0 : List (Option Sl)) : List Nat → List (Option Sl) → List (Option Sl)
  | [], env => env
  | v :: vs, env => (restE env0 vs env).set v (keepD env0[v]?)
theorem restE_len (env0 env : List (Option Sl)) : ∀ vs, (restE env0 vs env).length = env.length
  | [] => rfl
  | v :: vs => by unfold restE; rw [List.length_set, restE_len]
theorem restE_some {env0 env : List (Option Sl)} {i : Nat} {z : Sl} : ∀ {vs : List Nat}, (restE env0 vs env)[i]? = some (some z) → (i ∈ vs ∧ ∃ x, z = .d x ∧ env0[i]? = some (some (.d x))) ∨ (i ∉ vs ∧ env[i]? = some (some z))
  | [], h => .inr ⟨by simp, h⟩
  | v :: vs, h => by
    unfold restE at h
    rcases set_get h with ⟨rfl, q⟩ | ⟨n, q⟩
    · refine .inl ⟨List.mem_cons_self, ?_⟩
      unfold keepD at q
      split at q
      · rename_i x e
        cases q
        exact ⟨x, rfl, e⟩
      · cases q
    · rcases restE_some q with ⟨m, r⟩ | ⟨m, r⟩
      · exact .inl ⟨List.mem_cons_of_mem _ m, r⟩
      · exact .inr ⟨fun k => (List.mem_cons.mp k).elim (fun e => n e.symm) m, r⟩
theorem Good.unwipe (g1 : Good K B s1 σ H S) (g : Good K B s' (L2.wipe σ ws) H' S') (w : Same S S') : Good K B { s' with env := restE s1.env ws s'.env } σ H' S' := by
  refine ⟨g.fr, g.at_, by rw [restE_len, g.len, wipe_length], fun i z e => ?_, fun i j xs ys n e1 e2 => ?_⟩
  · rcases restE_some e with ⟨_, x, rfl, q⟩ | ⟨m, q⟩
    · obtain ⟨v, h1, h2⟩ := g1.get q
      exact ⟨v, h1, Dq.mono w h2⟩
    · obtain ⟨v, h1, h2⟩ := g.slot i z q
      exact ⟨v, (wipe_some h1).1, h2⟩
  · rcases restE_some e1 with ⟨_, x, q, _⟩ | ⟨m1, q1⟩
    · cases q
    rcases restE_some e2 with ⟨_, x, q, _⟩ | ⟨m2, q2⟩
    · cases q
    have := g.disj i j xs ys n q1 q2
    rw [wipe_out m1, wipe_out m2] at this
    exact this
theorem Free.unwipe {p : Addr} {xs : List D} {env0 : List (Option Sl)} (f : Free K B s' (L2.wipe σ ws) H' S' p xs) : Free K B { s' with env := restE env0 ws s'.env } σ H' S' p xs :=
  ⟨f.at_, f.ns, f.n0, f.nr, fun j ys e => by
    rcases restE_some e with ⟨_, x, q, _⟩ | ⟨m, q⟩
    · cases q
    · have := f.no j ys q
      rw [wipe_out m] at this
      exact this⟩
/-- the contents of a list that nobody knows are changed -/
theorem Good.changeFree {p : Addr} {xs : List D} {us : List V} (g : Good K B s σ H S) (f : Free K B s σ H S p xs) : Good K B s σ (upd H p (.lst us)) S := by
  obtain ⟨⟨vs, hp, _⟩, ns, n0, nr, no⟩ := f
  refine ⟨⟨fun b o e r => ?_, g.fr.s, fun b o e => ?_, g.fr.new, g.fr.nor⟩, ?_, g.len, fun j z e => ?_, g.disj⟩
  · rw [upd_ne (fun q => by rw [q, n0] at e; cases e)]
    exact g.fr.keep b o e r
  · rw [upd_ne (fun q => by rw [q, ns] at e; cases e)]
    exact g.fr.sub b o e
  · exact B.dr.stay _ _ _ g.at_ fun b o r e => by rw [upd_ne (fun q => nr (by rw [← q]; exact r))]; exact e
  · obtain ⟨v, h1, h2⟩ := g.slot j z e
    refine ⟨v, h1, ?_⟩
    cases z with
    | d x => exact h2
    | own as =>
      obtain ⟨q', us', e1, e2, e3⟩ := h2
      subst e1
      exact ⟨q', us', rfl, by rw [upd_ne (fun z => no j as e (by rw [h1, z]))]; exact e2, e3⟩
    | h => exact h2
    | s ns => exact h2
    | r lo hi => exact h2
theorem Free.change {p : Addr} {xs ys : List D} {us : List V} (f : Free K B s σ H S p xs) (h : DqAll K S us ys) : Free K B s σ (upd H p (.lst us)) S p ys := ⟨⟨us, upd_same, h⟩, f.ns, f.n0, f.nr, f.no⟩
theorem Free.other {p q : Addr} {xs : List D} {o : HO} (f : Free K B s σ H S q xs) (n : q ≠ p) : Free K B s σ (upd H p o) S q xs :=
  ⟨let ⟨vs, h1, h2⟩ := f.at_; ⟨vs, by rw [upd_ne n]; exact h1, h2⟩, f.ns, f.n0, f.nr, f.no⟩
end

/-! ### targets -/
structure Moved (K : Frag) (B : Bd τ) (ws : List Nat) (s : Stt τ) (σ : List (Option V)) (s' : Stt τ) (σ' : List (Option V)) : Prop where
  free : ∀ H S p xs, Free K B s σ H S p xs → Free K B s' σ' H S p xs
  wipe : ∀ vs : List Nat, (∀ i ∈ ws, i ∈ vs) → L2.wipe σ' vs = L2.wipe σ vs
def MeanG (K : Frag) (B : Bd τ) (g : TG) (ws : List Nat) (G : D → M τ Unit) : Prop := ∀ s σ H S, Good K B s σ H S → ∀ v d, Dq K S v d → ∀ s', G d s = some ((), s') →
  ∀ Q : List (Option V) → Hp → Prop, (∀ σ', Good K B s' σ' H S → Moved K B ws s σ s' σ' → Q σ' H) → g v σ H Q
def DG (Γ : Gam) (B : Bd τ) (tg : Expr) (ws : List Nat) (G : D → M τ Unit) : Prop := ∃ g, (∀ X, Γ.Has X → PG X tg g) ∧ MeanG Γ.K B g ws G
def MeanGs (K : Frag) (B : Bd τ) (g : TGs) (ws : List Nat) (G : List D → M τ Unit) : Prop := ∀ s σ H S, Good K B s σ H S → ∀ v d, DqAll K S v d → ∀ s', G d s = some ((), s') →
  ∀ Q : List (Option V) → Hp → Prop, (∀ σ', Good K B s' σ' H S → Moved K B ws s σ s' σ' → Q σ' H) → g v σ H Q
def DGs (Γ : Gam) (B : Bd τ) (tg : List Expr) (ws : List Nat) (G : List D → M τ Unit) : Prop := ∃ g, (∀ X, Γ.Has X → PGs X tg g) ∧ MeanGs Γ.K B g ws G
def setM (i : Nat) (d : D) : M τ Unit := fun s => some ((), { s with env := s.env.set i (some (.d d)) })
def gsNil : List D → M τ Unit := fun ds => match ds with
  | [] => ret ()
  | _ => stuck
def gsCons (G : D → M τ Unit) (Gs : List D → M τ Unit) : List D → M τ Unit := fun ds => match ds with
  | [] => stuck
  | d :: ds => bnd (G d) fun _ => Gs ds
def tupG (n : Nat) (Gs : List D → M τ Unit) : D → M τ Unit := fun d => match d with
  | .tuple ds => if ds.length = n then Gs ds else stuck
  | _ => stuck
theorem Moved.trans {K : Frag} {B : Bd τ} {ws us : List Nat} {s s1 s2 : Stt τ} {σ σ1 σ2 : List (Option V)} (a : Moved K B ws s σ s1 σ1) (b : Moved K B us s1 σ1 s2 σ2) : Moved K B (ws ++ us) s σ s2 σ2 :=
  ⟨fun H S p xs f => b.free H S p xs (a.free H S p xs f), fun vs h => by
    rw [b.wipe vs fun i m => h i (List.mem_append_right _ m), a.wipe vs fun i m => h i (List.mem_append_left _ m)]⟩
section
variable {Γ : Gam} {B : Bd τ} {pos : Pos}
theorem DG.name {i : Nat} {x : Str} (nd : Γ.N.Nodup) (hi : Γ.N[i]? = some x) (hx : Loc Γ.sc x) (hf : Γ.fn x = true ∨ Γ.sc.names.lookup x = some .local) : DG Γ B (.Name x pos) [i] (setM i) := by
  refine ⟨gName i, fun X h => pg_name (by rw [h.N]; exact nd) (by rw [h.N]; exact hi) (by rw [h.sc]; exact hx) (by
    rcases hf with z | z
    · exact h.fn x z
    · exact .inr (by rw [h.sc]; exact z)), fun s σ H S g v d hd s' e Q q => ?_⟩
  cases e
  refine q _ (g.set hd) ⟨fun H S p xs f => ⟨f.at_, f.ns, f.n0, f.nr, fun j ys e => ?_⟩, fun vs h => wipe_set (h i (by simp))⟩
  rcases set_get e with ⟨_, z⟩ | ⟨n, z⟩
  · cases z
  · rw [List.getElem?_set_ne n]
    exact f.no j ys z
theorem DGs.nil : DGs Γ B [] [] gsNil := ⟨gNil, fun X h => pgs_nil, fun s σ H S g v d hd s' e Q q => by
  cases hd with
  | nil =>
    obtain ⟨_, rfl⟩ := ret_some e
    exact ⟨rfl, q σ g ⟨fun _ _ _ _ f => f, fun _ _ => rfl⟩⟩
  | cons _ _ => cases e⟩
theorem DGs.cons {e : Expr} {es : List Expr} {ws us : List Nat} {G : D → M τ Unit} {Gs : List D → M τ Unit} (h : DG Γ B e ws G) (hs : DGs Γ B es us Gs)
    (ha : ∀ X : Cx, (assignEach (e :: es) X.env).map (·.2) = assign e X.env :: (assignEach es X.env).map (·.2) := by intro _; rfl) : DGs Γ B (e :: es) (ws ++ us) (gsCons G Gs) := by
  obtain ⟨g, pg, mg⟩ := h
  obtain ⟨gs, pgs, mgs⟩ := hs
  refine ⟨gCons g gs, fun X h => pgs_cons (pg X h) (pgs X h) (ha X), fun s σ H S gd v d hd s' e Q q => ?_⟩
  cases hd with
  | nil => cases e
  | cons h1 h2 =>
    obtain ⟨_, s1, e1, e2⟩ := bnd_some e
    exact ⟨_, _, rfl, mg s σ H S gd _ _ h1 s1 e1 _ fun σ1 g1 m1 => mgs s1 σ1 H S g1 _ _ h2 s' e2 Q fun σ2 g2 m2 => q σ2 g2 (m1.trans m2)⟩
theorem DG.tup {es : List Expr} {k n : Nat} {ws : List Nat} {Gs : List D → M τ Unit} (h : DGs Γ B es ws Gs) (hn : ∀ X : Cx, (assignEach es X.env).length = n := by intro _; rfl) (hst : ∀ X : Cx, (assignEach es X.env).findIdx? (·.1) = none := by intro _; rfl) :
    DG Γ B (.Tuple es k pos) ws (tupG n Gs) := by
  obtain ⟨g, pg, mg⟩ := h
  refine ⟨gTup Γ.K n g, fun X h => by have := pg_tup (k := k) (pos := pos) h.calm (pg X h) (hn X) (hst X); rw [h.K] at this; exact this, fun s σ H S gd v d hd s' e Q q => ?_⟩
  unfold tupG at e
  split at e
  · rename_i ds
    by_cases hz : ds.length = n
    · rw [if_pos hz] at e
      cases hd with
      | tup h1 h2 => exact ⟨_, _, rfl, seqT_mono gd.fr.sub h1, by rw [h2.len]; exact hz, mg s σ H S gd _ _ h2 s' e Q q⟩
    · rw [if_neg hz] at e
      cases e
  · cases e
end

/-! ### comprehensions -/
def Gam.blk (Γ : Gam) (scope : Scope) : Gam := { Γ with sc := relS scope Γ.sc, fn := fun x => scope.names.lookup x == some .cell }
theorem blk_has {Γ : Gam} {X : Cx} (h : Γ.Has X) {scope : Scope} {s : Shared} {H : Hp} {C : Addr} {cl : List (Str × Addr)} {fp : List Addr} : (Γ.blk scope).Has (X.blk s H scope (compEnvC scope cl C X.env) fp) :=
  ⟨h.P, h.w, h.K, h.mg, by
    show X.base = Γ.base
    exact h.base, h.A, h.N, by
    show relS scope X.env.scope = relS scope Γ.sc
    rw [h.sc], h.calm, fun x hx => .inl hx, PassesOwn.never⟩
def DTs (Γ : Gam) (B : Bd τ) (ifs : List Expr) (F : M τ Bool) : Prop := ∃ t, (∀ X, Γ.Has X → PTs X ifs t) ∧ MeanT Γ.K B t F
theorem DTs.nil {Γ : Gam} {B : Bd τ} : DTs Γ B [] (ret true) := ⟨tYes, fun X h => pts_nil, fun s σ H S g k s' e Q q => by
  obtain ⟨rfl, rfl⟩ := ret_some e
  exact q H S g Step.refl⟩
theorem DTs.one {Γ : Gam} {B : Bd τ} {c : Expr} {F : M τ Bool} (h : DT Γ B c F) : DTs Γ B [c] F := by
  obtain ⟨t, p, m⟩ := h
  exact ⟨t, fun X h => pts_one (p X h), m⟩
def turnM (G : D → M τ Unit) (T : M τ Bool) (E : M τ D) (x : D) (acc : List D) : M τ (List D) := bnd (G x) fun _ => bnd T fun k => if k then bnd E fun d => ret (acc ++ [d]) else ret acc
def lcLoop (ws : List Nat) (G : D → M τ Unit) (T : M τ Bool) (E : M τ D) : List D → List D → M τ (List D)
  | [], acc => ret acc
  | x :: xs, acc => fun s => match turnM G T E x acc s with
    | none => none
    | some (acc', s') => lcLoop ws G T E xs acc' { s' with env := wipeE s'.env ws }
/-- all but the list at D that grows -/
structure StepD (K : Frag) (B : Bd τ) (σ : List (Option V)) (A : Addr) (s : Stt τ) (H S : Hp) (s' : Stt τ) (H' S' : Hp) : Prop where
  same : Same S S'
  dom : ∀ p, H' p = none → H p = none
  free : ∀ (p : Addr) (xs : List D), p ≠ A → Free K B s σ H S p xs → Free K B s' σ H' S' p xs
theorem StepD.trans {K : Frag} {B : Bd τ} {σ : List (Option V)} {A : Addr} {s s1 s2 : Stt τ} {H S H1 S1 H2 S2 : Hp} (a : StepD K B σ A s H S s1 H1 S1) (b : StepD K B σ A s1 H1 S1 s2 H2 S2) : StepD K B σ A s H S s2 H2 S2 :=
  ⟨a.same.trans b.same, fun p h => a.dom p (b.dom p h), fun p xs n f => b.free p xs n (a.free p xs n f)⟩
theorem StepD.refl {K : Frag} {B : Bd τ} {σ : List (Option V)} {A : Addr} {s : Stt τ} {H S : Hp} : StepD K B σ A s H S s H S := ⟨Same.refl _, fun _ h => h, fun _ _ _ f => f⟩
theorem upd_dom {H : Hp} {A : Addr} {o u : HO} (h : H A = some o) : ∀ p, upd H A u p = none → H p = none := fun p e => by
  by_cases q : p = A
  · subst q; rw [upd_same] at e; cases e
  · rw [upd_ne q] at e; exact e
/-- one clause: the loop of a block, from a state whose block names are forgotten -/
theorem lc_run {K : Frag} {B : Bd τ} {g : TG} {ws us : List Nat} {G : D → M τ Unit} {tt : TT} {T : M τ Bool} {te : TE} {E : M τ Opd} {σ : List (Option V)} {J : It} {xs : List D} {S0 : Hp} {A : Addr}
    (wk : DWalk K S0 J xs) (mg : MeanG K B g us G) (hu : ∀ i ∈ us, i ∈ ws) (mt : MeanT K B tt T) (me : Mean K B te E) {s s' : Stt τ} {acc ds : List D} {H S : Hp} (hz : acc.length + xs.length ≤ sizeLine)
    (gd : Good K B s (wipe σ ws) H S) (hS : Same S0 S) (f : Free K B s (wipe σ ws) H S A acc) (e : lcLoop ws G T (valM E) xs acc s = some (ds, s')) {Qd : Hp → Prop}
    (q : ∀ H' S', Good K B s' (wipe σ ws) H' S' → Free K B s' (wipe σ ws) H' S' A ds → StepD K B (wipe σ ws) A s H S s' H' S' → ds.length ≤ acc.length + xs.length → Qd H') :
    ∃ W : Nat → Nat → Hp → Prop, (∃ m, W 0 m H) ∧ ∀ i m H, W i m H →
      (J.stop i H ∧ Qd H) ∨ (J.go i H ∧ ∃ Nx : Hp → Prop, (∀ H', Nx H' → ∃ m', m' < m ∧ W (i + 1) m' H') ∧ ∀ x H', J.yld i H x H' → g x (wipe σ ws) H' fun σ2 H2 => wipe σ2 ws = wipe σ ws ∧ tt σ2 H2 fun b H3 =>
        if b = true then te σ2 H3 fun y H4 => ∃ acc, H4 A = some (.lst acc) ∧ acc.length < sizeLine ∧ Nx (upd H4 A (.lst (acc ++ [y]))) else Nx H3) := by
  refine ⟨fun i m H1 => m = xs.length - i ∧ i ≤ xs.length ∧ ∃ s1 S1 acc1, Good K B s1 (wipe σ ws) H1 S1 ∧ Free K B s1 (wipe σ ws) H1 S1 A acc1 ∧ StepD K B (wipe σ ws) A s H S s1 H1 S1 ∧ acc1.length ≤ acc.length + i ∧ lcLoop ws G T (valM E) (xs.drop i) acc1 s1 = some (ds, s'),
    ⟨xs.length, by simp, Nat.zero_le _, s, S, acc, gd, f, StepD.refl, Nat.le_refl _, by rw [List.drop_zero]; exact e⟩, ?_⟩
  rintro i m H1 ⟨rfl, hi, s1, S1, acc1, g1, f1, w1, l1, e1⟩
  by_cases hlt : i < xs.length
  · refine .inr ⟨wk.go i H1 hlt ((hS.trans w1.same).trans g1.fr.sub), fun H2 => ∃ s2 S2 acc2, Good K B s2 (wipe σ ws) H2 S2 ∧ Free K B s2 (wipe σ ws) H2 S2 A acc2 ∧ StepD K B (wipe σ ws) A s H S s2 H2 S2 ∧ acc2.length ≤ acc.length + (i + 1) ∧ lcLoop ws G T (valM E) (xs.drop (i + 1)) acc2 s2 = some (ds, s'),
      fun H2 n2 => ⟨xs.length - (i + 1), by omega, rfl, hlt, n2⟩, fun x H2 y => ?_⟩
    rw [List.drop_eq_getElem_cons hlt] at e1
    have hx : xs[i]? = some xs[i] := List.getElem?_eq_getElem hlt
    obtain ⟨S2, wg, hd⟩ := wk.yld i H1 x H2 S1 _ hx (hS.trans w1.same) g1.fr.sub y
    have g2 := g1.grow wg
    have f2 := f1.grow wg
    unfold lcLoop at e1
    split at e1
    · cases e1
    rename_i acc' s5 et
    obtain ⟨_, s3, e3, et⟩ := bnd_some et
    refine mg s1 _ H2 S2 g2 x _ hd s3 e3 _ fun σ3 g3 m3 => ?_
    have f3 := m3.free _ _ _ _ f2
    have hw3 : wipe σ3 ws = wipe σ ws := by
      rw [m3.wipe ws hu]
      exact wipe_wipe fun i m => m
    refine ⟨hw3, ?_⟩
    obtain ⟨k, s4, e4, et⟩ := bnd_some et
    refine mt s3 σ3 H2 S2 g3 k s4 e4 _ fun H3 S3 g4 w4 => ?_
    have f4 := w4.free _ _ f3
    -- what a turn leaves, whatever slots it used
    have fin : ∀ {s6 : Stt τ} {H6 S6 : Hp} {acc6 : List D}, Good K B s6 σ3 H6 S6 → Free K B s6 σ3 H6 S6 A acc6 → (∀ p, H6 p = none → H2 p = none) → Same S2 S6 → (∀ (p : Addr) (ys : List D), p ≠ A → Free K B s3 σ3 H2 S2 p ys → Free K B s6 σ3 H6 S6 p ys) →
        acc6.length ≤ acc1.length + 1 → lcLoop ws G T (valM E) (xs.drop (i + 1)) acc6 { s6 with env := wipeE s6.env ws } = some (ds, s') →
        ∃ s2 S2 acc2, Good K B s2 (wipe σ ws) H6 S2 ∧ Free K B s2 (wipe σ ws) H6 S2 A acc2 ∧ StepD K B (wipe σ ws) A s H S s2 H6 S2 ∧ acc2.length ≤ acc.length + (i + 1) ∧ lcLoop ws G T (valM E) (xs.drop (i + 1)) acc2 s2 = some (ds, s') := fun {s6 H6 S6 acc6} g6 f6 d6 w6 fr6 l6 e6 => by
      have g7 := g6.wipe ws
      have f7 := f6.wipe ws
      rw [hw3] at g7 f7
      refine ⟨_, S6, acc6, g7, f7, ⟨(w1.same.trans wg.s).trans w6, fun p h => w1.dom p (wg.h.free (d6 p h)), fun p ys n fp => ?_⟩, by omega, e6⟩
      have r := (fr6 p ys n (m3.free _ _ _ _ ((w1.free p ys n fp).grow wg))).wipe ws
      rw [hw3] at r
      exact r
    cases k with
    | false =>
      obtain ⟨rfl, rfl⟩ := ret_some et
      exact iteF (fin g4 f4 w4.dom w4.same (fun p ys _ fp => w4.free p ys fp) (by omega) e1)
    | true =>
      refine iteT ?_
      obtain ⟨d, s6, e6, et⟩ := bnd_some (show (bnd (valM E) fun d => ret (acc1 ++ [d])) s4 = some (acc', s5) from et)
      obtain ⟨rfl, rfl⟩ := ret_some et
      refine me.val g4 e6 fun y H6 S6 g6 w6 r6 => ?_
      have f6 := w6.free _ _ f4
      obtain ⟨vs, hv, hq⟩ := f6.at_
      refine ⟨vs, hv, by rw [hq.len]; omega, fin (g6.changeFree f6) (f6.change (hq.app (.cons r6 .nil))) (fun p h => w4.dom p (w6.dom p (upd_dom hv p h))) (w4.same.trans w6.same) (fun p ys n fp => ((w4.trans w6).free p ys fp).other n) (by simp) e1⟩
  · have ei : i = xs.length := by omega
    subst ei
    rw [List.drop_length] at e1
    obtain ⟨rfl, rfl⟩ := ret_some e1
    exact .inl ⟨wk.stop H1 ((hS.trans w1.same).trans g1.fr.sub), q H1 S1 g1 f1 w1 l1⟩
def lcM (ws : List Nat) (Fi : M τ (List D)) (G : D → M τ Unit) (T : M τ Bool) (E : M τ Opd) : M τ Opd := bnd Fi fun xs => if fitsL xs then fun s => match lcLoop ws G T (valM E) xs [] { s with env := wipeE s.env ws } with
    | none => none
    | some (ds, s') => some (.new ds, { s' with env := restE s.env ws s'.env })
  else stuck
theorem mean_lc {K : Frag} {B : Bd τ} {wi : TI} {g : TG} {ws us : List Nat} {Fi : M τ (List D)} {G : D → M τ Unit} {tt : TT} {T : M τ Bool} {te : TE} {E : M τ Opd} (mi : MeanI K B wi Fi) (mg : MeanG K B g us G) (hu : ∀ i ∈ us, i ∈ ws) (mt : MeanT K B tt T) (me : Mean K B te E) :
    Mean K B (tLc wi g tt te ws) (lcM ws Fi G T E) := fun s σ H S gd o s' e Q q => by
  obtain ⟨xs, s1, e1, e2⟩ := bnd_some e
  by_cases hz : fitsL xs = true
  · rw [if_pos hz] at e2
    split at e2
    · cases e2
    rename_i ds s2 e3
    cases e2
    refine mi s σ H S gd xs s1 e1 _ fun J H1 S1 g1 w1 wk => ?_
    intro A hA
    have gw := g1.wipe ws
    obtain ⟨g2, f2⟩ := Good.free gw hA .nil
    have wA : Grow H1 S1 (upd H1 A (.lst [])) S1 := Grow.fresh g1.fr.sub hA
    refine lc_run wk mg hu mt me (by have := of_decide_eq_true hz; simpa using this) g2 (Same.refl _) f2 e3 fun H3 S3 g3 f3 w3 _ => ?_
    have hne : ∀ {p : Addr} {ys : List D}, Free K B s1 σ H1 S1 p ys → p ≠ A := fun {p ys} f z => by
      obtain ⟨vs, h, _⟩ := f.at_
      rw [z, hA] at h
      cases h
    refine q _ H3 S3 (g1.unwipe g3 w3.same) ⟨w1.same.trans w3.same, fun p h => w1.dom p (wA.h.free (w3.dom p h)), fun p ys f => ?_⟩ ⟨A, rfl, f3.unwipe⟩ ⟨A, rfl, w1.dom A hA⟩
    have f1 := w1.free p ys f
    exact (w3.free p ys (hne f1) ((f1.wipe ws).grow wA)).unwipe
  · rw [if_neg hz] at e2
    cases e2
section
variable {Γ : Gam} {B : Bd τ} {pos : Pos}
theorem DO.lc {elt tg iter : Expr} {ifs : List Expr} {scope : Scope} {own : List (Str × Nat)} {us : List Nat} {Fi : M τ (List D)} {G : D → M τ Unit} {T : M τ Bool} {E : M τ Opd} (nd : Γ.N.Nodup) (hi : DI Γ B tg iter Fi) (ok : BlkOk Γ.N Γ.sc scope own)
    (hg : DG (Γ.blk scope) B tg us G) (hu : ∀ i ∈ us, i ∈ own.map (·.2)) (ht : DTs (Γ.blk scope) B ifs T) (he : DO (Γ.blk scope) B elt E) (hs : ∀ (X : Cx) x, foldedSetIterable iter X.env x = pure x := by intro _ _; rfl) :
    DO Γ B (.ListComp elt [⟨tg, iter, ifs, 0⟩] scope pos) (lcM (own.map (·.2)) Fi G T E) := by
  obtain ⟨wi, pi, mi⟩ := hi
  obtain ⟨g, pg, mg⟩ := hg
  obtain ⟨tt, pt, mt⟩ := ht
  obtain ⟨te, pe, me⟩ := he
  exact ⟨_, fun X h => pe_lc h.calm (by rw [h.N]; exact nd) (pi X h) (by rw [h.N, h.sc]; exact ok) (fun _ _ _ _ _ => pg _ (blk_has h)) (fun _ _ _ _ _ => pt _ (blk_has h)) (fun _ _ _ _ _ => pe _ (blk_has h)) (hs X), mean_lc mi mg hu mt me⟩
end
/-! two clauses -/
def lc2Loop (ws ws1 : List Nat) (G : D → M τ Unit) (T : M τ Bool) (Fi1 : M τ (List D)) (G1 : D → M τ Unit) (T1 : M τ Bool) (E : M τ D) : List D → List D → M τ (List D)
  | [], acc => ret acc
  | x :: xs, acc => fun s => match (bnd (G x) fun _ => bnd T fun k => if k then bnd Fi1 fun ys => if decide (acc.length + ys.length ≤ sizeLine) then fun s => lcLoop ws1 G1 T1 E ys acc { s with env := wipeE s.env ws1 } else stuck else ret acc) s with
    | none => none
    | some (acc', s') => lc2Loop ws ws1 G T Fi1 G1 T1 E xs acc' { s' with env := wipeE s'.env ws }
def lc2M (ws ws1 : List Nat) (Fi : M τ (List D)) (G : D → M τ Unit) (T : M τ Bool) (Fi1 : M τ (List D)) (G1 : D → M τ Unit) (T1 : M τ Bool) (E : M τ Opd) : M τ Opd := bnd Fi fun xs => fun s => match lc2Loop ws ws1 G T Fi1 G1 T1 (valM E) xs [] { s with env := wipeE s.env ws } with
    | none => none
    | some (ds, s') => some (.new ds, { s' with env := restE s.env ws s'.env })
theorem mean_lc2 {K : Frag} {B : Bd τ} {wi wi1 : TI} {g g1 : TG} {ws ws1 us us1 : List Nat} {Fi Fi1 : M τ (List D)} {G G1 : D → M τ Unit} {tt tt1 : TT} {T T1 : M τ Bool} {te : TE} {E : M τ Opd} (mi : MeanI K B wi Fi) (mg : MeanG K B g us G) (hu : ∀ i ∈ us, i ∈ ws) (mt : MeanT K B tt T)
    (mi1 : MeanI K B wi1 Fi1) (mg1 : MeanG K B g1 us1 G1) (hu1 : ∀ i ∈ us1, i ∈ ws1) (hw : ∀ i ∈ ws1, i ∈ ws) (mt1 : MeanT K B tt1 T1) (me : Mean K B te E) :
    Mean K B (tLc2 wi g tt wi1 g1 tt1 te ws ws1) (lc2M ws ws1 Fi G T Fi1 G1 T1 E) := fun s σ H S gd o s' e Q q => by
  obtain ⟨xs, s1, e1, e2⟩ := bnd_some e
  split at e2
  · cases e2
  rename_i ds s2 e3
  cases e2
  refine mi s σ H S gd xs s1 e1 _ fun J H1 S1 gd1 w1 wk => ?_
  intro A hA
  have gw := gd1.wipe ws
  obtain ⟨gd2, f2⟩ := Good.free gw hA .nil
  have wA : Grow H1 S1 (upd H1 A (.lst [])) S1 := Grow.fresh gd1.fr.sub hA
  generalize hsw : ({ s1 with env := wipeE s1.env ws } : Stt τ) = sw at gw gd2 f2 e3
  refine ⟨fun i m H3 => m = xs.length - i ∧ i ≤ xs.length ∧ ∃ s3 S3 acc3, Good K B s3 (wipe σ ws) H3 S3 ∧ Free K B s3 (wipe σ ws) H3 S3 A acc3 ∧ StepD K B (wipe σ ws) A sw (upd H1 A (.lst [])) S1 s3 H3 S3 ∧ lc2Loop ws ws1 G T Fi1 G1 T1 (valM E) (xs.drop i) acc3 s3 = some (ds, s2),
    ⟨xs.length, by simp, Nat.zero_le _, sw, S1, [], gd2, f2, StepD.refl, by rw [List.drop_zero]; exact e3⟩, ?_⟩
  rintro i m H3 ⟨rfl, hi, s3, S3, acc3, gd3, f3, w3, e4⟩
  by_cases hlt : i < xs.length
  · refine .inr ⟨wk.go i H3 hlt (w3.same.trans gd3.fr.sub), fun H4 => ∃ s4 S4 acc4, Good K B s4 (wipe σ ws) H4 S4 ∧ Free K B s4 (wipe σ ws) H4 S4 A acc4 ∧ StepD K B (wipe σ ws) A sw (upd H1 A (.lst [])) S1 s4 H4 S4 ∧ lc2Loop ws ws1 G T Fi1 G1 T1 (valM E) (xs.drop (i + 1)) acc4 s4 = some (ds, s2),
      fun H4 n4 => ⟨xs.length - (i + 1), by omega, rfl, hlt, n4⟩, fun x H4 y => ?_⟩
    rw [List.drop_eq_getElem_cons hlt] at e4
    have hx : xs[i]? = some xs[i] := List.getElem?_eq_getElem hlt
    obtain ⟨S4, wg, hd⟩ := wk.yld i H3 x H4 S3 _ hx w3.same gd3.fr.sub y
    have gd4 := gd3.grow wg
    have f4 := f3.grow wg
    unfold lc2Loop at e4
    split at e4
    · cases e4
    rename_i acc' s9 et
    obtain ⟨_, s5, e5, et⟩ := bnd_some et
    refine mg s3 _ H4 S4 gd4 x _ hd s5 e5 _ fun σ5 gd5 m5 => ?_
    have f5 := m5.free _ _ _ _ f4
    have hw5 : wipe σ5 ws = wipe σ ws := by
      rw [m5.wipe ws hu]
      exact wipe_wipe fun i m => m
    refine ⟨hw5, ?_⟩
    obtain ⟨k, s6, e6, et⟩ := bnd_some et
    refine mt s5 σ5 H4 S4 gd5 k s6 e6 _ fun H6 S6 gd6 w6 => ?_
    have f6 := w6.free _ _ f5
    have fin : ∀ {s7 : Stt τ} {σ7 : List (Option V)} {H7 S7 : Hp} {acc7 : List D}, wipe σ7 ws = wipe σ ws → Good K B s7 σ7 H7 S7 → Free K B s7 σ7 H7 S7 A acc7 → (∀ p, H7 p = none → H4 p = none) → Same S4 S7 → (∀ (p : Addr) (ys : List D), p ≠ A → Free K B s5 σ5 H4 S4 p ys → Free K B s7 σ7 H7 S7 p ys) →
        lc2Loop ws ws1 G T Fi1 G1 T1 (valM E) (xs.drop (i + 1)) acc7 { s7 with env := wipeE s7.env ws } = some (ds, s2) →
        ∃ s4 S4 acc4, Good K B s4 (wipe σ ws) H7 S4 ∧ Free K B s4 (wipe σ ws) H7 S4 A acc4 ∧ StepD K B (wipe σ ws) A sw (upd H1 A (.lst [])) S1 s4 H7 S4 ∧ lc2Loop ws ws1 G T Fi1 G1 T1 (valM E) (xs.drop (i + 1)) acc4 s4 = some (ds, s2) := fun {s7 σ7 H7 S7 acc7} hw7 g7 f7 d7 w7 fr7 e7 => by
      have g8 := g7.wipe ws
      have f8 := f7.wipe ws
      rw [hw7] at g8 f8
      refine ⟨_, S7, acc7, g8, f8, ⟨(w3.same.trans wg.s).trans w7, fun p h => w3.dom p (wg.h.free (d7 p h)), fun p ys n fp => ?_⟩, e7⟩
      have r := (fr7 p ys n (m5.free _ _ _ _ ((w3.free p ys n fp).grow wg))).wipe ws
      rw [hw7] at r
      exact r
    cases k with
    | false =>
      obtain ⟨rfl, rfl⟩ := ret_some et
      exact iteF (fin hw5 gd6 f6 w6.dom w6.same (fun p ys _ fp => w6.free p ys fp) e4)
    | true =>
      refine iteT ?_
      obtain ⟨ys, s7, e7, et⟩ := bnd_some (show (bnd Fi1 fun ys => if decide (acc3.length + ys.length ≤ sizeLine) then fun s => lcLoop ws1 G1 T1 (valM E) ys acc3 { s with env := wipeE s.env ws1 } else stuck) s6 = some (acc', s9) from et)
      by_cases hz : decide (acc3.length + ys.length ≤ sizeLine) = true
      · rw [if_pos hz] at et
        refine mi1 s6 σ5 H6 S6 gd6 ys s7 e7 _ fun J1 H7 S7 gd7 w7 wk1 => ?_
        have f7 := w7.free _ _ f6
        refine lc_run wk1 mg1 hu1 mt1 me (of_decide_eq_true hz) (gd7.wipe ws1) (Same.refl _) (f7.wipe ws1) et fun H8 S8 gd8 f8 w8 _ => ?_
        refine fin (by rw [wipe_wipe hw]; exact hw5) gd8 f8 (fun p h => w6.dom p (w7.dom p (w8.dom p h))) ((w6.same.trans w7.same).trans w8.same) (fun p zs n fp => ?_) e4
        exact w8.free p zs n (((w6.trans w7).free p zs fp).wipe ws1)
      · rw [if_neg hz] at et
        cases et
  · have ei : i = xs.length := by omega
    subst ei
    rw [List.drop_length] at e4
    obtain ⟨rfl, rfl⟩ := ret_some e4
    have hne : ∀ {p : Addr} {ys : List D}, Free K B s1 σ H1 S1 p ys → p ≠ A := fun {p ys} f z => by
      obtain ⟨vs, h, _⟩ := f.at_
      rw [z, hA] at h
      cases h
    refine .inl ⟨wk.stop H3 (w3.same.trans gd3.fr.sub), q _ H3 S3 (gd1.unwipe gd3 w3.same) ⟨w1.same.trans w3.same, fun p h => w1.dom p (wA.h.free (w3.dom p h)), fun p ys f => ?_⟩ ⟨A, rfl, f3.unwipe⟩ ⟨A, rfl, w1.dom A hA⟩⟩
    have f1 := w1.free p ys f
    have := (f1.wipe ws).grow wA
    rw [hsw] at this
    exact (w3.free p ys (hne f1) this).unwipe
section
variable {Γ : Gam} {B : Bd τ} {pos : Pos}
theorem DO.lc2 {elt tg iter tg1 iter1 : Expr} {ifs ifs1 : List Expr} {scope : Scope} {own : List (Str × Nat)} {us us1 ws1 : List Nat} {Fi Fi1 : M τ (List D)} {G G1 : D → M τ Unit} {T T1 : M τ Bool} {E : M τ Opd} (nd : Γ.N.Nodup) (hi : DI Γ B tg iter Fi) (ok : BlkOk Γ.N Γ.sc scope own)
    (hg : DG (Γ.blk scope) B tg us G) (hu : ∀ i ∈ us, i ∈ own.map (·.2)) (ht : DTs (Γ.blk scope) B ifs T)
    (hi1 : DI (Γ.blk scope) B tg1 iter1 Fi1) (hg1 : DG (Γ.blk scope) B tg1 us1 G1) (hu1 : ∀ i ∈ us1, i ∈ ws1) (hw : ∀ i ∈ ws1, i ∈ own.map (·.2)) (ht1 : DTs (Γ.blk scope) B ifs1 T1) (he : DO (Γ.blk scope) B elt E)
    (hs : ∀ (X : Cx) x, foldedSetIterable iter X.env x = pure x := by intro _ _; rfl) (hs1 : ∀ env x, foldedSetIterable iter1 env x = pure x := by intro _ _; rfl) :
    DO Γ B (.ListComp elt [⟨tg, iter, ifs, 0⟩, ⟨tg1, iter1, ifs1, 0⟩] scope pos) (lc2M (own.map (·.2)) ws1 Fi G T Fi1 G1 T1 E) := by
  obtain ⟨wi, pi, mi⟩ := hi
  obtain ⟨g, pg, mg⟩ := hg
  obtain ⟨tt, pt, mt⟩ := ht
  obtain ⟨wi1, pi1, mi1⟩ := hi1
  obtain ⟨g1, pg1, mg1⟩ := hg1
  obtain ⟨tt1, pt1, mt1⟩ := ht1
  obtain ⟨te, pe, me⟩ := he
  exact ⟨_, fun X h => pe_lc2 h.calm (by rw [h.N]; exact nd) (pi X h) (by rw [h.N, h.sc]; exact ok) hw (fun _ _ _ _ _ => pg _ (blk_has h)) (fun _ _ _ _ _ => pt _ (blk_has h)) (fun _ _ _ _ _ => pi1 _ (blk_has h)) (fun _ _ _ _ _ => pg1 _ (blk_has h)) (fun _ _ _ _ _ => pt1 _ (blk_has h)) (fun _ _ _ _ _ => pe _ (blk_has h)) (hs X) hs1,
    mean_lc2 mi mg hu mt mi1 mg1 hu1 hw mt1 me⟩
end
end DL
end

section
set_option Elab.async false
set_option linter.all false
set_option maxRecDepth 100000
set_option maxHeartbeats 3999999
/-! WEng7: statements, loops, defs and their calls -/
namespace DL
open L2 PySem PyProof.Rows PySem.Spec
variable {τ α β : Type}

def EndOk (K : Frag) (B : Bd τ) (S : Hp) (o : Out) (s' : Stt τ) (D : Ends) : Prop := match o with
  | .nx => ∀ σ' H' S', Good K B s' σ' H' S' → Same S S' → D.nx σ' H'
  | .bk => ∀ σ' H' S', Good K B s' σ' H' S' → Same S S' → D.bk σ' H'
  | .ct => ∀ σ' H' S', Good K B s' σ' H' S' → Same S S' → D.ct σ' H'
  | .rt d => ∀ v H' S', Fr B.dr B.H0 B.S0 H' S' → B.dr.At s'.dr H' → Dq K S' v d → D.rt v H'
  | .rn xs => ∀ p vs H' S', Fr B.dr B.H0 B.S0 H' S' → B.dr.At s'.dr H' → H' p = some (.lst vs) → DqAll K S' vs xs → S' p = none → B.H0 p = none → ¬ B.dr.R p → D.rt (.ref p) H'
def MeanS (K : Frag) (B : Bd τ) (t : TS) (F : M τ Out) : Prop := ∀ s σ H S, Good K B s σ H S → ∀ o s', F s = some (o, s') → ∀ D : Ends, EndOk K B S o s' D → t D σ H
def DS (Γ : Gam) (B : Bd τ) (st : Stmt) (F : M τ Out) : Prop := ∃ t, (∀ X, Γ.Has X → PS X st t) ∧ MeanS Γ.K B t F
def DSs (Γ : Gam) (B : Bd τ) (st : List Stmt) (F : M τ Out) : Prop := ∃ t, (∀ X, Γ.Has X → PSs X st t) ∧ MeanS Γ.K B t F
def seqM (F G : M τ Out) : M τ Out := bnd F fun o => match o with
  | .nx => G
  | .bk => ret .bk
  | .ct => ret .ct
  | .rt d => ret (.rt d)
  | .rn xs => ret (.rn xs)
def dropM (F : M τ Opd) : M τ Out := bnd F fun _ => ret .nx
def retM (F : M τ Opd) : M τ Out := bnd (valM F) fun d => ret (.rt d)
def ifM (T : M τ Bool) (F G : M τ Out) : M τ Out := bnd T fun k => if k then F else G
/-- an operand goes into a slot -/
def putM (i : Nat) (o : Opd) : M τ Unit := match o with
  | .new xs => fun s => some ((), { s with env := s.env.set i (some (.own xs)) })
  | .val d => setM i d
  | .slot j => bnd (toD (.slot j)) (setM i)
def asgM (i : Nat) (F : M τ Opd) : M τ Out := bnd F fun o => bnd (putM i o) fun _ => ret .nx
section
variable {K : Frag} {B : Bd τ} {s s' : Stt τ} {σ : List (Option V)} {H S : Hp}
theorem EndOk.mono {S1 : Hp} {o : Out} {D : Ends} (h : EndOk K B S o s' D) (w : Same S S1) : EndOk K B S1 o s' D := by
  cases o with
  | nx => exact fun σ' H' S' g w' => h σ' H' S' g (w.trans w')
  | bk => exact fun σ' H' S' g w' => h σ' H' S' g (w.trans w')
  | ct => exact fun σ' H' S' g w' => h σ' H' S' g (w.trans w')
  | rt d => exact h
  | rn xs => exact h
theorem put_of {v : V} {o : Opd} {i : Nat} (g : Good K B s σ H S) (r : RelO K B s σ H S v o) (e : putM i o s = some ((), s')) : ∃ S', Same S S' ∧ Good K B s' (σ.set i (some v)) H S' := by
  cases o with
  | new xs =>
    cases e
    obtain ⟨p, rfl, f⟩ := r
    exact ⟨S, Same.refl _, g.setOwn f⟩
  | val d =>
    cases e
    exact ⟨S, Same.refl _, g.set r⟩
  | slot j =>
    obtain ⟨d, s1, e1, e2⟩ := bnd_some e
    cases e2
    obtain ⟨S2, w2, g2, r2, _⟩ := toD_of g r e1
    exact ⟨S2, w2, g2.set r2⟩
end
section
variable {Γ : Gam} {B : Bd τ} {pos : Pos} {st : Stmt} {sts : List Stmt} {e : Expr} {F : M τ Opd} {Fs Gs : M τ Out}
theorem DSs.nil : DSs Γ B [] (ret .nx) := ⟨tNext, fun X h => pss_nil, fun s σ H S g o s' e D q => by
  obtain ⟨rfl, rfl⟩ := ret_some e
  exact q σ H S g (Same.refl _)⟩
theorem DSs.cons (h : DS Γ B st Fs) (hs : DSs Γ B sts Gs) : DSs Γ B (st :: sts) (seqM Fs Gs) := by
  obtain ⟨t, p, m⟩ := h
  obtain ⟨u, pu, mu⟩ := hs
  refine ⟨_, fun X h => pss_cons (p X h) (pu X h), fun s σ H S g o s' e D q => ?_⟩
  obtain ⟨o1, s1, e1, e2⟩ := bnd_some e
  refine m s σ H S g o1 s1 e1 _ ?_
  cases o1 with
  | nx => exact fun σ1 H1 S1 g1 w1 => mu s1 σ1 H1 S1 g1 o s' e2 D (q.mono w1)
  | bk => obtain ⟨rfl, rfl⟩ := ret_some e2; exact q
  | ct => obtain ⟨rfl, rfl⟩ := ret_some e2; exact q
  | rt d => obtain ⟨rfl, rfl⟩ := ret_some e2; exact q
  | rn xs => obtain ⟨rfl, rfl⟩ := ret_some e2; exact q
theorem DSs.one (h : DS Γ B st Fs) : DSs Γ B [st] Fs := by
  obtain ⟨t, p, m⟩ := h
  exact ⟨t, fun X h => pss_one (p X h), m⟩
theorem DS.pass : DS Γ B (.Pass pos) (ret .nx) := ⟨tNext, fun X h => ps_pass, fun s σ H S g o s' e D q => by
  obtain ⟨rfl, rfl⟩ := ret_some e
  exact q σ H S g (Same.refl _)⟩
theorem DS.brk : DS Γ B (.Break pos) (ret .bk) := ⟨tBreak, fun X h => ps_break, fun s σ H S g o s' e D q => by
  obtain ⟨rfl, rfl⟩ := ret_some e
  exact q σ H S g (Same.refl _)⟩
theorem DS.cont : DS Γ B (.Continue pos) (ret .ct) := ⟨tCont, fun X h => ps_continue, fun s σ H S g o s' e D q => by
  obtain ⟨rfl, rfl⟩ := ret_some e
  exact q σ H S g (Same.refl _)⟩
theorem DS.never : DS Γ B st stuck := ⟨tNever, fun X h => ps_never, fun s σ H S g o s' e D q => by cases e⟩
theorem DS.expr (h : DO Γ B e F) (hs : ∀ X : Cx, swapsWith e none pos.line X.env = pure false := by intro _; rfl) : DS Γ B (.Expr e pos) (dropM F) := by
  obtain ⟨t, p, m⟩ := h
  refine ⟨_, fun X h => ps_expr (p X h) (hs X), fun s σ H S g o s' e D q => ?_⟩
  obtain ⟨o1, s1, e1, e2⟩ := bnd_some e
  obtain ⟨rfl, rfl⟩ := ret_some e2
  exact m s σ H S g o1 _ e1 _ fun v H1 S1 g1 w1 _ _ => q σ H1 S1 g1 w1.same
theorem DS.ret (h : DO Γ B e F) : DS Γ B (.Return (some e) pos) (retM F) := by
  obtain ⟨t, p, m⟩ := h
  refine ⟨_, fun X h => ps_ret (p X h), fun s σ H S g o s' e D q => ?_⟩
  obtain ⟨d, s1, e1, e2⟩ := bnd_some e
  obtain ⟨rfl, rfl⟩ := ret_some e2
  exact m.val g e1 fun v H1 S1 g1 w1 r1 => q v H1 S1 g1.fr g1.at_ r1
/-- a list that is new goes out unshared -/
def retF (F : M τ Opd) : M τ Out := bnd F fun o => match o with
  | .new xs => DL.ret (.rn xs)
  | .slot i => fun s => (match s.env[i]? with
    | some (some (.own xs)) => some (.rn xs, s)
    | _ => none)
  | .val _ => stuck
theorem DS.retF (h : DO Γ B e F) : DS Γ B (.Return (some e) pos) (DL.retF F) := by
  obtain ⟨t, p, m⟩ := h
  refine ⟨_, fun X h => ps_ret (p X h), fun s σ H S g o s' e D q => ?_⟩
  obtain ⟨o1, s1, e1, e2⟩ := bnd_some e
  refine m s σ H S g o1 s1 e1 _ fun v H1 S1 g1 w1 r1 _ => ?_
  cases o1 with
  | new xs =>
    obtain ⟨rfl, rfl⟩ := ret_some e2
    obtain ⟨p, rfl, ⟨vs, h1, h2⟩, ns, n0, nr, _⟩ := r1
    exact q p vs H1 S1 g1.fr g1.at_ h1 h2 ns n0 nr
  | slot i =>
    dsimp only at e2
    split at e2
    · rename_i xs q1
      cases e2
      obtain ⟨p, vs, h1, hp, ha, ns, n0, nr⟩ := g1.getOwn q1
      have r1' : σ[i]? = some (some v) := r1
      rw [h1] at r1'
      cases r1'
      exact q p vs H1 S1 g1.fr g1.at_ hp ha ns n0 nr
    · cases e2
  | val x => cases e2
theorem DS.retN : DS Γ B (.Return none pos) (DL.ret (.rt .none)) := ⟨tRetN, fun X h => ps_retN, fun s σ H S g o s' e D q => by
  obtain ⟨rfl, rfl⟩ := ret_some e
  exact q .non H S g.fr g.at_ .non⟩
theorem DS.if_ {c : Expr} {as bs : List Stmt} {T : M τ Bool} (hc : DT Γ B c T) (ha : DSs Γ B as Fs) (hb : DSs Γ B bs Gs) : DS Γ B (.If c as bs pos) (ifM T Fs Gs) := by
  obtain ⟨tc, pc, mc⟩ := hc
  obtain ⟨ta, pa, ma⟩ := ha
  obtain ⟨tb, pb, mb⟩ := hb
  refine ⟨_, fun X h => ps_if (pc X h) (pa X h) (pb X h), fun s σ H S g o s' e D q => ?_⟩
  obtain ⟨k, s1, e1, e2⟩ := bnd_some e
  refine mc s σ H S g k s1 e1 _ fun H1 S1 g1 w1 => ?_
  cases k with
  | true => exact iteT (ma s1 σ H1 S1 g1 o s' e2 D (q.mono w1.same))
  | false => exact iteF (mb s1 σ H1 S1 g1 o s' e2 D (q.mono w1.same))
theorem mean_asg {t : TE} {i : Nat} (m : Mean Γ.K B t F) : MeanS Γ.K B (tAsg t (gName i)) (asgM i F) := fun s σ H S g o s' e D q => by
  obtain ⟨o1, s1, e1, e2⟩ := bnd_some e
  obtain ⟨_, s2, e3, e4⟩ := bnd_some e2
  obtain ⟨rfl, rfl⟩ := ret_some e4
  refine m s σ H S g o1 s1 e1 _ fun v H1 S1 g1 w1 r1 _ => ?_
  obtain ⟨S2, w2, g2⟩ := put_of g1 r1 e3
  exact q _ H1 S2 g2 (w1.same.trans w2)
theorem DS.set {i : Nat} {x : Str} {pos' : Pos} (nd : Γ.N.Nodup) (hi : Γ.N[i]? = some x) (hx : Loc Γ.sc x) (hf : Γ.fn x = true ∨ Γ.sc.names.lookup x = some .local) (h : DO Γ B e F)
    (hs : ∀ X : Cx, swapsWith e (some (.Name x pos')) pos.line X.env = pure false := by intro _; rfl) : DS Γ B (.Assign [.Name x pos'] e pos) (asgM i F) := by
  obtain ⟨t, p, m⟩ := h
  exact ⟨_, fun X h => ps_set (by rw [h.N]; exact nd) (by rw [h.N]; exact hi) (by rw [h.sc]; exact hx) (p X h) (hs X) (by
    rcases hf with z | z
    · exact h.fn x z
    · exact .inr (by rw [h.sc]; exact z)), mean_asg m⟩
/-- name = [..], the comprehension used at once -/
theorem DS.setLc {i : Nat} {x : Str} {py : Pos} {elt tg iter : Expr} {ifs : List Expr} {scope : Scope} {own : List (Str × Nat)} {us : List Nat} {cpos : Pos} {Fi : M τ (List D)} {G : D → M τ Unit} {T : M τ Bool} {E : M τ Opd} (nd : Γ.N.Nodup) (hk : ∀ X, Γ.Has X → X.env.scope.kind = .function)
    (hx : Γ.N[i]? = some x) (hxl : Γ.sc.names.lookup x = some .local) (hln : (py.line == cpos.line) = true) (hna : (scope.names.any fun (n, k) => n == x && (k == .local || k == .cell)) = false) (hi : DI Γ B tg iter Fi) (ok : BlkOk Γ.N Γ.sc scope own)
    (hg : DG (Γ.blk scope) B tg us G) (hu : ∀ i ∈ us, i ∈ own.map (·.2)) (ht : DTs (Γ.blk scope) B ifs T) (he : DO (Γ.blk scope) B elt E) (hs : ∀ (X : Cx) y, foldedSetIterable iter X.env y = pure y := by intro _ _; rfl) :
    DS Γ B (.Assign [.Name x py] (.ListComp elt [⟨tg, iter, ifs, 0⟩] scope cpos) pos) (asgM i (lcM (own.map (·.2)) Fi G T E)) := by
  obtain ⟨wi, pi, mi⟩ := hi
  obtain ⟨g, pg, mg⟩ := hg
  obtain ⟨tt, pt, mt⟩ := ht
  obtain ⟨te, pe, me⟩ := he
  exact ⟨_, fun X h => ps_setLc h.calm (by rw [h.N]; exact nd) (by rw [h.N]; exact hx) (by rw [h.sc]; exact hxl) (sw_true (hk X h) (by rw [h.sc]; exact hxl) hln hna) (pi X h) (by rw [h.N, h.sc]; exact ok) (fun _ _ _ _ _ => pg _ (blk_has h)) (fun _ _ _ _ _ => pt _ (blk_has h))
    (fun _ _ _ _ _ => pe _ (blk_has h)) (hs X), mean_asg (mean_lc mi mg hu mt me)⟩
/-- (a, b) = e -/
def unpM (F : M τ Opd) (G : D → M τ Unit) : M τ Out := bnd (valM F) fun d => bnd (G d) fun _ => ret .nx
theorem DS.unp {tg : Expr} {ws : List Nat} {G : D → M τ Unit} (h : DO Γ B e F) (hg : DG Γ B tg ws G) (hs : ∀ X : Cx, swapsWithSole [tg] e pos.line X.env = pure false := by intro _; rfl) (hw : ∀ X, Γ.Has X → swappedStores [tg] e X.env = pure none := by intro _ _; rfl)
    (h1 : ∀ X : Cx, (assignEach [tg] X.env).map (·.2) = [assign tg X.env] := by intro _; rfl) : DS Γ B (.Assign [tg] e pos) (unpM F G) := by
  obtain ⟨t, p, m⟩ := h
  obtain ⟨g, pg, mg⟩ := hg
  refine ⟨_, fun X h => ps_asg (p X h) (pg X h) (hs X) (hw X h) (h1 X), fun s σ H S gd o s' e D q => ?_⟩
  obtain ⟨d, s1, e1, e2⟩ := bnd_some e
  obtain ⟨_, s2, e3, e4⟩ := bnd_some e2
  obtain ⟨rfl, rfl⟩ := ret_some e4
  exact m.val gd e1 fun v H1 S1 g1 w1 r1 => mg s1 σ H1 S1 g1 v d r1 _ e3 _ fun σ' g2 _ => q σ' H1 S1 g2 w1.same
/-- name op= e, plain values -/
def augM (i : Nat) (f : D → D → Option Opd) (F : M τ Opd) : M τ Out := fun s => match s.env[i]? with
  | some (some (.d x)) => (bnd F fun o => bnd (getO o) fun y => bnd (lift (f x y)) fun r => bnd (putM i r) fun _ => ret .nx) s
  | _ => none
theorem DS.aug {i : Nat} {x : Str} {pos' : Pos} {op : Operator} {f : D → D → Option Opd} (ho : OpD Γ (inplaceOp op) f) (nd : Γ.N.Nodup) (hi : Γ.N[i]? = some x) (hx : Loc Γ.sc x) (hf : Γ.fn x = true ∨ Γ.sc.names.lookup x = some .local) (h : DO Γ B e F) : DS Γ B (.AugAssign (.Name x pos') op e pos) (augM i f F) := by
  obtain ⟨t, p, m⟩ := h
  obtain ⟨r, ro, mo⟩ := ho
  refine ⟨_, fun X h => ps_aug (by rw [h.N]; exact nd) (by rw [h.N]; exact hi) (by rw [h.sc]; exact hx) (p X h) (ro X h) (by
    rcases hf with z | z
    · exact h.fn x z
    · exact .inr (by rw [h.sc]; exact z)), fun s σ H S g o s' e D q => ?_⟩
  unfold augM at e
  split at e
  · rename_i a ea
    obtain ⟨o1, s1, e1, e2⟩ := bnd_some e
    obtain ⟨y, s2, e3, e4⟩ := bnd_some e2
    obtain ⟨ro', s3, e5, e6⟩ := bnd_some e4
    obtain ⟨_, s4, e7, e8⟩ := bnd_some e6
    obtain ⟨ez, rfl⟩ := lift_some e5
    obtain ⟨rfl, rfl⟩ := ret_some e8
    obtain ⟨v, h1, h2⟩ := g.get ea
    refine ⟨v, h1, m s σ H S g o1 s1 e1 _ fun u H1 S1 g1 w1 r1 _ => ?_⟩
    obtain ⟨rfl, vy⟩ := view_of g1 r1 e3
    refine mo H1 S1 v u a y ro' g1.fr.sub (.inl (Dq.mono w1.same h2)) vy ez _ fun z H2 S2 rr => ?_
    obtain ⟨g2, w2, r2, _⟩ := rr.good g1
    obtain ⟨S3, w3, g3⟩ := put_of g2 r2 e7
    exact q _ H2 S3 g3 ((w1.same.trans w2.same).trans w3)
  · cases e
/-- xs.append(e), xs.extend(e), xs a list that the slot owns -/
def appM (i : Nat) (F : M τ Opd) : M τ Out := bnd (valM F) fun d => fun s => match s.env[i]? with
  | some (some (.own xs)) => if xs.length < sizeLine then some (.nx, { s with env := s.env.set i (some (.own (xs ++ [d]))) }) else none
  | _ => none
def extM (i : Nat) (F : M τ Opd) : M τ Out := bnd (lateM F) fun o => bnd (getO o) fun y => fun s => match s.env[i]?, y with
  | some (some (.own xs)), .list ys => if xs.length + ys.length ≤ sizeLine then some (.nx, { s with env := s.env.set i (some (.own (xs ++ ys))) }) else none
  | _, _ => none
def ownAt (i : Nat) : M τ Unit := fun s => match s.env[i]? with
  | some (some (.own _)) => some ((), s)
  | _ => none
theorem DS.app {i : Nat} {x : Str} {p0 apos cpos : Pos} (hN : Γ.N[i]? = some x) (hv : Vis Γ.sc x) (h : DO Γ B e F) (hl : (apos.endLine == cpos.line) = true := by rfl) (hst : ∀ X : Cx, starEach [e] X.env = (false, eval e X.env) :: starEach [] X.env := by intro _; rfl)
    (hs : ∀ X : Cx, swapsWith (.Call (.Attribute (.Name x p0) "append" apos) [e] [] cpos) none pos.line X.env = pure false := by intro _; rfl) (hd : (x == ("__debug__" : Str)) = false := by decide) (hcd : (x == ("__classdict__" : Str)) = false := by decide)
    (hb : ∀ X : Cx, attributeBase (.Name x p0) "append" X.env (eval (.Name x p0) X.env) = eval (.Name x p0) X.env := by intro _; rfl)
    (hfew : ∀ X : Cx, ((backTo cpos (starEach [e] X.env)).all (fun x => !x.1) && (backToKw cpos (keywordEach [] X.env)).all (fun x => x.1.isSome) && decide ([e].length + ([] : List Keyword).length + (if ([] : List Keyword).isEmpty then 0 else 1) < 30)) = true := by intro _; rfl) :
    DS Γ B (.Expr (.Call (.Attribute (.Name x p0) "append" apos) [e] [] cpos) pos) (bnd (ownAt i) fun _ => appM i F) := by
  obtain ⟨t, p, m⟩ := h
  refine ⟨tDrop (tBM Γ.K "list" rAppend (tVar i) (tCons t tNil)), fun X h => by
      have r := pe_bm PySem.F.plainAttrs_list PySem.F.slot_list_append PySem.F.type_list_append mt_append (pe_var (i := i) (by rw [h.N]; exact hN) (by rw [h.sc]; exact hv) hd hcd) (pa_cons (p X h) pa_nil (hst X)) (hb X) (hfew X) hl (hst X) rfl
      rw [h.K] at r
      exact ps_expr r (hs X),
    fun s σ H S g o s' e D q => ?_⟩
  obtain ⟨_, s0, e0, e⟩ := bnd_some e
  obtain ⟨d, s1, e1, e2⟩ := bnd_some e
  unfold ownAt at e0
  split at e0
  · rename_i xs0 q0
    cases e0
    obtain ⟨pa, vs0, h1, hp0, _⟩ := g.getOwn q0
    refine ⟨_, h1, .inl ⟨rfl, _, SqL.of hp0⟩, m.val g e1 fun v H1 S1 g1 w1 r1 => ?_⟩
    split at e2
    · rename_i xs q1
      split at e2
      · rename_i hz
        cases e2
        obtain ⟨pb, vs, h2, hp, ha, _⟩ := g1.getOwn q1
        rw [h1] at h2
        cases h2
        exact ⟨_, vs, v, rfl, rfl, hp, by rw [ha.len]; exact hz, q σ _ S1 (g1.change q1 h1 (ha.app (.cons r1 .nil))) w1.same⟩
      · cases e2
    · cases e2
  · cases e0
theorem DS.ext {i : Nat} {x : Str} {p0 apos cpos : Pos} (hN : Γ.N[i]? = some x) (hv : Vis Γ.sc x) (h : DO Γ B e F) (hl : (apos.endLine == cpos.line) = true := by rfl) (hst : ∀ X : Cx, starEach [e] X.env = (false, eval e X.env) :: starEach [] X.env := by intro _; rfl)
    (hs : ∀ X : Cx, swapsWith (.Call (.Attribute (.Name x p0) "extend" apos) [e] [] cpos) none pos.line X.env = pure false := by intro _; rfl) (hd : (x == ("__debug__" : Str)) = false := by decide) (hcd : (x == ("__classdict__" : Str)) = false := by decide)
    (hb : ∀ X : Cx, attributeBase (.Name x p0) "extend" X.env (eval (.Name x p0) X.env) = eval (.Name x p0) X.env := by intro _; rfl)
    (hfew : ∀ X : Cx, ((backTo cpos (starEach [e] X.env)).all (fun x => !x.1) && (backToKw cpos (keywordEach [] X.env)).all (fun x => x.1.isSome) && decide ([e].length + ([] : List Keyword).length + (if ([] : List Keyword).isEmpty then 0 else 1) < 30)) = true := by intro _; rfl) :
    DS Γ B (.Expr (.Call (.Attribute (.Name x p0) "extend" apos) [e] [] cpos) pos) (bnd (ownAt i) fun _ => extM i F) := by
  obtain ⟨t, p, m⟩ := h
  refine ⟨tDrop (tBM Γ.K "list" rExtend (tVar i) (tCons t tNil)), fun X h => by
      have r := pe_bm PySem.F.plainAttrs_list PySem.F.slot_list_extend PySem.F.type_list_extend mt_extend (pe_var (i := i) (by rw [h.N]; exact hN) (by rw [h.sc]; exact hv) hd hcd) (pa_cons (p X h) pa_nil (hst X)) (hb X) (hfew X) hl (hst X) rfl
      rw [h.K] at r
      exact ps_expr r (hs X),
    fun s σ H S g o s' e D q => ?_⟩
  obtain ⟨_, s0, e0, e⟩ := bnd_some e
  obtain ⟨o1, s1, e1, e2⟩ := bnd_some e
  obtain ⟨y, s2, e3, e4⟩ := bnd_some e2
  unfold ownAt at e0
  split at e0
  · rename_i xs0 q0
    cases e0
    obtain ⟨pa, vs0, h1, hp0, _⟩ := g.getOwn q0
    refine ⟨_, h1, .inl ⟨rfl, _, SqL.of hp0⟩, m.late g e1 fun v H1 S1 g1 w1 r1 => ?_⟩
    obtain ⟨rfl, vy⟩ := view_of g1 r1.rel e3
    split at e4
    · rename_i xs ys q1
      split at e4
      · rename_i hz
        cases e4
        obtain ⟨pb, vs, h2, hp, ha, _⟩ := g1.getOwn q1
        rw [h1] at h2
        cases h2
        obtain ⟨b, us, rfl, hb', hu⟩ := vy.lst g1.fr.sub
        exact ⟨_, b, vs, us, rfl, rfl, hp, hb', by rw [ha.len, hu.len]; exact hz, q σ _ S1 (g1.change q1 h1 (ha.app hu)) w1.same⟩
      · cases e4
    · cases e4
  · cases e0

/-! ### for -/
def forM (G : D → M τ Unit) (body : M τ Out) : List D → M τ Out
  | [] => ret .nx
  | x :: xs => bnd (G x) fun _ => bnd body fun o => match o with
    | .nx => forM G body xs
    | .ct => forM G body xs
    | .bk => ret .nx
    | .rt d => ret (.rt d)
    | .rn ys => ret (.rn ys)
def loopM (Fi : M τ (List D)) (G : D → M τ Unit) (body : M τ Out) : M τ Out := bnd Fi fun xs => forM G body xs
theorem DS.for_ {tg iter : Expr} {body : List Stmt} {ws : List Nat} {Fi : M τ (List D)} {G : D → M τ Unit} (hi : DI Γ B tg iter Fi) (hg : DG Γ B tg ws G) (hb : DSs Γ B body Fs)
    (hs : ∀ (X : Cx) x, foldedSetIterable iter X.env x = pure x := by intro _ _; rfl) : DS Γ B (.For tg iter body [] pos) (loopM Fi G Fs) := by
  obtain ⟨wi, pi, mi⟩ := hi
  obtain ⟨g, pg, mg⟩ := hg
  obtain ⟨tb, pb, mb⟩ := hb
  refine ⟨_, fun X h => ps_for h.pass h.calm (pi X h) (pg X h) (pb X h) (hs X), fun s σ H S gd o s' e D q => ?_⟩
  obtain ⟨xs, s1, e1, e2⟩ := bnd_some e
  refine mi s σ H S gd xs s1 e1 _ fun J H1 S1 g1 w1 wk => ?_
  have q := q.mono w1.same
  refine ⟨fun i m σ2 H2 => m = xs.length - i ∧ i ≤ xs.length ∧ ∃ s2 S2, Good Γ.K B s2 σ2 H2 S2 ∧ Same S1 S2 ∧ forM G Fs (xs.drop i) s2 = some (o, s'),
    ⟨xs.length, by simp, Nat.zero_le _, s1, S1, g1, Same.refl _, by rw [List.drop_zero]; exact e2⟩, ?_⟩
  rintro i m σ2 H2 ⟨rfl, hi, s2, S2, g2, w2, e3⟩
  by_cases hlt : i < xs.length
  · refine .inr ⟨wk.go i H2 hlt (w2.trans g2.fr.sub), fun σ3 H3 => ∃ s3 S3, Good Γ.K B s3 σ3 H3 S3 ∧ Same S1 S3 ∧ forM G Fs (xs.drop (i + 1)) s3 = some (o, s'),
      fun σ3 H3 n3 => ⟨xs.length - (i + 1), by omega, rfl, hlt, n3⟩, fun x H3 y => ?_⟩
    rw [List.drop_eq_getElem_cons hlt] at e3
    obtain ⟨S3, wg, hd⟩ := wk.yld i H2 x H3 S2 _ (List.getElem?_eq_getElem hlt) w2 g2.fr.sub y
    obtain ⟨_, s3, e4, e5⟩ := bnd_some e3
    obtain ⟨o1, s4, e6, e7⟩ := bnd_some e5
    refine mg s2 σ2 H3 S3 (g2.grow wg) x _ hd s3 e4 _ fun σ3 g3 _ => ?_
    have w3 := w2.trans wg.s
    refine mb s3 σ3 H3 S3 g3 o1 s4 e6 _ ?_
    cases o1 with
    | nx => exact fun σ5 H5 S5 g5 w5 => ⟨s4, S5, g5, w3.trans w5, e7⟩
    | ct => exact fun σ5 H5 S5 g5 w5 => ⟨s4, S5, g5, w3.trans w5, e7⟩
    | bk =>
      obtain ⟨rfl, rfl⟩ := ret_some e7
      exact fun σ5 H5 S5 g5 w5 => q σ5 H5 S5 g5 (w3.trans w5)
    | rt d =>
      obtain ⟨rfl, rfl⟩ := ret_some e7
      exact q
    | rn ys =>
      obtain ⟨rfl, rfl⟩ := ret_some e7
      exact q
  · have ei : i = xs.length := by omega
    subst ei
    rw [List.drop_length] at e3
    obtain ⟨rfl, rfl⟩ := ret_some e3
    exact .inl ⟨wk.stop H2 (w2.trans g2.fr.sub), q σ2 H2 S2 g2 w2⟩
end

/-! ### a def and its calls; the guards of repr told beside the room -/
structure FnG (P : Program) (w : World) (K : Frag) (mg : Str → Option Value) (base : Heap) (k : Nat) (f : Addr) (fd : FuncData) (ps : List Str) (sp : Sp) : Prop where
  len : ∀ vs H Q E, sp vs H Q E → vs.length = ps.length
  run : ∀ (A : Around) (outer : List Env) (s : Shared) (H : Hp) (args : Args) (us : List Value) (vs : List V) (Q : VK) (E : XK), Room k A → A.guards = some [] → Env0 P w K mg base A outer s H →
    BindsTo s fd args (ps.zip us) → Vals vs us → sp vs H Q E → codeAny (model P w) A (.call (.ref f) args) (CR CX0 outer P w H s Q E) s
theorem FnG.mono {P : Program} {w : World} {K : Frag} {mg : Str → Option Value} {base : Heap} {j k : Nat} {f : Addr} {fd : FuncData} {ps : List Str} {sp : Sp} (F : FnG P w K mg base j f fd ps sp) (h : j ≤ k) : FnG P w K mg base k f fd ps sp :=
  ⟨F.len, fun A outer s H args us vs Q E hr => F.run A outer s H args us vs Q E (hr.mono h)⟩
section
variable {X : Cx} {k : Nat} {f : Addr} {fd : FuncData} {ps : List Str} {sp : Sp} {x : Str} {p pos : Pos} {e : Expr} {es : List Expr} {t : TA}
theorem runG {pins : List (Addr × Obj)} {σ : List (Option V)} {H : Hp} {s : Shared} {Q : VK} {us : List Value} {vs : List V} (F : FnG X.prog X.w X.K X.mg X.base k f fd ps sp) (hr : Room k X.A) (gd : X.A.guards = some []) (hb : Binds X.K fd ps [])
    (I : L2.Inv X pins σ H s) (r : Vals vs us) (h : sp vs H Q E0) : wpAny (model X.prog X.w) X.A (call (.ref f) us) (EP X pins σ Q) X.xe s := by
  have hl : us.length = ps.length := by
    rw [← r.length]
    exact F.len _ _ _ _ h
  have hbb := hb s us I.kIn (by rw [List.append_nil]; exact hl)
  rw [List.append_nil] at hbb
  have run := F.run X.A X.stack s H ⟨us, []⟩ us vs Q E0 hr gd I.env0 hbb r h
  refine wpAny_call (codeAny_mono run ?_)
  intro res s' hq
  match res, hq with
  | .ok (.ret u), hq => exact I.after hq
  | .ok .next, hq => exact False.elim hq
  | .ok .brk, hq => exact False.elim hq
  | .ok .cont, hq => exact False.elim hq
  | .error ex, hq => exact False.elim hq
theorem pe_callG (F : FnG X.prog X.w X.K X.mg X.base k f fd ps sp) (hr : Room k X.A) (gd : X.A.guards = some []) (hg : Gl X x) (hm : X.mg x = some (.ref f)) (hk : PySem.W.keepIn X.K (.ref f) = true) (hb : Binds X.K fd ps []) (ha : PA X (e :: es) t)
    (hdb : (x == ("__debug__" : Str)) = false) (he : starEach (e :: es) X.env = (false, eval e X.env) :: starEach es X.env) (hpl : (backTo pos (starEach es X.env)).any (·.1) = false) :
    PE X (.Call (.Name x p) (e :: es) [] pos) (tCall sp [] E0 t) := by
  constructor
  intro pins s σ H Q I h
  refine wpAny_Call_Name_kw (ld_glob I hg hm ?_ hdb)
  refine PySem.W.callWith_K (h₀ := X.base) I.ok.mod.kin hk ?_ he hpl
  refine thn (ha.run pos pins s σ H _ I h) ?_
  rintro us s1 ⟨vs, H1, I1, r, q⟩
  rw [List.append_nil] at q
  exact ⟨I1.kIn, runG F hr gd hb I1 r q⟩
end
/-- what a def of plain data promises -/
def spP (K : Frag) (f : List D → Option D) : Sp := fun vs H Q _ => ∃ S ds d, Same S H ∧ DqAll K S vs ds ∧ f ds = some d ∧ ∀ v H' S', Grow H S H' S' → Dq K S' v d → Q v H'
def callP (f : List D → Option D) (G : M τ (List D)) : M τ Opd := bnd G fun ds => bnd (lift (f ds)) fun d => ret (.val d)
section
variable {Γ : Gam} {B : Bd τ} {pos : Pos} {e : Expr} {es : List Expr} {G : M τ (List D)}
/-- what stands of a def: its object, its promise, how it binds -/
structure DefP (Γ : Gam) (k : Nat) (x : Str) (ps : List Str) (f : List D → Option D) : Prop where
  ex : ∃ (a : Addr) (fd : FuncData), FnG Γ.P Γ.w Γ.K Γ.mg Γ.base k a fd ps (spP Γ.K f) ∧ Γ.mg x = some (.ref a) ∧ PySem.W.keepIn Γ.K (.ref a) = true ∧ Binds Γ.K fd ps []
theorem DO.call {x : Str} {p : Pos} {k : Nat} {ps : List Str} {f : List D → Option D} (F : DefP Γ k x ps f) {j : Nat} (ok : Γ.Ok j) (hj : k ≤ j) (hg : Γ.sc.names.lookup x = some .globalImplicit) (ha : DV Γ B (e :: es) G) (hdb : (x == ("__debug__" : Str)) = false := by decide)
    (he : ∀ X : Cx, starEach (e :: es) X.env = (false, eval e X.env) :: starEach es X.env := by intro _; rfl) (hpl : ∀ X : Cx, (backTo pos (starEach es X.env)).any (·.1) = false := by intro _; rfl) : DO Γ B (.Call (.Name x p) (e :: es) [] pos) (callP f G) := by
  obtain ⟨a, fd, F, hm, hk, hb⟩ := F.ex
  obtain ⟨t, pa, m⟩ := ha
  refine ⟨tCall (spP Γ.K f) [] E0 t, fun X h => ?_, fun s σ H S g o s' e Q q => ?_⟩
  · have F' := F.mono hj
    rw [← h.P, ← h.w, ← h.K, ← h.mg, ← h.base] at F'
    have r := pe_callG (x := x) (p := p) (pos := pos) F' (by rw [h.A]; exact ok.room) (by rw [h.A]; exact ok.gd) (gl_of h hg) (by rw [h.mg]; exact hm) (by rw [h.K]; exact hk) (by rw [h.K]; exact hb) (pa X h) hdb (he X) (hpl X)
    rw [h.K] at r
    exact r
  · obtain ⟨ds, s1, e1, e2⟩ := bnd_some e
    obtain ⟨d, s2, e3, e4⟩ := bnd_some e2
    obtain ⟨ez, rfl⟩ := lift_some e3
    obtain ⟨rfl, rfl⟩ := ret_some e4
    refine m s σ H S g ds _ e1 _ fun vs H1 S1 g1 w1 r1 => ?_
    refine ⟨S1, ds, d, g1.fr.sub, by rw [List.append_nil]; exact r1, ez, fun v H2 S2 w2 r2 => ?_⟩
    exact q v H2 S2 (g1.grow w2) (w1.trans w2.step) r2 trivial
end
/-- a def's body as a function of its arguments -/
def runP (n : Nat) (F : M Unit Out) (ds : List D) : Option D := match F ⟨ds.map (fun d => some (.d d)) ++ List.replicate (n - ds.length) none, ()⟩ with
  | some (.rt d, _) => some d
  | some (.nx, _) => some .none
  | _ => none
/-- a state at a def's entry -/
theorem good_start {K : Frag} {H S : Hp} {vs : List V} {ds : List D} {N : List Str} (w : Same S H) (h : DqAll K S vs ds) :
    Good K (B := ⟨dr0, H, S⟩) ⟨ds.map (fun d => some (.d d)) ++ List.replicate (N.length - ds.length) none, ()⟩ (L2.start N vs) H S := by
  have get : ∀ (i : Nat) (z : Sl), ((ds.map fun d => some (Sl.d d)) ++ List.replicate (N.length - ds.length) none)[i]? = some (some z) → ∃ d, ds[i]? = some d ∧ z = .d d := fun i z e => by
    by_cases hi : i < ds.length
    · rw [List.getElem?_append_left (by simpa using hi), List.getElem?_map] at e
      obtain ⟨d, h1, h2⟩ := Option.map_eq_some_iff.mp e
      cases h2
      exact ⟨d, h1, rfl⟩
    · rw [List.getElem?_append_right (by simpa using hi), List.getElem?_replicate] at e
      split at e <;> cases e
  refine ⟨⟨fun b o e _ => e, Same.refl _, w, (fun b o e n => by
    rw [show S b = none from n] at e
    cases e), fun b r => r.elim⟩, trivial, ?_, fun i z e => ?_, fun i j xs ys n e1 e2 => ?_⟩
  · unfold L2.start
    rw [List.length_append, List.length_append, List.length_map, List.length_map, List.length_replicate, List.length_replicate, h.len]
  · obtain ⟨d, h1, rfl⟩ := get i z e
    obtain ⟨v, h2, h3⟩ := h.getD h1
    refine ⟨v, ?_, h3⟩
    unfold L2.start
    have hi : i < vs.length := (List.getElem?_eq_some_iff.mp h2).1
    rw [List.getElem?_append_left (by simpa using hi), List.getElem?_map, h2]
    rfl
  · obtain ⟨d, _, q⟩ := get i _ e1
    cases q
/-- THE RULE for a def of plain data -/
theorem fnP {P : Program} {w : World} {K : Frag} {mg : Str → Option Value} {base : Heap} {x qual : Str} {st : Stmt} {f : Addr} {fd : FuncData} {N ps : List Str} {k : Nat} {F : M Unit Out} (Fn : Fun K x qual st f fd) (Sc : FnScope N ps (defScope st)) (hlen : ∀ ds d, runP N.length F ds = some d → ds.length = ps.length)
    (body : ∀ (A : Around) (B : Bd Unit), Gam.Ok ⟨P, w, K, mg, base, A, N, defScope st, fun _ => true⟩ k → DSs ⟨P, w, K, mg, base, A, N, defScope st, fun _ => true⟩ B (defBody st) F) :
    FnG P w K mg base (k + 1) f fd ps (spP K (runP N.length F)) := by
  obtain ⟨oc, od, kV, doc, pm, an, cdv, ct, osl, rfl, lk, hcd⟩ := Fn.ex
  have hl : ∀ vs H Q E, spP K (runP N.length F) vs H Q E → vs.length = ps.length := by
    rintro vs H Q E ⟨S, ds, d, _, h, e, _⟩
    rw [h.len]
    exact hlen ds d e
  refine ⟨hl, fun A outer s H args us vs Q E hr gd e0 hb r hsp => ?_⟩
  have hvl := hl _ _ _ _ hsp
  have KX : K.In s.heap := e0.mod.kin.keeps fun b o e => (e0.bs b o e).1
  have lim : s.heap.NoLimit := e0.mod.nolimit.keeps fun b o e => (e0.bs b o e).1
  have hkind : ∀ y ∈ ps.zip us, (defScope st).names.lookup y.1 = some .local ∨
      ((defScope st).names.lookup y.1 = some .cell ∧ ((cellsFrom (s.heap.objs.size + 1) (defScope st).names []).lookup y.1).isSome = true) := by
    rintro ⟨n, v⟩ hy
    rcases Sc.par n (List.of_mem_zip hy).1 with q | q
    · exact .inl q
    · exact .inr ⟨q, PySem.W.cellsFrom_some _ _ _ (.inl q)⟩
  refine codeAny_call_function hr.depth (KX _ _ lk) rfl Sc.co Sc.gen rfl (PySem.W.codeRec_of KX hcd) (hb _ _ _ _ ?_)
  refine wpAny_newFunctionEnv_cells Sc.kind hkind ?_
  intro env he s1 xin
  subst he
  refine ⟨lim.keeps xin.toInCall.keep, codeAny_func ?_⟩
  obtain ⟨S, ds, d, wS, hds, hrun, hQ⟩ := hsp
  have I : L2.Inv (cxOf CX0 P w K mg base N qual (defScope st) f cdv A outer s H E) [] (L2.start N vs) H s1 := inv_start Sc hr.hd e0 hvl r xin
  have hr' : Room k (A.deeper (envOfC qual (defScope st) s.heap.objs.size f cdv)) := hr.deeper _
  obtain ⟨t, pt, mt⟩ := body (A.deeper (envOfC qual (defScope st) s.heap.objs.size f cdv)) ⟨dr0, H, S⟩ ⟨Sc.nd, hr', gd⟩
  have hX : Gam.Has ⟨P, w, K, mg, base, A.deeper (envOfC qual (defScope st) s.heap.objs.size f cdv), N, defScope st, fun _ => true⟩ (cxOf CX0 P w K mg base N qual (defScope st) f cdv A outer s H E).nox :=
    ⟨rfl, rfl, rfl, rfl, rfl, rfl, rfl, rfl, rfl, fun _ _ => .inl rfl, PassesOwn.never⟩
  have ht := (pt _ hX).nox
  have gs := good_start (K := K) (N := N) wS hds
  unfold runP at hrun
  have hq : t { nx := fun _ H' => Q .non H', rt := Q } (L2.start N vs) H := by
    split at hrun
    · rename_i d' s' e
      cases hrun
      refine mt _ _ H S gs _ _ e _ fun v H' S' fr _ hd => ?_
      exact hQ v H' S' ⟨fun b o e => fr.keep b o e (fun z => z), fr.s, fr.sub, fr.new⟩ hd
    · rename_i s' e
      cases hrun
      refine mt _ _ H S gs _ _ e _ fun σ' H' S' g' w' => ?_
      exact hQ .non H' S' ⟨fun b o e => g'.fr.keep b o e (fun z => z), g'.fr.s, g'.fr.sub, g'.fr.new⟩ .non
    · cases hrun
  refine wpAny_mono (ht.run [] s1 (L2.start N vs) H _ I hq) ?_ fun e s' hs => hs
  intro fl s' hs
  match fl, hs with
  | .ret u, ⟨v, σ', H', J, rv, q⟩ => exact ⟨v, H', J.os, J.bare, J.base, J.hok, rv, q⟩
  | .next, ⟨σ', H', J, q⟩ => exact ⟨V.non, H', J.os, J.bare, J.base, J.hok, rfl, q⟩
  | .brk, ⟨_, _, _, q⟩ => exact False.elim q
  | .cont, ⟨_, _, _, q⟩ => exact False.elim q
end DL
end

section
set_option Elab.async false
set_option linter.all false
set_option maxRecDepth 100000
set_option maxHeartbeats 3999999
/-! WEng8: several targets at once, items stored, the script, the drawn numbers -/
namespace DL
open L2 PySem PyProof.Rows PySem.Spec
variable {τ α β : Type}
section
variable {K : Frag} {B : Bd τ} {s s' : Stt τ} {σ : List (Option V)} {H S : Hp}
/-- the values of several expressions, new lists still unknown to all -/
def RelN (K : Frag) (B : Bd τ) (s : Stt τ) (σ : List (Option V)) (H S : Hp) : List V → List Opd → Prop
  | [], [] => True
  | v :: vs, o :: os => RelO K B s σ H S v o ∧ RelN K B s σ H S vs os ∧ ∀ (xs : List D) (p : Addr), o = Opd.new xs → v = V.ref p → ∀ (j : Nat) (ys : List D), os[j]? = some (Opd.new ys) → vs[j]? ≠ some (V.ref p)
  | _, _ => False
def FreshN (H : Hp) (vs : List V) (os : List Opd) : Prop := ∀ (j : Nat) (ys : List D), os[j]? = some (Opd.new ys) → ∃ p, vs[j]? = some (V.ref p) ∧ H p = none
def MeanN (K : Frag) (B : Bd τ) (t : TA) (F : M τ (List Opd)) : Prop := ∀ s σ H S, Good K B s σ H S → ∀ os s', F s = some (os, s') →
  ∀ Q : List V → Hp → Prop, (∀ vs H' S', Good K B s' σ H' S' → Step K B σ s H S s' H' S' → RelN K B s' σ H' S' vs os → FreshN H vs os → Q vs H') → t σ H Q
def DN (Γ : Gam) (B : Bd τ) (es : List Expr) (F : M τ (List Opd)) : Prop := ∃ t, (∀ X, Γ.Has X → PA X es t) ∧ MeanN Γ.K B t F
def consN (F : M τ Opd) (G : M τ (List Opd)) : M τ (List Opd) := bnd F fun o => bnd G fun os => ret (o :: os)
theorem RelO.step {s1 : Stt τ} {H1 S1 : Hp} {v : V} {o : Opd} (r : RelO K B s σ H S v o) (w : Step K B σ s H S s1 H1 S1) : RelO K B s1 σ H1 S1 v o := by
  cases o with
  | val x => exact Dq.mono w.same r
  | slot i => exact r
  | new xs =>
    obtain ⟨p, e, f⟩ := r
    exact ⟨p, e, w.free p xs f⟩
theorem DN.nil {Γ : Gam} {B : Bd τ} : DN Γ B [] nilM := ⟨_, fun X h => pa_nil, fun s σ H S g os s' e Q q => by
  obtain ⟨rfl, rfl⟩ := ret_some e
  exact q [] H S g Step.refl trivial fun j ys h => by simp at h⟩
theorem DN.cons {Γ : Gam} {B : Bd τ} {e : Expr} {es : List Expr} {F : M τ Opd} {G : M τ (List Opd)} (h : DO Γ B e F) (hs : DN Γ B es G) (hst : ∀ X : Cx, starEach (e :: es) X.env = (false, eval e X.env) :: starEach es X.env := by intro _; rfl) : DN Γ B (e :: es) (consN F G) := by
  obtain ⟨t, p, m⟩ := h
  obtain ⟨u, pu, mu⟩ := hs
  refine ⟨_, fun X h => pa_cons (p X h) (pu X h) (hst X), fun s σ H S g os s' e Q q => ?_⟩
  obtain ⟨o, s1, e1, e2⟩ := bnd_some e
  obtain ⟨os', s2, e3, e4⟩ := bnd_some e2
  obtain ⟨rfl, rfl⟩ := ret_some e4
  refine m s σ H S g o s1 e1 _ fun v H1 S1 g1 w1 r1 f1 => ?_
  refine mu s1 σ H1 S1 g1 os' _ e3 _ fun vs H2 S2 g2 w2 r2 f2 => ?_
  refine q (v :: vs) H2 S2 g2 (w1.trans w2) ⟨r1.step w2, r2, fun xs p ho hv j ys hj => ?_⟩ fun j ys hj => ?_
  · subst ho
    intro hvj
    obtain ⟨p', h1, h2⟩ := f2 j ys hj
    rw [hvj] at h1
    cases h1
    obtain ⟨p1, h3, ⟨us, h4, _⟩, _⟩ := r1
    rw [hv] at h3
    cases h3
    rw [h2] at h4
    cases h4
  · cases j with
    | zero =>
      have hj' : o = .new ys := by simpa using hj
      subst hj'
      obtain ⟨p, h1, h2⟩ := f1
      exact ⟨p, by simp [h1], h2⟩
    | succ j =>
      obtain ⟨p, h1, h2⟩ := f2 j ys (by simpa using hj)
      exact ⟨p, by simpa using h1, w1.dom p h2⟩
/-- slots are read ahead of all stores -/
def fixM : List Opd → M τ (List Opd)
  | [] => ret []
  | o :: os => bnd (match o with
    | .slot i => bnd (toD (.slot i)) fun d => ret (.val d)
    | .val x => ret (.val x)
    | .new xs => ret (.new xs)) fun o' => bnd (fixM os) fun os' => ret (o' :: os')
def NoSlot : List Opd → Prop
  | [] => True
  | .slot _ :: _ => False
  | _ :: os => NoSlot os
theorem RelN.free {s1 : Stt τ} {S1 : Hp} (ws : Same S S1) (k : ∀ (p : Addr) (xs : List D), Free K B s σ H S p xs → Free K B s1 σ H S1 p xs) : ∀ {vs : List V} {os : List Opd}, RelN K B s σ H S vs os → RelN K B s1 σ H S1 vs os
  | [], [], _ => trivial
  | v :: vs, o :: os, ⟨h1, h2, h3⟩ => ⟨by
      cases o with
      | val x => exact Dq.mono ws h1
      | slot i => exact h1
      | new xs =>
        obtain ⟨p, e, f⟩ := h1
        exact ⟨p, e, k p xs f⟩, RelN.free ws k h2, h3⟩
theorem fix_of : ∀ {vs : List V} {os os' : List Opd} {s s' : Stt τ} {S : Hp}, Good K B s σ H S → RelN K B s σ H S vs os → fixM os s = some (os', s') → ∃ S', Same S S' ∧ Good K B s' σ H S' ∧ RelN K B s' σ H S' vs os' ∧ NoSlot os' ∧
    (∀ (j : Nat) (ys : List D), os'[j]? = some (Opd.new ys) → os[j]? = some (Opd.new ys)) ∧ ∀ (p : Addr) (xs : List D), Free K B s σ H S p xs → Free K B s' σ H S' p xs
  | [], [], os', s, s', S, g, _, e => by
    obtain ⟨rfl, rfl⟩ := ret_some e
    exact ⟨S, Same.refl _, g, trivial, trivial, fun _ _ h => h, fun _ _ f => f⟩
  | v :: vs, o :: os, os', s, s', S, g, ⟨h1, h2, h3⟩, e => by
    obtain ⟨o1, s1, e1, e2⟩ := bnd_some e
    obtain ⟨os1, s2, e3, e4⟩ := bnd_some e2
    obtain ⟨rfl, rfl⟩ := ret_some e4
    cases o with
    | slot i =>
      obtain ⟨d, s3, e5, e6⟩ := bnd_some e1
      obtain ⟨rfl, rfl⟩ := ret_some e6
      obtain ⟨S1, w1, g1, r1, f1⟩ := toD_of g h1 e5
      have f1' : ∀ (p : Addr) (xs : List D), Free K B s σ H S p xs → Free K B s1 σ H S1 p xs := fun p xs f => f1 p xs (fun _ q => by cases q) f
      obtain ⟨S2, w2, g2, r2, n2, k2, f2⟩ := fix_of g1 (h2.free w1 f1') e3
      refine ⟨S2, w1.trans w2, g2, ⟨Dq.mono w2 r1, r2, fun xs p q => by cases q⟩, n2, fun j ys h => ?_, fun p xs f => f2 p xs (f1' p xs f)⟩
      cases j with
      | zero => simp at h
      | succ j => simpa using k2 j ys (by simpa using h)
    | val x =>
      obtain ⟨rfl, rfl⟩ := ret_some e1
      obtain ⟨S2, w2, g2, r2, n2, k2, f2⟩ := fix_of g h2 e3
      refine ⟨S2, w2, g2, ⟨Dq.mono w2 h1, r2, fun xs p q => by cases q⟩, n2, fun j ys h => ?_, f2⟩
      cases j with
      | zero => simp at h
      | succ j => simpa using k2 j ys (by simpa using h)
    | new xs =>
      obtain ⟨rfl, rfl⟩ := ret_some e1
      obtain ⟨S2, w2, g2, r2, n2, k2, f2⟩ := fix_of g h2 e3
      obtain ⟨p, ep, fp⟩ := h1
      refine ⟨S2, w2, g2, ⟨⟨p, ep, f2 p xs fp⟩, r2, fun ys q ho hv j zs hj => h3 ys q ho hv j zs (k2 j zs hj)⟩, n2, fun j ys h => ?_, f2⟩
      cases j with
      | zero => simpa using h
      | succ j => simpa using k2 j ys (by simpa using h)
  | [], _ :: _, _, _, _, _, _, h, _ => h.elim
  | _ :: _, [], _, _, _, _, _, h, _ => h.elim
def setsM : List Nat → List Opd → M τ Unit
  | [], [] => ret ()
  | i :: is, o :: os => bnd (putM i o) fun _ => setsM is os
  | _, _ => stuck
def sets (σ : List (Option V)) : List Nat → List V → List (Option V)
  | i :: is, v :: vs => sets (σ.set i (some v)) is vs
  | _, _ => σ
theorem free_put {p : Addr} {xs : List D} {i : Nat} {v : V} {o : Opd} (f : Free K B s σ H S p xs) (e : putM i o s = some ((), s')) (ns : NoSlot [o]) (hn : ∀ ys, o = .new ys → v ≠ .ref p) : Free K B s' (σ.set i (some v)) H S p xs := by
  have go : ∀ z : Sl, (∀ ys, z = .own ys → v ≠ .ref p) → Free K B { s with env := s.env.set i (some z) } (σ.set i (some v)) H S p xs := fun z hz => ⟨f.at_, f.ns, f.n0, f.nr, fun j ys e => by
    by_cases hl : i < σ.length
    · rcases set_get e with ⟨rfl, q⟩ | ⟨n, q⟩
      · cases q
        rw [List.getElem?_set_self hl]
        exact fun q => hz ys rfl (Option.some.inj (Option.some.inj q))
      · rw [List.getElem?_set_ne n]
        exact f.no j ys q
    · rw [List.set_eq_of_length_le (by omega)]
      rcases set_get e with ⟨rfl, q⟩ | ⟨n, q⟩
      · intro q'
        have := (List.getElem?_eq_some_iff.mp q').1
        omega
      · exact f.no j ys q⟩
  cases o with
  | val x => cases e; exact go (.d x) fun ys q => by cases q
  | new zs => cases e; exact go (.own zs) fun ys q => hn zs rfl
  | slot j => exact ns.elim
theorem sets_of : ∀ {is : List Nat} {vs : List V} {os : List Opd} {s s' : Stt τ} {σ : List (Option V)} {S : Hp}, Good K B s σ H S → RelN K B s σ H S vs os → NoSlot os → setsM is os s = some ((), s') → ∃ S', Same S S' ∧ Good K B s' (sets σ is vs) H S'
  | [], [], [], s, s', σ, S, g, _, _, e => by
    obtain ⟨_, rfl⟩ := ret_some e
    exact ⟨S, Same.refl _, g⟩
  | i :: is, v :: vs, o :: os, s, s', σ, S, g, ⟨h1, h2, h3⟩, ns, e => by
    obtain ⟨_, s1, e1, e2⟩ := bnd_some e
    have ns1 : NoSlot [o] ∧ NoSlot os := by
      cases o with
      | val x => exact ⟨trivial, ns⟩
      | new xs => exact ⟨trivial, ns⟩
      | slot j => exact ns.elim
    have same : ∃ g1 : Good K B s1 (σ.set i (some v)) H S, True := by
      cases o with
      | val x => cases e1; exact ⟨g.set h1, trivial⟩
      | new xs =>
        cases e1
        obtain ⟨p, rfl, f⟩ := h1
        exact ⟨g.setOwn f, trivial⟩
      | slot j => exact ns.elim
    obtain ⟨g1, _⟩ := same
    have rel : ∀ {vs : List V} {os : List Opd}, RelN K B s σ H S vs os → NoSlot os → (∀ (xs : List D) (p : Addr), o = Opd.new xs → v = V.ref p → ∀ (j : Nat) (ys : List D), os[j]? = some (Opd.new ys) → vs[j]? ≠ some (V.ref p)) → RelN K B s1 (σ.set i (some v)) H S vs os := by
      intro vs
      induction vs with
      | nil => intro os h _ _; cases os with
        | nil => trivial
        | cons _ _ => exact h.elim
      | cons u us ih =>
        intro os h n hd
        cases os with
        | nil => exact h.elim
        | cons o2 os2 =>
          obtain ⟨k1, k2, k3⟩ := h
          have n2 : NoSlot os2 := by
            cases o2 with
            | val x => exact n
            | new xs => exact n
            | slot j => exact n.elim
          refine ⟨?_, ih k2 n2 fun xs p ho hv j ys hj => by simpa using hd xs p ho hv (j + 1) ys (by simpa using hj), k3⟩
          cases o2 with
          | val x => exact k1
          | slot j => exact n.elim
          | new ys =>
            obtain ⟨p, rfl, f⟩ := k1
            refine ⟨p, rfl, free_put f e1 ns1.1 fun zs ho hv => ?_⟩
            exact hd zs p ho hv 0 ys rfl rfl
    exact sets_of (is := is) g1 (rel h2 ns1.2 h3) ns1.2 e2
  | [], _ :: _, _ :: _, _, _, _, _, _, _, _, e => by cases e
  | _ :: _, [], [], _, _, _, _, _, _, _, e => by cases e
  | _, [], _ :: _, _, _, _, _, _, h, _, _ => h.elim
  | _, _ :: _, [], _, _, _, _, _, h, _, _ => h.elim
end
end DL
end

section
set_option Elab.async false
set_option linter.all false
set_option maxRecDepth 100000
set_option maxHeartbeats 3999999
/-! WEng9: a, b = .., items stored, the script, the drawn numbers, a law's end -/
namespace DL
open L2 PySem PyProof.Rows PySem.Spec
variable {τ α β : Type}
section
variable {Γ : Gam} {B : Bd τ} {pos : Pos} {e a b c : Expr} {F : M τ Opd} {G : M τ (List Opd)}
def parM (is : List Nat) (G : M τ (List Opd)) : M τ Out := bnd G fun os => bnd (fixM os) fun os' => bnd (setsM is os') fun _ => ret .nx
theorem RelN.len {K : Frag} {B : Bd τ} {s : Stt τ} {σ : List (Option V)} {H S : Hp} : ∀ {vs : List V} {os : List Opd}, RelN K B s σ H S vs os → vs.length = os.length
  | [], [], _ => rfl
  | _ :: _, _ :: _, h => by rw [List.length_cons, List.length_cons, RelN.len h.2.1]
  | [], _ :: _, h => h.elim
  | _ :: _, [], h => h.elim
theorem fix_len : ∀ {os os' : List Opd} {s s' : Stt τ}, fixM os s = some (os', s') → os'.length = os.length
  | [], _, _, _, e => by obtain ⟨rfl, _⟩ := ret_some e; rfl
  | o :: os, os', s, s', e => by
    obtain ⟨o1, s1, e1, e2⟩ := bnd_some e
    obtain ⟨os1, s2, e3, e4⟩ := bnd_some e2
    obtain ⟨rfl, _⟩ := ret_some e4
    rw [List.length_cons, List.length_cons, fix_len e3]
theorem sets_len : ∀ {is : List Nat} {os : List Opd} {s s' : Stt τ}, setsM is os s = some ((), s') → is.length = os.length
  | [], [], _, _, _ => rfl
  | i :: is, o :: os, s, s', e => by
    obtain ⟨_, s1, e1, e2⟩ := bnd_some e
    rw [List.length_cons, List.length_cons, sets_len e2]
  | [], _ :: _, _, _, e => by cases e
  | _ :: _, [], _, _, e => by cases e
theorem mean_par {t : TA} {is : List Nat} (m : MeanN Γ.K B t G) {s s' : Stt τ} {σ : List (Option V)} {H S : Hp} {o : Out} (g : Good Γ.K B s σ H S) (e : parM is G s = some (o, s')) {D : Ends} (q : EndOk Γ.K B S o s' D) :
    t σ H fun vs H1 => vs.length = is.length ∧ D.nx (sets σ is vs) H1 := by
  obtain ⟨os, s1, e1, e2⟩ := bnd_some e
  obtain ⟨os', s2, e3, e4⟩ := bnd_some e2
  obtain ⟨_, s3, e5, e6⟩ := bnd_some e4
  obtain ⟨rfl, rfl⟩ := ret_some e6
  refine m s σ H S g os s1 e1 _ fun vs H1 S1 g1 w1 r1 _ => ?_
  obtain ⟨S2, w2, g2, r2, n2, _, _⟩ := fix_of g1 r1 e3
  obtain ⟨S3, w3, g3⟩ := sets_of g2 r2 n2 e5
  exact ⟨by rw [r2.len, sets_len e5], q _ H1 S3 g3 ((w1.same.trans w2).trans w3)⟩
theorem DS.par2 {i j : Nat} {x y : Str} {px py pt : Pos} {kt k2 pt2} (nd : Γ.N.Nodup) (hi : Γ.N[i]? = some x) (hj : Γ.N[j]? = some y) (hij : i ≠ j) (hx : Γ.sc.names.lookup x = some .local) (hy : Γ.sc.names.lookup y = some .local) (h : DN Γ B [a, b] G)
    (hw : ∀ X, Γ.Has X → swappedStores [.Tuple [.Name x px, .Name y py] kt pt] (.Tuple [a, b] k2 pt2) X.env = pure (some [x, y])) (hs : ∀ X : Cx, swapsWithSole [.Tuple [.Name x px, .Name y py] kt pt] (.Tuple [a, b] k2 pt2) pos.line X.env = pure false := by intro _; rfl) :
    DS Γ B (.Assign [.Tuple [.Name x px, .Name y py] kt pt] (.Tuple [a, b] k2 pt2) pos) (parM [i, j] G) := by
  obtain ⟨t, p, m⟩ := h
  refine ⟨tPar i j (fun σ H Q => t σ H fun vs H1 => vs.length = 2 ∧ Q vs H1), fun X h => ?_, fun s σ H S g o s' e D q => ?_⟩
  · refine ps_par h.calm (by rw [h.N]; exact nd) (by rw [h.N]; exact hi) (by rw [h.N]; exact hj) hij (by rw [h.sc]; exact hx) (by rw [h.sc]; exact hy) ⟨fun ps pins s σ H Q I hh => ?_⟩ (hw X h) (hs X)
    refine thn ((p X h).run ps pins s σ H _ I hh) ?_
    rintro us s1 ⟨vs, H1, I1, r1, _, q1⟩
    exact ⟨vs, H1, I1, r1, q1⟩
  · have r := mean_par (is := [i, j]) m g e q
    have key : ∀ (vs : List V) (H1 : Hp), (vs.length = 2 ∧ D.nx (sets σ [i, j] vs) H1) → (vs.length = 2 ∧ ∃ v w, vs = [v, w] ∧ D.nx ((σ.set i (some v)).set j (some w)) H1) := by
      rintro vs H1 ⟨hl, hq⟩
      match vs, hl with
      | [v, w], _ => exact ⟨rfl, v, w, rfl, hq⟩
    have eqq : (fun (vs : List V) (H1 : Hp) => vs.length = [i, j].length ∧ D.nx (sets σ [i, j] vs) H1) = fun vs H1 => vs.length = 2 ∧ ∃ v w, vs = [v, w] ∧ D.nx ((σ.set i (some v)).set j (some w)) H1 := by
      funext vs H1
      refine propext ⟨key vs H1, ?_⟩
      rintro ⟨hl, v, w, rfl, hq⟩
      exact ⟨rfl, hq⟩
    rw [eqq] at r
    exact r
theorem DS.par3 {i j l : Nat} {x y z : Str} {px py pz pt : Pos} {kt k2 pt2} (nd : Γ.N.Nodup) (hi : Γ.N[i]? = some x) (hj : Γ.N[j]? = some y) (hl : Γ.N[l]? = some z) (hij : i ≠ j) (hil : i ≠ l) (hjl : j ≠ l) (hx : Γ.sc.names.lookup x = some .local) (hy : Γ.sc.names.lookup y = some .local) (hz : Γ.sc.names.lookup z = some .local) (h : DN Γ B [a, b, c] G)
    (hw : ∀ X, Γ.Has X → swappedStores [.Tuple [.Name x px, .Name y py, .Name z pz] kt pt] (.Tuple [a, b, c] k2 pt2) X.env = pure (some [x, y, z])) (hs : ∀ X : Cx, swapsWithSole [.Tuple [.Name x px, .Name y py, .Name z pz] kt pt] (.Tuple [a, b, c] k2 pt2) pos.line X.env = pure false := by intro _; rfl) :
    DS Γ B (.Assign [.Tuple [.Name x px, .Name y py, .Name z pz] kt pt] (.Tuple [a, b, c] k2 pt2) pos) (parM [i, j, l] G) := by
  obtain ⟨t, p, m⟩ := h
  refine ⟨tPar3 i j l (fun σ H Q => t σ H fun vs H1 => vs.length = 3 ∧ Q vs H1), fun X h => ?_, fun s σ H S g o s' e D q => ?_⟩
  · refine ps_par3 h.calm (by rw [h.N]; exact nd) (by rw [h.N]; exact hi) (by rw [h.N]; exact hj) (by rw [h.N]; exact hl) hij hil hjl (by rw [h.sc]; exact hx) (by rw [h.sc]; exact hy) (by rw [h.sc]; exact hz) ⟨fun ps pins s σ H Q I hh => ?_⟩ (hw X h) (hs X)
    refine thn ((p X h).run ps pins s σ H _ I hh) ?_
    rintro us s1 ⟨vs, H1, I1, r1, _, q1⟩
    exact ⟨vs, H1, I1, r1, q1⟩
  · have r := mean_par (is := [i, j, l]) m g e q
    have eqq : (fun (vs : List V) (H1 : Hp) => vs.length = [i, j, l].length ∧ D.nx (sets σ [i, j, l] vs) H1) = fun vs H1 => vs.length = 3 ∧ ∃ u v w, vs = [u, v, w] ∧ D.nx (((σ.set i (some u)).set j (some v)).set l (some w)) H1 := by
      funext vs H1
      refine propext ⟨?_, ?_⟩
      · rintro ⟨hl, hq⟩
        match vs, hl with
        | [u, v, w], _ => exact ⟨rfl, u, v, w, rfl, hq⟩
      · rintro ⟨hl, u, v, w, rfl, hq⟩
        exact ⟨rfl, hq⟩
    rw [eqq] at r
    exact r
/-- xs[i] = e, xs a list that the slot owns -/
def setIxM (i : Nat) (F : M τ Opd) (Fi : M τ Opd) : M τ Out := bnd (valM F) fun d => bnd Fi fun oi => bnd (getO oi) fun ix => fun s => match s.env[i]?, ix with
  | some (some (.own xs)), .int k => match ixN xs.length k with
    | some j => some (.nx, { s with env := s.env.set i (some (.own (xs.set j d))) })
    | none => none
  | _, _ => none
theorem DS.setIx {i : Nat} {x : Str} {p0 pt : Pos} {ix : Expr} {Fi : M τ Opd} (hN : Γ.N[i]? = some x) (hv : Vis Γ.sc x) (h : DO Γ B e F) (hi : DO Γ B ix Fi) (hd : (x == ("__debug__" : Str)) = false := by decide) (hcd : (x == ("__classdict__" : Str)) = false := by decide)
    (hs : ∀ X : Cx, swapsWithSole [.Subscript (.Name x p0) ix pt] e pos.line X.env = pure false := by intro _; rfl) (hw : ∀ X : Cx, swappedStores [.Subscript (.Name x p0) ix pt] e X.env = pure none := by intro _; rfl)
    (h1 : ∀ X : Cx, (assignEach [.Subscript (.Name x p0) ix pt] X.env).map (·.2) = [assign (.Subscript (.Name x p0) ix pt) X.env] := by intro _; rfl)
    (ha : ∀ (X : Cx) v, assign (.Subscript (.Name x p0) ix pt) X.env v = (do
      let ov ← holding [v] (eval (.Name x p0) X.env)
      let iv ← holding [v, ov] (eval ix X.env)
      standAt pt
      holding [v, ov, iv] (setItem ov iv v)
      release [v, ov, iv] []) := by intro _ _; rfl) :
    DS Γ B (.Assign [.Subscript (.Name x p0) ix pt] e pos) (bnd (valM F) fun d => bnd (ownAt i) fun _ => setIxM i (DL.ret (Opd.val d)) Fi) := by
  obtain ⟨t, p, m⟩ := h
  obtain ⟨ti, pi, mi⟩ := hi
  refine ⟨tAsg t (gSub (tVar i) ti rSetL), fun X h => ps_asg (p X h) (pg_sub (pe_var (by rw [h.N]; exact hN) (by rw [h.sc]; exact hv) hd hcd) (pi X h) set_list (ha X)) (hs X) (hw X) (h1 X), fun s σ H S g o s' e D q => ?_⟩
  obtain ⟨d, s1, e1, e2⟩ := bnd_some e
  obtain ⟨_, s2, e3, e4⟩ := bnd_some e2
  obtain ⟨d', s3, e5, e6⟩ := bnd_some e4
  have hd' : d' = d ∧ s3 = s2 := by
    have : valM (τ := τ) (DL.ret (Opd.val d)) s2 = some (d, s2) := rfl
    rw [this] at e5
    cases e5
    exact ⟨rfl, rfl⟩
  obtain ⟨rfl, rfl⟩ := hd'
  obtain ⟨oi, s4, e7, e8⟩ := bnd_some e6
  obtain ⟨ixd, s5, e9, e10⟩ := bnd_some e8
  refine m.val g e1 fun v H1 S1 g1 w1 r1 => ?_
  unfold ownAt at e3
  split at e3
  · rename_i xs0 q0
    cases e3
    obtain ⟨pa, vs0, k1, hp0, _⟩ := g1.getOwn q0
    refine ⟨_, k1, mi _ σ H1 S1 g1 oi s4 e7 _ fun u H2 S2 g2 w2 r2 _ => ?_⟩
    obtain ⟨rfl, vy⟩ := view_of g2 r2 e9
    split at e10
    · rename_i xs k q1
      split at e10
      · rename_i j hj
        cases e10
        obtain ⟨pb, vs, k2, hp, hqa, _⟩ := g2.getOwn q1
        rw [k1] at k2
        cases k2
        exact ⟨_, vs, k, j, rfl, vy.int, hp, by rw [hqa.len]; exact hj, q σ _ S2 (g2.change q1 k1 (DqAll.set (Dq.mono w2.same r1) j hqa)) (w1.same.trans w2.same)⟩
      · cases e10
    · cases e10
  · cases e3
/-! in-place operators on plain values -/
theorem oi_add : OpD Γ (inplaceOp .Add) (opI (fun _ _ => true) fun i j => .int (i + j)) := opI0_of (fun _ _ => iop_add) fun _ _ _ => .int _
theorem oi_sub : OpD Γ (inplaceOp .Sub) (opI (fun _ _ => true) fun i j => .int (i - j)) := opI0_of (fun _ _ => iop_sub) fun _ _ _ => .int _
def mulOk1 (i j : Int) : Bool := (decide (-(2 ^ 64) < i) && decide (i < 2 ^ 64)) || (decide (-(2 ^ 64) < j) && decide (j < 2 ^ 64))
theorem oi_mul : OpD Γ (inplaceOp .Mult) (opI mulOk1 fun i j => .int (i * j)) := opI_of (fun _ _ => iop_mul) (fun i j h => by
  unfold mulOk1 at h
  simp only [Bool.or_eq_true, Bool.and_eq_true, decide_eq_true_eq] at h
  exact h) fun _ _ _ => .int _
theorem oi_fdiv : OpD Γ (inplaceOp .FloorDiv) fdivD := opI_of (fun _ _ => iop_fdivW) (fun i j h => by
  have h' := Bool.and_eq_true_iff.mp h
  exact ⟨of_decide_eq_true h'.1, of_decide_eq_true h'.2⟩) fun _ _ _ => .int _

/-! ### the script -/
def scrAt (i : Nat) : M τ (List Int) := fun s => match s.env[i]? with
  | some (some (.s ns)) => some (ns, s)
  | _ => none
def scrL (i : Nat) : M τ (List D) := bnd (scrAt i) fun ns => ret (ns.map PyData.int)
theorem scr_of {K : Frag} {s s' : Stt τ} {σ : List (Option V)} {H S : Hp} {i : Nat} {ns : List Int} (g : Good K B s σ H S) (e : scrAt i s = some (ns, s')) : s' = s ∧ ∃ p, σ[i]? = some (some (.ref p)) ∧ SqL K S p (ns.map V.int) := by
  unfold scrAt at e
  split at e
  · rename_i ms q
    cases e
    obtain ⟨v, h1, p, rfl, h2⟩ := g.slot i _ q
    exact ⟨rfl, p, h1, h2⟩
  · cases e
theorem walkS {K : Frag} {S : Hp} {a : Addr} {ns : List Int} (h : SqL K S a (ns.map V.int)) : DWalk K S (Itl K a) (ns.map PyData.int) where
  go := fun i H hi w => by
    rw [List.length_map] at hi
    obtain ⟨x, hx⟩ := lt_get hi
    exact ⟨_, .int x, Same.seq w h, by rw [List.getElem?_map, hx]; rfl⟩
  stop := fun H w => ⟨_, Same.seq w h, by rw [List.length_map, List.length_map]; exact Nat.le_refl _⟩
  yld := fun i H x H' S1 d hd w w1 y => by
    obtain ⟨rfl, y⟩ := y
    have hx := y _ (Same.seq w1 (Same.seq w h))
    rw [List.getElem?_map] at hd hx
    obtain ⟨n, h1, rfl⟩ := Option.map_eq_some_iff.mp hd
    rw [h1] at hx
    cases hx
    exact ⟨S1, Grow.refl w1, .int n⟩
theorem walkES {K : Frag} {S : Hp} {a : Addr} {ns : List Int} (h : SqL K S a (ns.map V.int)) : DWalk K S (Ite K a) (enumL 0 (ns.map PyData.int)) where
  go := fun i H hi w => by
    rw [enumL_len, List.length_map] at hi
    obtain ⟨x, hx⟩ := lt_get hi
    exact ⟨_, .int x, Same.seq w h, by rw [List.getElem?_map, hx]; rfl⟩
  stop := fun H w => ⟨_, Same.seq w h, by rw [enumL_len, List.length_map, List.length_map]; exact Nat.le_refl _⟩
  yld := fun i H x H' S1 d hd w w1 y => by
    obtain ⟨T, v, rfl, n, rfl, y⟩ := y
    have hx := y _ (Same.seq w1 (Same.seq w h))
    obtain ⟨z, hz, rfl⟩ := enumL_get _ _ _ _ hd
    rw [List.getElem?_map] at hx hz
    obtain ⟨m, h1, rfl⟩ := Option.map_eq_some_iff.mp hz
    rw [h1] at hx
    cases hx
    rw [Nat.zero_add]
    exact new_pair w1 n (.int _) (.int m)
theorem DI.scr {i : Nat} {x : Str} {p : Pos} {tg : Expr} (hN : Γ.N[i]? = some x) (hv : Vis Γ.sc x) (hd : (x == ("__debug__" : Str)) = false := by decide) (hcd : (x == ("__classdict__" : Str)) = false := by decide) : DI Γ B tg (.Name x p) (scrL i) := by
  refine ⟨iList Γ.K (tVar i), fun X h => by have r := pi_list (tg := tg) (pe_var (X := X) (i := i) (x := x) (pos := p) (by rw [h.N]; exact hN) (by rw [h.sc]; exact hv) hd hcd); rw [h.K] at r; exact r, fun s σ H S g xs s' e R q => ?_⟩
  obtain ⟨ns, s1, e1, e2⟩ := bnd_some e
  obtain ⟨rfl, rfl⟩ := ret_some e2
  obtain ⟨rfl, a, h1, h2⟩ := scr_of g e1
  exact ⟨_, h1, a, rfl, ⟨_, Same.seq g.fr.sub h2⟩, q _ H S g Step.refl (walkS h2)⟩
theorem DI.enumScr {i : Nat} {x : Str} {p p2 tpos : Pos} {elts : List Expr} {kk : Nat} (hN : Γ.N[i]? = some x) (hv : Vis Γ.sc x) (hg : Γ.sc.names.lookup ("enumerate" : Str) = some .globalImplicit) (hm : Γ.mg "enumerate" = none) (hd : (x == ("__debug__" : Str)) = false := by decide) (hcd : (x == ("__classdict__" : Str)) = false := by decide) :
    DI Γ B (.Tuple elts kk tpos) (.Call (.Name "enumerate" p) [.Name x p2] [] pos) (bnd (scrL i) fun xs => ret (enumL 0 xs)) := by
  refine ⟨iEnum Γ.K (tCons (tVar i) tNil), fun X h => by
    have r := @pi_enum X (.Name x p2) _ p pos tpos elts kk (gl_of h hg) (by rw [h.mg]; exact hm) (pa_cons (pe_var (i := i) (by rw [h.N]; exact hN) (by rw [h.sc]; exact hv) hd hcd) pa_nil rfl) rfl
    rw [h.K] at r
    exact r, fun s σ H S g xs s' e R q => ?_⟩
  obtain ⟨ys, s1, e1, e2⟩ := bnd_some e
  obtain ⟨rfl, rfl⟩ := ret_some e2
  obtain ⟨ns, s2, e3, e4⟩ := bnd_some e1
  obtain ⟨rfl, rfl⟩ := ret_some e4
  obtain ⟨rfl, a, h1, h2⟩ := scr_of g e3
  exact ⟨_, h1, a, _, rfl, Same.seq g.fr.sub h2, q _ H S g Step.refl (walkES h2)⟩
def lenScr (i : Nat) : M τ Opd := bnd (scrAt i) fun ns => ret (.val (.int ns.length))
theorem DO.lenScr {i : Nat} {x : Str} {p p2 : Pos} (hN : Γ.N[i]? = some x) (hv : Vis Γ.sc x) (hg : Γ.sc.names.lookup ("len" : Str) = some .globalImplicit) (hm : Γ.mg "len" = none) (hd : (x == ("__debug__" : Str)) = false := by decide) (hcd : (x == ("__classdict__" : Str)) = false := by decide) :
    DO Γ B (.Call (.Name "len" p) [.Name x p2] [] pos) (lenScr i) := by
  refine ⟨tCB (fun xs H Q => ∃ x n, xs = [x] ∧ LenV Γ.K x H n ∧ Q (.int n) H) (tCons (tVar i) tNil), fun X h => pe_callB (id := "len") (by have := @call_len X; rw [h.K] at this; exact this) (gl_of h hg) (by rw [h.mg]; exact hm) PySem.boot_len
    (pa_cons (pe_var (i := i) (by rw [h.N]; exact hN) (by rw [h.sc]; exact hv) hd hcd) pa_nil rfl) (by decide) (by decide) rfl rfl, fun s σ H S g o s' e Q q => ?_⟩
  obtain ⟨ns, s1, e1, e2⟩ := bnd_some e
  obtain ⟨rfl, rfl⟩ := ret_some e2
  obtain ⟨rfl, a, h1, h2⟩ := scr_of g e1
  exact ⟨_, h1, _, ns.length, rfl, .inl ⟨_, Same.seq g.fr.sub h2, by rw [List.length_map]⟩, q _ H S g Step.refl (.int _) trivial⟩
end

/-! ### defs of plain data and of the script -/
/-- what a def promises whose arguments are slots (data, the script) -/
def ArgsAt (K : Frag) (S : Hp) : List V → List Sl → Prop
  | [], [] => True
  | v :: vs, z :: zs => (match z with
    | .d x => Dq K S v x
    | .s ns => ∃ p, v = .ref p ∧ SqL K S p (ns.map V.int)
    | _ => False) ∧ ArgsAt K S vs zs
  | _, _ => False
theorem ArgsAt.len {K : Frag} {S : Hp} : ∀ {vs : List V} {zs : List Sl}, ArgsAt K S vs zs → vs.length = zs.length
  | [], [], _ => rfl
  | _ :: _, _ :: _, h => by rw [List.length_cons, List.length_cons, h.2.len]
  | [], _ :: _, h => h.elim
  | _ :: _, [], h => h.elim
theorem ArgsAt.get {K : Frag} {S : Hp} : ∀ {vs : List V} {zs : List Sl} {i : Nat} {z : Sl}, ArgsAt K S vs zs → zs[i]? = some z → ∃ v, vs[i]? = some v ∧ (match z with
    | .d x => Dq K S v x
    | .s ns => ∃ p, v = .ref p ∧ SqL K S p (ns.map V.int)
    | _ => False)
  | [], [], i, z, _, e => by simp at e
  | v :: vs, y :: ys, 0, z, h, e => by
    have e' : y = z := by simpa using e
    subst e'
    exact ⟨v, rfl, h.1⟩
  | v :: vs, y :: ys, i + 1, z, h, e => by
    obtain ⟨u, h1, h2⟩ := ArgsAt.get (i := i) h.2 (by simpa using e)
    exact ⟨u, by simpa using h1, h2⟩
  | [], _ :: _, _, _, h, _ => h.elim
  | _ :: _, [], _, _, h, _ => h.elim
/-- the drawn numbers: what the law keeps in a dict -/
structure DrawSt where
  cells : List Int
  great : List Int
  spot : Int
def drawKvs (pc pg : Addr) (n : Int) : List (Key × V) := [(.inr "cells", .ref pc), (.inr "great", .ref pg), (.inr "spot", .int n)]
def drawAt (pm pg pc : Addr) (st : DrawSt) (H : Hp) : Prop := H pm = some (.dK (drawKvs pc pg st.spot)) ∧ H pg = some (.lst (st.great.map V.int)) ∧ H pc = some (.lst (st.cells.map V.int)) ∧ pg ≠ pc
def drawDr (pm pg pc : Addr) : Dr DrawSt where
  hv := .ref pm
  R := fun b => b = pm ∨ b = pg ∨ b = pc
  At := drawAt pm pg pc
  stay := fun st H H' h k => ⟨k _ _ (.inl rfl) h.1, k _ _ (.inr (.inl rfl)) h.2.1, k _ _ (.inr (.inr rfl)) h.2.2.1, h.2.2.2⟩
  live := fun st H b h r => by
    rcases r with rfl | rfl | rfl
    · rw [h.1]; exact fun z => nomatch z
    · rw [h.2.1]; exact fun z => nomatch z
    · rw [h.2.2.1]; exact fun z => nomatch z
/-- what a def promises that draws: its first argument is the handle -/
def spD (K : Frag) (f : List D → DrawSt → Option (D × DrawSt)) : Sp := fun vs H Q _ => ∃ (pm pg pc : Addr) (S : Hp) (us : List V) (ds : List D) (st : DrawSt) (d : D) (st' : DrawSt), vs = .ref pm :: us ∧ Same S H ∧ (∀ b, (drawDr pm pg pc).R b → S b = none) ∧ drawAt pm pg pc st H ∧
  DqAll K S us ds ∧ f ds st = some (d, st') ∧ ∀ v H' S', Fr (drawDr pm pg pc) H S H' S' → drawAt pm pg pc st' H' → Dq K S' v d → Q v H'
def runD (n : Nat) (F : M DrawSt Out) (ds : List D) (st : DrawSt) : Option (D × DrawSt) := match F ⟨some .h :: (ds.map (fun d => some (.d d)) ++ List.replicate (n - (ds.length + 1)) none), st⟩ with
  | some (.rt d, s') => some (d, s'.dr)
  | some (.nx, s') => some (.none, s'.dr)
  | _ => none
theorem goodD_start {K : Frag} {pm pg pc : Addr} {H S : Hp} {us : List V} {ds : List D} {N : List Str} {st : DrawSt} (w : Same S H) (nr : ∀ b, (drawDr pm pg pc).R b → S b = none) (at_ : drawAt pm pg pc st H) (h : DqAll K S us ds) :
    Good K (B := ⟨drawDr pm pg pc, H, S⟩) ⟨some .h :: (ds.map (fun d => some (.d d)) ++ List.replicate (N.length - (ds.length + 1)) none), st⟩ (L2.start N (.ref pm :: us)) H S := by
  have get : ∀ (i : Nat) (z : Sl), (some Sl.h :: ((ds.map fun d => some (Sl.d d)) ++ List.replicate (N.length - (ds.length + 1)) none))[i]? = some (some z) → (i = 0 ∧ z = .h) ∨ ∃ j d, i = j + 1 ∧ ds[j]? = some d ∧ z = .d d := fun i z e => by
    cases i with
    | zero => simp at e; exact .inl ⟨rfl, e.symm⟩
    | succ j =>
      rw [List.getElem?_cons_succ] at e
      by_cases hi : j < ds.length
      · rw [List.getElem?_append_left (by simpa using hi), List.getElem?_map] at e
        obtain ⟨d, h1, h2⟩ := Option.map_eq_some_iff.mp e
        cases h2
        exact .inr ⟨j, d, rfl, h1, rfl⟩
      · rw [List.getElem?_append_right (by simpa using hi), List.getElem?_replicate] at e
        split at e <;> cases e
  refine ⟨⟨fun b o e _ => e, Same.refl _, w, (fun b o e n => by
    rw [show S b = none from n] at e
    cases e), nr⟩, at_, ?_, fun i z e => ?_, fun i j xs ys n e1 e2 => ?_⟩
  · unfold L2.start
    simp only [List.length_cons, List.length_append, List.length_map, List.length_replicate, h.len]
    omega
  · rcases get i z e with ⟨rfl, rfl⟩ | ⟨j, d, rfl, h1, rfl⟩
    · exact ⟨.ref pm, by unfold L2.start; simp, rfl⟩
    · obtain ⟨v, h2, h3⟩ := h.getD h1
      refine ⟨v, ?_, h3⟩
      unfold L2.start
      have hi : j < us.length := (List.getElem?_eq_some_iff.mp h2).1
      rw [List.map_cons, List.cons_append, List.getElem?_cons_succ, List.getElem?_append_left (by simpa using hi), List.getElem?_map, h2]
      rfl
  · rcases get i _ e1 with ⟨_, q⟩ | ⟨_, d, _, _, q⟩ <;> cases q
/-- THE RULE for a body, whatever its start -/
theorem fnAny {P : Program} {w : World} {K : Frag} {mg : Str → Option Value} {base : Heap} {x qual : Str} {st : Stmt} {f : Addr} {fd : FuncData} {N ps : List Str} {k : Nat} {sp : Sp} (Fn : Fun K x qual st f fd) (Sc : FnScope N ps (defScope st)) (hl : ∀ vs H Q E, sp vs H Q E → vs.length = ps.length)
    (body : ∀ (A : Around) (vs : List V) (H : Hp) (Q : VK) (E : XK), sp vs H Q E → Gam.Ok ⟨P, w, K, mg, base, A, N, defScope st, fun _ => true⟩ k →
      ∃ t : TS, (∀ X, Gam.Has ⟨P, w, K, mg, base, A, N, defScope st, fun _ => true⟩ X → PSs X (defBody st) t) ∧ t { nx := fun _ H' => Q .non H', rt := Q } (L2.start N vs) H) :
    FnG P w K mg base (k + 1) f fd ps sp := by
  obtain ⟨oc, od, kV, doc, pm, an, cdv, ct, osl, rfl, lk, hcd⟩ := Fn.ex
  refine ⟨hl, fun A outer s H args us vs Q E hr gd e0 hb r hsp => ?_⟩
  have hvl := hl _ _ _ _ hsp
  have KX : K.In s.heap := e0.mod.kin.keeps fun b o e => (e0.bs b o e).1
  have lim : s.heap.NoLimit := e0.mod.nolimit.keeps fun b o e => (e0.bs b o e).1
  have hkind : ∀ y ∈ ps.zip us, (defScope st).names.lookup y.1 = some .local ∨
      ((defScope st).names.lookup y.1 = some .cell ∧ ((cellsFrom (s.heap.objs.size + 1) (defScope st).names []).lookup y.1).isSome = true) := by
    rintro ⟨n, v⟩ hy
    rcases Sc.par n (List.of_mem_zip hy).1 with q | q
    · exact .inl q
    · exact .inr ⟨q, PySem.W.cellsFrom_some _ _ _ (.inl q)⟩
  refine codeAny_call_function hr.depth (KX _ _ lk) rfl Sc.co Sc.gen rfl (PySem.W.codeRec_of KX hcd) (hb _ _ _ _ ?_)
  refine wpAny_newFunctionEnv_cells Sc.kind hkind ?_
  intro env he s1 xin
  subst he
  refine ⟨lim.keeps xin.toInCall.keep, codeAny_func ?_⟩
  have I : L2.Inv (cxOf CX0 P w K mg base N qual (defScope st) f cdv A outer s H E) [] (L2.start N vs) H s1 := inv_start Sc hr.hd e0 hvl r xin
  have hr' : Room k (A.deeper (envOfC qual (defScope st) s.heap.objs.size f cdv)) := hr.deeper _
  have hX : Gam.Has ⟨P, w, K, mg, base, A.deeper (envOfC qual (defScope st) s.heap.objs.size f cdv), N, defScope st, fun _ => true⟩ (cxOf CX0 P w K mg base N qual (defScope st) f cdv A outer s H E).nox :=
    ⟨rfl, rfl, rfl, rfl, rfl, rfl, rfl, rfl, rfl, fun _ _ => .inl rfl, PassesOwn.never⟩
  obtain ⟨t, pt, hq⟩ := body (A.deeper (envOfC qual (defScope st) s.heap.objs.size f cdv)) vs H Q E hsp ⟨Sc.nd, hr', gd⟩
  have ht := (pt _ hX).nox
  refine wpAny_mono (ht.run [] s1 (L2.start N vs) H _ I hq) ?_ fun e s' hs => hs
  intro fl s' hs
  match fl, hs with
  | .ret u, ⟨v, σ', H', J, rv, q⟩ => exact ⟨v, H', J.os, J.bare, J.base, J.hok, rv, q⟩
  | .next, ⟨σ', H', J, q⟩ => exact ⟨V.non, H', J.os, J.bare, J.base, J.hok, rfl, q⟩
  | .brk, ⟨_, _, _, q⟩ => exact False.elim q
  | .cont, ⟨_, _, _, q⟩ => exact False.elim q
end DL
end

section
set_option Elab.async false
set_option linter.all false
set_option maxRecDepth 100000
set_option maxHeartbeats 3999999
/-! WEng10: short words for the printed derivations; defs of the script, defs that draw, their calls -/
namespace DL
open L2 PySem PyProof.Rows PySem.Spec
variable {τ α β : Type}
section
variable {Γ : Gam} {B : Bd τ} {pos : Pos} {e a b c : Expr} {es : List Expr} {F Fa Fb : M τ Opd}
theorem nm (i : Nat) {x : Str} (hN : Γ.N[i]? = some x := by rfl) (hv : Vis Γ.sc x := by first | exact Or.inl rfl | exact Or.inr (Or.inl rfl) | exact Or.inr (Or.inr rfl)) (hd : (x == ("__debug__" : Str)) = false := by decide) (hcd : (x == ("__classdict__" : Str)) = false := by decide) : DO Γ B (.Name x pos) (nameM i) := DO.name hN hv hd hcd
/-- a number of the module -/
theorem gi {x : Str} {n : Int} (hm : ∃ t, Γ.mg x = some (.int n t)) (hg : Γ.sc.names.lookup x = some .globalImplicit := by rfl) (hdb : (x == ("__debug__" : Str)) = false := by decide) : DO Γ B (.Name x pos) (ret (.val (.int n))) := by
  obtain ⟨t, hm⟩ := hm
  exact DO.glob hg hm (v := .int n) ⟨t, rfl⟩ (fun _ => .int n) hdb
/-- a tuple of the module -/
theorem gd {x : Str} {d : D} (hm : ∃ a, Γ.mg x = some (.ref a) ∧ ∀ S, Dq Γ.K S (.ref a) d) (hg : Γ.sc.names.lookup x = some .globalImplicit := by rfl) (hdb : (x == ("__debug__" : Str)) = false := by decide) : DO Γ B (.Name x pos) (ret (.val d)) := by
  obtain ⟨a, hm, hd⟩ := hm
  exact DO.glob hg hm (v := .ref a) rfl hd hdb
def negM (F : M τ Opd) : M τ Opd := bnd F fun o => bnd (getO o) fun x => match x with
  | .int i => ret (.val (.int (-i)))
  | _ => stuck
theorem DO.neg (h : DO Γ B a Fa) : DO Γ B (.UnaryOp .USub a pos) (negM Fa) := by
  obtain ⟨t, p, m⟩ := h
  refine ⟨_, fun X h => pe_un un_neg (p X h), fun s σ H S g o s' e Q q => ?_⟩
  obtain ⟨o1, s1, e1, e2⟩ := bnd_some e
  obtain ⟨x, s2, e3, e4⟩ := bnd_some e2
  refine m s σ H S g o1 s1 e1 _ fun v H1 S1 g1 w1 r1 _ => ?_
  obtain ⟨rfl, vx⟩ := view_of g1 r1 e3
  cases x with
  | int i =>
    obtain ⟨rfl, rfl⟩ := ret_some e4
    obtain rfl := vx.int
    exact ⟨i, rfl, q _ H1 S1 g1 w1 (.int _) trivial⟩
  | _ => cases e4
/-- xs.index(x), found -/
def idxD : D → D → Option Int := fun x y => match x with
  | .list xs => if SeqAt.shaped (.list xs) && SeqAt.shaped y then (xs.findIdx? fun z => PyData.eqv z y).map fun (j : Nat) => (j : Int) else none
  | _ => none
def isL (o : Opd) : M τ Unit := bnd (getO o) fun x => match x with
  | .list _ => ret ()
  | _ => stuck
def indexM (F G : M τ Opd) : M τ Opd := bnd (lateM F) fun o => bnd (isL o) fun _ => bnd G fun o2 => bnd (getO o) fun x => bnd (getO o2) fun y => bnd (lift (idxD x y)) fun j => ret (.val (.int j))
theorem findIdx_ok {xs : List D} {y : D} {j : Nat} (h : (xs.findIdx? fun z => PyData.eqv z y) = some j) : ∃ z, xs[j]? = some z ∧ PyData.eqv z y = true ∧ ∀ (m : Nat) (z' : D), m < j → xs[m]? = some z' → PyData.eqv z' y = false := by
  obtain ⟨hl, h1, h2⟩ := List.findIdx?_eq_some_iff_getElem.mp h
  refine ⟨xs[j], List.getElem?_eq_getElem hl, h1, fun m z' hm hz => ?_⟩
  have := h2 m hm
  obtain ⟨hml, hz'⟩ := List.getElem?_eq_some_iff.mp hz
  rw [hz'] at this
  simpa using this
theorem DO.index {k : Nat} (ok : Γ.Ok k) {apos cpos : Pos} (ha : DO Γ B a Fa) (hb : DO Γ B b Fb) (hl : (apos.endLine == cpos.line) = true := by rfl) (hst : ∀ X : Cx, starEach [b] X.env = (false, eval b X.env) :: starEach [] X.env := by intro _; rfl)
    (hbs : ∀ X : Cx, attributeBase a "index" X.env (eval a X.env) = eval a X.env := by intro _; rfl)
    (hfew : ∀ X : Cx, ((backTo cpos (starEach [b] X.env)).all (fun x => !x.1) && (backToKw cpos (keywordEach [] X.env)).all (fun x => x.1.isSome) && decide ([b].length + ([] : List Keyword).length + (if ([] : List Keyword).isEmpty then 0 else 1) < 30)) = true := by intro _; rfl) :
    DO Γ B (.Call (.Attribute a "index" apos) [b] [] cpos) (indexM Fa Fb) := by
  obtain ⟨t, p, m⟩ := ha
  obtain ⟨u, pu, mu⟩ := hb
  refine ⟨tBM Γ.K "list" (rIndexD Γ.K) t (tCons u tNil), fun X h => ?_, fun s σ H S g o s' e Q q => ?_⟩
  · have r := pe_bm (apos := apos) (cpos := cpos) PySem.F.plainAttrs_list PySem.F.slot_list_index PySem.F.type_list_index (mt_indexD (X := X) (by rw [h.A]; exact ok.hu)) (p X h) (pa_cons (pu X h) pa_nil (hst X)) (hbs X) (hfew X) hl (hst X) rfl
    rw [h.K] at r
    exact r
  · obtain ⟨o1, s1, e1, e2⟩ := bnd_some e
    obtain ⟨_, s0, e0, e2⟩ := bnd_some e2
    obtain ⟨o2, s2, e3, e4⟩ := bnd_some e2
    obtain ⟨x, s3, e5, e6⟩ := bnd_some e4
    obtain ⟨y, s4, e7, e8⟩ := bnd_some e6
    obtain ⟨j, s5, e9, e10⟩ := bnd_some e8
    obtain ⟨ez, rfl⟩ := lift_some e9
    obtain ⟨rfl, rfl⟩ := ret_some e10
    obtain ⟨x0, s6, e11, e12⟩ := bnd_some e0
    refine m.late g e1 fun v H1 S1 g1 w1 r1 => ?_
    obtain ⟨rfl, vx0⟩ := view_of g1 r1.rel e11
    cases x0 with
    | list xs0 =>
      obtain ⟨_, rfl⟩ := ret_some e12
      obtain ⟨p0, vs0, rfl, hp0, _⟩ := vx0.lst g1.fr.sub
      refine ⟨.inl ⟨rfl, _, SqL.of hp0⟩, mu _ σ H1 S1 g1 o2 s2 e3 _ fun u H2 S2 g2 w2 r2 _ => ?_⟩
      obtain ⟨rfl, vx⟩ := view_of g2 ((r1.mono w2.same).rel) e5
      obtain ⟨rfl, vy⟩ := view_of g2 r2 e7
      unfold idxD at ez
      split at ez
      · rename_i xs
        split at ez
        · rename_i hz
          obtain ⟨j', h1, rfl⟩ := Option.map_eq_some_iff.mp ez
          obtain ⟨z, k1, k2, k3⟩ := findIdx_ok h1
          obtain ⟨q1, q2⟩ := Bool.and_eq_true_iff.mp hz
          exact ⟨p0, u, y, xs, j', z, rfl, rfl, (vx.full g2.fr.sub).dp, (vy.full g2.fr.sub).dp, q1, q2, k1, k2, k3, q _ H2 S2 g2 (w1.trans w2) (.int _) trivial⟩
        · cases ez
      · cases ez
    | _ => cases e12
end
/-! ### defs -/
def runP2 (np n : Nat) (F : M Unit Out) (ds : List D) : Option D := if ds.length = np then runP n F ds else none
theorem fnP2 {P : Program} {w : World} {K : Frag} {mg : Str → Option Value} {base : Heap} {x qual : Str} {st : Stmt} {f : Addr} {fd : FuncData} {N ps : List Str} {k : Nat} {F : M Unit Out} (Fn : Fun K x qual st f fd) (Sc : FnScope N ps (defScope st))
    (body : ∀ (A : Around) (B : Bd Unit), Gam.Ok ⟨P, w, K, mg, base, A, N, defScope st, fun _ => true⟩ k → DSs ⟨P, w, K, mg, base, A, N, defScope st, fun _ => true⟩ B (defBody st) F) :
    FnG P w K mg base (k + 1) f fd ps (spP K (runP2 ps.length N.length F)) := by
  have hl : ∀ vs H Q E, spP K (runP2 ps.length N.length F) vs H Q E → vs.length = ps.length := by
    rintro vs H Q E ⟨S, ds, d, _, h, e, _⟩
    rw [h.len]
    unfold runP2 at e
    split at e
    · assumption
    · cases e
  refine fnAny Fn Sc hl fun A vs H Q E hsp ok => ?_
  obtain ⟨S, ds, d, wS, hds, hrun, hQ⟩ := hsp
  obtain ⟨t, pt, mt⟩ := body A ⟨dr0, H, S⟩ ok
  refine ⟨t, pt, ?_⟩
  have gs := good_start (K := K) (N := N) wS hds
  unfold runP2 at hrun
  split at hrun
  · unfold runP at hrun
    split at hrun
    · rename_i d' s' e
      cases hrun
      refine mt _ _ H S gs _ _ e _ fun v H' S' fr _ hd => ?_
      exact hQ v H' S' ⟨fun b o e => fr.keep b o e (fun z => z), fr.s, fr.sub, fr.new⟩ hd
    · rename_i s' e
      cases hrun
      refine mt _ _ H S gs _ _ e _ fun σ' H' S' g' w' => ?_
      exact hQ .non H' S' ⟨fun b o e => g'.fr.keep b o e (fun z => z), g'.fr.s, g'.fr.sub, g'.fr.new⟩ .non
    · cases hrun
  · cases hrun
/-- what a def promises that gives a new list -/
def spN (K : Frag) (f : List D → Option (List D)) : Sp := fun vs H Q _ => ∃ S ds xs, Same S H ∧ DqAll K S vs ds ∧ f ds = some xs ∧ ∀ p us H' S', Grow H S H' S' → H' p = some (.lst us) → DqAll K S' us xs → S' p = none → H p = none → Q (.ref p) H'
def runN (np n : Nat) (F : M Unit Out) (ds : List D) : Option (List D) := if ds.length = np then (match F ⟨ds.map (fun d => some (.d d)) ++ List.replicate (n - ds.length) none, ()⟩ with
  | some (.rn xs, _) => some xs
  | _ => none) else none
theorem fnN {P : Program} {w : World} {K : Frag} {mg : Str → Option Value} {base : Heap} {x qual : Str} {st : Stmt} {f : Addr} {fd : FuncData} {N ps : List Str} {k : Nat} {F : M Unit Out} (Fn : Fun K x qual st f fd) (Sc : FnScope N ps (defScope st))
    (body : ∀ (A : Around) (B : Bd Unit), Gam.Ok ⟨P, w, K, mg, base, A, N, defScope st, fun _ => true⟩ k → DSs ⟨P, w, K, mg, base, A, N, defScope st, fun _ => true⟩ B (defBody st) F) :
    FnG P w K mg base (k + 1) f fd ps (spN K (runN ps.length N.length F)) := by
  have hl : ∀ vs H Q E, spN K (runN ps.length N.length F) vs H Q E → vs.length = ps.length := by
    rintro vs H Q E ⟨S, ds, d, _, h, e, _⟩
    rw [h.len]
    unfold runN at e
    split at e
    · assumption
    · cases e
  refine fnAny Fn Sc hl fun A vs H Q E hsp ok => ?_
  obtain ⟨S, ds, xs, wS, hds, hrun, hQ⟩ := hsp
  obtain ⟨t, pt, mt⟩ := body A ⟨dr0, H, S⟩ ok
  refine ⟨t, pt, ?_⟩
  have gs := good_start (K := K) (N := N) wS hds
  unfold runN at hrun
  split at hrun
  · split at hrun
    · rename_i xs' s' e
      cases hrun
      refine mt _ _ H S gs _ _ e _ fun p us H' S' fr _ hp hd ns n0 _ => ?_
      exact hQ p us H' S' ⟨fun b o e => fr.keep b o e (fun z => z), fr.s, fr.sub, fr.new⟩ hp hd ns n0
    · cases hrun
  · cases hrun
def runD2 (np n : Nat) (F : M DrawSt Out) (ds : List D) (st : DrawSt) : Option (D × DrawSt) := if ds.length + 1 = np then runD n F ds st else none
theorem fnD {P : Program} {w : World} {K : Frag} {mg : Str → Option Value} {base : Heap} {x qual : Str} {st : Stmt} {f : Addr} {fd : FuncData} {N ps : List Str} {k : Nat} {F : M DrawSt Out} (Fn : Fun K x qual st f fd) (Sc : FnScope N ps (defScope st))
    (body : ∀ (A : Around) (B : Bd DrawSt), (∃ pm pg pc, B.dr = drawDr pm pg pc) → Gam.Ok ⟨P, w, K, mg, base, A, N, defScope st, fun _ => true⟩ k → DSs ⟨P, w, K, mg, base, A, N, defScope st, fun _ => true⟩ B (defBody st) F) :
    FnG P w K mg base (k + 1) f fd ps (spD K (runD2 ps.length N.length F)) := by
  have hl : ∀ vs H Q E, spD K (runD2 ps.length N.length F) vs H Q E → vs.length = ps.length := by
    rintro vs H Q E ⟨pm, pg, pc, S, us, ds, st, d, st', rfl, _, _, _, h, e, _⟩
    rw [List.length_cons, h.len]
    unfold runD2 at e
    split at e
    · assumption
    · cases e
  refine fnAny Fn Sc hl fun A vs H Q E hsp ok => ?_
  obtain ⟨pm, pg, pc, S, us, ds, st, d, st', rfl, wS, nr, at_, hds, hrun, hQ⟩ := hsp
  obtain ⟨t, pt, mt⟩ := body A ⟨drawDr pm pg pc, H, S⟩ ⟨pm, pg, pc, rfl⟩ ok
  refine ⟨t, pt, ?_⟩
  have gs := goodD_start (K := K) (N := N) wS nr at_ hds
  unfold runD2 at hrun
  split at hrun
  · unfold runD at hrun
    split at hrun
    · rename_i d' s' e
      cases hrun
      exact mt _ _ H S gs _ _ e _ fun v H' S' fr a' hd => hQ v H' S' fr a' hd
    · rename_i s' e
      cases hrun
      exact mt _ _ H S gs _ _ e _ fun σ' H' S' g' w' => hQ .non H' S' g'.fr g'.at_ .non
    · cases hrun
  · cases hrun
/-- a def of the script alone -/
def spS (K : Frag) (f : List Int → Option D) : Sp := fun vs H Q _ => ∃ S a ns d, vs = [.ref a] ∧ Same S H ∧ SqL K S a (ns.map V.int) ∧ f ns = some d ∧ ∀ v H' S', Grow H S H' S' → Dq K S' v d → Q v H'
def runS (n : Nat) (F : M Unit Out) (ns : List Int) : Option D := match F ⟨some (.s ns) :: List.replicate (n - 1) none, ()⟩ with
  | some (.rt d, _) => some d
  | _ => none
theorem fnS {P : Program} {w : World} {K : Frag} {mg : Str → Option Value} {base : Heap} {x qual y : Str} {st : Stmt} {f : Addr} {fd : FuncData} {N : List Str} {k : Nat} {F : M Unit Out} (Fn : Fun K x qual st f fd) (Sc : FnScope N [y] (defScope st))
    (body : ∀ (A : Around) (B : Bd Unit), Gam.Ok ⟨P, w, K, mg, base, A, N, defScope st, fun _ => true⟩ k → DSs ⟨P, w, K, mg, base, A, N, defScope st, fun _ => true⟩ B (defBody st) F) :
    FnG P w K mg base (k + 1) f fd [y] (spS K (runS N.length F)) := by
  have hl : ∀ vs H Q E, spS K (runS N.length F) vs H Q E → vs.length = [y].length := by
    rintro vs H Q E ⟨S, a, ns, d, rfl, _⟩
    rfl
  refine fnAny Fn Sc hl fun A vs H Q E hsp ok => ?_
  obtain ⟨S, a, ns, d, rfl, wS, hq, hrun, hQ⟩ := hsp
  obtain ⟨t, pt, mt⟩ := body A ⟨dr0, H, S⟩ ok
  refine ⟨t, pt, ?_⟩
  have gs : Good K (B := ⟨dr0, H, S⟩) ⟨some (.s ns) :: List.replicate (N.length - 1) none, ()⟩ (L2.start N [.ref a]) H S := by
    have get : ∀ (i : Nat) (z : Sl), (some (Sl.s ns) :: List.replicate (N.length - 1) none)[i]? = some (some z) → i = 0 ∧ z = .s ns := fun i z e => by
      cases i with
      | zero => simp at e; exact ⟨rfl, e.symm⟩
      | succ j =>
        rw [List.getElem?_cons_succ, List.getElem?_replicate] at e
        split at e <;> cases e
    refine ⟨⟨fun b o e _ => e, Same.refl _, wS, (fun b o e n => by
      rw [show S b = none from n] at e
      cases e), fun b r => r.elim⟩, trivial, ?_, fun i z e => ?_, fun i j xs ys n e1 e2 => ?_⟩
    · unfold L2.start
      simp
    · obtain ⟨rfl, rfl⟩ := get i z e
      exact ⟨.ref a, by unfold L2.start; simp, a, rfl, hq⟩
    · obtain ⟨_, q⟩ := get i _ e1
      cases q
  unfold runS at hrun
  split at hrun
  · rename_i d' s' e
    cases hrun
    exact mt _ _ H S gs _ _ e _ fun v H' S' fr _ hd => hQ v H' S' ⟨fun b o e => fr.keep b o e (fun z => z), fr.s, fr.sub, fr.new⟩ hd
  · cases hrun

/-! ### a call that draws -/
structure DefD (P : Program) (w : World) (K : Frag) (mg : Str → Option Value) (base : Heap) (k : Nat) (x : Str) (ps : List Str) (f : List D → DrawSt → Option (D × DrawSt)) : Prop where
  ex : ∃ (a : Addr) (fd : FuncData), FnG P w K mg base k a fd ps (spD K f) ∧ mg x = some (.ref a) ∧ PySem.W.keepIn K (.ref a) = true ∧ Binds K fd ps []
def hAt (i : Nat) : M τ Unit := fun s => match s.env[i]? with
  | some (some .h) => some ((), s)
  | _ => none
def callD (i : Nat) (f : List D → DrawSt → Option (D × DrawSt)) (G : M DrawSt (List D)) : M DrawSt Opd := bnd (hAt i) fun _ => bnd G fun ds => fun s => match f ds s.dr with
  | some (d, st') => some (.val d, { s with dr := st' })
  | none => none
theorem Good.drawn {K : Frag} {B : Bd DrawSt} {pm pg pc : Addr} (hB : B.dr = drawDr pm pg pc) {s : Stt DrawSt} {σ : List (Option V)} {H S H' S' : Hp} {st' : DrawSt} (g : Good K B s σ H S) (fr : Fr (drawDr pm pg pc) H S H' S') (at_ : drawAt pm pg pc st' H') :
    Good K B { s with dr := st' } σ H' S' ∧ Step K B σ s H S { s with dr := st' } H' S' := by
  have nb : ∀ b o, S' b = some o → S b = none → ¬ (drawDr pm pg pc).R b := fun b o e n r => by rw [fr.nor b r] at e; cases e
  have gk : ∀ b o, H b = some o → ¬ (drawDr pm pg pc).R b → H' b = some o := fr.keep
  have ownk : ∀ (p : Addr) (vs : List V), H p = some (.lst vs) → S p = none → ¬ B.dr.R p → H' p = some (.lst vs) ∧ S' p = none := fun p vs h1 h2 h3 => by
    rw [hB] at h3
    refine ⟨gk p _ h1 h3, ?_⟩
    cases q : S' p with
    | none => rfl
    | some u => have := fr.new p u q h2; rw [h1] at this; cases this
  refine ⟨⟨⟨fun b o e r => ?_, g.fr.s.trans fr.s, fr.sub, fun b o e n => ?_, fun b r => ?_⟩, ?_, g.len, fun i z e => ?_, g.disj⟩, ⟨fr.s, fun p h => ?_, fun p xs f => ?_⟩⟩
  · have r' : ¬ (drawDr pm pg pc).R b := by rw [← hB]; exact r
    exact gk b o (g.fr.keep b o e r) r'
  · cases q : S b with
    | some u => exact g.fr.new b u q n
    | none =>
      have hn := fr.new b o e q
      cases q0 : B.H0 b with
      | none => rfl
      | some u => rw [g.fr.keep b u q0 (by rw [hB]; exact nb b o e q)] at hn; cases hn
  · rw [hB] at r
    exact fr.nor b r
  · rw [hB]
    exact at_
  · obtain ⟨v, h1, h2⟩ := g.slot i z e
    refine ⟨v, h1, ?_⟩
    cases z with
    | d x => exact Dq.mono fr.s h2
    | own xs =>
      obtain ⟨p, vs, e1, e2, e3, e4, e5, e6⟩ := h2
      obtain ⟨k1, k2⟩ := ownk p vs e2 e4 e6
      exact ⟨p, vs, e1, k1, DqAll.mono fr.s e3, k2, e5, e6⟩
    | h => exact h2
    | s ns =>
      obtain ⟨p, e1, e2⟩ := h2
      exact ⟨p, e1, Same.seq fr.s e2⟩
    | r lo hi =>
      obtain ⟨p, e1, e2⟩ := h2
      exact ⟨p, e1, fr.s p _ e2⟩
  · cases q : H p with
    | none => rfl
    | some o =>
      by_cases r : (drawDr pm pg pc).R p
      · exact absurd h ((drawDr pm pg pc).live st' H' p at_ r)
      · rw [gk p o q r] at h; cases h
  · obtain ⟨⟨vs, h1, h2⟩, ns, n0, nr, no⟩ := f
    obtain ⟨k1, k2⟩ := ownk p vs h1 ns nr
    exact ⟨⟨vs, k1, DqAll.mono fr.s h2⟩, k2, n0, nr, no⟩
section
variable {Γ : Gam} {B : Bd DrawSt} {pos : Pos} {e : Expr} {es : List Expr} {G : M DrawSt (List D)}
theorem DO.callD {x m : Str} {i : Nat} {p pm' : Pos} {k : Nat} {ps : List Str} {f : List D → DrawSt → Option (D × DrawSt)} (F : DefD Γ.P Γ.w Γ.K Γ.mg Γ.base k x ps f) (hB : ∃ pm pg pc, B.dr = drawDr pm pg pc) {j : Nat} (ok : Γ.Ok j) (hj : k ≤ j) (ha : DV Γ B es G)
    (hN : Γ.N[i]? = some m := by rfl) (hv : Vis Γ.sc m := by first | exact Or.inl rfl | exact Or.inr (Or.inl rfl) | exact Or.inr (Or.inr rfl)) (hg : Γ.sc.names.lookup x = some .globalImplicit := by rfl) (hdb : (x == ("__debug__" : Str)) = false := by decide)
    (hd : (m == ("__debug__" : Str)) = false := by decide) (hcd : (m == ("__classdict__" : Str)) = false := by decide)
    (he : ∀ X : Cx, starEach (.Name m pm' :: es) X.env = (false, eval (.Name m pm') X.env) :: starEach es X.env := by intro _; rfl) (hpl : ∀ X : Cx, (backTo pos (starEach es X.env)).any (·.1) = false := by intro _; rfl) :
    DO Γ B (.Call (.Name x p) (.Name m pm' :: es) [] pos) (DL.callD i f G) := by
  obtain ⟨a, fd, F, hm, hk, hb⟩ := F.ex
  obtain ⟨t, pa, mt⟩ := ha
  refine ⟨tCall (spD Γ.K f) [] E0 (tCons (tVar i) t), fun X h => ?_, fun s σ H S g o s' e Q q => ?_⟩
  · have F' := F.mono hj
    rw [← h.P, ← h.w, ← h.K, ← h.mg, ← h.base] at F'
    have r := pe_callG (x := x) (p := p) (pos := pos) F' (by rw [h.A]; exact ok.room) (by rw [h.A]; exact ok.gd) (gl_of h hg) (by rw [h.mg]; exact hm) (by rw [h.K]; exact hk) (by rw [h.K]; exact hb)
      (pa_cons (pe_var (pos := pm') (i := i) (by rw [h.N]; exact hN) (by rw [h.sc]; exact hv) hd hcd) (pa X h) (he X)) hdb (he X) (hpl X)
    rw [h.K] at r
    exact r
  · obtain ⟨_, s0, e0, e1⟩ := bnd_some e
    obtain ⟨ds, s1, e2, e3⟩ := bnd_some e1
    obtain ⟨pm, pg, pc, hB⟩ := hB
    unfold hAt at e0
    split at e0
    · rename_i q0
      cases e0
      split at e3
      · rename_i d st' ef
        cases e3
        obtain ⟨v, h1, h2⟩ := g.slot i _ q0
        have hv' : v = .ref pm := by
          have h2' : v = B.dr.hv := h2
          rw [hB] at h2'
          exact h2'
        subst hv'
        refine ⟨_, h1, mt _ σ H S g ds s1 e2 _ fun vs H1 S1 g1 w1 r1 => ?_⟩
        have at1 := g1.at_
        have nr1 := g1.fr.nor
        rw [hB] at at1 nr1
        refine ⟨pm, pg, pc, S1, vs, ds, s1.dr, d, st', by rw [List.append_nil], g1.fr.sub, nr1, at1, r1, ef, fun v H2 S2 fr at2 r2 => ?_⟩
        obtain ⟨g2, w2⟩ := g1.drawn hB fr at2
        exact q v H2 S2 g2 (w1.trans w2) r2 trivial
      · cases e3
    · cases e0
end
end DL
end

section
set_option Elab.async false
set_option linter.all false
set_option maxRecDepth 100000
set_option maxHeartbeats 3999999
/-! WEng11: what stands of a def (program, world and base told apart), the law's own call -/
namespace DL
open L2 PySem PyProof.Rows PySem.Spec
variable {τ α β : Type}
theorem Gam.Ok.blk {Γ : Gam} {k : Nat} (h : Γ.Ok k) {sc : Scope} : (Γ.blk sc).Ok k := ⟨h.nd, h.room, h.gd⟩
/-- what the top has written of a def -/
def Has (K : Frag) (mg : Str → Option Value) (x : Str) (st : Stmt) (ps : List Str) : Prop :=
  ∃ (a : Addr) (fd : FuncData), Fun K x x st a fd ∧ mg x = some (.ref a) ∧ PySem.W.keepIn K (.ref a) = true ∧ Binds K fd ps []
structure DefQ (P : Program) (w : World) (K : Frag) (mg : Str → Option Value) (base : Heap) (k : Nat) (x : Str) (ps : List Str) (f : List D → Option D) : Prop where
  ex : ∃ (a : Addr) (fd : FuncData), FnG P w K mg base k a fd ps (spP K f) ∧ mg x = some (.ref a) ∧ PySem.W.keepIn K (.ref a) = true ∧ Binds K fd ps []
structure DefN (P : Program) (w : World) (K : Frag) (mg : Str → Option Value) (base : Heap) (k : Nat) (x : Str) (ps : List Str) (f : List D → Option (List D)) : Prop where
  ex : ∃ (a : Addr) (fd : FuncData), FnG P w K mg base k a fd ps (spN K f) ∧ mg x = some (.ref a) ∧ PySem.W.keepIn K (.ref a) = true ∧ Binds K fd ps []
structure DefS (P : Program) (w : World) (K : Frag) (mg : Str → Option Value) (base : Heap) (k : Nat) (x : Str) (ps : List Str) (f : List Int → Option D) : Prop where
  ex : ∃ (a : Addr) (fd : FuncData), FnG P w K mg base k a fd ps (spS K f) ∧ mg x = some (.ref a) ∧ PySem.W.keepIn K (.ref a) = true ∧ Binds K fd ps []
section
variable {P : Program} {w : World} {K : Frag} {mg : Str → Option Value} {base : Heap}
theorem Has.pure {x : Str} {st : Stmt} {N ps : List Str} {k np n : Nat} {F : M Unit Out} (h : Has K mg x st ps) (Sc : FnScope N ps (defScope st)) (e1 : ps.length = np) (e2 : N.length = n)
    (body : ∀ (A : Around) (B : Bd Unit), Gam.Ok ⟨P, w, K, mg, base, A, N, defScope st, fun _ => true⟩ k → DSs ⟨P, w, K, mg, base, A, N, defScope st, fun _ => true⟩ B (defBody st) F) : DefQ P w K mg base (k + 1) x ps (runP2 np n F) := by
  obtain ⟨a, fd, F, h1, h2, h3⟩ := h
  subst e1 e2
  exact ⟨a, fd, fnP2 F Sc body, h1, h2, h3⟩
theorem Has.fresh {x : Str} {st : Stmt} {N ps : List Str} {k np n : Nat} {F : M Unit Out} (h : Has K mg x st ps) (Sc : FnScope N ps (defScope st)) (e1 : ps.length = np) (e2 : N.length = n)
    (body : ∀ (A : Around) (B : Bd Unit), Gam.Ok ⟨P, w, K, mg, base, A, N, defScope st, fun _ => true⟩ k → DSs ⟨P, w, K, mg, base, A, N, defScope st, fun _ => true⟩ B (defBody st) F) : DefN P w K mg base (k + 1) x ps (runN np n F) := by
  obtain ⟨a, fd, F, h1, h2, h3⟩ := h
  subst e1 e2
  exact ⟨a, fd, fnN F Sc body, h1, h2, h3⟩
theorem Has.draw {x : Str} {st : Stmt} {N ps : List Str} {k np n : Nat} {F : M DrawSt Out} (h : Has K mg x st ps) (Sc : FnScope N ps (defScope st)) (e1 : ps.length = np) (e2 : N.length = n)
    (body : ∀ (A : Around) (B : Bd DrawSt), (∃ pm pg pc, B.dr = drawDr pm pg pc) → Gam.Ok ⟨P, w, K, mg, base, A, N, defScope st, fun _ => true⟩ k → DSs ⟨P, w, K, mg, base, A, N, defScope st, fun _ => true⟩ B (defBody st) F) :
    DefD P w K mg base (k + 1) x ps (runD2 np n F) := by
  obtain ⟨a, fd, F, h1, h2, h3⟩ := h
  subst e1 e2
  exact ⟨a, fd, fnD F Sc body, h1, h2, h3⟩
theorem Has.scr {x y : Str} {st : Stmt} {N : List Str} {k n : Nat} {F : M Unit Out} (h : Has K mg x st [y]) (Sc : FnScope N [y] (defScope st)) (e2 : N.length = n)
    (body : ∀ (A : Around) (B : Bd Unit), Gam.Ok ⟨P, w, K, mg, base, A, N, defScope st, fun _ => true⟩ k → DSs ⟨P, w, K, mg, base, A, N, defScope st, fun _ => true⟩ B (defBody st) F) : DefS P w K mg base (k + 1) x [y] (runS n F) := by
  obtain ⟨a, fd, F, h1, h2, h3⟩ := h
  subst e2
  exact ⟨a, fd, fnS F Sc body, h1, h2, h3⟩
end
section
variable {Γ : Gam} {B : Bd τ} {pos : Pos} {e : Expr} {es : List Expr} {G : M τ (List D)}
theorem DO.callQ {x : Str} {p : Pos} {k : Nat} {ps : List Str} {f : List D → Option D} (F : DefQ Γ.P Γ.w Γ.K Γ.mg Γ.base k x ps f) {j : Nat} (ok : Γ.Ok j) (hj : k ≤ j) (ha : DV Γ B (e :: es) G) (hg : Γ.sc.names.lookup x = some .globalImplicit := by rfl)
    (hdb : (x == ("__debug__" : Str)) = false := by decide) (he : ∀ X : Cx, starEach (e :: es) X.env = (false, eval e X.env) :: starEach es X.env := by intro _; rfl) (hpl : ∀ X : Cx, (backTo pos (starEach es X.env)).any (·.1) = false := by intro _; rfl) :
    DO Γ B (.Call (.Name x p) (e :: es) [] pos) (callP f G) :=
  DO.call (k := k) (ps := ps) ⟨F.ex⟩ ok hj hg ha hdb he hpl
def callN (f : List D → Option (List D)) (G : M τ (List D)) : M τ Opd := bnd G fun ds => bnd (lift (f ds)) fun xs => ret (.new xs)
theorem DO.callN {x : Str} {p : Pos} {k : Nat} {ps : List Str} {f : List D → Option (List D)} (F : DefN Γ.P Γ.w Γ.K Γ.mg Γ.base k x ps f) {j : Nat} (ok : Γ.Ok j) (hj : k ≤ j) (ha : DV Γ B (e :: es) G) (hg : Γ.sc.names.lookup x = some .globalImplicit := by rfl)
    (hdb : (x == ("__debug__" : Str)) = false := by decide) (he : ∀ X : Cx, starEach (e :: es) X.env = (false, eval e X.env) :: starEach es X.env := by intro _; rfl) (hpl : ∀ X : Cx, (backTo pos (starEach es X.env)).any (·.1) = false := by intro _; rfl) :
    DO Γ B (.Call (.Name x p) (e :: es) [] pos) (DL.callN f G) := by
  obtain ⟨a, fd, F, hm, hk, hb⟩ := F.ex
  obtain ⟨t, pa, m⟩ := ha
  refine ⟨tCall (spN Γ.K f) [] E0 t, fun X h => ?_, fun s σ H S g o s' e Q q => ?_⟩
  · have F' := F.mono hj
    rw [← h.P, ← h.w, ← h.K, ← h.mg, ← h.base] at F'
    have r := pe_callG (x := x) (p := p) (pos := pos) F' (by rw [h.A]; exact ok.room) (by rw [h.A]; exact ok.gd) (gl_of h hg) (by rw [h.mg]; exact hm) (by rw [h.K]; exact hk) (by rw [h.K]; exact hb) (pa X h) hdb (he X) (hpl X)
    rw [h.K] at r
    exact r
  · obtain ⟨ds, s1, e1, e2⟩ := bnd_some e
    obtain ⟨xs, s2, e3, e4⟩ := bnd_some e2
    obtain ⟨ez, rfl⟩ := lift_some e3
    obtain ⟨rfl, rfl⟩ := ret_some e4
    refine m s σ H S g ds _ e1 _ fun vs H1 S1 g1 w1 r1 => ?_
    refine ⟨S1, ds, xs, g1.fr.sub, by rw [List.append_nil]; exact r1, ez, fun p us H2 S2 w2 hp hd ns n0 => ?_⟩
    have nr : ¬ B.dr.R p := fun r => g1.live r n0
    refine q (.ref p) H2 S2 (g1.grow w2) (w1.trans w2.step) ⟨p, rfl, ⟨us, hp, hd⟩, ns, ?_, nr, fun j ys ej => ?_⟩ ⟨p, rfl, w1.dom p n0⟩
    · cases q0 : B.H0 p with
      | none => rfl
      | some o =>
        have := g1.fr.keep p o q0 nr
        rw [n0] at this
        cases this
    · obtain ⟨p', vs', h1, h2, _⟩ := g1.getOwn ej
      intro z
      rw [h1] at z
      cases z
      rw [n0] at h2
      cases h2
/-- name = [.. for .. for ..] -/
theorem DS.setLc2 {i : Nat} {x : Str} {py : Pos} {elt tg iter tg1 iter1 : Expr} {ifs ifs1 : List Expr} {scope : Scope} {own : List (Str × Nat)} {us us1 ws1 : List Nat} {cpos : Pos} {Fi Fi1 : M τ (List D)} {G G1 : D → M τ Unit} {T T1 : M τ Bool} {E : M τ Opd} (nd : Γ.N.Nodup) (hk : ∀ X, Γ.Has X → X.env.scope.kind = .function)
    (hx : Γ.N[i]? = some x) (hxl : Γ.sc.names.lookup x = some .local) (hln : (py.line == cpos.line) = true) (hna : (scope.names.any fun (n, k) => n == x && (k == .local || k == .cell)) = false) (hi : DI Γ B tg iter Fi) (ok : BlkOk Γ.N Γ.sc scope own)
    (hg : DG (Γ.blk scope) B tg us G) (hu : ∀ i ∈ us, i ∈ own.map (·.2)) (ht : DTs (Γ.blk scope) B ifs T)
    (hi1 : DI (Γ.blk scope) B tg1 iter1 Fi1) (hg1 : DG (Γ.blk scope) B tg1 us1 G1) (hu1 : ∀ i ∈ us1, i ∈ ws1) (hw : ∀ i ∈ ws1, i ∈ own.map (·.2)) (ht1 : DTs (Γ.blk scope) B ifs1 T1) (he : DO (Γ.blk scope) B elt E)
    (hs : ∀ (X : Cx) y, foldedSetIterable iter X.env y = pure y := by intro _ _; rfl) (hs1 : ∀ env x, foldedSetIterable iter1 env x = pure x := by intro _ _; rfl) :
    DS Γ B (.Assign [.Name x py] (.ListComp elt [⟨tg, iter, ifs, 0⟩, ⟨tg1, iter1, ifs1, 0⟩] scope cpos) pos) (asgM i (lc2M (own.map (·.2)) ws1 Fi G T Fi1 G1 T1 E)) := by
  obtain ⟨wi, pi, mi⟩ := hi
  obtain ⟨g, pg, mg⟩ := hg
  obtain ⟨tt, pt, mt⟩ := ht
  obtain ⟨wi1, pi1, mi1⟩ := hi1
  obtain ⟨g1, pg1, mg1⟩ := hg1
  obtain ⟨tt1, pt1, mt1⟩ := ht1
  obtain ⟨te, pe, me⟩ := he
  exact ⟨_, fun X h => ps_setLc2 h.calm (by rw [h.N]; exact nd) (by rw [h.N]; exact hx) (by rw [h.sc]; exact hxl) (sw_true (hk X h) (by rw [h.sc]; exact hxl) hln hna) (pi X h) (by rw [h.N, h.sc]; exact ok) hw (fun _ _ _ _ _ => pg _ (blk_has h)) (fun _ _ _ _ _ => pt _ (blk_has h))
    (fun _ _ _ _ _ => pi1 _ (blk_has h)) (fun _ _ _ _ _ => pg1 _ (blk_has h)) (fun _ _ _ _ _ => pt1 _ (blk_has h)) (fun _ _ _ _ _ => pe _ (blk_has h)) (hs X) hs1, mean_asg (mean_lc2 mi mg hu mt mi1 mg1 hu1 hw mt1 me)⟩
end
/-- names as the items of a target -/
def gNames : List Nat → TGs
  | [] => gNil
  | i :: is => gCons (gName i) (gNames is)
def DNm (Γ : Gam) (es : List Expr) (is : List Nat) : Prop := ∀ X, Γ.Has X → PGs X es (gNames is)
theorem DNm.nil {Γ : Gam} : DNm Γ [] [] := fun X h => pgs_nil
theorem DNm.cons {Γ : Gam} {x : Str} {p : Pos} {i : Nat} {es : List Expr} {is : List Nat} (nd : Γ.N.Nodup) (hi : Γ.N[i]? = some x) (hx : Loc Γ.sc x) (hf : Γ.fn x = true ∨ Γ.sc.names.lookup x = some .local) (hs : DNm Γ es is)
    (ha : ∀ X : Cx, (assignEach (.Name x p :: es) X.env).map (·.2) = assign (.Name x p) X.env :: (assignEach es X.env).map (·.2) := by intro _; rfl) : DNm Γ (.Name x p :: es) (i :: is) := fun X h =>
  pgs_cons (pg_name (by rw [h.N]; exact nd) (by rw [h.N]; exact hi) (by rw [h.sc]; exact hx) (by
    rcases hf with z | z
    · exact h.fn x z
    · exact .inr (by rw [h.sc]; exact z))) (hs X h) (ha X)
theorem names_run : ∀ {is : List Nat} {vs : List V} {σ : List (Option V)} {H : Hp} {Q : List (Option V) → Hp → Prop}, vs.length = is.length → Q (sets σ is vs) H → gNames is vs σ H Q
  | [], [], σ, H, Q, _, q => ⟨rfl, q⟩
  | i :: is, v :: vs, σ, H, Q, hl, q => ⟨v, vs, rfl, names_run (by simpa using hl) q⟩
  | [], _ :: _, _, _, _, hl, _ => by cases hl
  | _ :: _, [], _, _, _, hl, _ => by cases hl
/-- a, b = (x, y) where the tuple is made -/
theorem DS.unpN {Γ : Gam} {B : Bd τ} {pos : Pos} {es tgs : List Expr} {is : List Nat} {G : M τ (List Opd)} {pt : Pos} {kt k2 pt2} (h : DN Γ B es G) (hg : DNm Γ tgs is) (hz : is.length ≤ 100) (hn : ∀ X : Cx, (assignEach tgs X.env).length = is.length := by intro _; rfl) (hst : ∀ X : Cx, (assignEach tgs X.env).findIdx? (·.1) = none := by intro _; rfl)
    (hw : ∀ X, Γ.Has X → swappedStores [.Tuple tgs kt pt] (.Tuple es k2 pt2) X.env = pure none) (hs : ∀ X : Cx, swapsWithSole [.Tuple tgs kt pt] (.Tuple es k2 pt2) pos.line X.env = pure false := by intro _; rfl)
    (h1 : ∀ X : Cx, (assignEach [.Tuple tgs kt pt] X.env).map (·.2) = [assign (.Tuple tgs kt pt) X.env] := by intro _; rfl) :
    DS Γ B (.Assign [.Tuple tgs kt pt] (.Tuple es k2 pt2) pos) (parM is G) := by
  obtain ⟨t, p, m⟩ := h
  refine ⟨tAsg (tTup t) (gTup Γ.K is.length (gNames is)), fun X h => ?_, fun s σ H S gd o s' e D q => ?_⟩
  · have r := pg_tup (k := kt) (pos := pt) h.calm (hg X h) (hn X) (hst X)
    rw [h.K] at r
    exact ps_asg (pe_tup (p X h)) r (hs X) (hw X h) (h1 X)
  · obtain ⟨os, s1, e1, e2⟩ := bnd_some e
    obtain ⟨os', s2, e3, e4⟩ := bnd_some e2
    obtain ⟨_, s3, e5, e6⟩ := bnd_some e4
    obtain ⟨rfl, rfl⟩ := ret_some e6
    refine m s σ H S gd os s1 e1 _ fun vs H1 S1 g1 w1 r1 _ => ?_
    obtain ⟨S2, w2, g2, r2, n2, _, _⟩ := fix_of g1 r1 e3
    obtain ⟨S3, w3, g3⟩ := sets_of g2 r2 n2 e5
    have hl : vs.length = is.length := by rw [r2.len, sets_len e5]
    refine ⟨by rw [hl, sizeLine_eq]; omega, fun a ha => ⟨a, vs, rfl, SqT.of upd_same, hl, names_run hl ?_⟩⟩
    exact q _ _ S3 (g3.grow (Grow.fresh g3.fr.sub ha)) ((w1.same.trans w2).trans w3)
end DL
end

section
set_option Elab.async false
set_option linter.all false
set_option maxRecDepth 100000
set_option maxHeartbeats 3999999
/-! WEng12: the drawn numbers: what a draw gives, what is begun, the law's own body -/
namespace DL
open L2 PySem PyProof.Rows PySem.Spec
variable {τ α β : Type}
/-- a draw below a limit from the cells -/
def drawC (mix : List D → Option D) (L : Int) (st st1 : DrawSt) : Option (D × DrawSt) := (atI st.cells (st.spot % 64)).bind fun c =>
  (mix [.int (c + 31 * (st.spot / 64)), .int st.spot]).bind fun a => (mix [a, .int (st.spot + 7)]).bind fun b => match b with
    | .int b => some (.int (b % L), st1)
    | _ => none
def drawF (mix : List D → Option D) : List D → DrawSt → Option (D × DrawSt) := fun ds st => match ds with
  | [.int L] => if decide (0 < L) && decide (L.natAbs.log2 < 9000) then
      (if st.great.isEmpty then drawC mix L st ⟨st.cells, st.great, st.spot + 1⟩ else match ixN st.great.length (st.spot % (st.great.length : Nat)) with
        | some j => match st.great[j]? with
          | some c => if 0 < c then some (.int (c % L), ⟨st.cells, st.great.set j (c / L), st.spot + 1⟩) else drawC mix L st ⟨st.cells, st.great, st.spot + 1⟩
          | none => none
        | none => none)
    else none
  | _ => none
theorem frame {K : Frag} {pm pg pc : Addr} {st : DrawSt} {H S H' : Hp} (wS : Same S H) (nr : ∀ b, (drawDr pm pg pc).R b → S b = none) (k : ∀ b o, H b = some o → ¬ (drawDr pm pg pc).R b → H' b = some o) : Fr (drawDr pm pg pc) H S H' S :=
  ⟨k, Same.refl _, fun b o e => k b o (wS b o e) (fun r => by rw [nr b r] at e; cases e), (fun b o e n => by
    rw [show S b = none from n] at e
    cases e), nr⟩
theorem frame_grow {pm pg pc : Addr} {H S H1 H2 S2 : Hp} (f : Fr (drawDr pm pg pc) H S H1 S) (w : Grow H1 S H2 S2) (live : ∀ b, (drawDr pm pg pc).R b → H1 b ≠ none) (d : ∀ b, H1 b = none → H b = none) : Fr (drawDr pm pg pc) H S H2 S2 :=
  ⟨fun b o e r => w.h b o (f.keep b o e r), w.s, w.sub, fun b o e n => d b (w.new b o e n), fun b r => by
    cases q : S2 b with
    | none => rfl
    | some o => exact absurd (w.new b o q (f.nor b r)) (live b r)⟩
theorem at_grow {pm pg pc : Addr} {st : DrawSt} {H1 H2 : Hp} (a : drawAt pm pg pc st H1) (w : Same H1 H2) : drawAt pm pg pc st H2 := ⟨w _ _ a.1, w _ _ a.2.1, w _ _ a.2.2.1, a.2.2.2⟩
theorem kv_spot {pc pg : Addr} {n : Int} : valV (drawKvs pc pg n) (.inr "spot") = some (.int n) := by unfold drawKvs; rfl
theorem kv_great {pc pg : Addr} {n : Int} : valV (drawKvs pc pg n) (.inr "great") = some (.ref pg) := by unfold drawKvs; rfl
theorem kv_cells {pc pg : Addr} {n : Int} : valV (drawKvs pc pg n) (.inr "cells") = some (.ref pc) := by unfold drawKvs; rfl
theorem kv_put {pc pg : Addr} {n m : Int} : putK (drawKvs pc pg n) (.inr "spot") (.int m) = drawKvs pc pg m := by unfold drawKvs; rfl
theorem ne_lst_dK {H : Hp} {a b : Addr} {kvs : List (Key × V)} {xs : List V} (h1 : H a = some (.dK kvs)) (h2 : H b = some (.lst xs)) : a ≠ b := fun e => by rw [e, h2] at h1; cases h1
theorem shaped_ints (ns : List Int) : SeqAt.shaped (.list (ns.map PyData.int)) = true := by
  have h1 : ∀ ns : List Int, PyData.canLayAll0 (ns.map PyData.int) = true := fun ns => by
    induction ns with
    | nil => rfl
    | cons n ns ih => simp [PyData.canLayAll0, PyData.canLay0, ih]
  have h2 : ∀ ns : List Int, PyData.depthAll (ns.map PyData.int) ≤ 1 := fun ns => by
    induction ns with
    | nil => simp [PyData.depthAll]
    | cons n ns ih => simp [PyData.depthAll, PyData.depth] at *; omega
  have h3 := h2 ns
  unfold SeqAt.shaped
  simp [PyData.canLay0, PyData.depth, h1]
  omega
theorem eqv_nil (ns : List Int) : PyData.eqv (.list (ns.map PyData.int)) (.list []) = ns.isEmpty := by
  cases ns <;> simp [PyData.eqv, PyData.eqvAll]
/-- what _law_draw's body does -/
def rAdd1 : R2 := rI0 fun i j => .int (i + j)
def rMod1 : R2 := rI (fun _ j => 0 < j) fun i j => .int (i % j)
def rDiv1 : R2 := rI CDivW fun i j => .int (i / j)
def rMul1 : R2 := rI CMul fun i j => .int (i * j)
def rGt1 : R2 := rI0 fun i j => .bl (decide (j < i))
def rInt1 : List V → Hp → VK → Prop := fun xs H Q => (∃ i, xs = [.int i] ∧ Q (.int i) H) ∨ ∃ k, xs = [.bl k] ∧ Q (.int (if k then 1 else 0)) H
def rLen1 (K : Frag) : List V → Hp → VK → Prop := fun xs H Q => ∃ x n, xs = [x] ∧ LenV K x H n ∧ Q (.int n) H
def tInt (t : TE) : TE := tCB rInt1 (tCons t tNil)
def tMix (K : Frag) (mix : List D → Option D) (a b : TE) : TE := tCall (spP K mix) [] E0 (tCons a (tCons b tNil))
def tRest (K : Frag) (mix : List D → Option D) : TS := tSeq (tAsg (tDGet (tVar 0) (tC (.str "cells"))) (gName 3)) (tRet (tOp rMod1 (tInt (tMix K mix
  (tMix K mix (tOp rAdd1 (tOp (rIxL K) (tVar 3) (tOp rMod1 (tInt (tVar 2)) (tC (.int 64)))) (tOp rMul1 (tC (.int 31)) (tOp rDiv1 (tVar 2) (tC (.int 64))))) (tVar 2)) (tOp rAdd1 (tVar 2) (tC (.int 7))))) (tVar 1)))
def tGreat (K : Frag) : TS := tSeq (tAsg (tDGet (tVar 0) (tC (.str "great"))) (gName 3)) (tSeq (tAsg (tOp rMod1 (tInt (tVar 2)) (tCB (rLen1 K) (tCons (tVar 3) tNil))) (gName 4)) (tSeq (tAsg (tOp (rIxL K) (tVar 3) (tVar 4)) (gName 5))
  (tIfS (tTest (tOp rGt1 (tVar 5) (tC (.int 0)))) (tSeq (tAsg (tOp rDiv1 (tVar 5) (tVar 1)) (gSub (tVar 3) (tVar 4) rSetL)) (tRet (tOp rMod1 (tInt (tVar 5)) (tVar 1)))) tNext)))
def tDraw (K : Frag) (mix : List D → Option D) : TS := tSeq (tAsg (tDGet (tVar 0) (tC (.str "spot"))) (gName 2)) (tSeq (sDPut (tVar 0) (tC (.str "spot")) (tOp rAdd1 (tVar 2) (tC (.int 1))))
  (tSeq (tIfS (tTest (tOp (rNeD K) (tDGet (tVar 0) (tC (.str "great"))) (tLst tNil))) (tGreat K) tNext) (tRest K mix)))
section
variable {K : Frag} {mix : List D → Option D} {pm pg pc : Addr} {st : DrawSt} {H S H1 : Hp} {L : Int} {Q : VK}
theorem dget_spot (e : H pm = some (.dK (drawKvs pc pg n))) : DGet H pm (.str "spot") (some (.int n)) := by
  have := DGet.k (k := .inr "spot") e
  rw [kv_spot] at this
  exact this
theorem dget_great (e : H pm = some (.dK (drawKvs pc pg n))) : DGet H pm (.str "great") (some (.ref pg)) := by
  have := DGet.k (k := .inr "great") e
  rw [kv_great] at this
  exact this
theorem dget_cells (e : H pm = some (.dK (drawKvs pc pg n))) : DGet H pm (.str "cells") (some (.ref pc)) := by
  have := DGet.k (k := .inr "cells") e
  rw [kv_cells] at this
  exact this
theorem atI_map {α β : Type} (f : α → β) (xs : List α) (i : Int) : atI (xs.map f) i = (atI xs i).map f := by
  unfold atI
  rw [List.length_map]
  cases ixN xs.length i <;> simp
/-- the draw from the cells -/
theorem rest_run {d : D} {st' : DrawSt} {σ : List (Option V)} {D : Ends} (s0 : σ[0]? = some (some (.ref pm))) (s1 : σ[1]? = some (some (.int L))) (s2 : σ[2]? = some (some (.int st.spot))) (s3 : 3 < σ.length)
    (hL : 0 < L) (a1 : drawAt pm pg pc ⟨st.cells, st.great, st.spot + 1⟩ H1) (wS : Same S H1) (he : drawC mix L st ⟨st.cells, st.great, st.spot + 1⟩ = some (d, st'))
    (hD : D.rt = Q) (hQ : ∀ v H' S', Grow H1 S H' S' → drawAt pm pg pc st' H' → Dq K S' v d → Q v H') : tRest K mix D σ H1 := by
  unfold drawC at he
  obtain ⟨c, e1, he⟩ := Option.bind_eq_some_iff.mp he
  obtain ⟨a, e2, he⟩ := Option.bind_eq_some_iff.mp he
  obtain ⟨b, e3, he⟩ := Option.bind_eq_some_iff.mp he
  split at he
  · rename_i b
    cases he
    have g : ∀ (i : Nat) (x : V), i ≠ 3 → σ[i]? = some (some x) → (σ.set 3 (some (V.ref pc)))[i]? = some (some x) := fun i x n e => by rw [List.getElem?_set_ne (fun q => n q.symm)]; exact e
    have g3 : (σ.set 3 (some (V.ref pc)))[3]? = some (some (V.ref pc)) := List.getElem?_set_self s3
    refine ⟨_, s0, pm, _, rfl, dget_cells a1.1, ?_⟩
    have hc : atI (st.cells.map V.int) (st.spot % 64) = some (.int c) := by rw [atI_map, e1]; rfl
    refine ⟨_, g3, _, g 2 _ (by decide) s2, .inl ⟨_, rfl, _, _, rfl, rfl, (by show (0 : Int) < 64; decide), pc, _, _, _, rfl, rfl, SqL.of a1.2.2.1, hc, _, g 2 _ (by decide) s2, _, _, rfl, rfl, ⟨by decide, by decide⟩, _, _, rfl, rfl, .inl ⟨by decide, by decide⟩, _, _, rfl, rfl, _, g 2 _ (by decide) s2, ?_⟩⟩
    refine ⟨S, [.int (c + 31 * (st.spot / 64)), .int st.spot], a, wS, .cons (.int _) (.cons (.int _) .nil), e2, fun v H2 S2 w2 r2 => ?_⟩
    refine ⟨_, g 2 _ (by decide) s2, _, _, rfl, rfl, ?_⟩
    refine ⟨S2, [a, .int (st.spot + 7)], .int b, w2.sub, .cons r2 (.cons (.int _) .nil), e3, fun v H3 S3 w3 r3 => ?_⟩
    cases r3
    refine .inl ⟨_, rfl, _, g 1 _ (by decide) s1, _, _, rfl, rfl, hL, ?_⟩
    rw [hD]
    exact hQ _ H3 S3 (w2.trans w3) (at_grow (st := ⟨st.cells, st.great, st.spot + 1⟩) a1 (w2.trans w3).h) (.int _)
  · cases he
theorem draw_run {d : D} {st' : DrawSt} {v2 v3 v4 v5 : Option V} {D : Ends} (wS : Same S H) (nr : ∀ b, (drawDr pm pg pc).R b → S b = none) (at_ : drawAt pm pg pc st H) (he : drawF mix [.int L] st = some (d, st')) (hD : D.rt = Q)
    (hQ : ∀ v H' S', Fr (drawDr pm pg pc) H S H' S' → drawAt pm pg pc st' H' → Dq K S' v d → Q v H') : tDraw K mix D [some (.ref pm), some (.int L), v2, v3, v4, v5] H := by
  obtain ⟨cells, great, spot⟩ := st
  unfold drawF at he
  simp only at he
  split at he
  · rename_i hz
    obtain ⟨q1, q2⟩ := Bool.and_eq_true_iff.mp hz
    have hL : 0 < L := of_decide_eq_true q1
    have hL2 : L.natAbs.log2 < 9000 := of_decide_eq_true q2
    obtain ⟨a1, a2, a3, a4⟩ := at_
    refine ⟨_, rfl, pm, _, rfl, dget_spot a1, ?_⟩
    refine ⟨_, rfl, _, _, rfl, rfl, _, rfl, pm, _, rfl, DPut.k (k := .inr "spot") a1 (by show 3 < sizeLine; rw [sizeLine_eq]; decide), ?_⟩
    rw [kv_put]
    refine ⟨_, rfl, pm, _, rfl, dget_great (n := spot + 1) upd_same, by decide, fun p hp => ?_⟩
    have npm : p ≠ pm := fun e => by rw [e, upd_same] at hp; cases hp
    have npg : pg ≠ pm := (ne_lst_dK a1 a2).symm
    have npc : pc ≠ pm := (ne_lst_dK a1 a3).symm
    have hpH : H p = none := by rw [upd_ne npm] at hp; exact hp
    have np : ∀ b o, H b = some o → b ≠ p := fun b o e q => by rw [q, hpH] at e; cases e
    have b1 : upd (upd H pm (.dK (drawKvs pc pg (spot + 1)))) p (.lst []) pm = some (.dK (drawKvs pc pg (spot + 1))) := by rw [upd_ne npm.symm, upd_same]
    have b2 : upd (upd H pm (.dK (drawKvs pc pg (spot + 1)))) p (.lst []) pg = some (.lst (great.map V.int)) := by rw [upd_ne (np _ _ a2), upd_ne npg]; exact a2
    have b3 : upd (upd H pm (.dK (drawKvs pc pg (spot + 1)))) p (.lst []) pc = some (.lst (cells.map V.int)) := by rw [upd_ne (np _ _ a3), upd_ne npc]; exact a3
    have kp : ∀ b o, H b = some o → ¬ (drawDr pm pg pc).R b → upd (upd H pm (.dK (drawKvs pc pg (spot + 1)))) p (.lst []) b = some o := fun b o e r => by
      rw [upd_ne (np _ _ e), upd_ne fun q => r (.inl q)]; exact e
    have dm : ∀ b, upd (upd H pm (.dK (drawKvs pc pg (spot + 1)))) p (.lst []) b = none → H b = none := fun b e => by
      by_cases q : b = p
      · rw [q, upd_same] at e; cases e
      · rw [upd_ne q] at e
        by_cases q' : b = pm
        · rw [q', upd_same] at e; cases e
        · rw [upd_ne q'] at e; exact e
    have bp : upd (upd H pm (.dK (drawKvs pc pg (spot + 1)))) p (.lst []) p = some (.lst []) := upd_same
    generalize upd (upd H pm (.dK (drawKvs pc pg (spot + 1)))) p (.lst []) = H1 at b1 b2 b3 kp dm bp
    have f1 : Fr (drawDr pm pg pc) H S H1 S := frame (K := K) (st := ⟨cells, great, spot⟩) wS nr kp
    have lv : ∀ b, (drawDr pm pg pc).R b → H1 b ≠ none := fun b r => (drawDr pm pg pc).live ⟨cells, great, spot + 1⟩ H1 b ⟨b1, b2, b3, a4⟩ r
    have rest : ∀ (σ : List (Option V)) (D : Ends), σ[0]? = some (some (.ref pm)) → σ[1]? = some (some (.int L)) → σ[2]? = some (some (.int spot)) → 3 < σ.length → D.rt = Q → drawC mix L ⟨cells, great, spot⟩ ⟨cells, great, spot + 1⟩ = some (d, st') → tRest K mix D σ H1 :=
      fun σ D s0 s1 s2 s3 hD e => rest_run (st := ⟨cells, great, spot⟩) s0 s1 s2 s3 hL ⟨b1, b2, b3, a4⟩ f1.sub e hD fun v H' S' w a r => hQ v H' S' (frame_grow f1 w lv dm) a r
    refine ⟨.list (great.map PyData.int), .list [], Dp.lst (SqL.of b2) (DqAll.dp (H := H1) (DqAll.ints great)), Dp.lst (SqL.of bp) .nil, shaped_ints great, shaped_ints [], _, rfl, ?_⟩
    rw [eqv_nil]
    cases great with
    | nil => exact rest _ _ rfl rfl rfl (by simp) hD he
    | cons z zs =>
      refine iteT ?_
      rw [if_neg (by simp)] at he
      split at he
      · rename_i j e1
        split at he
        · rename_i c e2
          have hat : atI ((z :: zs).map V.int) (spot % (((z :: zs).map V.int).length : Nat)) = some (V.int c) := by
            unfold atI
            rw [List.length_map, e1]
            show ((z :: zs).map V.int)[j]? = _
            rw [List.getElem?_map, e2]
            rfl
          have hpos : (0 : Int) < (((z :: zs).map V.int).length : Nat) := by simp
          refine ⟨_, rfl, pm, _, rfl, dget_great b1, _, rfl, .inl ⟨_, rfl, _, rfl, _, _, rfl, .inl ⟨_, SqL.of b2, rfl⟩, _, _, rfl, rfl, hpos, ?_⟩⟩
          refine ⟨_, rfl, _, rfl, pg, _, _, _, rfl, rfl, SqL.of b2, hat, ?_⟩
          refine ⟨_, rfl, _, _, rfl, rfl, _, rfl, ?_⟩
          split at he
          · rename_i hc
            cases he
            rw [if_pos (decide_eq_true hc)]
            refine ⟨_, rfl, _, rfl, _, _, rfl, rfl, ⟨hL, hL2⟩, _, rfl, _, rfl, pg, _, _, j, rfl, rfl, b2, by rw [List.length_map]; exact e1, ?_⟩
            refine ⟨_, rfl, .inl ⟨_, rfl, _, rfl, _, _, rfl, rfl, hL, ?_⟩⟩
            show D.rt _ _
            rw [hD]
            refine hQ _ _ S (frame (K := K) (st := ⟨cells, z :: zs, spot⟩) wS nr fun b o e r => ?_) ⟨?_, ?_, ?_, a4⟩ (.int _)
            · rw [upd_ne fun q => r (.inr (.inl q))]
              exact kp b o e r
            · rw [upd_ne npg.symm]
              exact b1
            · rw [upd_same, List.map_set]
            · rw [upd_ne a4.symm]
              exact b3
          · rename_i hc
            rw [if_neg (by simpa using hc)]
            exact rest _ _ rfl rfl rfl (by simp) hD he
        · cases he
      · cases he
  · cases he
end
end DL
end

section
set_option Elab.async false
set_option linter.all false
set_option maxRecDepth 100000
set_option maxHeartbeats 3999999
/-! WEng13: what a law begins with, the law's own body -/
namespace DL
open L2 PySem PyProof.Rows PySem.Spec
variable {τ α β : Type}
def rGe1 : R2 := rI0 fun i j => .bl (decide (j ≤ i))
def rPow1 : R2 := rI CPow fun i j => .int (i ^ j.toNat)
def greatOf (ns : List Int) : List Int := ns.map fun c => if 1000000000000000000 ≤ c then c else 0
def tBegun (K : Frag) (fold : List Int → Option D) : TS :=
  tSeq (tAsg (tDisp [(tC (.str "cells"), tCall (spS K fold) [] E0 (tCons (tVar 0) tNil)), (tC (.str "great"), tLst tNil), (tC (.str "spot"), tC (.int 0))]) (gName 1))
  (tSeq (sDPut (tVar 1) (tC (.str "great")) (tLc (iList K (tVar 0)) (gName 2) tYes (tIf (tTest (tOp rGe1 (tVar 2) (tOp rPow1 (tC (.int 10)) (tC (.int 18))))) (tVar 2) (tC (.int 0))) [2])) (tRet (tVar 1)))
/-- what begins: the numbers laid in a dict -/
def spB (K : Frag) (fold : List Int → Option D) : Sp := fun vs H Q _ => ∃ (a : Addr) (ns cells : List Int), vs = [.ref a] ∧ Only H ∧ SqL K H a (ns.map V.int) ∧ ns.length ≤ 63 ∧ fold ns = some (.list (cells.map PyData.int)) ∧
  ∀ pm pg pc H', Same H H' → drawAt pm pg pc ⟨cells, greatOf ns, 0⟩ H' → (∀ b, (drawDr pm pg pc).R b → H b = none) → Q (.ref pm) H'
theorem intsV_of {K : Frag} {S : Hp} : ∀ {vs : List V} {ns : List Int}, DqAll K S vs (ns.map PyData.int) → vs = ns.map V.int
  | _, [], h => by cases h; rfl
  | _, n :: ns, h => by
    cases h with
    | cons h1 h2 =>
      cases h1
      rw [intsV_of h2]
      rfl
theorem great_step {ns : List Int} {i : Nat} {z : Int} (h : ns[i]? = some z) : greatOf (ns.take (i + 1)) = greatOf (ns.take i) ++ [if 1000000000000000000 ≤ z then z else 0] := by
  unfold greatOf
  rw [List.take_add_one, h]
  simp
theorem begun_run {K : Frag} {fold : List Int → Option D} {a : Addr} {ns cells : List Int} {H : Hp} {Q : VK} {v1 v2 : Option V} {D : Ends} (hO : Only H) (hq : SqL K H a (ns.map V.int)) (hl : ns.length ≤ 63) (hf : fold ns = some (.list (cells.map PyData.int)))
    (hD : D.rt = Q) (hQ : ∀ pm pg pc H', Same H H' → drawAt pm pg pc ⟨cells, greatOf ns, 0⟩ H' → (∀ b, (drawDr pm pg pc).R b → H b = none) → Q (.ref pm) H') : tBegun K fold D [some (.ref a), v1, v2] H := by
  intro p hp
  have w0 : Same H (upd H p (.dK [])) := Same.upd hp
  refine ⟨_, rfl, H, a, ns, _, rfl, w0, hq, hf, fun v H2 S2 w2 r2 => ?_⟩
  cases r2 with
  | @lst pc xs ds e1 e2 =>
  obtain rfl := intsV_of e2
  have hpc : H pc = none := by
    rcases hO pc with q | ⟨o, ys, q⟩
    · exact q
    · have := w2.s _ _ q
      rw [e1] at this
      cases this
  have c2 : H2 pc = some (.lst (cells.map V.int)) := w2.sub _ _ e1
  have p2 : H2 p = some (.dK []) := w2.h _ _ upd_same
  refine ⟨Nat.zero_le _, fun pg0 hg0 => ?_⟩
  have n1 : p ≠ pg0 := ne_of_none p2 hg0
  have n2 : pc ≠ pg0 := ne_of_none c2 hg0
  have n3 : pc ≠ p := fun e => by rw [e, p2] at c2; cases c2
  refine ⟨by rw [upd_ne n1]; exact p2, drawKvs pc pg0 0, rfl, (by show 3 ≤ 15; decide), ?_⟩
  have w4 : Same H (upd (upd H2 pg0 (.lst [])) p (.dK (mergeK [] (drawKvs pc pg0 0)))) := fun b o e => by
    have nb : b ≠ p := ne_of_none e hp
    have h2 : H2 b = some o := w2.h _ _ (w0 _ _ e)
    rw [upd_ne nb, upd_ne (ne_of_none h2 hg0)]
    exact h2
  have c4 : upd (upd H2 pg0 (.lst [])) p (.dK (mergeK [] (drawKvs pc pg0 0))) pc = some (.lst (cells.map V.int)) := by
    rw [upd_ne n3, upd_ne n2]
    exact c2
  have p4 : upd (upd H2 pg0 (.lst [])) p (.dK (mergeK [] (drawKvs pc pg0 0))) p = some (.dK (drawKvs pc pg0 0)) := by
    rw [upd_same]
    rfl
  generalize upd (upd H2 pg0 (.lst [])) p (.dK (mergeK [] (drawKvs pc pg0 0))) = H4 at w4 c4 p4
  refine ⟨_, rfl, a, rfl, ⟨_, Same.seq w4 hq⟩, fun G hG => ?_⟩
  have wG : ∀ o, Same H4 (upd H4 G o) := fun o => Same.upd hG
  refine lc_list (K := K) (a := a) (xs := ns.map V.int) (fun i H' => H' = upd H4 G (.lst ((greatOf (ns.take i)).map V.int))) (by rw [List.take_zero]; rfl) (fun i H' _ e => ?_) (fun i x H' hx e => ?_) fun H' e => ?_
  · rw [e]
    exact Same.seq (w4.trans (wG _)) hq
  · subst e
    rw [List.getElem?_map] at hx
    obtain ⟨z, hz, rfl⟩ := Option.map_eq_some_iff.mp hx
    refine ⟨rfl, ?_⟩
    dsimp only [tYes]
    rw [if_pos rfl]
    refine ⟨_, rfl, _, _, rfl, rfl, ⟨by decide, by decide, by decide⟩, _, _, rfl, rfl, _, rfl, ?_⟩
    have hi : i < ns.length := (List.getElem?_eq_some_iff.mp hz).1
    have hlen : ((greatOf (ns.take i)).map V.int).length < sizeLine := by
      unfold greatOf
      rw [List.length_map, List.length_map, List.length_take, sizeLine_eq]
      omega
    have fin : ∀ u : Int, u = (if 1000000000000000000 ≤ z then z else 0) → ∃ acc, upd H4 G (.lst ((greatOf (ns.take i)).map V.int)) G = some (.lst acc) ∧ acc.length < sizeLine ∧ upd (upd H4 G (.lst ((greatOf (ns.take i)).map V.int))) G (.lst (acc ++ [V.int u])) = upd H4 G (.lst ((greatOf (ns.take (i + 1))).map V.int)) := fun u hu =>
      ⟨_, upd_same, hlen, by rw [upd_upd, great_step hz, List.map_append, hu]; rfl⟩
    rw [show ((10 : Int) ^ Int.toNat 18) = 1000000000000000000 from by decide]
    dsimp only
    by_cases hc : (1000000000000000000 : Int) ≤ z
    · rw [if_pos (decide_eq_true hc)]
      exact ⟨_, rfl, fin z (by rw [if_pos hc])⟩
    · rw [if_neg (by simpa using hc)]
      exact fin 0 (by rw [if_neg hc])
  · rw [List.length_map, List.take_length] at e
    subst e
    have np : p ≠ G := ne_of_none p4 hG
    have nc : pc ≠ G := ne_of_none c4 hG
    refine ⟨_, rfl, p, _, rfl, DPut.k (k := .inr "great") (by rw [upd_ne np]; exact p4) (by show 3 < sizeLine; rw [sizeLine_eq]; decide), _, rfl, ?_⟩
    show D.rt _ _
    rw [hD]
    refine hQ p G pc _ (fun b o e => ?_) ⟨by rw [upd_same]; rfl, by rw [upd_ne np.symm, upd_same], by rw [upd_ne n3, upd_ne nc]; exact c4, nc.symm⟩ fun b r => ?_
    · rw [upd_ne (ne_of_none e hp)]
      exact wG _ _ _ (w4 _ _ e)
    · rcases r with rfl | rfl | rfl
      · exact hp
      · exact w4.free hG
      · exact hpc
/-- what the law promises its caller -/
def spLaw (K : Frag) : Sp := fun vs H Q _ => ∃ (a : Addr) (ns : List Int), vs = [.ref a] ∧ Only H ∧ SqL K H a (ns.map V.int) ∧ ns.length ≤ 63 ∧ ∀ H', Q (.bl true) H'
/-- the law's body holds: after the first statement the rest returns True -/
def RunsTrue (n : Nat) (fold : List Int → Option D) (F : M DrawSt Out) : Prop := ∀ ns : List Int, ns.length ≤ 63 → ∃ (cells : List Int) (s' : Stt DrawSt), fold ns = some (.list (cells.map PyData.int)) ∧
  F ⟨some (.s ns) :: some .h :: List.replicate n none, ⟨cells, greatOf ns, 0⟩⟩ = some (.rt (.bool true), s')
def LawQ (P : Program) (w : World) (K : Frag) (mg : Str → Option Value) (base : Heap) (k : Nat) (x : Str) (ps : List Str) (sp : Sp) : Prop :=
  ∃ (a : Addr) (fd : FuncData), FnG P w K mg base k a fd ps sp ∧ mg x = some (.ref a) ∧ PySem.W.keepIn K (.ref a) = true ∧ Binds K fd ps []
theorem law_run {K : Frag} {F : M DrawSt Out} {t : TS} {n : Nat} {a : Addr} {ns cells : List Int} {H : Hp} {Q : VK} {s' : Stt DrawSt} {pm pg pc : Addr} {H1 : Hp} (hO : Only H) (hq : SqL K H a (ns.map V.int)) (w : Same H H1)
    (at_ : drawAt pm pg pc ⟨cells, greatOf ns, 0⟩ H1) (nr : ∀ b, (drawDr pm pg pc).R b → H b = none) (m : MeanS K ⟨drawDr pm pg pc, H1, H⟩ t F) (e : F ⟨some (.s ns) :: some .h :: List.replicate n none, ⟨cells, greatOf ns, 0⟩⟩ = some (.rt (.bool true), s'))
    (hQ : ∀ H', Q (.bl true) H') (D : Ends) (hD : D.rt = Q) : t D (some (.ref a) :: some (.ref pm) :: List.replicate n none) H1 := by
  refine m ⟨some (.s ns) :: some .h :: List.replicate n none, ⟨cells, greatOf ns, 0⟩⟩ _ H1 H ⟨⟨fun b o e _ => e, Same.refl _, w, fun b o e n => ?_, nr⟩, at_, by simp, fun i z e => ?_, fun i j xs ys _ e1 => ?_⟩ _ _ e D ?_
  · rw [show H b = none from n] at e
    cases e
  · match i, e with
    | 0, e => cases e; exact ⟨.ref a, rfl, a, rfl, hq⟩
    | 1, e => cases e; exact ⟨.ref pm, rfl, rfl⟩
    | i + 2, e =>
      simp only [List.getElem?_cons_succ, List.getElem?_replicate] at e
      split at e <;> cases e
  · match i, e1 with
    | 0, e => cases e
    | 1, e => cases e
    | i + 2, e =>
      simp only [List.getElem?_cons_succ, List.getElem?_replicate] at e
      split at e <;> cases e
  · intro v H' S' _ _ r
    cases r
    rw [hD]
    exact hQ H'
/-- a term of rules chosen late -/
def tEx (p : TS → Prop) : TS := fun D σ H => ∃ t, p t ∧ t D σ H
theorem pss_ex {X : Cx} {sts : List Stmt} {p : TS → Prop} (h : ∀ t, p t → PSs X sts t) : PSs X sts (tEx p) := ⟨fun pins s σ H D I ⟨t, pt, q⟩ => (h t pt).run pins s σ H D I q⟩
end DL
end

section
set_option Elab.async false
set_option linter.all false
set_option maxRecDepth 100000
set_option maxHeartbeats 3999999
/-! WEng15: xs.pop(i) as a value, sorted of whole numbers, sorted(set(..)) of whole numbers -/
namespace DL
open L2 PySem PyProof.Rows PySem.Spec
variable {τ α β : Type}
theorem DqAll.erase {K : Frag} {S : Hp} : ∀ (n : Nat) {vs : List V} {ds : List D}, DqAll K S vs ds → DqAll K S (vs.eraseIdx n) (ds.eraseIdx n)
  | _, _, _, .nil => .nil
  | 0, _, _, .cons _ t => t
  | n + 1, _, _, .cons g t => .cons g (DqAll.erase n t)
theorem Free.changeS {K : Frag} {B : Bd τ} {s : Stt τ} {σ : List (Option V)} {H S : Hp} {p q : Addr} {i : Nat} {xs ys zs : List D} {ws : List V} (f : Free K B s σ H S p xs) (e : s.env[i]? = some (some (.own ys))) (h1 : σ[i]? = some (some (.ref q))) :
    Free K B { s with env := s.env.set i (some (.own zs)) } σ (upd H q (.lst ws)) S p xs := by
  obtain ⟨⟨vs, hp, ha⟩, ns, n0, nr, no⟩ := f
  refine ⟨⟨vs, by rw [upd_ne (fun z => no i ys e (by rw [z]; exact h1))]; exact hp, ha⟩, ns, n0, nr, fun j us e' => ?_⟩
  rcases set_get e' with ⟨rfl, _⟩ | ⟨_, q⟩
  · exact no _ ys e
  · exact no j us q
/-- the list that a slot owns changes: what is left of it -/
theorem step_change {K : Frag} {B : Bd τ} {s : Stt τ} {σ : List (Option V)} {H S : Hp} {q : Addr} {i : Nat} {ys zs : List D} {vs ws : List V} (e : s.env[i]? = some (some (.own ys))) (h1 : σ[i]? = some (some (.ref q))) (hq : H q = some (.lst vs)) :
    Step K B σ s H S { s with env := s.env.set i (some (.own zs)) } (upd H q (.lst ws)) S :=
  ⟨Same.refl _, fun p h => by
    by_cases z : p = q
    · subst z; rw [upd_same] at h; cases h
    · rw [upd_ne z] at h; exact h, fun p xs f => f.changeS e h1⟩
section
variable {Γ : Gam} {B : Bd τ} {pos : Pos} {e : Expr} {F : M τ Opd}
/-- xs.pop(e) -/
def popIx (i : Nat) (y : D) : M τ Opd := fun s => match s.env[i]?, y with
  | some (some (.own xs)), .int k => if decide (-(2 ^ 63) ≤ k) && decide (k < 2 ^ 63) then (match seqIndex? k xs.length with
    | some j => (match xs[j]? with
      | some d => some (.val d, { s with env := s.env.set i (some (.own (xs.eraseIdx j))) })
      | none => none)
    | none => none) else none
  | _, _ => none
def popM (i : Nat) (F : M τ Opd) : M τ Opd := bnd (ownAt i) fun _ => bnd F fun o => bnd (getO o) fun y => popIx i y
theorem DO.pop {i : Nat} {x : Str} {p0 apos cpos : Pos} (hN : Γ.N[i]? = some x) (hv : Vis Γ.sc x) (h : DO Γ B e F) (hl : (apos.endLine == cpos.line) = true := by rfl) (hst : ∀ X : Cx, starEach [e] X.env = (false, eval e X.env) :: starEach [] X.env := by intro _; rfl)
    (hd : (x == ("__debug__" : Str)) = false := by decide) (hcd : (x == ("__classdict__" : Str)) = false := by decide)
    (hb : ∀ X : Cx, attributeBase (.Name x p0) "pop" X.env (eval (.Name x p0) X.env) = eval (.Name x p0) X.env := by intro _; rfl)
    (hfew : ∀ X : Cx, ((backTo cpos (starEach [e] X.env)).all (fun x => !x.1) && (backToKw cpos (keywordEach [] X.env)).all (fun x => x.1.isSome) && decide ([e].length + ([] : List Keyword).length + (if ([] : List Keyword).isEmpty then 0 else 1) < 30)) = true := by intro _; rfl) :
    DO Γ B (.Call (.Attribute (.Name x p0) "pop" apos) [e] [] cpos) (popM i F) := by
  obtain ⟨t, p, m⟩ := h
  refine ⟨tBM Γ.K "list" rPopAt (tVar i) (tCons t tNil), fun X h => by
      have r := pe_bm PySem.F.plainAttrs_list PySem.F.slot_list_pop PySem.F.type_list_pop mt_popAt (pe_var (i := i) (by rw [h.N]; exact hN) (by rw [h.sc]; exact hv) hd hcd) (pa_cons (p X h) pa_nil (hst X)) (hb X) (hfew X) hl (hst X) rfl
      rw [h.K] at r
      exact r,
    fun s σ H S g o s' e Q q => ?_⟩
  obtain ⟨_, s0, e0, e⟩ := bnd_some e
  obtain ⟨o1, s1, e1, e2⟩ := bnd_some e
  obtain ⟨y, s2, e3, e4⟩ := bnd_some e2
  unfold ownAt at e0
  split at e0
  · rename_i xs0 q0
    cases e0
    obtain ⟨pa, vs0, h1, hp0, _⟩ := g.getOwn q0
    refine ⟨_, h1, .inl ⟨rfl, _, SqL.of hp0⟩, m s σ H S g o1 s1 e1 _ fun v H1 S1 g1 w1 r1 _ => ?_⟩
    obtain ⟨rfl, vy⟩ := view_of g1 r1 e3
    unfold popIx at e4
    split at e4
    · rename_i xs k q1
      split at e4
      · rename_i hk
        obtain ⟨k1, k2⟩ := Bool.and_eq_true_iff.mp hk
        split at e4
        · rename_i j hj
          split at e4
          · rename_i d hd'
            cases e4
            obtain ⟨pb, vs, h2, hp, ha, _⟩ := g1.getOwn q1
            rw [h1] at h2
            cases h2
            obtain ⟨u, hu, ru⟩ := ha.getD hd'
            obtain rfl := vy.int
            refine ⟨_, vs, k, j, u, rfl, rfl, hp, of_decide_eq_true k1, of_decide_eq_true k2, by rw [ha.len]; exact hj, hu, ?_⟩
            exact q u _ S1 (g1.change q1 h1 (DqAll.erase j ha)) (w1.trans (step_change q1 h1 hp)) ru trivial
          · cases e4
        · cases e4
      · cases e4
    · cases e4
  · cases e0
/-! ### sorted -/
def insI (x : Int) : List Int → List Int
  | [] => [x]
  | y :: r => if x ≤ y then x :: y :: r else y :: insI x r
def sortI : List Int → List Int
  | [] => []
  | x :: r => insI x (sortI r)
theorem insI_perm (x : Int) : ∀ l : List Int, (insI x l).Perm (x :: l)
  | [] => .refl _
  | y :: r => by
    unfold insI
    split
    · exact .refl _
    · exact ((insI_perm x r).cons y).trans (.swap x y r)
theorem sortI_perm : ∀ l : List Int, (sortI l).Perm l
  | [] => .refl _
  | x :: r => (insI_perm x (sortI r)).trans ((sortI_perm r).cons x)
theorem insI_sorted (x : Int) : ∀ {l : List Int}, l.Pairwise (· ≤ ·) → (insI x l).Pairwise (· ≤ ·)
  | [], _ => by simp [insI]
  | y :: r, h => by
    unfold insI
    obtain ⟨h1, h2⟩ := List.pairwise_cons.mp h
    split
    · rename_i hxy
      refine List.pairwise_cons.mpr ⟨fun z hz => ?_, h⟩
      rcases List.mem_cons.mp hz with rfl | hz
      · exact hxy
      · exact Int.le_trans hxy (h1 z hz)
    · rename_i hxy
      refine List.pairwise_cons.mpr ⟨fun z hz => ?_, insI_sorted x h2⟩
      rcases List.mem_cons.mp ((insI_perm x r).mem_iff.mp hz) with rfl | hz
      · omega
      · exact h1 z hz
theorem sortI_sorted : ∀ l : List Int, (sortI l).Pairwise (· ≤ ·)
  | [] => .nil
  | x :: r => insI_sorted x (sortI_sorted r)
theorem sortI_eq {l m : List Int} (p : m.Perm l) (h : m.Pairwise (· ≤ ·)) : m = sortI l :=
  List.Perm.eq_of_pairwise (le := (· ≤ ·)) (fun a b _ _ h1 h2 => Int.le_antisymm h1 h2) h (sortI_sorted l) (p.trans (sortI_perm l).symm)
def sortedD : List D → Option Opd := fun xs => match xs with
  | [.list ys] => (intsOf ys).map fun ns => .new ((sortI ns).map .int)
  | _ => none
theorem cd_sorted : CallD Γ (.builtin "sorted") sortedD := by
  refine ⟨rSortedI Γ.K, fun X h => by have := @cr_sortedI X; rw [h.K] at this; exact this, fun H S vs xs o w vl e Q q => ?_⟩
  unfold sortedD at e
  split at e
  · rename_i ys
    obtain ⟨v, rfl, vx⟩ := viewL1 vl
    obtain ⟨p, us, rfl, hp, ha⟩ := vx.lst w
    obtain ⟨ns, e1, rfl⟩ := Option.map_eq_some_iff.mp e
    obtain rfl := ints_of ha e1
    refine ⟨p, ns, rfl, SqL.of hp, fun ns' p' pm pw n => ?_⟩
    rw [sortI_eq pm pw]
    exact q _ _ _ (.new n (DqAll.ints _))
  · cases e
/-! ### sorted(set(e)), e a tuple of whole numbers -/
def rSetT (K : Frag) (w : World) : List V → Hp → VK → Prop := fun vs H Q => ∃ (a : Addr) (ns : List Int), vs = [V.ref a] ∧ SqT K H a (ns.map V.int) ∧ ns.length < 64 ∧ ∀ (p : Addr) (c : Nat), H p = none → c ≤ ns.length → Q (.ref p) (upd H p (SetO w p (fun j => decide (j ∈ ns)) c))
theorem cr_setT {X : Cx} (hc : X.calm = true) : CallR X (.type "set") (rSetT X.K X.w) := by
  intro pins s σ H vs us Q I r h
  obtain ⟨a, ns, rfl, hs, hl, q⟩ := h
  obtain ⟨its, rv, hT, hz⟩ := I.tuple hs
  rw [Vals.ref1 r]
  have hi := rv.ints
  have h64 : (64 : Nat) < scanBound := by decide
  refine call_set_tupI ns (I.ok.hd hc) hT hi (by omega) fun h' tk c R hcl k => ?_
  have hp : s.heap.objs.size ≤ s.heap.objs.size := Nat.le_refl _
  have hn : H s.heap.objs.size = none := I.hok.fresh hp
  have J : Inv X pins σ (upd H s.heap.objs.size (SetO X.w s.heap.objs.size (fun j => decide (j ∈ ns)) c)) { s with heap := h', gens := s.gens, drawn := s.drawn, toks := tk } :=
    I.call (ch := []) (Un.laid k hp hn) (I.hok.laid k hp (setO_new R)) I.bare (fun _ z => nomatch z)
  exact ⟨.ref s.heap.objs.size, _, J, rfl, q s.heap.objs.size c hn hcl⟩
def dd : List Int → List Int
  | [] => []
  | x :: r => if x ∈ r then dd r else x :: dd r
theorem dd_mem (x : Int) : ∀ l : List Int, x ∈ dd l ↔ x ∈ l
  | [] => Iff.rfl
  | y :: r => by
    unfold dd
    split
    · rename_i h
      rw [dd_mem x r, List.mem_cons]
      exact ⟨.inr, fun z => z.elim (fun z => z ▸ h) id⟩
    · rw [List.mem_cons, List.mem_cons, dd_mem x r]
theorem dd_nodup : ∀ l : List Int, (dd l).Nodup
  | [] => .nil
  | y :: r => by
    unfold dd
    split
    · exact dd_nodup r
    · rename_i h
      exact List.nodup_cons.mpr ⟨fun z => h ((dd_mem y r).mp z), dd_nodup r⟩
theorem sortI_dd {l m : List Int} (h : m.Pairwise (· < ·)) (hm : ∀ k, k ∈ m ↔ k ∈ l) : m = sortI (dd l) := by
  refine sortI_eq ?_ (h.imp fun {a b} z => Int.le_of_lt z)
  refine (List.perm_ext_iff_of_nodup (h.imp fun {a b} z => Int.ne_of_lt z) (dd_nodup l)).mpr fun k => ?_
  rw [hm, dd_mem]
def setT (x : D) : Option Opd := match x with
  | .tuple ys => (intsOf ys).bind fun ns => if decide (ns.length < 64) then some (.new ((sortI (dd ns)).map .int)) else none
  | _ => none
def sortSetM (F : M τ Opd) : M τ Opd := bnd (lateM F) fun o => bnd (getO o) fun x => lift (setT x)
theorem DO.sortSet {p p2 pos2 : Pos} (hg1 : Γ.sc.names.lookup ("sorted" : Str) = some .globalImplicit) (hm1 : Γ.mg "sorted" = none) (hg2 : Γ.sc.names.lookup ("set" : Str) = some .globalImplicit) (hm2 : Γ.mg "set" = none) (ha : DO Γ B e F)
    (he : ∀ X : Cx, starEach [e] X.env = (false, eval e X.env) :: starEach [] X.env := by intro _; rfl)
    (he1 : ∀ X : Cx, starEach [.Call (.Name "set" p2) [e] [] pos2] X.env = (false, eval (.Call (.Name "set" p2) [e] [] pos2) X.env) :: starEach [] X.env := by intro _; rfl) :
    DO Γ B (.Call (.Name "sorted" p) [.Call (.Name "set" p2) [e] [] pos2] [] pos) (sortSetM F) := by
  obtain ⟨t, pa, m⟩ := ha
  refine ⟨tCB (rSortedSet Γ.w) (tCons (tCB (rSetT Γ.K Γ.w) (tCons t tNil)) tNil), fun X h => ?_, fun s σ H S g o s' e Q q => ?_⟩
  · have c1 := cr_setT h.calm
    have c2 := cr_sortedSet h.calm
    have r1 := pe_callTy (p := p2) (pos := pos2) c1 (gl_of h hg2) (by rw [h.mg]; exact hm2) (by decide +kernel) (pa_cons (pa X h) pa_nil (he X)) (by decide) (by decide) (he X) rfl
    have r2 := pe_callB (p := p) (pos := pos) c2 (gl_of h hg1) (by rw [h.mg]; exact hm1) (by decide +kernel) (pa_cons r1 pa_nil (he1 X)) (by decide) (by decide) (he1 X) rfl
    rw [h.K, h.w] at r2
    exact r2
  · obtain ⟨o1, s1, e1, e2⟩ := bnd_some e
    obtain ⟨x, s2, e3, e4⟩ := bnd_some e2
    obtain ⟨ez, rfl⟩ := lift_some e4
    refine m.late g e1 fun v H1 S1 g1 w1 r1 => ?_
    obtain ⟨rfl, vx⟩ := view_of g1 r1.rel e3
    unfold setT at ez
    split at ez
    · rename_i ys
      obtain ⟨p, us, rfl, hp, hq⟩ := vx.tup
      obtain ⟨ns, e5, e6⟩ := Option.bind_eq_some_iff.mp ez
      split at e6
      · rename_i hl
        cases e6
        obtain rfl := ints_of hq e5
        have hl := of_decide_eq_true hl
        refine ⟨p, ns, rfl, seqT_mono g1.fr.sub hp, hl, fun c n hc hn => ?_⟩
        have gr := Grow.fresh (o := SetO Γ.w c (fun j => decide (j ∈ ns)) n) g1.fr.sub hc
        have g2 := g1.grow gr
        refine ⟨c, _, n, rfl, upd_same, by omega, fun ms d h1 h2 h3 h4 => ?_⟩
        have em := sortI_dd h1 (l := ns) (fun k => by rw [h2 k]; exact decide_eq_true_iff)
        obtain ⟨g3, f⟩ := Good.free g2 h4 (DqAll.ints ms)
        rw [← em] at q
        have st := (w1.trans gr.step).trans (Grow.fresh (o := .lst (ms.map V.int)) g2.fr.sub h4).step
        exact q _ _ _ g3 st ⟨d, rfl, f⟩ ⟨d, rfl, (w1.trans gr.step).dom d h4⟩
      · cases e6
    · cases ez
end
end DL
end

section
set_option Elab.async false
set_option linter.all false
set_option maxRecDepth 100000
set_option maxHeartbeats 3999999
/-! WEng16: ranges in slots; a table (a list of lists that change) kept as the thing that B carries; calls that look at it -/
namespace L2
open PySem PySem.Spec PyProof.Rows
section
variable {X : Cx} {tg : Expr}
theorem cr_range1 : CallR X (.type "range") (fun vs H Q => ∃ j, vs = [V.int j] ∧ ∀ p, H p = none → Q (.ref p) (upd H p (.rng 0 j))) := by
  intro pins s σ H vs us Q I r h
  obtain ⟨j, rfl, q⟩ := h
  cases r with
  | cons r rr =>
    cases rr
    obtain ⟨t, rfl⟩ := r
    refine call_range_1 ⟨.ref s.heap.objs.size, upd H s.heap.objs.size (.rng 0 j), I.laid (t' := s.toks + 1 + 1) (fun b o e => Heap.get?_push_of_some _ e) (Nat.le_refl _) ?_, rfl, q _ (I.hok.fresh (Nat.le_refl _))⟩
    exact ⟨_, t, _, Heap.get?_push_size _ rfl⟩
def iRngV (ta : TE) : TI := fun σ H R => ta σ H fun x H1 => ∃ a lo hi, x = .ref a ∧ H1 a = some (.rng lo hi) ∧ -(2 ^ 62) ≤ lo ∧ lo < 2 ^ 62 ∧ -(2 ^ 62) ≤ hi ∧ hi < 2 ^ 62 ∧ R (Itr lo (hi - lo).toNat) H1
theorem pi_rngV {l : Expr} {tl : TE} (hl : PE X l tl) : PI X tg l (iRngV tl) := by
  refine ⟨fun pins s σ H R I h => ?_⟩
  refine thn (hl.run pins s σ H _ I h) fun v s1 ⟨x, H1, I1, r1, q1⟩ => ?_
  obtain ⟨a, lo, hi, e, hq, h1, h2, h3, h4, q⟩ := q1
  subst e
  cases r1
  obtain ⟨t, u, v, hg⟩ := I1.hok a _ hq
  refine wpAny_pyIter_range (a := lo) (b := hi) (c := 1) (t := t) (u := u) (v := v) hg (small_one h1 h2 h3 h4) ?_
  refine ⟨s1.heap.objs.size, [s1.heap.objs.size], _, _, H1, rfl, I1.kept (t' := s1.toks) fun b o e => Heap.get?_push_of_some _ e, turn_range _ lo (hi - lo).toNat, ?_, fun b hb => ?_, q⟩
  · have e1 : lo + ((0 : Nat) : Int) * 1 = lo := by simp
    have e2 : (((hi - lo).toNat : Nat) : Int) - ((0 : Nat) : Int) = Builtin.Range.rangeSize lo hi 1 := by rw [rangeSize_one]; split <;> omega
    show IsRangeIter _ _ (lo + ((0 : Nat) : Int) * 1) ((((hi - lo).toNat : Nat) : Int) - ((0 : Nat) : Int)) 1
    rw [e1, e2]
    exact Heap.get?_push_size _ rfl
  · have e : b = s1.heap.objs.size := by simpa using hb
    subst e
    exact I1.fpOk (Nat.le_refl _) (I1.hok.fresh (Nat.le_refl _))
end
end L2
namespace DL
open L2 PySem PyProof.Rows PySem.Spec
variable {τ α β : Type}
/-! ### ranges -/
section
variable {K : Frag} {B : Bd τ} {s : Stt τ} {σ : List (Option V)} {H S : Hp}
theorem Good.setR (g : Good K B s σ H S) {i : Nat} {p : Addr} {lo hi : Int} (h : S p = some (.rng lo hi)) : Good K B { s with env := s.env.set i (some (.r lo hi)) } (σ.set i (some (.ref p))) H S := by
  refine ⟨g.fr, g.at_, by simp [g.len], fun j z e => ?_, fun j k xs ys n e1 e2 => ?_⟩
  · have hl : i = j → j < σ.length := fun q => by
      subst q
      have := set_at (l := s.env) e
      rw [← g.len]; exact this
    rcases set_get e with ⟨rfl, e'⟩ | ⟨n, e'⟩
    · cases e'
      exact ⟨_, List.getElem?_set_self (hl rfl), p, rfl, h⟩
    · rw [List.getElem?_set_ne n]
      exact g.slot j z e'
  · rcases set_get e1 with ⟨_, q⟩ | ⟨n1, e1'⟩
    · cases q
    rcases set_get e2 with ⟨_, q⟩ | ⟨n2, e2'⟩
    · cases q
    rw [List.getElem?_set_ne n1, List.getElem?_set_ne n2]
    exact g.disj j k xs ys n e1' e2'
end
def numO (o : Opd) : M τ Int := bnd (getO o) fun x => match x with
  | .int i => ret i
  | _ => stuck
theorem num_of {K : Frag} {B : Bd τ} {s s' : Stt τ} {σ : List (Option V)} {H S : Hp} {v : V} {o : Opd} {i : Int} (g : Good K B s σ H S) (r : RelO K B s σ H S v o) (e : numO o s = some (i, s')) : s' = s ∧ v = .int i := by
  obtain ⟨x, s1, e1, e2⟩ := bnd_some e
  obtain ⟨rfl, vx⟩ := view_of g r e1
  cases x with
  | int j =>
    obtain ⟨rfl, rfl⟩ := ret_some e2
    exact ⟨rfl, vx.int⟩
  | _ => cases e2
section
variable {Γ : Gam} {B : Bd τ} {pos : Pos} {e a b : Expr} {F Fa Fb : M τ Opd}
def setRgM (i : Nat) (F : M τ Opd) : M τ Out := bnd F fun o => bnd (numO o) fun n => fun s => some (.nx, { s with env := s.env.set i (some (.r 0 n)) })
theorem DS.setRg {i : Nat} {x : Str} {pos' p cpos : Pos} (nd : Γ.N.Nodup) (hi : Γ.N[i]? = some x) (hx : Loc Γ.sc x) (hf : Γ.fn x = true ∨ Γ.sc.names.lookup x = some .local) (h : DO Γ B e F) (hg : Γ.sc.names.lookup ("range" : Str) = some .globalImplicit) (hm : Γ.mg "range" = none)
    (he : ∀ X : Cx, starEach [e] X.env = (false, eval e X.env) :: starEach [] X.env := by intro _; rfl)
    (hs : ∀ X : Cx, swapsWith (.Call (.Name "range" p) [e] [] cpos) (some (.Name x pos')) pos.line X.env = pure false := by intro _; rfl) : DS Γ B (.Assign [.Name x pos'] (.Call (.Name "range" p) [e] [] cpos) pos) (setRgM i F) := by
  obtain ⟨t, pe, m⟩ := h
  refine ⟨_, fun X h => ps_set (by rw [h.N]; exact nd) (by rw [h.N]; exact hi) (by rw [h.sc]; exact hx) (pe_callTy cr_range1 (gl_of h hg) (by rw [h.mg]; exact hm) (by decide +kernel) (pa_cons (pe X h) pa_nil (he X)) (by decide) (by decide) (he X) rfl) (hs X) (by
    rcases hf with z | z
    · exact h.fn x z
    · exact .inr (by rw [h.sc]; exact z)), fun s σ H S g o s' e D q => ?_⟩
  obtain ⟨o1, s1, e1, e2⟩ := bnd_some e
  obtain ⟨n, s2, e3, e4⟩ := bnd_some e2
  cases e4
  refine m s σ H S g o1 s1 e1 _ fun v H1 S1 g1 w1 r1 _ => ?_
  obtain ⟨rfl, rfl⟩ := num_of g1 r1 e3
  refine ⟨n, rfl, fun p hp => ?_⟩
  have gr := Grow.alloc (o := .rng 0 n) g1.fr.sub hp
  exact q _ _ _ ((g1.grow gr).setR upd_same) (w1.same.trans gr.s)
def rngAt (i : Nat) : M τ (List D) := fun s => match s.env[i]? with
  | some (some (.r lo hi)) => if rgOk lo hi then some (rgD lo hi, s) else none
  | _ => none
theorem DI.rng {i : Nat} {x : Str} {p : Pos} {tg : Expr} (hN : Γ.N[i]? = some x) (hv : Vis Γ.sc x) (hd : (x == ("__debug__" : Str)) = false := by decide) (hcd : (x == ("__classdict__" : Str)) = false := by decide) : DI Γ B tg (.Name x p) (rngAt i) := by
  refine ⟨iRngV (tVar i), fun X h => pi_rngV (pe_var (by rw [h.N]; exact hN) (by rw [h.sc]; exact hv) hd hcd), fun s σ H S g xs s' e R q => ?_⟩
  unfold rngAt at e
  split at e
  · rename_i lo hi e1
    split at e
    · rename_i hz
      cases e
      obtain ⟨v, h1, a, rfl, h2⟩ := g.slot i _ e1
      obtain ⟨b1, b2, b3, b4, b5⟩ := rgOk_of hz
      exact ⟨_, h1, a, lo, hi, rfl, g.fr.sub _ _ h2, b1, b2, b3, b4, q _ H S g Step.refl (walkR lo hi)⟩
    · cases e
  · cases e
end

/-! ### a table: a list of lists of plain values, all of them changed in place -/
def noH : Hp := fun _ => none
theorem noH_same (S : Hp) : Same noH S := fun b o e => by cases e
def plainD : D → Bool
  | .none => true
  | .bool _ => true
  | .int _ => true
  | .str _ => true
  | _ => false
theorem plain_dq {K : Frag} {S : Hp} {v : V} {d : D} (h : plainD d = true) (r : Dq K S v d) : Dq K noH v d := by
  cases r with
  | non => exact .non
  | bl b => exact .bl b
  | int i => exact .int i
  | str x => exact .str x
  | _ => cases h
inductive Rows (K : Frag) (H : Hp) : List Addr → List (List D) → Prop
  | nil : Rows K H [] []
  | cons {q : Addr} {qs : List Addr} {row : List D} {rows : List (List D)} {vs : List V} : H q = some (.lst vs) → DqAll K noH vs row → Rows K H qs rows → Rows K H (q :: qs) (row :: rows)
section
variable {K : Frag} {H H' : Hp}
theorem Rows.len : ∀ {ps : List Addr} {st : List (List D)}, Rows K H ps st → ps.length = st.length
  | _, _, .nil => rfl
  | _, _, .cons _ _ h => by rw [List.length_cons, List.length_cons, h.len]
theorem Rows.get : ∀ {ps : List Addr} {st : List (List D)} {j : Nat} {row : List D}, Rows K H ps st → st[j]? = some row → ∃ q vs, ps[j]? = some q ∧ H q = some (.lst vs) ∧ DqAll K noH vs row
  | _, _, _, _, .nil, e => by simp at e
  | _, _, 0, row, .cons h1 h2 _, e => by
    simp at e
    subst e
    exact ⟨_, _, rfl, h1, h2⟩
  | _, _, j + 1, row, .cons _ _ h, e => by
    obtain ⟨q, vs, h1, h2⟩ := Rows.get (j := j) h (by simpa using e)
    exact ⟨q, vs, by simpa using h1, h2⟩
theorem Rows.mono : ∀ {ps : List Addr} {st : List (List D)}, Rows K H ps st → (∀ q ∈ ps, ∀ o, H q = some o → H' q = some o) → Rows K H' ps st
  | _, _, .nil, _ => .nil
  | _, _, .cons h1 h2 h, k => .cons (k _ List.mem_cons_self _ h1) h2 (h.mono fun q m => k q (List.mem_cons_of_mem _ m))
theorem Rows.mem : ∀ {ps : List Addr} {st : List (List D)} {q : Addr}, Rows K H ps st → q ∈ ps → ∃ vs row, H q = some (.lst vs) ∧ DqAll K noH vs row
  | _, _, q, .cons h1 h2 h, m => by
    rcases List.mem_cons.mp m with rfl | m
    · exact ⟨_, _, h1, h2⟩
    · exact h.mem m
theorem Rows.set {us : List V} {row : List D} : ∀ {ps : List Addr} {st : List (List D)} {j : Nat} {q : Addr}, Rows K H ps st → ps.Nodup → ps[j]? = some q → DqAll K noH us row → Rows K (upd H q (.lst us)) ps (st.set j row)
  | _, _, _, _, .nil, _, e, _ => by simp at e
  | _, _, 0, q, .cons h1 h2 h, nd, e, r => by
    simp at e
    subst e
    refine .cons upd_same r (h.mono fun q' m o e => ?_)
    rw [upd_ne (fun z => (List.nodup_cons.mp nd).1 (by rw [← z]; exact m))]
    exact e
  | _, _, j + 1, q, .cons h1 h2 h, nd, e, r => by
    rw [List.getElem?_cons_succ] at e
    have m := List.mem_of_getElem? e
    refine .cons ?_ h2 (h.set (List.nodup_cons.mp nd).2 e r)
    rw [upd_ne (fun z => (List.nodup_cons.mp nd).1 (by rw [z]; exact m))]
    exact h1
end
def tabDr (K : Frag) (p : Addr) (ps : List Addr) : Dr (List (List D)) where
  hv := .ref p
  R := fun b => b = p ∨ b ∈ ps
  At := fun st H => H p = some (.lst (ps.map V.ref)) ∧ Rows K H ps st
  stay := fun st H H' h k => ⟨k _ _ (.inl rfl) h.1, h.2.mono fun q m o e => k q o (.inr m) e⟩
  live := fun st H b h r => by
    rcases r with rfl | m
    · rw [h.1]; exact fun z => nomatch z
    · obtain ⟨vs, _, e, _⟩ := h.2.mem m
      rw [e]; exact fun z => nomatch z
abbrev TabS := List (List D)
theorem Good.tabSet {K : Frag} {B : Bd TabS} {p : Addr} {ps : List Addr} (hB : B.dr = tabDr K p ps) {s : Stt TabS} {σ : List (Option V)} {H S : Hp} (nd : (p :: ps).Nodup) {j : Nat} {q : Addr} {row : List D} {us : List V} (g : Good K B s σ H S) (hq : ps[j]? = some q) (r : DqAll K noH us row) :
    Good K B { s with dr := s.dr.set j row } σ (upd H q (.lst us)) S := by
  have m : q ∈ ps := List.mem_of_getElem? hq
  have rq : B.dr.R q := by rw [hB]; exact .inr m
  have at1 : (tabDr K p ps).At s.dr H := by have := g.at_; rw [hB] at this; exact this
  refine ⟨⟨fun b o e r => ?_, g.fr.s, fun b o e => ?_, g.fr.new, g.fr.nor⟩, ?_, g.len, fun i z e => ?_, g.disj⟩
  · rw [upd_ne (fun z => r (by rw [z]; exact rq))]
    exact g.fr.keep b o e r
  · rw [upd_ne (fun z => by rw [z, g.fr.nor q rq] at e; cases e)]
    exact g.fr.sub b o e
  · rw [hB]
    refine ⟨?_, at1.2.set (List.nodup_cons.mp nd).2 hq r⟩
    rw [upd_ne (fun z : p = q => (List.nodup_cons.mp nd).1 (z ▸ m))]
    exact at1.1
  · obtain ⟨v, h1, h2⟩ := g.slot i z e
    refine ⟨v, h1, ?_⟩
    cases z with
    | own xs =>
      obtain ⟨a, vs, e1, e2, e3, e4, e5, e6⟩ := h2
      exact ⟨a, vs, e1, by rw [upd_ne (fun z => e6 (by rw [z]; exact rq))]; exact e2, e3, e4, e5, e6⟩
    | _ => exact h2
def rowAt (a : Int) : M TabS Unit := fun s => match atI s.dr a with
  | some _ => some ((), s)
  | none => none
def tabGet (a b : Int) : M TabS Opd := fun s => match (atI s.dr a).bind fun row => atI row b with
  | some d => some (.val d, s)
  | none => none
def tabIx (i : Nat) (Fa Fb : M TabS Opd) : M TabS Opd := bnd (hAt i) fun _ => bnd Fa fun oa => bnd (numO oa) fun a => bnd (rowAt a) fun _ => bnd Fb fun ob => bnd (numO ob) fun b => tabGet a b
theorem atI_some {γ : Type} {l : List γ} {i : Int} {x : γ} (h : atI l i = some x) : ∃ j, ixN l.length i = some j ∧ l[j]? = some x := Option.bind_eq_some_iff.mp h
theorem hAt_of {K : Frag} {B : Bd τ} {s s' : Stt τ} {σ : List (Option V)} {H S : Hp} {i : Nat} (g : Good K B s σ H S) (e : hAt i s = some ((), s')) : s' = s ∧ σ[i]? = some (some B.dr.hv) := by
  unfold hAt at e
  split at e
  · rename_i q
    cases e
    obtain ⟨v, h1, h2⟩ := g.slot i _ q
    exact ⟨rfl, by rw [h1, show v = B.dr.hv from h2]⟩
  · cases e
theorem rowAt_of {K : Frag} {B : Bd TabS} {p : Addr} {ps : List Addr} (hB : B.dr = tabDr K p ps) {s s' : Stt TabS} {σ : List (Option V)} {H S : Hp} {a : Int} (g : Good K B s σ H S) (e : rowAt a s = some ((), s')) :
    s' = s ∧ ∃ j q, ixN ps.length a = some j ∧ ps[j]? = some q ∧ atI (ps.map V.ref) a = some (V.ref q) := by
  have at1 : (tabDr K p ps).At s.dr H := by have := g.at_; rw [hB] at this; exact this
  unfold rowAt at e
  split at e
  · rename_i row q
    cases e
    obtain ⟨j, h1, h2⟩ := atI_some q
    obtain ⟨q, vs, h3, _⟩ := at1.2.get h2
    rw [← at1.2.len] at h1
    refine ⟨rfl, j, q, h1, h3, ?_⟩
    unfold atI
    rw [List.length_map, h1]
    show (ps.map V.ref)[j]? = _
    rw [List.getElem?_map, h3]
    rfl
  · cases e
section
variable {Γ : Gam} {B : Bd TabS} {pos : Pos} {e a b : Expr} {F Fa Fb : M TabS Opd}
theorem DO.tabIx {i : Nat} {x : Str} {p0 p1 : Pos} (hB : ∃ p ps, B.dr = tabDr Γ.K p ps ∧ (p :: ps).Nodup) (hN : Γ.N[i]? = some x) (hv : Vis Γ.sc x) (ha : DO Γ B a Fa) (hb : DO Γ B b Fb) (hsa : PlainIx a := by intro _ _; rfl) (hsb : PlainIx b := by intro _ _; rfl)
    (hd : (x == ("__debug__" : Str)) = false := by decide) (hcd : (x == ("__classdict__" : Str)) = false := by decide) : DO Γ B (.Subscript (.Subscript (.Name x p0) a p1) b pos) (DL.tabIx i Fa Fb) := by
  obtain ⟨p, ps, hB, nd⟩ := hB
  obtain ⟨ta, pa, ma⟩ := ha
  obtain ⟨tb, pb, mb⟩ := hb
  refine ⟨tOp (rIxL Γ.K) (tOp (rIxL Γ.K) (tVar i) ta) tb, fun X h => ?_, fun s σ H S g o s' e Q q => ?_⟩
  · have r := pe_ix (ix_list (X := X)) (pe_ix (pos := p1) (ix_list (X := X)) (pe_var (X := X) (i := i) (x := x) (pos := p0) (by rw [h.N]; exact hN) (by rw [h.sc]; exact hv) hd hcd) (pa X h) hsa) (pb X h) (pos := pos) hsb
    rw [h.K] at r
    exact r
  · obtain ⟨_, s1, e1, e⟩ := bnd_some e
    obtain ⟨oa, s2, e2, e⟩ := bnd_some e
    obtain ⟨ka, s3, e3, e⟩ := bnd_some e
    obtain ⟨_, s4, e4, e⟩ := bnd_some e
    obtain ⟨ob, s5, e5, e⟩ := bnd_some e
    obtain ⟨kb, s6, e6, ef⟩ := bnd_some e
    obtain ⟨rfl, h1⟩ := hAt_of g e1
    rw [hB] at h1
    refine ⟨_, h1, ma _ σ H S g oa s2 e2 _ fun v H1 S1 g1 w1 r1 _ => ?_⟩
    obtain ⟨rfl, rfl⟩ := num_of g1 r1 e3
    obtain ⟨rfl, j, qa, k1, k2, k3⟩ := rowAt_of hB g1 e4
    have at1 : (tabDr Γ.K p ps).At s4.dr H1 := by have := g1.at_; rw [hB] at this; exact this
    refine ⟨p, ps.map V.ref, ka, .ref qa, rfl, rfl, SqL.of at1.1, k3, ?_⟩
    refine mb _ σ H1 S1 g1 ob s5 e5 _ fun u H2 S2 g2 w2 r2 _ => ?_
    obtain ⟨rfl, rfl⟩ := num_of g2 r2 e6
    have at2 : (tabDr Γ.K p ps).At s6.dr H2 := by have := g2.at_; rw [hB] at this; exact this
    unfold tabGet at ef
    split at ef
    · rename_i d hd'
      cases ef
      obtain ⟨row, hr1, hr2⟩ := Option.bind_eq_some_iff.mp hd'
      obtain ⟨j', h1', h2'⟩ := atI_some hr1
      rw [← at2.2.len, k1] at h1'
      cases h1'
      obtain ⟨qb, vs, h3, h4, h5⟩ := at2.2.get h2'
      rw [k2] at h3
      cases h3
      obtain ⟨z, hz, hdq⟩ := atI_of h5 hr2
      exact ⟨qa, vs, kb, z, rfl, rfl, SqL.of h4, hz, q z H2 S2 g2 (w1.trans w2) (Dq.mono (noH_same _) hdq) trivial⟩
    · cases ef
def tabPut (d : D) (a b : Int) : M TabS Out := fun s => if plainD d then (match ixN s.dr.length a with
  | some j => (match s.dr[j]? with
    | some row => (match ixN row.length b with
      | some k => some (.nx, { s with dr := s.dr.set j (row.set k d) })
      | none => none)
    | none => none)
  | none => none) else none
def tabSet (i : Nat) (F Fa Fb : M TabS Opd) : M TabS Out := bnd (valM F) fun d => bnd (hAt i) fun _ => bnd Fa fun oa => bnd (numO oa) fun a => bnd (rowAt a) fun _ => bnd Fb fun ob => bnd (numO ob) fun b => tabPut d a b
theorem DS.tabSet {i : Nat} {x : Str} {p0 p1 pt : Pos} (hB : ∃ p ps, B.dr = tabDr Γ.K p ps ∧ (p :: ps).Nodup) (hN : Γ.N[i]? = some x) (hv : Vis Γ.sc x) (h : DO Γ B e F) (ha : DO Γ B a Fa) (hb : DO Γ B b Fb) (hsa : PlainIx a := by intro _ _; rfl)
    (hd : (x == ("__debug__" : Str)) = false := by decide) (hcd : (x == ("__classdict__" : Str)) = false := by decide)
    (hs : ∀ X : Cx, swapsWithSole [.Subscript (.Subscript (.Name x p0) a p1) b pt] e pos.line X.env = pure false := by intro _; rfl) (hw : ∀ X : Cx, swappedStores [.Subscript (.Subscript (.Name x p0) a p1) b pt] e X.env = pure none := by intro _; rfl)
    (h1 : ∀ X : Cx, (assignEach [.Subscript (.Subscript (.Name x p0) a p1) b pt] X.env).map (·.2) = [assign (.Subscript (.Subscript (.Name x p0) a p1) b pt) X.env] := by intro _; rfl)
    (has : ∀ (X : Cx) v, assign (.Subscript (.Subscript (.Name x p0) a p1) b pt) X.env v = (do
      let ov ← holding [v] (eval (.Subscript (.Name x p0) a p1) X.env)
      let iv ← holding [v, ov] (eval b X.env)
      standAt pt
      holding [v, ov, iv] (setItem ov iv v)
      release [v, ov, iv] []) := by intro _ _; rfl) :
    DS Γ B (.Assign [.Subscript (.Subscript (.Name x p0) a p1) b pt] e pos) (DL.tabSet i F Fa Fb) := by
  obtain ⟨p, ps, hB, nd⟩ := hB
  obtain ⟨t, pe, m⟩ := h
  obtain ⟨ta, pa, ma⟩ := ha
  obtain ⟨tb, pb, mb⟩ := hb
  refine ⟨tAsg t (gSub (tOp (rIxL Γ.K) (tVar i) ta) tb rSetL), fun X h => ?_, fun s σ H S g o s' e D q => ?_⟩
  · have r := pe_ix (pos := p1) (ix_list (X := X)) (pe_var (X := X) (i := i) (x := x) (pos := p0) (by rw [h.N]; exact hN) (by rw [h.sc]; exact hv) hd hcd) (pa X h) hsa
    rw [h.K] at r
    exact ps_asg (pe X h) (pg_sub r (pb X h) set_list (has X)) (hs X) (hw X) (h1 X)
  · obtain ⟨d, s0, e0, e⟩ := bnd_some e
    obtain ⟨_, s1, e1, e⟩ := bnd_some e
    obtain ⟨oa, s2, e2, e⟩ := bnd_some e
    obtain ⟨ka, s3, e3, e⟩ := bnd_some e
    obtain ⟨_, s4, e4, e⟩ := bnd_some e
    obtain ⟨ob, s5, e5, e⟩ := bnd_some e
    obtain ⟨kb, s6, e6, ef⟩ := bnd_some e
    refine m.val g e0 fun v H0 S0 g0 w0 r0 => ?_
    obtain ⟨rfl, h1⟩ := hAt_of g0 e1
    rw [hB] at h1
    refine ⟨_, h1, ma _ σ H0 S0 g0 oa s2 e2 _ fun va H1 S1 g1 w1 r1 _ => ?_⟩
    obtain ⟨rfl, rfl⟩ := num_of g1 r1 e3
    obtain ⟨rfl, j, qa, k1, k2, k3⟩ := rowAt_of hB g1 e4
    have at1 : (tabDr Γ.K p ps).At s4.dr H1 := by have := g1.at_; rw [hB] at this; exact this
    refine ⟨p, ps.map V.ref, ka, .ref qa, rfl, rfl, SqL.of at1.1, k3, ?_⟩
    refine mb _ σ H1 S1 g1 ob s5 e5 _ fun u H2 S2 g2 w2 r2 _ => ?_
    obtain ⟨rfl, rfl⟩ := num_of g2 r2 e6
    have at2 : (tabDr Γ.K p ps).At s6.dr H2 := by have := g2.at_; rw [hB] at this; exact this
    unfold tabPut at ef
    split at ef
    · rename_i hf
      split at ef
      · rename_i j' hj'
        split at ef
        · rename_i row hrow
          split at ef
          · rename_i k hk
            cases ef
            rw [← at2.2.len, k1] at hj'
            cases hj'
            obtain ⟨qb, vs, h3, h4, h5⟩ := at2.2.get hrow
            rw [k2] at h3
            cases h3
            refine ⟨qa, vs, kb, k, rfl, rfl, h4, by rw [h5.len]; exact hk, ?_⟩
            exact q σ _ S2 (g2.tabSet hB nd k2 (DqAll.set (plain_dq hf r0) k h5)) ((w0.same.trans w1.same).trans w2.same)
          · cases ef
        · cases ef
      · cases ef
    · cases ef
end
end DL
end

section
set_option Elab.async false
set_option linter.all false
set_option maxRecDepth 100000
set_option maxHeartbeats 3999999
/-! WEng17: calls that look at a table; how a table is made; how it is given back -/
namespace DL
open L2 PySem PyProof.Rows PySem.Spec
variable {τ α β : Type}
/-! ### what is shared, with the table, and without it again -/
open Classical in
noncomputable def ovl (S H : Hp) (R : Addr → Prop) : Hp := fun b => if R b then H b else S b
open Classical in
noncomputable def outR (S : Hp) (R : Addr → Prop) : Hp := fun b => if R b then none else S b
theorem ovl_in {S H : Hp} {R : Addr → Prop} {b : Addr} (h : R b) : ovl S H R b = H b := if_pos h
theorem ovl_out {S H : Hp} {R : Addr → Prop} {b : Addr} (h : ¬ R b) : ovl S H R b = S b := if_neg h
theorem outR_in {S : Hp} {R : Addr → Prop} {b : Addr} (h : R b) : outR S R b = none := if_pos h
theorem outR_out {S : Hp} {R : Addr → Prop} {b : Addr} (h : ¬ R b) : outR S R b = S b := if_neg h
theorem outR_some {S : Hp} {R : Addr → Prop} {b : Addr} {o : HO} (h : outR S R b = some o) : ¬ R b ∧ S b = some o := by
  by_cases r : R b
  · rw [outR_in r] at h; cases h
  · rw [outR_out r] at h; exact ⟨r, h⟩
mutual
def nolst : D → Bool
  | .none => true
  | .bool _ => true
  | .int _ => true
  | .str _ => true
  | .tuple xs => nolstA xs
  | _ => false
def nolstA : List D → Bool
  | [] => true
  | x :: xs => nolst x && nolstA xs
end
mutual
theorem Dq.outR {K : Frag} {S : Hp} {R : Addr → Prop} (hR : ∀ b, R b → ∃ vs, S b = some (.lst vs)) : ∀ {v : V} {d : D}, Dq K S v d → nolst d = true → Dq K (DL.outR S R) v d
  | _, _, .non, _ => .non
  | _, _, .bl b, _ => .bl b
  | _, _, .int i, _ => .int i
  | _, _, .str x, _ => .str x
  | _, _, .lst _ _, h => by unfold nolst at h; cases h
  | _, _, .tup (a := a) h q, hn => by
    unfold nolst at hn
    refine .tup ?_ (DqAll.outR hR q hn)
    rcases h with (h | ⟨o, h⟩) | h
    · exact .inl (.inl (by
        rw [outR_out (fun r => by obtain ⟨vs, e⟩ := hR a r; rw [h] at e; cases e)]
        exact h))
    · exact .inl (.inr ⟨o, by
        rw [outR_out (fun r => by obtain ⟨vs, e⟩ := hR a r; rw [h] at e; cases e)]
        exact h⟩)
    · exact .inr h
theorem DqAll.outR {K : Frag} {S : Hp} {R : Addr → Prop} (hR : ∀ b, R b → ∃ vs, S b = some (.lst vs)) : ∀ {vs : List V} {ds : List D}, DqAll K S vs ds → nolstA ds = true → DqAll K (DL.outR S R) vs ds
  | _, _, .nil, _ => .nil
  | _, _, .cons h t, hn => by
    unfold nolstA at hn
    obtain ⟨h1, h2⟩ := Bool.and_eq_true_iff.mp hn
    exact .cons (Dq.outR hR h h1) (DqAll.outR hR t h2)
end
/-! ### arguments, the table's handle among them -/
def RelB (K : Frag) (S : Hp) (hv : V) : List V → List (Option D) → Prop
  | [], [] => True
  | v :: vs, o :: os => (match o with
    | some d => Dq K S v d
    | none => v = hv) ∧ RelB K S hv vs os
  | _, _ => False
def MeanB (K : Frag) (B : Bd τ) (t : TA) (F : M τ (List (Option D))) : Prop := ∀ s σ H S, Good K B s σ H S → ∀ os s', F s = some (os, s') →
  ∀ Q : List V → Hp → Prop, (∀ vs H' S', Good K B s' σ H' S' → Step K B σ s H S s' H' S' → RelB K S' B.dr.hv vs os → Q vs H') → t σ H Q
def DB (Γ : Gam) (B : Bd τ) (es : List Expr) (F : M τ (List (Option D))) : Prop := ∃ t, (∀ X, Γ.Has X → PA X es t) ∧ MeanB Γ.K B t F
section
variable {Γ : Gam} {B : Bd τ} {pos : Pos} {e : Expr} {es : List Expr}
def consB (F : M τ Opd) (G : M τ (List (Option D))) : M τ (List (Option D)) := bnd (valM F) fun d => bnd G fun ds => ret (some d :: ds)
def consHd (i : Nat) (G : M τ (List (Option D))) : M τ (List (Option D)) := bnd (hAt i) fun _ => bnd G fun ds => ret (none :: ds)
theorem DB.nil : DB Γ B [] nilM := ⟨_, fun X h => pa_nil, fun s σ H S g os s' e Q q => by
  obtain ⟨rfl, rfl⟩ := ret_some e
  exact q [] H S g Step.refl trivial⟩
theorem DB.cons {F : M τ Opd} {G : M τ (List (Option D))} (h : DO Γ B e F) (hs : DB Γ B es G) (hst : ∀ X : Cx, starEach (e :: es) X.env = (false, eval e X.env) :: starEach es X.env := by intro _; rfl) : DB Γ B (e :: es) (consB F G) := by
  obtain ⟨t, p, m⟩ := h
  obtain ⟨u, pu, mu⟩ := hs
  refine ⟨_, fun X h => pa_cons (p X h) (pu X h) (hst X), fun s σ H S g os s' e Q q => ?_⟩
  obtain ⟨o, s1, e1, e⟩ := bnd_some e
  obtain ⟨os', s2, e2, e⟩ := bnd_some e
  obtain ⟨rfl, rfl⟩ := ret_some e
  refine m.val g e1 fun v H1 S1 g1 w1 r1 => ?_
  exact mu s1 σ H1 S1 g1 os' _ e2 _ fun vs H2 S2 g2 w2 r2 => q _ H2 S2 g2 (w1.trans w2) ⟨Dq.mono w2.same r1, r2⟩
theorem DB.hand {i : Nat} {x : Str} {G : M τ (List (Option D))} (hN : Γ.N[i]? = some x) (hv : Vis Γ.sc x) (hs : DB Γ B es G) (hd : (x == ("__debug__" : Str)) = false := by decide) (hcd : (x == ("__classdict__" : Str)) = false := by decide)
    (hst : ∀ X : Cx, starEach (.Name x pos :: es) X.env = (false, eval (.Name x pos) X.env) :: starEach es X.env := by intro _; rfl) : DB Γ B (.Name x pos :: es) (consHd i G) := by
  obtain ⟨u, pu, mu⟩ := hs
  refine ⟨tCons (tVar i) u, fun X h => pa_cons (pe_var (by rw [h.N]; exact hN) (by rw [h.sc]; exact hv) hd hcd) (pu X h) (hst X), fun s σ H S g os s' e Q q => ?_⟩
  obtain ⟨_, s1, e1, e⟩ := bnd_some e
  obtain ⟨os', s2, e2, e⟩ := bnd_some e
  obtain ⟨rfl, rfl⟩ := ret_some e
  obtain ⟨rfl, h1⟩ := hAt_of g e1
  refine ⟨_, h1, ?_⟩
  exact mu _ σ H S g os' _ e2 _ fun vs H2 S2 g2 w2 r2 => q _ H2 S2 g2 w2 ⟨rfl, r2⟩
end
def tabD (st : TabS) : D := .list (st.map .list)
theorem Rows.all {K : Frag} {H S : Hp} : ∀ {ps : List Addr} {st : TabS}, Rows K H ps st → (∀ q ∈ ps, S q = H q) → DqAll K S (ps.map V.ref) (st.map .list)
  | _, _, .nil, _ => .nil
  | _, _, .cons h1 h2 h, k => .cons (.lst (by rw [k _ List.mem_cons_self]; exact h1) (DqAll.mono (noH_same _) h2)) (h.all fun q m => k q (List.mem_cons_of_mem _ m))
theorem RelB.all {K : Frag} {S S2 : Hp} {hv : V} {d : D} (w : Same S S2) (hd : Dq K S2 hv d) : ∀ {vs : List V} {os : List (Option D)}, RelB K S hv vs os → DqAll K S2 vs (os.map fun o => o.getD d)
  | [], [], _ => .nil
  | v :: vs, o :: os, h => by
    refine .cons ?_ (RelB.all w hd h.2)
    cases o with
    | some x => exact Dq.mono w h.1
    | none => rw [show v = hv from h.1]; exact hd
  | [], _ :: _, h => h.elim
  | _ :: _, [], h => h.elim
section
variable {Γ : Gam} {B : Bd TabS} {pos : Pos} {e : Expr} {es : List Expr} {G : M TabS (List (Option D))}
def callT (f : List D → Option D) (G : M TabS (List (Option D))) : M TabS Opd := bnd G fun os => fun s => match f (os.map fun o => o.getD (tabD s.dr)) with
  | some d => if nolst d then some (.val d, s) else none
  | none => none
theorem DO.callT {x : Str} {p : Pos} {k : Nat} {ps : List Str} {f : List D → Option D} (hB : ∃ p ps, B.dr = tabDr Γ.K p ps ∧ (p :: ps).Nodup) (F : DefQ Γ.P Γ.w Γ.K Γ.mg Γ.base k x ps f) {j : Nat} (ok : Γ.Ok j) (hj : k ≤ j) (ha : DB Γ B (e :: es) G) (hg : Γ.sc.names.lookup x = some .globalImplicit := by rfl)
    (hdb : (x == ("__debug__" : Str)) = false := by decide) (he : ∀ X : Cx, starEach (e :: es) X.env = (false, eval e X.env) :: starEach es X.env := by intro _; rfl) (hpl : ∀ X : Cx, (backTo pos (starEach es X.env)).any (·.1) = false := by intro _; rfl) :
    DO Γ B (.Call (.Name x p) (e :: es) [] pos) (DL.callT f G) := by
  obtain ⟨a0, ps0, hB, nd⟩ := hB
  obtain ⟨a, fd, F, hm, hk, hb⟩ := F.ex
  obtain ⟨t, pa, m⟩ := ha
  refine ⟨tCall (spP Γ.K f) [] E0 t, fun X h => ?_, fun s σ H S g o s' e Q q => ?_⟩
  · have F' := F.mono hj
    rw [← h.P, ← h.w, ← h.K, ← h.mg, ← h.base] at F'
    have r := pe_callG (x := x) (p := p) (pos := pos) F' (by rw [h.A]; exact ok.room) (by rw [h.A]; exact ok.gd) (gl_of h hg) (by rw [h.mg]; exact hm) (by rw [h.K]; exact hk) (by rw [h.K]; exact hb) (pa X h) hdb (he X) (hpl X)
    rw [h.K] at r
    exact r
  · obtain ⟨os, s1, e1, e2⟩ := bnd_some e
    split at e2
    · rename_i d hd
      split at e2
      · rename_i hn
        cases e2
        refine m s σ H S g os _ e1 _ fun vs H1 S1 g1 w1 r1 => ?_
        have at1 : (tabDr Γ.K a0 ps0).At s'.dr H1 := by have := g1.at_; rw [hB] at this; exact this
        have nor : ∀ b, (tabDr Γ.K a0 ps0).R b → S1 b = none := fun b r => g1.fr.nor b (by rw [hB]; exact r)
        have hS : ∀ {b o}, S1 b = some o → ¬ (tabDr Γ.K a0 ps0).R b := fun {b o} e r => by rw [nor b r] at e; cases e
        have lsR : ∀ b, (tabDr Γ.K a0 ps0).R b → ∃ vs, H1 b = some (.lst vs) := fun b r => by
          rcases r with rfl | m
          · exact ⟨_, at1.1⟩
          · obtain ⟨vs, _, e, _⟩ := at1.2.mem m
            exact ⟨vs, e⟩
        have wS : Same S1 (ovl S1 H1 (tabDr Γ.K a0 ps0).R) := fun b o e => by rw [ovl_out (hS e)]; exact e
        have wH : Same (ovl S1 H1 (tabDr Γ.K a0 ps0).R) H1 := fun b o e => by
          by_cases r : (tabDr Γ.K a0 ps0).R b
          · rw [ovl_in r] at e; exact e
          · rw [ovl_out r] at e; exact g1.fr.sub b o e
        have hv : Dq Γ.K (ovl S1 H1 (tabDr Γ.K a0 ps0).R) B.dr.hv (tabD s'.dr) := by
          rw [hB]
          exact .lst (by rw [ovl_in (Or.inl rfl)]; exact at1.1) (at1.2.all fun q m => ovl_in (Or.inr m))
        refine ⟨_, _, d, wH, by rw [List.append_nil]; exact RelB.all wS hv r1, hd, fun v H2 S3 w2 r2 => ?_⟩
        have gr : Grow H1 S1 H2 (outR S3 (tabDr Γ.K a0 ps0).R) := by
          refine ⟨w2.h, fun b o e => ?_, fun b o e => w2.sub b o (outR_some e).2, fun b o e n => ?_⟩
          · rw [outR_out (hS e)]
            exact w2.s b o (wS b o e)
          · obtain ⟨r, e⟩ := outR_some e
            exact w2.new b o e (by rw [ovl_out r]; exact n)
        refine q v H2 _ (g1.grow gr) (w1.trans gr.step) (Dq.outR (fun b r => ?_) r2 hn) trivial
        obtain ⟨us, e⟩ := lsR b r
        exact ⟨us, w2.s b _ (by rw [ovl_in r]; exact e)⟩
      · cases e2
    · cases e2
end

/-! ### how a table is made: [[c for _ in r] for _ in r], r a range that a slot holds -/
theorem upd2 {H : Hp} {p : Addr} {o u : HO} : upd (upd H p o) p u = upd H p u := by
  funext b
  by_cases h : b = p
  · subst h; rw [upd_same, upd_same]
  · rw [upd_ne h, upd_ne h, upd_ne h]
theorem wipe1 {σ : List (Option V)} {k : Nat} {x : Option V} : L2.wipe ((L2.wipe σ [k]).set k x) [k] = L2.wipe σ [k] := by
  show ((σ.set k none).set k x).set k none = σ.set k none
  rw [List.set_set, List.set_set]
theorem lcConst_run {a : Addr} {n : Int} {i k : Nat} {c : V} {σ : List (Option V)} {H : Hp} {Q : VK} (hi : σ[i]? = some (some (.ref a))) (ha : H a = some (.rng 0 n)) (h0 : 0 ≤ n) (hn : n ≤ 1000)
    (hq : ∀ p, H p = none → Q (.ref p) (upd H p (.lst (List.replicate n.toNat c)))) : tLc (iRngV (tVar i)) (gName k) tYes (tC c) [k] σ H Q := by
  refine ⟨_, hi, a, 0, n, rfl, ha, by decide, by decide, by omega, by omega, fun p hp => ?_⟩
  rw [Int.sub_zero]
  refine ⟨fun j m H' => m = n.toNat - j ∧ j ≤ n.toNat ∧ H' = upd H p (.lst (List.replicate j c)), ⟨n.toNat, by simp, Nat.zero_le _, rfl⟩, ?_⟩
  rintro j m H' ⟨rfl, hj, rfl⟩
  by_cases hlt : j < n.toNat
  · refine .inr ⟨hlt, fun H' => H' = upd H p (.lst (List.replicate (j + 1) c)), fun H' e => ⟨n.toNat - (j + 1), by omega, rfl, hlt, e⟩, fun x H' y => ?_⟩
    obtain ⟨rfl, rfl⟩ := y
    refine ⟨wipe1, ?_⟩
    unfold tYes
    dsimp only
    rw [if_pos rfl]
    refine ⟨_, upd_same, by rw [List.length_replicate, sizeLine_eq]; omega, ?_⟩
    show _ = _
    rw [upd2, List.replicate_succ']
  · have : j = n.toNat := by omega
    subst this
    exact .inl ⟨Nat.le_refl _, hq p hp⟩
structure Made (H : Hp) (N : Nat) (c : V) (A : Addr) (ps : List Addr) (H' : Hp) : Prop where
  at_ : H' A = some (.lst (ps.map V.ref))
  row : ∀ q ∈ ps, H' q = some (.lst (List.replicate N c)) ∧ H q = none
  nd : (A :: ps).Nodup
  new : H A = none
  old : ∀ b, b ∉ A :: ps → H' b = H b
theorem lcTab_run {a : Addr} {n : Int} {i k1 k2 : Nat} {c : V} {σ : List (Option V)} {H : Hp} {Q : VK} (hi : σ[i]? = some (some (.ref a))) (ha : H a = some (.rng 0 n)) (h0 : 0 ≤ n) (hn : n ≤ 1000) (hk : k1 ≠ i)
    (hq : ∀ A ps H', ps.length = n.toNat → Made H n.toNat c A ps H' → Q (.ref A) H') : tLc (iRngV (tVar i)) (gName k1) tYes (tLc (iRngV (tVar i)) (gName k2) tYes (tC c) [k2]) [k1] σ H Q := by
  refine ⟨_, hi, a, 0, n, rfl, ha, by decide, by decide, by omega, by omega, fun A hA => ?_⟩
  rw [Int.sub_zero]
  refine ⟨fun j m H' => m = n.toNat - j ∧ j ≤ n.toNat ∧ ∃ ps : List Addr, ps.length = j ∧ Made H n.toNat c A ps H', ⟨n.toNat, by simp, Nat.zero_le _, [], rfl, upd_same, (by simp), (by simp), hA, fun b hb => upd_ne (by simpa using hb)⟩, ?_⟩
  rintro j m H1 ⟨rfl, hj, ps, hps, M⟩
  by_cases hlt : j < n.toNat
  · refine .inr ⟨hlt, fun H' => ∃ ps : List Addr, ps.length = j + 1 ∧ Made H n.toNat c A ps H', fun H' e => ⟨n.toNat - (j + 1), by omega, rfl, hlt, e⟩, fun x H' y => ?_⟩
    obtain ⟨rfl, rfl⟩ := y
    refine ⟨wipe1, ?_⟩
    unfold tYes
    dsimp only
    rw [if_pos rfl]
    have ai : a ∉ A :: ps := fun m => by
      rcases List.mem_cons.mp m with z | m
      · rw [z, hA] at ha; cases ha
      · rw [(M.row a m).2] at ha; cases ha
    refine lcConst_run (a := a) (n := n) ?_ (by rw [M.old a ai]; exact ha) h0 hn fun p hp => ?_
    · rw [List.getElem?_set_ne hk]
      show (σ.set k1 none)[i]? = _
      rw [List.getElem?_set_ne hk]
      exact hi
    · have pi : p ∉ A :: ps := fun m => by
        rcases List.mem_cons.mp m with z | m
        · rw [z, M.at_] at hp; cases hp
        · rw [(M.row p m).1] at hp; cases hp
      have pA : A ≠ p := fun z => pi (by rw [z]; exact List.mem_cons_self)
      have pm : ∀ q ∈ ps, q ≠ p := fun q m z => pi (by rw [← z]; exact List.mem_cons_of_mem _ m)
      refine ⟨_, by rw [upd_ne pA]; exact M.at_, by rw [List.length_map, hps, sizeLine_eq]; omega, ps ++ [p], by simp [hps], ?_⟩
      have Am : ∀ q ∈ ps, q ≠ A := fun q m z => (List.nodup_cons.mp M.nd).1 (by rw [← z]; exact m)
      refine ⟨by rw [upd_same]; simp, fun q m => ?_, ?_, M.new, fun b hb => ?_⟩
      · rcases List.mem_append.mp m with m | m
        · rw [upd_ne (Am q m), upd_ne (pm q m)]
          exact M.row q m
        · have : q = p := by simpa using m
          subst this
          rw [upd_ne pA.symm, upd_same]
          exact ⟨rfl, by rw [← M.old q pi]; exact hp⟩
      · rw [← List.cons_append]
        refine List.nodup_append.mpr ⟨M.nd, by simp, fun x hx y hy => ?_⟩
        have : y = p := by simpa using hy
        subst this
        exact fun z => pi (z ▸ hx)
      · have b1 : b ≠ A := fun z => hb (by rw [z]; exact List.mem_cons_self)
        have b2 : b ≠ p := fun z => hb (by rw [z]; simp)
        rw [upd_ne b1, upd_ne b2]
        exact M.old b fun m => hb (by
          rcases List.mem_cons.mp m with z | m
          · rw [z]; exact List.mem_cons_self
          · exact List.mem_cons_of_mem _ (List.mem_append_left _ m))
  · have : j = n.toNat := by omega
    subst this
    exact .inl ⟨Nat.le_refl _, hq A ps H1 hps M⟩
/-- from now on the table is what B carries -/
def rowsOf (n : Nat) (c : D) : TabS := List.replicate n (List.replicate n c)
theorem good_tab {K : Frag} {H S H2 : Hp} {B : Bd Unit} {s : Stt Unit} {σ : List (Option V)} {N g : Nat} {A : Addr} {ps : List Addr} {c : V} {d : D} (hd : Dq K noH c d) (gd : Good K B s σ H S) (hl : ps.length = N) (M : Made H N c A ps H2) (hg : g < σ.length)
    (no : ∀ (i : Nat) (xs : List D), s.env[i]? ≠ some (some (Sl.own xs))) (noh : ∀ i : Nat, s.env[i]? ≠ some (some Sl.h)) :
    Good K (B := ⟨tabDr K A ps, H2, S⟩) ⟨s.env.set g (some .h), rowsOf N d⟩ (σ.set g (some (.ref A))) H2 S := by
  have oldS : ∀ b o, S b = some o → b ∉ A :: ps := fun b o e m => by
    have := gd.fr.sub b o e
    rcases List.mem_cons.mp m with z | m
    · rw [z, M.new] at this; cases this
    · rw [(M.row b m).2] at this; cases this
  have sub : Same S H2 := fun b o e => by rw [M.old b (oldS b o e)]; exact gd.fr.sub b o e
  refine ⟨⟨fun b o e _ => e, Same.refl _, sub, fun b o e n => ?_, fun b r => ?_⟩, ?_, by simp [gd.len], fun i z e => ?_, fun i j xs ys n e1 e2 => ?_⟩
  · rw [show S b = none from n] at e; cases e
  · cases q : S b with
    | none => rfl
    | some o => exact absurd (List.mem_cons.mpr r) (oldS b o q)
  · refine ⟨M.at_, ?_⟩
    show Rows K H2 ps (List.replicate N (List.replicate N d))
    subst hl
    have rr : ∀ n : Nat, DqAll K noH (List.replicate n c) (List.replicate n d) := fun n => by
      induction n with
      | zero => exact .nil
      | succ n ih => exact .cons hd ih
    have key : ∀ (qs : List Addr) (n : Nat), (∀ q ∈ qs, H2 q = some (.lst (List.replicate n c))) → Rows K H2 qs (List.replicate qs.length (List.replicate n d)) := fun qs n h => by
      induction qs with
      | nil => exact .nil
      | cons q qs ih => exact .cons (h q List.mem_cons_self) (rr n) (ih fun q m => h q (List.mem_cons_of_mem _ m))
    exact key ps ps.length fun q m => (M.row q m).1
  · rcases set_get e with ⟨rfl, q⟩ | ⟨n, q⟩
    · cases q
      exact ⟨.ref A, List.getElem?_set_self hg, rfl⟩
    · obtain ⟨v, h1, h2⟩ := gd.slot i z q
      refine ⟨v, by rw [List.getElem?_set_ne n]; exact h1, ?_⟩
      cases z with
      | d x => exact h2
      | own xs => exact absurd q (no i xs)
      | h => exact absurd q (noh i)
      | s ns => exact h2
      | r lo hi => exact h2
  · rcases set_get e1 with ⟨_, q⟩ | ⟨_, q⟩
    · cases q
    · exact absurd q (no i xs)
/-- the table is given back, beside a list that a slot owns -/
theorem tab_end {K : Frag} {H S H1 S1 H2 H3 S3 : Hp} {s : Stt Unit} {σ : List (Option V)} {s3 : Stt TabS} {σ3 : List (Option V)} {N g r : Nat} {A b : Addr} {ps : List Addr} {c : V} {rows : List D} (gd : Good K ⟨dr0, H, S⟩ s σ H1 S1) (M : Made H1 N c A ps H2)
    (g3 : Good K ⟨tabDr K A ps, H2, S1⟩ s3 σ3 H3 S3) (e1 : s3.env[r]? = some (some (.own rows))) (e2 : s3.env[g]? = some (some .h)) (hb : H3 b = none) {Q : VK} (hQ : ∀ v H' S', Grow H S H' S' → Dq K S' v (.tuple [.list rows, tabD s3.dr]) → Q v H') :
    ∃ p, σ3[r]? = some (some (.ref p)) ∧ σ3[g]? = some (some (.ref A)) ∧ Q (.ref b) (upd H3 b (.tup [.ref p, .ref A])) := by
  obtain ⟨p, vs, h1, hp, ha, ns, n0, nr⟩ := g3.getOwn e1
  obtain ⟨v, h2, hv⟩ := g3.slot g _ e2
  obtain rfl : v = .ref A := hv
  refine ⟨p, h1, h2, ?_⟩
  have at3 : (tabDr K A ps).At s3.dr H3 := g3.at_
  have nor : ∀ b, (tabDr K A ps).R b → S3 b = none := g3.fr.nor
  have lsR : ∀ b, (tabDr K A ps).R b → H3 b ≠ none := fun b r => (tabDr K A ps).live s3.dr H3 b at3 r
  have newR : ∀ b, (tabDr K A ps).R b → H1 b = none := fun b r => by
    rcases r with rfl | m
    · exact M.new
    · exact (M.row b m).2
  have pb : p ≠ b := fun z => by rw [z, hb] at hp; cases hp
  have rb : ¬ (tabDr K A ps).R b := fun r => lsR b r hb
  have k12 : Same H1 H2 := fun c o e => by
    rw [M.old c (fun m => by rw [newR c (List.mem_cons.mp m)] at e; cases e)]
    exact e
  have k13 : Same H1 H3 := fun c o e => g3.fr.keep c o (k12 c o e) (fun r => by rw [newR c r] at e; cases e)
  have k0 : Same H H1 := fun c o e => gd.fr.keep c o e (fun z => z)
  -- what is shared in the end
  have kS : Same S3 (ovl (upd (upd S3 p (.lst vs)) b (.tup [.ref p, .ref A])) H3 (tabDr K A ps).R) := fun c o e => by
    rw [ovl_out (fun r => by rw [nor c r] at e; cases e), upd_ne (fun z => by rw [z, g3.fr.sub.free hb] at e; cases e), upd_ne (fun z => by rw [z, ns] at e; cases e)]
    exact e
  refine hQ _ _ (ovl (upd (upd S3 p (.lst vs)) b (.tup [.ref p, .ref A])) H3 (tabDr K A ps).R) ⟨fun c o e => ?_, ?_, fun c o e => ?_, fun c o e n => ?_⟩ ?_
  · have := k13 c o (k0 c o e)
    rw [upd_ne (fun z => by rw [z, hb] at this; cases this)]
    exact this
  · exact (gd.fr.s.trans g3.fr.s).trans kS
  · by_cases rc : (tabDr K A ps).R c
    · rw [ovl_in rc] at e
      rw [upd_ne (fun z => rb (by rw [← z]; exact rc))]
      exact e
    · rw [ovl_out rc] at e
      by_cases zb : c = b
      · subst zb
        rw [upd_same] at e ⊢
        exact e
      · rw [upd_ne zb] at e ⊢
        by_cases zp : c = p
        · subst zp
          rw [upd_same] at e
          rw [← e]; exact hp
        · rw [upd_ne zp] at e
          exact g3.fr.sub c o e
  · by_cases rc : (tabDr K A ps).R c
    · exact k0.free (newR c rc)
    · rw [ovl_out rc] at e
      by_cases zb : c = b
      · subst zb
        exact k0.free (k13.free hb)
      · rw [upd_ne zb] at e
        by_cases zp : c = p
        · subst zp
          exact k0.free (k12.free n0)
        · rw [upd_ne zp] at e
          cases q : S1 c with
          | none => exact k0.free (k12.free (g3.fr.new c o e q))
          | some u => exact gd.fr.new c u q n
  · have S4p : ovl (upd (upd S3 p (.lst vs)) b (.tup [.ref p, .ref A])) H3 (tabDr K A ps).R p = some (.lst vs) := by
      rw [ovl_out nr, upd_ne pb, upd_same]
    refine .tup (SqT.of (by rw [ovl_out rb, upd_same])) (.cons (.lst S4p (DqAll.mono kS ha)) (.cons ?_ .nil))
    exact .lst (by rw [ovl_in (Or.inl rfl)]; exact at3.1) (at3.2.all fun q m => ovl_in (Or.inr m))
end DL
end

section
set_option Elab.async false
set_option linter.all false
set_option maxRecDepth 100000
set_option maxHeartbeats 3999999
/-! WEng18: the statement that makes a table; a def that makes a table, changes it and gives it back beside a list -/
namespace DL
open L2 PySem PyProof.Rows PySem.Spec
variable {τ α β : Type}
theorem pg_of {Γ : Gam} {X : Cx} (h : Γ.Has X) {i : Nat} {x : Str} {pos : Pos} (nd : Γ.N.Nodup) (hi : Γ.N[i]? = some x) (hx : Loc Γ.sc x) (hf : Γ.fn x = true ∨ Γ.sc.names.lookup x = some .local) : PG X (.Name x pos) (gName i) :=
  pg_name (by rw [h.N]; exact nd) (by rw [h.N]; exact hi) (by rw [h.sc]; exact hx) (by
    rcases hf with z | z
    · exact h.fn x z
    · exact .inr (by rw [h.sc]; exact z))
theorem pv_of {Γ : Gam} {X : Cx} (h : Γ.Has X) {i : Nat} {x : Str} {pos : Pos} (hi : Γ.N[i]? = some x) (hv : Vis Γ.sc x) (hd : (x == ("__debug__" : Str)) = false) (hcd : (x == ("__classdict__" : Str)) = false) : PE X (.Name x pos) (tVar i) :=
  pe_var (by rw [h.N]; exact hi) (by rw [h.sc]; exact hv) hd hcd
theorem pe_inner {Γ : Gam} {X : Cx} (h : Γ.Has X) {i k2 : Nat} {r y2 : Str} {c : Bool} {j} {p1 q2 q3 cpos2 : Pos} {scope2 : Scope} (nd : Γ.N.Nodup) (ok2 : BlkOk Γ.N Γ.sc scope2 [(y2, k2)]) (hi : Γ.N[i]? = some r) (v2 : Vis Γ.sc r) (h2 : Γ.N[k2]? = some y2)
    (l2 : Loc (Γ.blk scope2).sc y2) (f2 : (Γ.blk scope2).fn y2 = true ∨ (Γ.blk scope2).sc.names.lookup y2 = some .local) (hd : (r == ("__debug__" : Str)) = false) (hcd : (r == ("__classdict__" : Str)) = false) :
    PE X (.ListComp (.Constant (.bool c) j p1) [⟨.Name y2 q2, .Name r q3, [], 0⟩] scope2 cpos2) (tLc (iRngV (tVar i)) (gName k2) tYes (tC (.bl c)) [k2]) :=
  pe_lc (own := [(y2, k2)]) h.calm (by rw [h.N]; exact nd) (pi_rngV (pv_of h hi v2 hd hcd)) (by rw [h.N, h.sc]; exact ok2)
    (fun _ _ _ _ _ => pg_of (blk_has h) nd h2 l2 f2) (fun _ _ _ _ _ => pts_nil) (fun _ _ _ _ _ => pe_bl) (fun _ => rfl)
theorem ps_tab {Γ : Gam} {X : Cx} (h : Γ.Has X) {i g k1 k2 : Nat} {x r y1 y2 : Str} {c : Bool} {j} {py p1 q1 q2 q3 q4 cpos cpos2 pos : Pos} {scope scope2 : Scope} (nd : Γ.N.Nodup) (hk : ∀ X, Γ.Has X → X.env.scope.kind = .function)
    (hg : Γ.N[g]? = some x) (hgl : Γ.sc.names.lookup x = some .local) (hln : (py.line == cpos.line) = true) (hna : (scope.names.any fun (n, k) => n == x && (k == .local || k == .cell)) = false)
    (ok1 : BlkOk Γ.N Γ.sc scope [(y1, k1)]) (ok2 : BlkOk Γ.N (Γ.blk scope).sc scope2 [(y2, k2)]) (hi : Γ.N[i]? = some r) (v1 : Vis Γ.sc r) (v2 : Vis (Γ.blk scope).sc r) (h1 : Γ.N[k1]? = some y1) (h2 : Γ.N[k2]? = some y2)
    (l1 : Loc (Γ.blk scope).sc y1) (f1 : (Γ.blk scope).fn y1 = true ∨ (Γ.blk scope).sc.names.lookup y1 = some .local) (l2 : Loc ((Γ.blk scope).blk scope2).sc y2) (f2 : ((Γ.blk scope).blk scope2).fn y2 = true ∨ ((Γ.blk scope).blk scope2).sc.names.lookup y2 = some .local)
    (hd : (r == ("__debug__" : Str)) = false := by decide) (hcd : (r == ("__classdict__" : Str)) = false := by decide) :
    PS X (.Assign [.Name x py] (.ListComp (.ListComp (.Constant (.bool c) j p1) [⟨.Name y2 q2, .Name r q3, [], 0⟩] scope2 cpos2) [⟨.Name y1 q1, .Name r q4, [], 0⟩] scope cpos) pos)
      (tAsg (tLc (iRngV (tVar i)) (gName k1) tYes (tLc (iRngV (tVar i)) (gName k2) tYes (tC (.bl c)) [k2]) [k1]) (gName g)) :=
  ps_setLc (own := [(y1, k1)]) h.calm (by rw [h.N]; exact nd) (by rw [h.N]; exact hg) (by rw [h.sc]; exact hgl) (sw_true (hk X h) (by rw [h.sc]; exact hgl) hln hna) (pi_rngV (pv_of h hi v1 hd hcd)) (by rw [h.N, h.sc]; exact ok1)
    (fun _ _ _ _ _ => pg_of (blk_has h) nd h1 l1 f1) (fun _ _ _ _ _ => pts_nil)
    (fun _ _ _ _ _ => pe_inner (blk_has h) nd ok2 hi v2 h2 l2 f2 hd hcd)
    (fun _ => rfl)
/-- no list and no handle stands in the slots -/
def bare (env : List (Option Sl)) : Bool := env.all fun z => match z with
  | some (.own _) => false
  | some .h => false
  | _ => true
theorem bare_own {env : List (Option Sl)} (h : bare env = true) : ∀ (i : Nat) (xs : List D), env[i]? ≠ some (some (Sl.own xs)) := fun i xs e => by
  have := List.all_eq_true.mp h _ (List.mem_of_getElem? e)
  cases this
theorem bare_h {env : List (Option Sl)} (h : bare env = true) : ∀ i : Nat, env[i]? ≠ some (some Sl.h) := fun i e => by
  have := List.all_eq_true.mp h _ (List.mem_of_getElem? e)
  cases this
/-- such a def: range in slot i, table in slot g, list in slot r -/
def runTab (n i g r : Nat) (c : Bool) (F1 : M Unit Out) (F2 : M TabS Out) (ds : List D) : Option D := match ds with
  | [lab] => (match F1 ⟨some (.d lab) :: List.replicate (n - 1) none, ()⟩ with
    | some (.nx, s1) => (match s1.env[i]? with
      | some (some (.r lo m)) => if decide (lo = 0) && decide (0 ≤ m) && decide (m ≤ 1000) && bare s1.env && decide (g < s1.env.length) then (match F2 ⟨s1.env.set g (some .h), rowsOf m.toNat (.bool c)⟩ with
        | some (.nx, s3) => (match s3.env[r]?, s3.env[g]? with
          | some (some (.own rows)), some (some .h) => some (.tuple [.list rows, tabD s3.dr])
          | _, _ => none)
        | _ => none) else none
      | _ => none)
    | _ => none)
  | _ => none
theorem tab_fin {K : Frag} {H S H1 S1 H2 H3 S3 : Hp} {s : Stt Unit} {σ : List (Option V)} {s3 : Stt TabS} {σ3 : List (Option V)} {N g r : Nat} {A : Addr} {ps : List Addr} {c : V} {rows : List D} (gd : Good K ⟨dr0, H, S⟩ s σ H1 S1) (M : Made H1 N c A ps H2)
    (g3 : Good K ⟨tabDr K A ps, H2, S1⟩ s3 σ3 H3 S3) (e1 : s3.env[r]? = some (some (.own rows))) (e2 : s3.env[g]? = some (some .h)) {Q : VK} (hQ : ∀ v H' S', Grow H S H' S' → Dq K S' v (.tuple [.list rows, tabD s3.dr]) → Q v H') :
    tRet (tTup (tCons (tVar r) (tCons (tVar g) tNil))) { nx := fun _ H' => Q .non H', rt := Q } σ3 H3 := by
  obtain ⟨p, vs, h1, _⟩ := g3.getOwn e1
  obtain ⟨v, h2, hv⟩ := g3.slot g _ e2
  obtain rfl : v = .ref A := hv
  refine ⟨.ref p, h1, .ref A, h2, ?_, fun b hb => ?_⟩
  · show 2 ≤ sizeLine
    rw [sizeLine_eq]
    decide
  · obtain ⟨p', q1, q2, q3⟩ := tab_end gd M g3 e1 e2 hb hQ
    rw [h1] at q1
    cases q1
    exact q3
theorem fnTab {P : Program} {w : World} {K : Frag} {mg : Str → Option Value} {base : Heap} {x qual y : Str} {st s1 s2 s3 s4 s5 : Stmt} {f : Addr} {fd : FuncData} {N : List Str} {k n i g r k1 k2 : Nat} {c : Bool} {F1 : M Unit Out} {F3 F4 : M TabS Out} (Fn : Fun K x qual st f fd) (Sc : FnScope N [y] (defScope st))
    (hN : N.length = n) (hgn : g < n) (hki : k1 ≠ i) (hb : defBody st = [s1, s2, s3, s4, s5])
    (b1 : ∀ (A : Around) (B : Bd Unit), Gam.Ok ⟨P, w, K, mg, base, A, N, defScope st, fun _ => true⟩ k → DS ⟨P, w, K, mg, base, A, N, defScope st, fun _ => true⟩ B s1 F1)
    (b2 : ∀ (A : Around) (X : Cx), Gam.Ok ⟨P, w, K, mg, base, A, N, defScope st, fun _ => true⟩ k → Gam.Has ⟨P, w, K, mg, base, A, N, defScope st, fun _ => true⟩ X → PS X s2 (tAsg (tLc (iRngV (tVar i)) (gName k1) tYes (tLc (iRngV (tVar i)) (gName k2) tYes (tC (.bl c)) [k2]) [k1]) (gName g)))
    (b3 : ∀ (A : Around) (B : Bd TabS), (∃ p ps, B.dr = tabDr K p ps ∧ (p :: ps).Nodup) → Gam.Ok ⟨P, w, K, mg, base, A, N, defScope st, fun _ => true⟩ k → DS ⟨P, w, K, mg, base, A, N, defScope st, fun _ => true⟩ B s3 F3)
    (b4 : ∀ (A : Around) (B : Bd TabS), (∃ p ps, B.dr = tabDr K p ps ∧ (p :: ps).Nodup) → Gam.Ok ⟨P, w, K, mg, base, A, N, defScope st, fun _ => true⟩ k → DS ⟨P, w, K, mg, base, A, N, defScope st, fun _ => true⟩ B s4 F4)
    (b5 : ∀ (A : Around) (X : Cx), Gam.Ok ⟨P, w, K, mg, base, A, N, defScope st, fun _ => true⟩ k → Gam.Has ⟨P, w, K, mg, base, A, N, defScope st, fun _ => true⟩ X → PS X s5 (tRet (tTup (tCons (tVar r) (tCons (tVar g) tNil))))) :
    FnG P w K mg base (k + 1) f fd [y] (spP K (runTab n i g r c F1 (seqM F3 F4))) := by
  refine fnAny (k := k) Fn Sc ?_ fun A vs H Q E hsp ok => ?_
  · rintro vs H Q E ⟨S, ds, d, _, h, e, _⟩
    rw [h.len]
    unfold runTab at e
    split at e
    · rfl
    · cases e
  obtain ⟨S, ds, d, wS, hds, hrun, hQ⟩ := hsp
  obtain ⟨t1, p1, m1⟩ := b1 A ⟨dr0, H, S⟩ ok
  have gs := good_start (K := K) (N := N) wS hds
  refine ⟨tSeq t1 (tSeq (tAsg (tLc (iRngV (tVar i)) (gName k1) tYes (tLc (iRngV (tVar i)) (gName k2) tYes (tC (.bl c)) [k2]) [k1]) (gName g)) (tEx fun t => ∀ X, Gam.Has ⟨P, w, K, mg, base, A, N, defScope st, fun _ => true⟩ X → PSs X [s3, s4, s5] t)),
    fun X h => by rw [hb]; exact pss_cons (p1 X h) (pss_cons (b2 A X ok h) (pss_ex fun t pt => pt X h)), ?_⟩
  unfold runTab at hrun
  split at hrun
  · rename_i lab
    split at hrun
    · rename_i sa ea
      split at hrun
      · rename_i lo m er
        split at hrun
        · rename_i hz
          simp only [Bool.and_eq_true, decide_eq_true_eq] at hz
          obtain ⟨⟨⟨⟨rfl, h0⟩, hm⟩, hbare⟩, hgl⟩ := hz
          split at hrun
          · rename_i sc ec
            split at hrun
            · rename_i rows er3 eg3
              cases hrun
              have ea' : F1 ⟨([lab].map fun d => some (Sl.d d)) ++ List.replicate (N.length - [lab].length) none, ()⟩ = some (.nx, sa) := by
                rw [hN]
                exact ea
              refine m1 _ _ H S gs _ _ ea' _ fun σ1 H1 S1 g1 w1 => ?_
              obtain ⟨v, hv1, a, rfl, hv2⟩ := g1.slot i _ er
              suffices key : tLc (iRngV (tVar i)) (gName k1) tYes (tLc (iRngV (tVar i)) (gName k2) tYes (tC (.bl c)) [k2]) [k1] σ1 H1 (fun v H' => tEx (fun t => ∀ X, Gam.Has ⟨P, w, K, mg, base, A, N, defScope st, fun _ => true⟩ X → PSs X [s3, s4, s5] t) { nx := fun _ H' => Q .non H', rt := Q } (σ1.set g (some v)) H') from key
              refine lcTab_run (a := a) (n := m) hv1 (g1.fr.sub _ _ hv2) h0 hm hki fun T ps H2 hl M => ?_
              have hgl : g < σ1.length := by rw [← g1.len]; exact hgl
              have g2 := good_tab (B := ⟨dr0, H, S⟩) (N := m.toNat) (g := g) (A := T) (ps := ps) (d := .bool c) (.bl c) g1 hl M hgl (bare_own hbare) (bare_h hbare)
              obtain ⟨t3, p3, m3⟩ := b3 A ⟨tabDr K T ps, H2, S1⟩ ⟨T, ps, rfl, M.nd⟩ ok
              obtain ⟨t4, p4, m4⟩ := b4 A ⟨tabDr K T ps, H2, S1⟩ ⟨T, ps, rfl, M.nd⟩ ok
              refine ⟨tSeq t3 (tSeq t4 (tRet (tTup (tCons (tVar r) (tCons (tVar g) tNil))))), fun X h => pss_cons (p3 X h) (pss_cons (p4 X h) (pss_one (b5 A X ok h))), ?_⟩
              obtain ⟨o3, sb, e3, e4⟩ := bnd_some ec
              refine m3 _ _ H2 S1 g2 o3 sb e3 _ ?_
              cases o3 with
              | nx =>
                refine fun σ3 H3 S3 g3 w3 => ?_
                refine m4 _ _ H3 S3 g3 _ _ e4 _ fun σ4 H4 S4 g4 w4 => ?_
                exact tab_fin g1 M g4 er3 eg3 hQ
              | bk => obtain ⟨q, _⟩ := ret_some e4; cases q
              | ct => obtain ⟨q, _⟩ := ret_some e4; cases q
              | rt d => obtain ⟨q, _⟩ := ret_some e4; cases q
              | rn xs => obtain ⟨q, _⟩ := ret_some e4; cases q
            · cases hrun
          · cases hrun
        · cases hrun
      · cases hrun
    · cases hrun
  · cases hrun
end DL
end

section
set_option Elab.async false
set_option linter.all false
set_option maxRecDepth 100000
set_option maxHeartbeats 3999999
open DL L2 PySem PyProof.Rows PySem.Spec
namespace LW
abbrev s_is_whole : Stmt := PySem.Challenge.pw_washedarms_k04_whole_needless_washes_and.main.body.getD 5 (.Pass ⟨0, 0, 0, 0⟩)
abbrev s_is_within : Stmt := PySem.Challenge.pw_washedarms_k04_whole_needless_washes_and.main.body.getD 6 (.Pass ⟨0, 0, 0, 0⟩)
abbrev s_is_tuple_of : Stmt := PySem.Challenge.pw_washedarms_k04_whole_needless_washes_and.main.body.getD 7 (.Pass ⟨0, 0, 0, 0⟩)
abbrev s_is_tuple_to : Stmt := PySem.Challenge.pw_washedarms_k04_whole_needless_washes_and.main.body.getD 17 (.Pass ⟨0, 0, 0, 0⟩)
abbrev s_first_descent : Stmt := PySem.Challenge.pw_washedarms_k04_whole_needless_washes_and.main.body.getD 18 (.Pass ⟨0, 0, 0, 0⟩)
abbrev s_meets_fault : Stmt := PySem.Challenge.pw_washedarms_k04_whole_needless_washes_and.main.body.getD 19 (.Pass ⟨0, 0, 0, 0⟩)
abbrev s_wash_fault : Stmt := PySem.Challenge.pw_washedarms_k04_whole_needless_washes_and.main.body.getD 20 (.Pass ⟨0, 0, 0, 0⟩)
abbrev s_lab_fault : Stmt := PySem.Challenge.pw_washedarms_k04_whole_needless_washes_and.main.body.getD 21 (.Pass ⟨0, 0, 0, 0⟩)
abbrev s_need_lab : Stmt := PySem.Challenge.pw_washedarms_k04_whole_needless_washes_and.main.body.getD 22 (.Pass ⟨0, 0, 0, 0⟩)
abbrev s_first_reason : Stmt := PySem.Challenge.pw_washedarms_k04_whole_needless_washes_and.main.body.getD 24 (.Pass ⟨0, 0, 0, 0⟩)
abbrev s_falls : Stmt := PySem.Challenge.pw_washedarms_k04_whole_needless_washes_and.main.body.getD 25 (.Pass ⟨0, 0, 0, 0⟩)
abbrev s_as_good_table : Stmt := PySem.Challenge.pw_washedarms_k04_whole_needless_washes_and.main.body.getD 26 (.Pass ⟨0, 0, 0, 0⟩)
abbrev s_stands_for : Stmt := PySem.Challenge.pw_washedarms_k04_whole_needless_washes_and.main.body.getD 28 (.Pass ⟨0, 0, 0, 0⟩)
abbrev s_is_needless : Stmt := PySem.Challenge.pw_washedarms_k04_whole_needless_washes_and.main.body.getD 29 (.Pass ⟨0, 0, 0, 0⟩)
abbrev s_needless_washes : Stmt := PySem.Challenge.pw_washedarms_k04_whole_needless_washes_and.main.body.getD 30 (.Pass ⟨0, 0, 0, 0⟩)
abbrev s_lab_without : Stmt := PySem.Challenge.pw_washedarms_k04_whole_needless_washes_and.main.body.getD 31 (.Pass ⟨0, 0, 0, 0⟩)
abbrev s_worst_results : Stmt := PySem.Challenge.pw_washedarms_k04_whole_needless_washes_and.main.body.getD 32 (.Pass ⟨0, 0, 0, 0⟩)
abbrev s_lab_with_worst : Stmt := PySem.Challenge.pw_washedarms_k04_whole_needless_washes_and.main.body.getD 33 (.Pass ⟨0, 0, 0, 0⟩)
abbrev s__law_mixed : Stmt := PySem.Challenge.pw_washedarms_k04_whole_needless_washes_and.main.body.getD 35 (.Pass ⟨0, 0, 0, 0⟩)
abbrev s__law_folded : Stmt := PySem.Challenge.pw_washedarms_k04_whole_needless_washes_and.main.body.getD 36 (.Pass ⟨0, 0, 0, 0⟩)
abbrev s__law_draw : Stmt := PySem.Challenge.pw_washedarms_k04_whole_needless_washes_and.main.body.getD 37 (.Pass ⟨0, 0, 0, 0⟩)
abbrev s__law_begun : Stmt := PySem.Challenge.pw_washedarms_k04_whole_needless_washes_and.main.body.getD 38 (.Pass ⟨0, 0, 0, 0⟩)
abbrev s__law_like : Stmt := PySem.Challenge.pw_washedarms_k04_whole_needless_washes_and.main.body.getD 39 (.Pass ⟨0, 0, 0, 0⟩)
abbrev s__law_order : Stmt := PySem.Challenge.pw_washedarms_k04_whole_needless_washes_and.main.body.getD 40 (.Pass ⟨0, 0, 0, 0⟩)
abbrev s__law_up : Stmt := PySem.Challenge.pw_washedarms_k04_whole_needless_washes_and.main.body.getD 41 (.Pass ⟨0, 0, 0, 0⟩)
abbrev s__law_wash_drawn : Stmt := PySem.Challenge.pw_washedarms_k04_whole_needless_washes_and.main.body.getD 42 (.Pass ⟨0, 0, 0, 0⟩)
abbrev s__law_meets_drawn : Stmt := PySem.Challenge.pw_washedarms_k04_whole_needless_washes_and.main.body.getD 43 (.Pass ⟨0, 0, 0, 0⟩)
abbrev s__law_lab_drawn : Stmt := PySem.Challenge.pw_washedarms_k04_whole_needless_washes_and.main.body.getD 44 (.Pass ⟨0, 0, 0, 0⟩)
abbrev s__law_is_good : Stmt := PySem.Challenge.pw_washedarms_k04_whole_needless_washes_and.main.body.getD 45 (.Pass ⟨0, 0, 0, 0⟩)
abbrev s__law_pairs_due : Stmt := PySem.Challenge.pw_washedarms_k04_whole_needless_washes_and.main.body.getD 46 (.Pass ⟨0, 0, 0, 0⟩)
abbrev s__law_near_wash : Stmt := PySem.Challenge.pw_washedarms_k04_whole_needless_washes_and.main.body.getD 47 (.Pass ⟨0, 0, 0, 0⟩)
abbrev s__law_washed_lab : Stmt := PySem.Challenge.pw_washedarms_k04_whole_needless_washes_and.main.body.getD 48 (.Pass ⟨0, 0, 0, 0⟩)
abbrev s__law_stands : Stmt := PySem.Challenge.pw_washedarms_k04_whole_needless_washes_and.main.body.getD 49 (.Pass ⟨0, 0, 0, 0⟩)
abbrev s__law_needless_due : Stmt := PySem.Challenge.pw_washedarms_k04_whole_needless_washes_and.main.body.getD 50 (.Pass ⟨0, 0, 0, 0⟩)
abbrev s__law_entry_due : Stmt := PySem.Challenge.pw_washedarms_k04_whole_needless_washes_and.main.body.getD 51 (.Pass ⟨0, 0, 0, 0⟩)
abbrev s__law_kept_right : Stmt := PySem.Challenge.pw_washedarms_k04_whole_needless_washes_and.main.body.getD 52 (.Pass ⟨0, 0, 0, 0⟩)
abbrev s_law : Stmt := PySem.Challenge.pw_washedarms_k04_whole_needless_washes_and.main.body.getD 53 (.Pass ⟨0, 0, 0, 0⟩)
structure Top (K : Frag) (mg : Str → Option Value) : Prop where
  n_bool : mg "bool" = none
  n_enumerate : mg "enumerate" = none
  n_int : mg "int" = none
  n_isinstance : mg "isinstance" = none
  n_len : mg "len" = none
  n_list : mg "list" = none
  n_max : mg "max" = none
  n_min : mg "min" = none
  n_range : mg "range" = none
  n_repr : mg "repr" = none
  n_set : mg "set" = none
  n_sorted : mg "sorted" = none
  n_tuple : mg "tuple" = none
  g_MOST_ARMS : ∃ t, mg "MOST_ARMS" = some (.int (3) t)
  g_MOST_RESULTS : ∃ t, mg "MOST_RESULTS" = some (.int (3) t)
  g_MOST_STATES : ∃ t, mg "MOST_STATES" = some (.int (8) t)
  g_MOST_STUFFS : ∃ t, mg "MOST_STUFFS" = some (.int (8) t)
  g_MOST_TICKS : ∃ t, mg "MOST_TICKS" = some (.int (6) t)
  g_MOST_TOOLS : ∃ t, mg "MOST_TOOLS" = some (.int (3) t)
  g_MOST_WASHES : ∃ t, mg "MOST_WASHES" = some (.int (3) t)
  g_MOST_ZONES : ∃ t, mg "MOST_ZONES" = some (.int (4) t)
  h_is_whole : Has K mg "is_whole" s_is_whole ["value"]
  h_is_within : Has K mg "is_within" s_is_within ["value", "low", "high"]
  h_is_tuple_of : Has K mg "is_tuple_of" s_is_tuple_of ["value", "many"]
  h_is_tuple_to : Has K mg "is_tuple_to" s_is_tuple_to ["value", "low", "high"]
  h_first_descent : Has K mg "first_descent" s_first_descent ["value", "limit"]
  h_meets_fault : Has K mg "meets_fault" s_meets_fault ["meets"]
  h_wash_fault : Has K mg "wash_fault" s_wash_fault ["wash", "states"]
  h_lab_fault : Has K mg "lab_fault" s_lab_fault ["value"]
  h_need_lab : Has K mg "need_lab" s_need_lab ["lab"]
  h_first_reason : Has K mg "first_reason" s_first_reason ["lab", "good", "better", "worse"]
  h_falls : Has K mg "falls" s_falls ["lab"]
  h_as_good_table : Has K mg "as_good_table" s_as_good_table ["lab"]
  h_stands_for : Has K mg "stands_for" s_stands_for ["lab", "good", "wash", "other"]
  h_is_needless : Has K mg "is_needless" s_is_needless ["lab", "good", "wash"]
  h_needless_washes : Has K mg "needless_washes" s_needless_washes ["lab"]
  h_lab_without : Has K mg "lab_without" s_lab_without ["lab", "washes"]
  h_worst_results : Has K mg "worst_results" s_worst_results ["good", "results"]
  h_lab_with_worst : Has K mg "lab_with_worst" s_lab_with_worst ["lab"]
  h__law_mixed : Has K mg "_law_mixed" s__law_mixed ["cell", "n"]
  h__law_folded : Has K mg "_law_folded" s__law_folded ["script"]
  h__law_draw : Has K mg "_law_draw" s__law_draw ["m", "limit"]
  h__law_begun : Has K mg "_law_begun" s__law_begun ["script"]
  h__law_like : Has K mg "_law_like" s__law_like ["got", "due"]
  h__law_order : Has K mg "_law_order" s__law_order ["m", "many"]
  h__law_up : Has K mg "_law_up" s__law_up ["m", "many", "least", "top"]
  h__law_wash_drawn : Has K mg "_law_wash_drawn" s__law_wash_drawn ["m", "states", "top"]
  h__law_meets_drawn : Has K mg "_law_meets_drawn" s__law_meets_drawn ["m", "states", "stuffs"]
  h__law_lab_drawn : Has K mg "_law_lab_drawn" s__law_lab_drawn ["m", "states", "stuffs", "washes", "top"]
  h__law_is_good : Has K mg "_law_is_good" s__law_is_good ["lab", "good", "better", "worse"]
  h__law_pairs_due : Has K mg "_law_pairs_due" s__law_pairs_due ["lab"]
  h__law_near_wash : Has K mg "_law_near_wash" s__law_near_wash ["m", "lab", "wash"]
  h__law_washed_lab : Has K mg "_law_washed_lab" s__law_washed_lab ["m"]
  h__law_stands : Has K mg "_law_stands" s__law_stands ["lab", "good", "wash", "other"]
  h__law_needless_due : Has K mg "_law_needless_due" s__law_needless_due ["lab", "good"]
  h__law_entry_due : Has K mg "_law_entry_due" s__law_entry_due ["good", "results"]
  h__law_kept_right : Has K mg "_law_kept_right" s__law_kept_right ["lab", "good", "due"]
  h_law : Has K mg "law" s_law ["script"]
section
variable {P : Program} {w : World} {K : Frag} {mg : Str → Option Value} {base : Heap}
def F_is_whole : M Unit Out := (retM (andV (isiM "int" (nameM 0)) (notV (isiM "bool" (nameM 0)))))
def m_is_whole : List D → Option D := runP2 1 1 F_is_whole
theorem d_is_whole (T : Top K mg) : DefQ P w K mg base 1 "is_whole" ["value"] m_is_whole :=
  Has.pure (N := ["value"]) T.h_is_whole ⟨rfl, rfl, rfl, by decide +kernel, rfl, by decide +kernel, by decide +kernel⟩ rfl rfl fun A B ok =>
    (DSs.one (DS.ret (DO.and (DO.isi (by decide) (nm 0) rfl T.n_isinstance rfl T.n_int rfl) (DO.one (DO.not (DO.isi (by decide) (nm 0) rfl T.n_isinstance rfl T.n_bool rfl))))))
def F_is_within : M Unit Out := (retM (andV (callP m_is_whole (consD (nameM 0) nilM)) (chainM leD leD (nameM 1) (nameM 0) (nameM 2))))
def m_is_within : List D → Option D := runP2 3 3 F_is_within
theorem d_is_within (T : Top K mg) : DefQ P w K mg base 2 "is_within" ["value", "low", "high"] m_is_within :=
  Has.pure (N := ["value", "low", "high"]) T.h_is_within ⟨rfl, rfl, rfl, by decide +kernel, rfl, by decide +kernel, by decide +kernel⟩ rfl rfl fun A B ok =>
    (DSs.one (DS.ret (DO.and (DO.callQ (d_is_whole T) ok (by decide) (DV.cons (nm 0) DV.nil)) (DO.one (DO.chain od_le od_le (nm 1) (nm 0) (nm 2))))))
def F_is_tuple_of : M Unit Out := (retM (andV (isiM "tuple" (nameM 0)) (op2 eqD (callM lenD (consO (nameM 0) nilM)) (nameM 1))))
def m_is_tuple_of : List D → Option D := runP2 2 2 F_is_tuple_of
theorem d_is_tuple_of (T : Top K mg) : DefQ P w K mg base 1 "is_tuple_of" ["value", "many"] m_is_tuple_of :=
  Has.pure (N := ["value", "many"]) T.h_is_tuple_of ⟨rfl, rfl, rfl, by decide +kernel, rfl, by decide +kernel, by decide +kernel⟩ rfl rfl fun A B ok =>
    (DSs.one (DS.ret (DO.and (DO.isi (by decide) (nm 0) rfl T.n_isinstance rfl T.n_tuple rfl) (DO.one (DO.cmp (od_eq ok) (DO.callB cd_len rfl T.n_len rfl (DA.cons (nm 0) DA.nil)) (nm 1) rfl)))))
def F_is_tuple_to : M Unit Out := (retM (andV (isiM "tuple" (nameM 0)) (chainM leD leD (nameM 1) (callM lenD (consO (nameM 0) nilM)) (nameM 2))))
def m_is_tuple_to : List D → Option D := runP2 3 3 F_is_tuple_to
theorem d_is_tuple_to (T : Top K mg) : DefQ P w K mg base 1 "is_tuple_to" ["value", "low", "high"] m_is_tuple_to :=
  Has.pure (N := ["value", "low", "high"]) T.h_is_tuple_to ⟨rfl, rfl, rfl, by decide +kernel, rfl, by decide +kernel, by decide +kernel⟩ rfl rfl fun A B ok =>
    (DSs.one (DS.ret (DO.and (DO.isi (by decide) (nm 0) rfl T.n_isinstance rfl T.n_tuple rfl) (DO.one (DO.chain od_le od_le (nm 1) (DO.callB cd_len rfl T.n_len rfl (DA.cons (nm 0) DA.nil)) (nm 2))))))
def F_first_descent : M Unit Out := (seqM (asgM 2 (negM (ret (.val (PyData.int 1))))) (seqM (loopM (enumM (nameM 0)) (tupG 2 (gsCons (setM 3) (gsCons (setM 4) gsNil))) (seqM (ifM (notT (bnd (callP m_is_within (consD (nameM 4) (consD (op2 addD (nameM 2) (ret (.val (PyData.int 1)))) (consD (op2 subD (nameM 1) (ret (.val (PyData.int 1)))) nilM)))) boolO)) (retM (nameM 3)) (ret .nx)) (asgM 2 (nameM 4)))) (retM (ret (.val PyData.none)))))
def m_first_descent : List D → Option D := runP2 2 5 F_first_descent
theorem d_first_descent (T : Top K mg) : DefQ P w K mg base 3 "first_descent" ["value", "limit"] m_first_descent :=
  Has.pure (N := ["value", "limit", "last", "index", "thing"]) T.h_first_descent ⟨rfl, rfl, rfl, by decide +kernel, rfl, by decide +kernel, by decide +kernel⟩ rfl rfl fun A B ok =>
    (DSs.cons (DS.set (i := 2) ok.nd rfl (by first | exact Or.inl rfl | exact Or.inr rfl) (Or.inl rfl) (DO.neg DO.int)) (DSs.cons (DS.for_ (DI.enum (nm 0) rfl T.n_enumerate) (DG.tup (DGs.cons (DG.name (i := 3) ok.nd rfl (by first | exact Or.inl rfl | exact Or.inr rfl) (by first | exact Or.inl rfl | exact Or.inr rfl)) (DGs.cons (DG.name (i := 4) ok.nd rfl (by first | exact Or.inl rfl | exact Or.inr rfl) (by first | exact Or.inl rfl | exact Or.inr rfl)) DGs.nil))) (DSs.cons (DS.if_ (DT.not (DT.val (DO.callQ (d_is_within T) ok (by decide) (DV.cons (nm 4) (DV.cons (DO.bin od_add (nm 2) DO.int) (DV.cons (DO.bin od_sub (nm 1) DO.int) DV.nil)))))) (DSs.one (DS.ret (nm 3))) DSs.nil) (DSs.one (DS.set (i := 2) ok.nd rfl (by first | exact Or.inl rfl | exact Or.inr rfl) (Or.inl rfl) (nm 4))))) (DSs.one (DS.ret DO.non))))
def F_meets_fault : M Unit Out := (seqM (ifM (notT (bnd (callP m_is_tuple_to (consD (nameM 0) (consD (ret (.val (PyData.int 1))) (consD (ret (.val (PyData.int 8))) nilM)))) boolO)) (retM (tupM (consD (ret (.val (PyData.int 0))) nilM))) (ret .nx)) (seqM (asgM 1 (ret (.val (PyData.int 0)))) (seqM (loopM (enumM (nameM 0)) (tupG 2 (gsCons (setM 2) (gsCons (setM 3) gsNil))) (seqM (ifM (andT (bnd (op2 eqD (nameM 2) (ret (.val (PyData.int 0)))) boolO) (notT (bnd (callP m_is_tuple_to (consD (nameM 3) (consD (ret (.val (PyData.int 1))) (consD (ret (.val (PyData.int 8))) nilM)))) boolO))) (retM (tupM (consD (ret (.val (PyData.int 0))) (consD (ret (.val (PyData.int 0))) nilM)))) (ret .nx)) (seqM (asgM 1 (iteM (bnd (op2 eqD (nameM 2) (ret (.val (PyData.int 0)))) boolO) (callM lenD (consO (nameM 3) nilM)) (nameM 1))) (seqM (ifM (notT (bnd (callP m_is_tuple_of (consD (nameM 3) (consD (nameM 1) nilM))) boolO)) (retM (tupM (consD (ret (.val (PyData.int 0))) (consD (nameM 2) nilM)))) (ret .nx)) (loopM (enumM (nameM 3)) (tupG 2 (gsCons (setM 4) (gsCons (setM 5) gsNil))) (ifM (orT (andT (bnd (op2 isD (nameM 5) (ret (.val PyData.none))) boolO) (bnd (op2 eqD (nameM 2) (ret (.val (PyData.int 0)))) boolO)) (andT (bnd (op2 isNotD (nameM 5) (ret (.val PyData.none))) boolO) (notT (bnd (callP m_is_within (consD (nameM 5) (consD (ret (.val (PyData.int 0))) (consD (op2 subD (callM lenD (consO (nameM 0) nilM)) (ret (.val (PyData.int 1)))) nilM)))) boolO)))) (retM (tupM (consD (ret (.val (PyData.int 0))) (consD (nameM 2) (consD (nameM 4) nilM))))) (ret .nx))))))) (retM (ret (.val PyData.none))))))
def m_meets_fault : List D → Option D := runP2 1 6 F_meets_fault
theorem d_meets_fault (T : Top K mg) : DefQ P w K mg base 3 "meets_fault" ["meets"] m_meets_fault :=
  Has.pure (N := ["meets", "stuffs", "state", "row", "stuff", "entry"]) T.h_meets_fault ⟨rfl, rfl, rfl, by decide +kernel, rfl, by decide +kernel, by decide +kernel⟩ rfl rfl fun A B ok =>
    (DSs.cons (DS.if_ (DT.not (DT.val (DO.callQ (d_is_tuple_to T) ok (by decide) (DV.cons (nm 0) (DV.cons DO.int (DV.cons (gi T.g_MOST_STATES) DV.nil)))))) (DSs.one (DS.ret (DO.tup (DV.cons DO.int DV.nil)))) DSs.nil) (DSs.cons (DS.set (i := 1) ok.nd rfl (by first | exact Or.inl rfl | exact Or.inr rfl) (Or.inl rfl) DO.int) (DSs.cons (DS.for_ (DI.enum (nm 0) rfl T.n_enumerate) (DG.tup (DGs.cons (DG.name (i := 2) ok.nd rfl (by first | exact Or.inl rfl | exact Or.inr rfl) (by first | exact Or.inl rfl | exact Or.inr rfl)) (DGs.cons (DG.name (i := 3) ok.nd rfl (by first | exact Or.inl rfl | exact Or.inr rfl) (by first | exact Or.inl rfl | exact Or.inr rfl)) DGs.nil))) (DSs.cons (DS.if_ (DW.pt (DW.and (DT.cmp (od_eq ok) (nm 2) DO.int rfl) (DW.and1 (DT.not (DT.val (DO.callQ (d_is_tuple_to T) ok (by decide) (DV.cons (nm 3) (DV.cons DO.int (DV.cons (gi T.g_MOST_STUFFS) DV.nil))))))))) (DSs.one (DS.ret (DO.tup (DV.cons DO.int (DV.cons DO.int DV.nil))))) DSs.nil) (DSs.cons (DS.set (i := 1) ok.nd rfl (by first | exact Or.inl rfl | exact Or.inr rfl) (Or.inl rfl) (DO.ite (DT.cmp (od_eq ok) (nm 2) DO.int rfl) (DO.callB cd_len rfl T.n_len rfl (DA.cons (nm 3) DA.nil)) (nm 1))) (DSs.cons (DS.if_ (DT.not (DT.val (DO.callQ (d_is_tuple_of T) ok (by decide) (DV.cons (nm 3) (DV.cons (nm 1) DV.nil))))) (DSs.one (DS.ret (DO.tup (DV.cons DO.int (DV.cons (nm 2) DV.nil))))) DSs.nil) (DSs.one (DS.for_ (DI.enum (nm 3) rfl T.n_enumerate) (DG.tup (DGs.cons (DG.name (i := 4) ok.nd rfl (by first | exact Or.inl rfl | exact Or.inr rfl) (by first | exact Or.inl rfl | exact Or.inr rfl)) (DGs.cons (DG.name (i := 5) ok.nd rfl (by first | exact Or.inl rfl | exact Or.inr rfl) (by first | exact Or.inl rfl | exact Or.inr rfl)) DGs.nil))) (DSs.one (DS.if_ (DW.pt (DW.or (DW.pt (DW.and (DT.cmp od_is (nm 5) DO.non rfl) (DW.and1 (DT.cmp (od_eq ok) (nm 2) DO.int rfl)))) (DW.or1 (DW.pt (DW.and (DT.cmp od_isNot (nm 5) DO.non rfl) (DW.and1 (DT.not (DT.val (DO.callQ (d_is_within T) ok (by decide) (DV.cons (nm 5) (DV.cons DO.int (DV.cons (DO.bin od_sub (DO.callB cd_len rfl T.n_len rfl (DA.cons (nm 0) DA.nil)) DO.int) DV.nil)))))))))))) (DSs.one (DS.ret (DO.tup (DV.cons DO.int (DV.cons (nm 2) (DV.cons (nm 4) DV.nil)))))) DSs.nil)))))))) (DSs.one (DS.ret DO.non)))))
def F_wash_fault : M Unit Out := (seqM (ifM (notT (bnd (callP m_is_tuple_of (consD (nameM 0) (consD (ret (.val (PyData.int 3))) nilM))) boolO)) (retM (tupM nilM)) (ret .nx)) (seqM (unpM (nameM 0) (tupG 3 (gsCons (setM 2) (gsCons (setM 3) (gsCons (setM 4) gsNil))))) (seqM (ifM (notT (bnd (callP m_is_tuple_of (consD (nameM 2) (consD (nameM 1) nilM))) boolO)) (retM (tupM (consD (ret (.val (PyData.int 0))) nilM))) (ret .nx)) (seqM (loopM (enumM (nameM 2)) (tupG 2 (gsCons (setM 5) (gsCons (setM 6) gsNil))) (seqM (ifM (notT (bnd (callP m_is_tuple_to (consD (nameM 6) (consD (ret (.val (PyData.int 1))) (consD (ret (.val (PyData.int 3))) nilM)))) boolO)) (retM (tupM (consD (ret (.val (PyData.int 0))) (consD (nameM 5) nilM)))) (ret .nx)) (seqM (asgM 7 (callP m_first_descent (consD (nameM 6) (consD (nameM 1) nilM)))) (ifM (bnd (op2 isNotD (nameM 7) (ret (.val PyData.none))) boolO) (retM (tupM (consD (ret (.val (PyData.int 0))) (consD (nameM 5) (consD (nameM 7) nilM))))) (ret .nx))))) (seqM (ifM (notT (bnd (callP m_is_within (consD (nameM 3) (consD (ret (.val (PyData.int 1))) (consD (ret (.val (PyData.int 6))) nilM)))) boolO)) (retM (tupM (consD (ret (.val (PyData.int 1))) nilM))) (ret .nx)) (seqM (ifM (notT (bnd (callP m_is_within (consD (nameM 4) (consD (nameM 3) (consD (ret (.val (PyData.int 6))) nilM)))) boolO)) (retM (tupM (consD (ret (.val (PyData.int 2))) nilM))) (ret .nx)) (retM (ret (.val PyData.none)))))))))
def m_wash_fault : List D → Option D := runP2 2 8 F_wash_fault
theorem d_wash_fault (T : Top K mg) : DefQ P w K mg base 4 "wash_fault" ["wash", "states"] m_wash_fault :=
  Has.pure (N := ["wash", "states", "after", "low", "high", "state", "results", "wrong"]) T.h_wash_fault ⟨rfl, rfl, rfl, by decide +kernel, rfl, by decide +kernel, by decide +kernel⟩ rfl rfl fun A B ok =>
    (DSs.cons (DS.if_ (DT.not (DT.val (DO.callQ (d_is_tuple_of T) ok (by decide) (DV.cons (nm 0) (DV.cons DO.int DV.nil))))) (DSs.one (DS.ret (DO.tup DV.nil))) DSs.nil) (DSs.cons (DS.unp (nm 0) (DG.tup (DGs.cons (DG.name (i := 2) ok.nd rfl (by first | exact Or.inl rfl | exact Or.inr rfl) (by first | exact Or.inl rfl | exact Or.inr rfl)) (DGs.cons (DG.name (i := 3) ok.nd rfl (by first | exact Or.inl rfl | exact Or.inr rfl) (by first | exact Or.inl rfl | exact Or.inr rfl)) (DGs.cons (DG.name (i := 4) ok.nd rfl (by first | exact Or.inl rfl | exact Or.inr rfl) (by first | exact Or.inl rfl | exact Or.inr rfl)) DGs.nil))))) (DSs.cons (DS.if_ (DT.not (DT.val (DO.callQ (d_is_tuple_of T) ok (by decide) (DV.cons (nm 2) (DV.cons (nm 1) DV.nil))))) (DSs.one (DS.ret (DO.tup (DV.cons DO.int DV.nil)))) DSs.nil) (DSs.cons (DS.for_ (DI.enum (nm 2) rfl T.n_enumerate) (DG.tup (DGs.cons (DG.name (i := 5) ok.nd rfl (by first | exact Or.inl rfl | exact Or.inr rfl) (by first | exact Or.inl rfl | exact Or.inr rfl)) (DGs.cons (DG.name (i := 6) ok.nd rfl (by first | exact Or.inl rfl | exact Or.inr rfl) (by first | exact Or.inl rfl | exact Or.inr rfl)) DGs.nil))) (DSs.cons (DS.if_ (DT.not (DT.val (DO.callQ (d_is_tuple_to T) ok (by decide) (DV.cons (nm 6) (DV.cons DO.int (DV.cons (gi T.g_MOST_RESULTS) DV.nil)))))) (DSs.one (DS.ret (DO.tup (DV.cons DO.int (DV.cons (nm 5) DV.nil))))) DSs.nil) (DSs.cons (DS.set (i := 7) ok.nd rfl (by first | exact Or.inl rfl | exact Or.inr rfl) (Or.inl rfl) (DO.callQ (d_first_descent T) ok (by decide) (DV.cons (nm 6) (DV.cons (nm 1) DV.nil)))) (DSs.one (DS.if_ (DT.cmp od_isNot (nm 7) DO.non rfl) (DSs.one (DS.ret (DO.tup (DV.cons DO.int (DV.cons (nm 5) (DV.cons (nm 7) DV.nil)))))) DSs.nil))))) (DSs.cons (DS.if_ (DT.not (DT.val (DO.callQ (d_is_within T) ok (by decide) (DV.cons (nm 3) (DV.cons DO.int (DV.cons (gi T.g_MOST_TICKS) DV.nil)))))) (DSs.one (DS.ret (DO.tup (DV.cons DO.int DV.nil)))) DSs.nil) (DSs.cons (DS.if_ (DT.not (DT.val (DO.callQ (d_is_within T) ok (by decide) (DV.cons (nm 4) (DV.cons (nm 3) (DV.cons (gi T.g_MOST_TICKS) DV.nil)))))) (DSs.one (DS.ret (DO.tup (DV.cons DO.int DV.nil)))) DSs.nil) (DSs.one (DS.ret DO.non))))))))
def F_lab_fault : M Unit Out := (seqM (ifM (notT (bnd (callP m_is_tuple_of (consD (nameM 0) (consD (ret (.val (PyData.int 5))) nilM))) boolO)) (retM (tupM (consD (ret (.val (PyData.str "lab"))) (consD (tupM nilM) nilM)))) (ret .nx)) (seqM (unpM (nameM 0) (tupG 5 (gsCons (setM 1) (gsCons (setM 2) (gsCons (setM 3) (gsCons (setM 4) (gsCons (setM 5) gsNil))))))) (seqM (asgM 6 (callP m_meets_fault (consD (nameM 1) nilM))) (seqM (ifM (bnd (op2 isNotD (nameM 6) (ret (.val PyData.none))) boolO) (retM (tupM (consD (ret (.val (PyData.str "meets"))) (consD (nameM 6) nilM)))) (ret .nx)) (seqM (ifM (notT (bnd (callP m_is_tuple_to (consD (nameM 2) (consD (ret (.val (PyData.int 0))) (consD (ret (.val (PyData.int 3))) nilM)))) boolO)) (retM (tupM (consD (ret (.val (PyData.str "washes"))) (consD (tupM (consD (ret (.val (PyData.int 1))) nilM)) nilM)))) (ret .nx)) (seqM (loopM (enumM (nameM 2)) (tupG 2 (gsCons (setM 7) (gsCons (setM 8) gsNil))) (seqM (asgM 6 (callP m_wash_fault (consD (nameM 8) (consD (callM lenD (consO (nameM 1) nilM)) nilM)))) (ifM (bnd (op2 isNotD (nameM 6) (ret (.val PyData.none))) boolO) (retM (tupM (consD (ret (.val (PyData.str "washes"))) (consD (op2 addD (tupM (consD (ret (.val (PyData.int 1))) (consD (nameM 7) nilM))) (nameM 6)) nilM)))) (ret .nx)))) (seqM (ifM (notT (bnd (callP m_is_within (consD (nameM 3) (consD (ret (.val (PyData.int 1))) (consD (ret (.val (PyData.int 3))) nilM)))) boolO)) (retM (tupM (consD (ret (.val (PyData.str "tools"))) (consD (tupM (consD (ret (.val (PyData.int 2))) nilM)) nilM)))) (ret .nx)) (seqM (ifM (notT (bnd (callP m_is_within (consD (nameM 4) (consD (ret (.val (PyData.int 1))) (consD (ret (.val (PyData.int 3))) nilM)))) boolO)) (retM (tupM (consD (ret (.val (PyData.str "arms"))) (consD (tupM (consD (ret (.val (PyData.int 3))) nilM)) nilM)))) (ret .nx)) (seqM (ifM (notT (bnd (callP m_is_within (consD (nameM 5) (consD (ret (.val (PyData.int 0))) (consD (ret (.val (PyData.int 4))) nilM)))) boolO)) (retM (tupM (consD (ret (.val (PyData.str "zones"))) (consD (tupM (consD (ret (.val (PyData.int 4))) nilM)) nilM)))) (ret .nx)) (retM (ret (.val PyData.none))))))))))))
def m_lab_fault : List D → Option D := runP2 1 9 F_lab_fault
theorem d_lab_fault (T : Top K mg) : DefQ P w K mg base 5 "lab_fault" ["value"] m_lab_fault :=
  Has.pure (N := ["value", "meets", "washes", "tools", "arms", "zones", "place", "number", "wash"]) T.h_lab_fault ⟨rfl, rfl, rfl, by decide +kernel, rfl, by decide +kernel, by decide +kernel⟩ rfl rfl fun A B ok =>
    (DSs.cons (DS.if_ (DT.not (DT.val (DO.callQ (d_is_tuple_of T) ok (by decide) (DV.cons (nm 0) (DV.cons DO.int DV.nil))))) (DSs.one (DS.ret (DO.tup (DV.cons DO.str (DV.cons (DO.tup DV.nil) DV.nil))))) DSs.nil) (DSs.cons (DS.unp (nm 0) (DG.tup (DGs.cons (DG.name (i := 1) ok.nd rfl (by first | exact Or.inl rfl | exact Or.inr rfl) (by first | exact Or.inl rfl | exact Or.inr rfl)) (DGs.cons (DG.name (i := 2) ok.nd rfl (by first | exact Or.inl rfl | exact Or.inr rfl) (by first | exact Or.inl rfl | exact Or.inr rfl)) (DGs.cons (DG.name (i := 3) ok.nd rfl (by first | exact Or.inl rfl | exact Or.inr rfl) (by first | exact Or.inl rfl | exact Or.inr rfl)) (DGs.cons (DG.name (i := 4) ok.nd rfl (by first | exact Or.inl rfl | exact Or.inr rfl) (by first | exact Or.inl rfl | exact Or.inr rfl)) (DGs.cons (DG.name (i := 5) ok.nd rfl (by first | exact Or.inl rfl | exact Or.inr rfl) (by first | exact Or.inl rfl | exact Or.inr rfl)) DGs.nil))))))) (DSs.cons (DS.set (i := 6) ok.nd rfl (by first | exact Or.inl rfl | exact Or.inr rfl) (Or.inl rfl) (DO.callQ (d_meets_fault T) ok (by decide) (DV.cons (nm 1) DV.nil))) (DSs.cons (DS.if_ (DT.cmp od_isNot (nm 6) DO.non rfl) (DSs.one (DS.ret (DO.tup (DV.cons DO.str (DV.cons (nm 6) DV.nil))))) DSs.nil) (DSs.cons (DS.if_ (DT.not (DT.val (DO.callQ (d_is_tuple_to T) ok (by decide) (DV.cons (nm 2) (DV.cons DO.int (DV.cons (gi T.g_MOST_WASHES) DV.nil)))))) (DSs.one (DS.ret (DO.tup (DV.cons DO.str (DV.cons (DO.tup (DV.cons DO.int DV.nil)) DV.nil))))) DSs.nil) (DSs.cons (DS.for_ (DI.enum (nm 2) rfl T.n_enumerate) (DG.tup (DGs.cons (DG.name (i := 7) ok.nd rfl (by first | exact Or.inl rfl | exact Or.inr rfl) (by first | exact Or.inl rfl | exact Or.inr rfl)) (DGs.cons (DG.name (i := 8) ok.nd rfl (by first | exact Or.inl rfl | exact Or.inr rfl) (by first | exact Or.inl rfl | exact Or.inr rfl)) DGs.nil))) (DSs.cons (DS.set (i := 6) ok.nd rfl (by first | exact Or.inl rfl | exact Or.inr rfl) (Or.inl rfl) (DO.callQ (d_wash_fault T) ok (by decide) (DV.cons (nm 8) (DV.cons (DO.callB cd_len rfl T.n_len rfl (DA.cons (nm 1) DA.nil)) DV.nil)))) (DSs.one (DS.if_ (DT.cmp od_isNot (nm 6) DO.non rfl) (DSs.one (DS.ret (DO.tup (DV.cons DO.str (DV.cons (DO.bin od_add (DO.tup (DV.cons DO.int (DV.cons (nm 7) DV.nil))) (nm 6)) DV.nil))))) DSs.nil)))) (DSs.cons (DS.if_ (DT.not (DT.val (DO.callQ (d_is_within T) ok (by decide) (DV.cons (nm 3) (DV.cons DO.int (DV.cons (gi T.g_MOST_TOOLS) DV.nil)))))) (DSs.one (DS.ret (DO.tup (DV.cons DO.str (DV.cons (DO.tup (DV.cons DO.int DV.nil)) DV.nil))))) DSs.nil) (DSs.cons (DS.if_ (DT.not (DT.val (DO.callQ (d_is_within T) ok (by decide) (DV.cons (nm 4) (DV.cons DO.int (DV.cons (gi T.g_MOST_ARMS) DV.nil)))))) (DSs.one (DS.ret (DO.tup (DV.cons DO.str (DV.cons (DO.tup (DV.cons DO.int DV.nil)) DV.nil))))) DSs.nil) (DSs.cons (DS.if_ (DT.not (DT.val (DO.callQ (d_is_within T) ok (by decide) (DV.cons (nm 5) (DV.cons DO.int (DV.cons (gi T.g_MOST_ZONES) DV.nil)))))) (DSs.one (DS.ret (DO.tup (DV.cons DO.str (DV.cons (DO.tup (DV.cons DO.int DV.nil)) DV.nil))))) DSs.nil) (DSs.one (DS.ret DO.non)))))))))))
def F_need_lab : M Unit Out := (seqM (asgM 1 (callP m_lab_fault (consD (nameM 0) nilM))) (seqM (ifM (bnd (op2 isNotD (nameM 1) (ret (.val PyData.none))) boolO) stuck (ret .nx)) (retM (nameM 0))))
def m_need_lab : List D → Option D := runP2 1 2 F_need_lab
theorem d_need_lab (T : Top K mg) : DefQ P w K mg base 6 "need_lab" ["lab"] m_need_lab :=
  Has.pure (N := ["lab", "fault"]) T.h_need_lab ⟨rfl, rfl, rfl, by decide +kernel, rfl, by decide +kernel, by decide +kernel⟩ rfl rfl fun A B ok =>
    (DSs.cons (DS.set (i := 1) ok.nd rfl (by first | exact Or.inl rfl | exact Or.inr rfl) (Or.inl rfl) (DO.callQ (d_lab_fault T) ok (by decide) (DV.cons (nm 0) DV.nil))) (DSs.cons (DS.if_ (DT.cmp od_isNot (nm 1) DO.non rfl) (DSs.one DS.never) DSs.nil) (DSs.one (DS.ret (nm 0)))))
def F_first_reason : M Unit Out := (seqM (parM [4, 5] (consN (op2 ixD (nameM 0) (ret (.val (PyData.int 0)))) (consN (op2 ixD (nameM 0) (ret (.val (PyData.int 1)))) nilM))) (seqM (asgM 6 (lcM [7, 8] (enumM (op2 ixD (nameM 4) (nameM 3))) (tupG 2 (gsCons (setM 7) (gsCons (setM 8) gsNil))) (bnd (op2 isNotD (nameM 8) (ret (.val PyData.none))) boolO) (nameM 7))) (seqM (loopM (iterM (nameM 6)) (setM 7) (ifM (bnd (op2 isD (op2 ixD (op2 ixD (nameM 4) (nameM 2)) (nameM 7)) (ret (.val PyData.none))) boolO) (retM (tupM (consD (ret (.val (PyData.str "stuff"))) (consD (nameM 7) nilM)))) (ret .nx))) (seqM (loopM (iterM (nameM 6)) (setM 7) (ifM (notT (bnd (op2 ixD (op2 ixD (nameM 1) (op2 ixD (op2 ixD (nameM 4) (nameM 2)) (nameM 7))) (op2 ixD (op2 ixD (nameM 4) (nameM 3)) (nameM 7))) boolO)) (retM (tupM (consD (ret (.val (PyData.str "touch"))) (consD (nameM 7) nilM)))) (ret .nx))) (seqM (loopM (enumM (nameM 5)) (tupG 2 (gsCons (setM 9) (gsCons (setM 10) gsNil))) (loopM (iterM (op2 ixD (op2 ixD (nameM 10) (ret (.val (PyData.int 0)))) (nameM 2))) (setM 11) (ifM (bnd (op2 eqD (lcM [12] (iterM (op2 ixD (op2 ixD (nameM 10) (ret (.val (PyData.int 0)))) (nameM 3))) (setM 12) (bnd (op2 ixD (op2 ixD (nameM 1) (nameM 11)) (nameM 12)) boolO) (nameM 12)) (lstM nilM)) boolO) (retM (tupM (consD (ret (.val (PyData.str "wash"))) (consD (nameM 9) (consD (nameM 11) nilM))))) (ret .nx)))) (retM (ret (.val PyData.none))))))))
def m_first_reason : List D → Option D := runP2 4 13 F_first_reason
theorem d_first_reason (T : Top K mg) : DefQ P w K mg base 1 "first_reason" ["lab", "good", "better", "worse"] m_first_reason :=
  Has.pure (N := ["lab", "good", "better", "worse", "meets", "washes", "stuffs", "stuff", "entry", "number", "wash", "result", "other"]) T.h_first_reason ⟨rfl, rfl, rfl, by decide +kernel, rfl, by decide +kernel, by decide +kernel⟩ rfl rfl fun A B ok =>
    (DSs.cons (DS.par2 (i := 4) (j := 5) ok.nd rfl rfl (by decide) rfl rfl (DN.cons (DO.ix od_ix (nm 0) DO.int) (DN.cons (DO.ix od_ix (nm 0) DO.int) DN.nil)) (fun X h => by unfold swappedStores Env.blockKind Env.kindOf; rw [h.sc]; rfl)) (DSs.cons (DS.setLc (i := 6) (own := [("stuff", 7), ("entry", 8)]) ok.nd (fun X h => by rw [h.sc]; rfl) rfl rfl rfl (by decide +kernel) (DI.enum (DO.ix od_ix (nm 4) (nm 3)) rfl T.n_enumerate) (blkOk_by (by dsimp only [Gam.blk]; decide +kernel)) (DG.tup (DGs.cons (DG.name (i := 7) ok.blk.nd rfl (by first | exact Or.inl rfl | exact Or.inr rfl) (by first | exact Or.inl rfl | exact Or.inr rfl)) (DGs.cons (DG.name (i := 8) ok.blk.nd rfl (by first | exact Or.inl rfl | exact Or.inr rfl) (by first | exact Or.inl rfl | exact Or.inr rfl)) DGs.nil))) (by decide) (DTs.one (DT.cmp od_isNot (nm 8) DO.non rfl)) (nm 7)) (DSs.cons (DS.for_ (DI.seq (nm 6)) (DG.name (i := 7) ok.nd rfl (by first | exact Or.inl rfl | exact Or.inr rfl) (by first | exact Or.inl rfl | exact Or.inr rfl)) (DSs.one (DS.if_ (DT.cmp od_is (DO.ix od_ix (DO.ix od_ix (nm 4) (nm 2)) (nm 7)) DO.non rfl) (DSs.one (DS.ret (DO.tup (DV.cons DO.str (DV.cons (nm 7) DV.nil))))) DSs.nil))) (DSs.cons (DS.for_ (DI.seq (nm 6)) (DG.name (i := 7) ok.nd rfl (by first | exact Or.inl rfl | exact Or.inr rfl) (by first | exact Or.inl rfl | exact Or.inr rfl)) (DSs.one (DS.if_ (DT.not (DT.val (DO.ix od_ix (DO.ix od_ix (nm 1) (DO.ix od_ix (DO.ix od_ix (nm 4) (nm 2)) (nm 7))) (DO.ix od_ix (DO.ix od_ix (nm 4) (nm 3)) (nm 7))))) (DSs.one (DS.ret (DO.tup (DV.cons DO.str (DV.cons (nm 7) DV.nil))))) DSs.nil))) (DSs.cons (DS.for_ (DI.enum (nm 5) rfl T.n_enumerate) (DG.tup (DGs.cons (DG.name (i := 9) ok.nd rfl (by first | exact Or.inl rfl | exact Or.inr rfl) (by first | exact Or.inl rfl | exact Or.inr rfl)) (DGs.cons (DG.name (i := 10) ok.nd rfl (by first | exact Or.inl rfl | exact Or.inr rfl) (by first | exact Or.inl rfl | exact Or.inr rfl)) DGs.nil))) (DSs.one (DS.for_ (DI.seq (DO.ix od_ix (DO.ix od_ix (nm 10) DO.int) (nm 2))) (DG.name (i := 11) ok.nd rfl (by first | exact Or.inl rfl | exact Or.inr rfl) (by first | exact Or.inl rfl | exact Or.inr rfl)) (DSs.one (DS.if_ (DT.cmp (od_eq ok) (DO.lc (own := [("other", 12)]) ok.nd (DI.seq (DO.ix od_ix (DO.ix od_ix (nm 10) DO.int) (nm 3))) (blkOk_by (by dsimp only [Gam.blk]; decide +kernel)) (DG.name (i := 12) ok.blk.nd rfl (by first | exact Or.inl rfl | exact Or.inr rfl) (by first | exact Or.inl rfl | exact Or.inr rfl)) (by decide) (DTs.one (DT.val (DO.ix od_ix (DO.ix od_ix (nm 1) (nm 11)) (nm 12)))) (nm 12)) (DO.lst DV.nil) rfl) (DSs.one (DS.ret (DO.tup (DV.cons DO.str (DV.cons (nm 9) (DV.cons (nm 11) DV.nil)))))) DSs.nil))))) (DSs.one (DS.ret DO.non)))))))
def F1_falls : M Unit Out := (setRgM 1 (callM lenD (consO (op2 ixD (nameM 0) (ret (.val (PyData.int 0)))) nilM)))
def F3_falls : M TabS Out := (asgM 5 (lstM nilM))
def F4_falls : M TabS Out := (loopM (rangeM (consO (ret (.val (PyData.int 1))) (consO (op2 addD (op2 mulD (callM lenD (consO (op2 ixD (nameM 0) (ret (.val (PyData.int 0)))) nilM)) (callM lenD (consO (op2 ixD (nameM 0) (ret (.val (PyData.int 0)))) nilM))) (ret (.val (PyData.int 1)))) nilM))) (setM 6) (seqM (asgM 7 (lstM nilM)) (seqM (loopM (rngAt 1) (setM 8) (loopM (rngAt 1) (setM 9) (seqM (asgM 10 (iteM (andT (bnd (tabIx 2 (nameM 8) (nameM 9)) boolO) (bnd (op2 neD (nameM 8) (nameM 9)) boolO)) (callT m_first_reason (consB (nameM 0) (consHd 2 (consB (nameM 8) (consB (nameM 9) nilM))))) (ret (.val PyData.none)))) (ifM (bnd (op2 isNotD (nameM 10) (ret (.val PyData.none))) boolO) (bnd (ownAt 7) fun _ => appM 7 (tupM (consD (nameM 8) (consD (nameM 9) (consD (nameM 6) (consD (nameM 10) nilM)))))) (ret .nx))))) (seqM (ifM (bnd (op2 eqD (nameM 7) (lstM nilM)) boolO) (ret .bk) (ret .nx)) (seqM (loopM (iterM (nameM 7)) (setM 11) (tabSet 2 (ret (.val (PyData.bool false))) (op2 ixD (nameM 11) (ret (.val (PyData.int 0)))) (op2 ixD (nameM 11) (ret (.val (PyData.int 1)))))) (bnd (ownAt 5) fun _ => extM 5 (nameM 7)))))))
def m_falls : List D → Option D := runTab 12 1 2 5 true F1_falls (seqM F3_falls F4_falls)
theorem d1_falls (T : Top K mg) {A : Around} {B : Bd Unit} (ok : Gam.Ok ⟨P, w, K, mg, base, A, ["lab", "states", "good", "other", "state", "rows", "level", "fresh", "better", "worse", "reason", "row"], defScope s_falls, fun _ => true⟩ 1) : DS ⟨P, w, K, mg, base, A, ["lab", "states", "good", "other", "state", "rows", "level", "fresh", "better", "worse", "reason", "row"], defScope s_falls, fun _ => true⟩ B ((defBody s_falls).getD 0 (.Pass ⟨0, 0, 0, 0⟩)) F1_falls :=
  (DS.setRg (i := 1) ok.nd rfl (by first | exact Or.inl rfl | exact Or.inr rfl) (Or.inl rfl) (DO.callB cd_len rfl T.n_len rfl (DA.cons (DO.ix od_ix (nm 0) DO.int) DA.nil)) rfl T.n_range)
theorem d3_falls (T : Top K mg) {A : Around} {B : Bd TabS} (hB : ∃ p ps, B.dr = tabDr K p ps ∧ (p :: ps).Nodup) (ok : Gam.Ok ⟨P, w, K, mg, base, A, ["lab", "states", "good", "other", "state", "rows", "level", "fresh", "better", "worse", "reason", "row"], defScope s_falls, fun _ => true⟩ 1) : DS ⟨P, w, K, mg, base, A, ["lab", "states", "good", "other", "state", "rows", "level", "fresh", "better", "worse", "reason", "row"], defScope s_falls, fun _ => true⟩ B ((defBody s_falls).getD 2 (.Pass ⟨0, 0, 0, 0⟩)) F3_falls :=
  (DS.set (i := 5) ok.nd rfl (by first | exact Or.inl rfl | exact Or.inr rfl) (Or.inl rfl) (DO.lst DV.nil))
theorem d4_falls (T : Top K mg) {A : Around} {B : Bd TabS} (hB : ∃ p ps, B.dr = tabDr K p ps ∧ (p :: ps).Nodup) (ok : Gam.Ok ⟨P, w, K, mg, base, A, ["lab", "states", "good", "other", "state", "rows", "level", "fresh", "better", "worse", "reason", "row"], defScope s_falls, fun _ => true⟩ 1) : DS ⟨P, w, K, mg, base, A, ["lab", "states", "good", "other", "state", "rows", "level", "fresh", "better", "worse", "reason", "row"], defScope s_falls, fun _ => true⟩ B ((defBody s_falls).getD 3 (.Pass ⟨0, 0, 0, 0⟩)) F4_falls :=
  (DS.for_ (DI.range2 (DA.cons DO.int (DA.cons (DO.bin od_add (DO.bin od_mul (DO.callB cd_len rfl T.n_len rfl (DA.cons (DO.ix od_ix (nm 0) DO.int) DA.nil)) (DO.callB cd_len rfl T.n_len rfl (DA.cons (DO.ix od_ix (nm 0) DO.int) DA.nil))) DO.int) DA.nil)) rfl T.n_range) (DG.name (i := 6) ok.nd rfl (by first | exact Or.inl rfl | exact Or.inr rfl) (by first | exact Or.inl rfl | exact Or.inr rfl)) (DSs.cons (DS.set (i := 7) ok.nd rfl (by first | exact Or.inl rfl | exact Or.inr rfl) (Or.inl rfl) (DO.lst DV.nil)) (DSs.cons (DS.for_ (DI.rng (i := 1) rfl (by first | exact Or.inl rfl | exact Or.inr (Or.inl rfl) | exact Or.inr (Or.inr rfl))) (DG.name (i := 8) ok.nd rfl (by first | exact Or.inl rfl | exact Or.inr rfl) (by first | exact Or.inl rfl | exact Or.inr rfl)) (DSs.one (DS.for_ (DI.rng (i := 1) rfl (by first | exact Or.inl rfl | exact Or.inr (Or.inl rfl) | exact Or.inr (Or.inr rfl))) (DG.name (i := 9) ok.nd rfl (by first | exact Or.inl rfl | exact Or.inr rfl) (by first | exact Or.inl rfl | exact Or.inr rfl)) (DSs.cons (DS.set (i := 10) ok.nd rfl (by first | exact Or.inl rfl | exact Or.inr rfl) (Or.inl rfl) (DO.ite (DW.pt (DW.and (DT.val (DO.tabIx (i := 2) hB rfl (by first | exact Or.inl rfl | exact Or.inr (Or.inl rfl) | exact Or.inr (Or.inr rfl)) (nm 8) (nm 9))) (DW.and1 (DT.cmp (od_ne ok) (nm 8) (nm 9) rfl)))) (DO.callT hB (d_first_reason T) ok (by decide) (DB.cons (nm 0) (DB.hand (i := 2) rfl (by first | exact Or.inl rfl | exact Or.inr (Or.inl rfl) | exact Or.inr (Or.inr rfl)) (DB.cons (nm 8) (DB.cons (nm 9) DB.nil))))) DO.non)) (DSs.one (DS.if_ (DT.cmp od_isNot (nm 10) DO.non rfl) (DSs.one (DS.app (i := 7) rfl (by first | exact Or.inl rfl | exact Or.inr (Or.inl rfl) | exact Or.inr (Or.inr rfl)) (DO.tup (DV.cons (nm 8) (DV.cons (nm 9) (DV.cons (nm 6) (DV.cons (nm 10) DV.nil))))))) DSs.nil)))))) (DSs.cons (DS.if_ (DT.cmp (od_eq ok) (nm 7) (DO.lst DV.nil) rfl) (DSs.one DS.brk) DSs.nil) (DSs.cons (DS.for_ (DI.seq (nm 7)) (DG.name (i := 11) ok.nd rfl (by first | exact Or.inl rfl | exact Or.inr rfl) (by first | exact Or.inl rfl | exact Or.inr rfl)) (DSs.one (DS.tabSet (i := 2) hB rfl (by first | exact Or.inl rfl | exact Or.inr (Or.inl rfl) | exact Or.inr (Or.inr rfl)) DO.bl (DO.ix od_ix (nm 11) DO.int) (DO.ix od_ix (nm 11) DO.int)))) (DSs.one (DS.ext (i := 5) rfl (by first | exact Or.inl rfl | exact Or.inr (Or.inl rfl) | exact Or.inr (Or.inr rfl)) (nm 7))))))))
theorem d_falls (T : Top K mg) : DefQ P w K mg base 2 "falls" ["lab"] m_falls := by
  obtain ⟨a, fd, Fn, h1, h2, h3⟩ := T.h_falls
  have Sc : FnScope ["lab", "states", "good", "other", "state", "rows", "level", "fresh", "better", "worse", "reason", "row"] ["lab"] (defScope s_falls) := ⟨rfl, rfl, rfl, by decide +kernel, rfl, by decide +kernel, by decide +kernel⟩
  refine ⟨a, fd, fnTab (k := 1) (n := 12) (i := 1) (g := 2) (r := 5) (k1 := 4) (k2 := 3) (c := true) Fn Sc rfl (by decide) (by decide) rfl (fun A B ok => d1_falls T ok) (fun A X ok h => ?_) (fun A B hB ok => d3_falls T hB ok) (fun A B hB ok => d4_falls T hB ok) (fun A X ok h => ?_), h1, h2, h3⟩
  · exact ps_tab (y1 := "state") (y2 := "other") (r := "states") (x := "good") h ok.nd (fun X h => by rw [h.sc]; rfl) rfl rfl rfl (by decide +kernel) (blkOk_by (by dsimp only [Gam.blk]; decide +kernel)) (blkOk_by (by dsimp only [Gam.blk]; decide +kernel)) rfl (by first | exact Or.inl rfl | exact Or.inr (Or.inl rfl) | exact Or.inr (Or.inr rfl)) (by first | exact Or.inl rfl | exact Or.inr (Or.inl rfl) | exact Or.inr (Or.inr rfl)) rfl rfl (by first | exact Or.inl rfl | exact Or.inr rfl) (by first | exact Or.inl rfl | exact Or.inr rfl) (by first | exact Or.inl rfl | exact Or.inr rfl) (by first | exact Or.inl rfl | exact Or.inr rfl)
  · exact ps_ret (pe_tup (pa_cons (pv_of h (x := "rows") rfl (by first | exact Or.inl rfl | exact Or.inr (Or.inl rfl) | exact Or.inr (Or.inr rfl)) (by decide) (by decide)) (pa_cons (pv_of h (x := "good") rfl (by first | exact Or.inl rfl | exact Or.inr (Or.inl rfl) | exact Or.inr (Or.inr rfl)) (by decide) (by decide)) pa_nil rfl) rfl))
def F_as_good_table : M Unit Out := (retM (op2 ixD (callP m_falls (consD (nameM 0) nilM)) (ret (.val (PyData.int 1)))))
def m_as_good_table : List D → Option D := runP2 1 1 F_as_good_table
theorem d_as_good_table (T : Top K mg) : DefQ P w K mg base 3 "as_good_table" ["lab"] m_as_good_table :=
  Has.pure (N := ["lab"]) T.h_as_good_table ⟨rfl, rfl, rfl, by decide +kernel, rfl, by decide +kernel, by decide +kernel⟩ rfl rfl fun A B ok =>
    (DSs.one (DS.ret (DO.ix od_ix (DO.callQ (d_falls T) ok (by decide) (DV.cons (nm 0) DV.nil)) DO.int)))
def F_stands_for : M Unit Out := (seqM (unpM (op2 ixD (op2 ixD (nameM 0) (ret (.val (PyData.int 1)))) (nameM 2)) (tupG 3 (gsCons (setM 4) (gsCons (setM 5) (gsCons (setM 6) gsNil))))) (seqM (unpM (op2 ixD (op2 ixD (nameM 0) (ret (.val (PyData.int 1)))) (nameM 3)) (tupG 3 (gsCons (setM 7) (gsCons (setM 8) (gsCons (setM 9) gsNil))))) (seqM (ifM (orT (bnd (op2 eqD (nameM 2) (nameM 3)) boolO) (orT (bnd (op2 ltD (nameM 5) (nameM 8)) boolO) (bnd (op2 gtD (nameM 6) (nameM 9)) boolO))) (retM (ret (.val (PyData.bool false)))) (ret .nx)) (seqM (loopM (enumM (nameM 4)) (tupG 2 (gsCons (setM 10) (gsCons (setM 11) gsNil))) (loopM (iterM (nameM 11)) (setM 12) (ifM (bnd (op2 eqD (lcM [13] (iterM (op2 ixD (nameM 7) (nameM 10))) (setM 13) (bnd (op2 ixD (op2 ixD (nameM 1) (nameM 12)) (nameM 13)) boolO) (nameM 13)) (lstM nilM)) boolO) (retM (ret (.val (PyData.bool false)))) (ret .nx)))) (retM (ret (.val (PyData.bool true))))))))
def m_stands_for : List D → Option D := runP2 4 14 F_stands_for
theorem d_stands_for (T : Top K mg) : DefQ P w K mg base 1 "stands_for" ["lab", "good", "wash", "other"] m_stands_for :=
  Has.pure (N := ["lab", "good", "wash", "other", "after", "low", "high", "others", "lowest", "highest", "state", "results", "result", "one"]) T.h_stands_for ⟨rfl, rfl, rfl, by decide +kernel, rfl, by decide +kernel, by decide +kernel⟩ rfl rfl fun A B ok =>
    (DSs.cons (DS.unp (DO.ix od_ix (DO.ix od_ix (nm 0) DO.int) (nm 2)) (DG.tup (DGs.cons (DG.name (i := 4) ok.nd rfl (by first | exact Or.inl rfl | exact Or.inr rfl) (by first | exact Or.inl rfl | exact Or.inr rfl)) (DGs.cons (DG.name (i := 5) ok.nd rfl (by first | exact Or.inl rfl | exact Or.inr rfl) (by first | exact Or.inl rfl | exact Or.inr rfl)) (DGs.cons (DG.name (i := 6) ok.nd rfl (by first | exact Or.inl rfl | exact Or.inr rfl) (by first | exact Or.inl rfl | exact Or.inr rfl)) DGs.nil))))) (DSs.cons (DS.unp (DO.ix od_ix (DO.ix od_ix (nm 0) DO.int) (nm 3)) (DG.tup (DGs.cons (DG.name (i := 7) ok.nd rfl (by first | exact Or.inl rfl | exact Or.inr rfl) (by first | exact Or.inl rfl | exact Or.inr rfl)) (DGs.cons (DG.name (i := 8) ok.nd rfl (by first | exact Or.inl rfl | exact Or.inr rfl) (by first | exact Or.inl rfl | exact Or.inr rfl)) (DGs.cons (DG.name (i := 9) ok.nd rfl (by first | exact Or.inl rfl | exact Or.inr rfl) (by first | exact Or.inl rfl | exact Or.inr rfl)) DGs.nil))))) (DSs.cons (DS.if_ (DW.pt (DW.or (DT.cmp (od_eq ok) (nm 2) (nm 3) rfl) (DW.or (DT.cmp od_lt (nm 5) (nm 8) rfl) (DW.or1 (DT.cmp od_gt (nm 6) (nm 9) rfl))))) (DSs.one (DS.ret DO.bl)) DSs.nil) (DSs.cons (DS.for_ (DI.enum (nm 4) rfl T.n_enumerate) (DG.tup (DGs.cons (DG.name (i := 10) ok.nd rfl (by first | exact Or.inl rfl | exact Or.inr rfl) (by first | exact Or.inl rfl | exact Or.inr rfl)) (DGs.cons (DG.name (i := 11) ok.nd rfl (by first | exact Or.inl rfl | exact Or.inr rfl) (by first | exact Or.inl rfl | exact Or.inr rfl)) DGs.nil))) (DSs.one (DS.for_ (DI.seq (nm 11)) (DG.name (i := 12) ok.nd rfl (by first | exact Or.inl rfl | exact Or.inr rfl) (by first | exact Or.inl rfl | exact Or.inr rfl)) (DSs.one (DS.if_ (DT.cmp (od_eq ok) (DO.lc (own := [("one", 13)]) ok.nd (DI.seq (DO.ix od_ix (nm 7) (nm 10))) (blkOk_by (by dsimp only [Gam.blk]; decide +kernel)) (DG.name (i := 13) ok.blk.nd rfl (by first | exact Or.inl rfl | exact Or.inr rfl) (by first | exact Or.inl rfl | exact Or.inr rfl)) (by decide) (DTs.one (DT.val (DO.ix od_ix (DO.ix od_ix (nm 1) (nm 12)) (nm 13)))) (nm 13)) (DO.lst DV.nil) rfl) (DSs.one (DS.ret DO.bl)) DSs.nil))))) (DSs.one (DS.ret DO.bl))))))
def F_is_needless : M Unit Out := (seqM (loopM (rangeM (consO (callM lenD (consO (op2 ixD (nameM 0) (ret (.val (PyData.int 1)))) nilM)) nilM)) (setM 3) (ifM (andT (bnd (callP m_stands_for (consD (nameM 0) (consD (nameM 1) (consD (nameM 3) (consD (nameM 2) nilM))))) boolO) (orT (bnd (op2 ltD (nameM 3) (nameM 2)) boolO) (notT (bnd (callP m_stands_for (consD (nameM 0) (consD (nameM 1) (consD (nameM 2) (consD (nameM 3) nilM))))) boolO)))) (retM (ret (.val (PyData.bool true)))) (ret .nx))) (retM (ret (.val (PyData.bool false)))))
def m_is_needless : List D → Option D := runP2 3 4 F_is_needless
theorem d_is_needless (T : Top K mg) : DefQ P w K mg base 2 "is_needless" ["lab", "good", "wash"] m_is_needless :=
  Has.pure (N := ["lab", "good", "wash", "other"]) T.h_is_needless ⟨rfl, rfl, rfl, by decide +kernel, rfl, by decide +kernel, by decide +kernel⟩ rfl rfl fun A B ok =>
    (DSs.cons (DS.for_ (DI.range1 (DA.cons (DO.callB cd_len rfl T.n_len rfl (DA.cons (DO.ix od_ix (nm 0) DO.int) DA.nil)) DA.nil) rfl T.n_range) (DG.name (i := 3) ok.nd rfl (by first | exact Or.inl rfl | exact Or.inr rfl) (by first | exact Or.inl rfl | exact Or.inr rfl)) (DSs.one (DS.if_ (DW.pt (DW.and (DT.val (DO.callQ (d_stands_for T) ok (by decide) (DV.cons (nm 0) (DV.cons (nm 1) (DV.cons (nm 3) (DV.cons (nm 2) DV.nil)))))) (DW.and1 (DW.pt (DW.or (DT.cmp od_lt (nm 3) (nm 2) rfl) (DW.or1 (DT.not (DT.val (DO.callQ (d_stands_for T) ok (by decide) (DV.cons (nm 0) (DV.cons (nm 1) (DV.cons (nm 2) (DV.cons (nm 3) DV.nil))))))))))))) (DSs.one (DS.ret DO.bl)) DSs.nil))) (DSs.one (DS.ret DO.bl)))
def F_needless_washes : M Unit Out := (seqM (asgM 1 (callP m_as_good_table (consD (callP m_need_lab (consD (nameM 0) nilM)) nilM))) (retM (callM tupleD (consO (lcM [2] (rangeM (consO (callM lenD (consO (op2 ixD (nameM 0) (ret (.val (PyData.int 1)))) nilM)) nilM)) (setM 2) (bnd (callP m_is_needless (consD (nameM 0) (consD (nameM 1) (consD (nameM 2) nilM)))) boolO) (nameM 2)) nilM))))
def m_needless_washes : List D → Option D := runP2 1 3 F_needless_washes
theorem d_needless_washes (T : Top K mg) : DefQ P w K mg base 7 "needless_washes" ["lab"] m_needless_washes :=
  Has.pure (N := ["lab", "good", "wash"]) T.h_needless_washes ⟨rfl, rfl, rfl, by decide +kernel, rfl, by decide +kernel, by decide +kernel⟩ rfl rfl fun A B ok =>
    (DSs.cons (DS.set (i := 1) ok.nd rfl (by first | exact Or.inl rfl | exact Or.inr rfl) (Or.inl rfl) (DO.callQ (d_as_good_table T) ok (by decide) (DV.cons (DO.callQ (d_need_lab T) ok (by decide) (DV.cons (nm 0) DV.nil)) DV.nil))) (DSs.one (DS.ret (DO.callTy cd_tuple rfl T.n_tuple rfl (DA.cons (DO.lc (own := [("wash", 2)]) ok.nd (DI.range1 (DA.cons (DO.callB cd_len rfl T.n_len rfl (DA.cons (DO.ix od_ix (nm 0) DO.int) DA.nil)) DA.nil) rfl T.n_range) (blkOk_by (by dsimp only [Gam.blk]; decide +kernel)) (DG.name (i := 2) ok.blk.nd rfl (by first | exact Or.inl rfl | exact Or.inr rfl) (by first | exact Or.inl rfl | exact Or.inr rfl)) (by decide) (DTs.one (DT.val (DO.callQ (d_is_needless T) ok.blk (by decide) (DV.cons (nm 0) (DV.cons (nm 1) (DV.cons (nm 2) DV.nil)))))) (nm 2)) DA.nil)))))
def F_lab_without : M Unit Out := (seqM (dropM (callP m_need_lab (consD (nameM 0) nilM))) (seqM (ifM (orT (notT (bnd (isiM "tuple" (nameM 1)) boolO)) (bnd (op2 isNotD (callP m_first_descent (consD (nameM 1) (consD (callM lenD (consO (op2 ixD (nameM 0) (ret (.val (PyData.int 1)))) nilM)) nilM))) (ret (.val PyData.none))) boolO)) stuck (ret .nx)) (seqM (asgM 2 (callM tupleD (consO (lcM [3, 4] (enumM (op2 ixD (nameM 0) (ret (.val (PyData.int 1))))) (tupG 2 (gsCons (setM 3) (gsCons (setM 4) gsNil))) (bnd (op2 notInD (nameM 3) (nameM 1)) boolO) (nameM 4)) nilM))) (retM (tupM (consD (op2 ixD (nameM 0) (ret (.val (PyData.int 0)))) (consD (nameM 2) (consD (op2 ixD (nameM 0) (ret (.val (PyData.int 2)))) (consD (op2 ixD (nameM 0) (ret (.val (PyData.int 3)))) (consD (op2 ixD (nameM 0) (ret (.val (PyData.int 4)))) nilM))))))))))
def m_lab_without : List D → Option D := runP2 2 5 F_lab_without
theorem d_lab_without (T : Top K mg) : DefQ P w K mg base 7 "lab_without" ["lab", "washes"] m_lab_without :=
  Has.pure (N := ["lab", "washes", "left", "number", "wash"]) T.h_lab_without ⟨rfl, rfl, rfl, by decide +kernel, rfl, by decide +kernel, by decide +kernel⟩ rfl rfl fun A B ok =>
    (DSs.cons (DS.expr (DO.callQ (d_need_lab T) ok (by decide) (DV.cons (nm 0) DV.nil))) (DSs.cons (DS.if_ (DW.pt (DW.or (DT.not (DT.val (DO.isi (by decide) (nm 1) rfl T.n_isinstance rfl T.n_tuple rfl))) (DW.or1 (DT.cmp od_isNot (DO.callQ (d_first_descent T) ok (by decide) (DV.cons (nm 1) (DV.cons (DO.callB cd_len rfl T.n_len rfl (DA.cons (DO.ix od_ix (nm 0) DO.int) DA.nil)) DV.nil))) DO.non rfl)))) (DSs.one DS.never) DSs.nil) (DSs.cons (DS.set (i := 2) ok.nd rfl (by first | exact Or.inl rfl | exact Or.inr rfl) (Or.inl rfl) (DO.callTy cd_tuple rfl T.n_tuple rfl (DA.cons (DO.lc (own := [("number", 3), ("wash", 4)]) ok.nd (DI.enum (DO.ix od_ix (nm 0) DO.int) rfl T.n_enumerate) (blkOk_by (by dsimp only [Gam.blk]; decide +kernel)) (DG.tup (DGs.cons (DG.name (i := 3) ok.blk.nd rfl (by first | exact Or.inl rfl | exact Or.inr rfl) (by first | exact Or.inl rfl | exact Or.inr rfl)) (DGs.cons (DG.name (i := 4) ok.blk.nd rfl (by first | exact Or.inl rfl | exact Or.inr rfl) (by first | exact Or.inl rfl | exact Or.inr rfl)) DGs.nil))) (by decide) (DTs.one (DT.cmp (od_notIn ok.blk) (nm 3) (nm 1) rfl)) (nm 4)) DA.nil))) (DSs.one (DS.ret (DO.tup (DV.cons (DO.ix od_ix (nm 0) DO.int) (DV.cons (nm 2) (DV.cons (DO.ix od_ix (nm 0) DO.int) (DV.cons (DO.ix od_ix (nm 0) DO.int) (DV.cons (DO.ix od_ix (nm 0) DO.int) DV.nil)))))))))))
def F_worst_results : M Unit Out := (seqM (asgM 2 (lstM nilM)) (seqM (loopM (iterM (nameM 1)) (setM 3) (seqM (asgM 4 (lcM [5] (iterM (nameM 1)) (setM 5) (andT (bnd (op2 neD (nameM 5) (nameM 3)) boolO) (bnd (op2 ixD (op2 ixD (nameM 0) (nameM 3)) (nameM 5)) boolO)) (nameM 5))) (ifM (bnd (op2 eqD (lcM [5] (iterM (nameM 4)) (setM 5) (orT (bnd (op2 ltD (nameM 5) (nameM 3)) boolO) (notT (bnd (op2 ixD (op2 ixD (nameM 0) (nameM 5)) (nameM 3)) boolO))) (nameM 5)) (lstM nilM)) boolO) (bnd (ownAt 2) fun _ => appM 2 (nameM 3)) (ret .nx)))) (retM (callM tupleD (consO (nameM 2) nilM)))))
def m_worst_results : List D → Option D := runP2 2 6 F_worst_results
theorem d_worst_results (T : Top K mg) : DefQ P w K mg base 1 "worst_results" ["good", "results"] m_worst_results :=
  Has.pure (N := ["good", "results", "found", "result", "worse", "other"]) T.h_worst_results ⟨rfl, rfl, rfl, by decide +kernel, rfl, by decide +kernel, by decide +kernel⟩ rfl rfl fun A B ok =>
    (DSs.cons (DS.set (i := 2) ok.nd rfl (by first | exact Or.inl rfl | exact Or.inr rfl) (Or.inl rfl) (DO.lst DV.nil)) (DSs.cons (DS.for_ (DI.seq (nm 1)) (DG.name (i := 3) ok.nd rfl (by first | exact Or.inl rfl | exact Or.inr rfl) (by first | exact Or.inl rfl | exact Or.inr rfl)) (DSs.cons (DS.setLc (i := 4) (own := [("other", 5)]) ok.nd (fun X h => by rw [h.sc]; rfl) rfl rfl rfl (by decide +kernel) (DI.seq (nm 1)) (blkOk_by (by dsimp only [Gam.blk]; decide +kernel)) (DG.name (i := 5) ok.blk.nd rfl (by first | exact Or.inl rfl | exact Or.inr rfl) (by first | exact Or.inl rfl | exact Or.inr rfl)) (by decide) (DTs.one (DW.pt (DW.and (DT.cmp (od_ne ok.blk) (nm 5) (nm 3) rfl) (DW.and1 (DT.val (DO.ix od_ix (DO.ix od_ix (nm 0) (nm 3)) (nm 5))))))) (nm 5)) (DSs.one (DS.if_ (DT.cmp (od_eq ok) (DO.lc (own := [("other", 5)]) ok.nd (DI.seq (nm 4)) (blkOk_by (by dsimp only [Gam.blk]; decide +kernel)) (DG.name (i := 5) ok.blk.nd rfl (by first | exact Or.inl rfl | exact Or.inr rfl) (by first | exact Or.inl rfl | exact Or.inr rfl)) (by decide) (DTs.one (DW.pt (DW.or (DT.cmp od_lt (nm 5) (nm 3) rfl) (DW.or1 (DT.not (DT.val (DO.ix od_ix (DO.ix od_ix (nm 0) (nm 5)) (nm 3)))))))) (nm 5)) (DO.lst DV.nil) rfl) (DSs.one (DS.app (i := 2) rfl (by first | exact Or.inl rfl | exact Or.inr (Or.inl rfl) | exact Or.inr (Or.inr rfl)) (nm 3))) DSs.nil)))) (DSs.one (DS.ret (DO.callTy cd_tuple rfl T.n_tuple rfl (DA.cons (nm 2) DA.nil))))))
def F_lab_with_worst : M Unit Out := (seqM (asgM 1 (callP m_as_good_table (consD (callP m_need_lab (consD (nameM 0) nilM)) nilM))) (seqM (asgM 2 (lstM nilM)) (seqM (loopM (iterM (op2 ixD (nameM 0) (ret (.val (PyData.int 1))))) (tupG 3 (gsCons (setM 3) (gsCons (setM 4) (gsCons (setM 5) gsNil)))) (bnd (ownAt 2) fun _ => appM 2 (tupM (consD (callM tupleD (consO (lcM [6] (iterM (nameM 3)) (setM 6) (ret true) (callP m_worst_results (consD (nameM 1) (consD (nameM 6) nilM)))) nilM)) (consD (nameM 4) (consD (nameM 5) nilM)))))) (retM (tupM (consD (op2 ixD (nameM 0) (ret (.val (PyData.int 0)))) (consD (callM tupleD (consO (nameM 2) nilM)) (consD (op2 ixD (nameM 0) (ret (.val (PyData.int 2)))) (consD (op2 ixD (nameM 0) (ret (.val (PyData.int 3)))) (consD (op2 ixD (nameM 0) (ret (.val (PyData.int 4)))) nilM))))))))))
def m_lab_with_worst : List D → Option D := runP2 1 7 F_lab_with_worst
theorem d_lab_with_worst (T : Top K mg) : DefQ P w K mg base 7 "lab_with_worst" ["lab"] m_lab_with_worst :=
  Has.pure (N := ["lab", "good", "washes", "after", "low", "high", "results"]) T.h_lab_with_worst ⟨rfl, rfl, rfl, by decide +kernel, rfl, by decide +kernel, by decide +kernel⟩ rfl rfl fun A B ok =>
    (DSs.cons (DS.set (i := 1) ok.nd rfl (by first | exact Or.inl rfl | exact Or.inr rfl) (Or.inl rfl) (DO.callQ (d_as_good_table T) ok (by decide) (DV.cons (DO.callQ (d_need_lab T) ok (by decide) (DV.cons (nm 0) DV.nil)) DV.nil))) (DSs.cons (DS.set (i := 2) ok.nd rfl (by first | exact Or.inl rfl | exact Or.inr rfl) (Or.inl rfl) (DO.lst DV.nil)) (DSs.cons (DS.for_ (DI.seq (DO.ix od_ix (nm 0) DO.int)) (DG.tup (DGs.cons (DG.name (i := 3) ok.nd rfl (by first | exact Or.inl rfl | exact Or.inr rfl) (by first | exact Or.inl rfl | exact Or.inr rfl)) (DGs.cons (DG.name (i := 4) ok.nd rfl (by first | exact Or.inl rfl | exact Or.inr rfl) (by first | exact Or.inl rfl | exact Or.inr rfl)) (DGs.cons (DG.name (i := 5) ok.nd rfl (by first | exact Or.inl rfl | exact Or.inr rfl) (by first | exact Or.inl rfl | exact Or.inr rfl)) DGs.nil)))) (DSs.one (DS.app (i := 2) rfl (by first | exact Or.inl rfl | exact Or.inr (Or.inl rfl) | exact Or.inr (Or.inr rfl)) (DO.tup (DV.cons (DO.callTy cd_tuple rfl T.n_tuple rfl (DA.cons (DO.lc (own := [("results", 6)]) ok.nd (DI.seq (nm 3)) (blkOk_by (by dsimp only [Gam.blk]; decide +kernel)) (DG.name (i := 6) ok.blk.nd rfl (by first | exact Or.inl rfl | exact Or.inr rfl) (by first | exact Or.inl rfl | exact Or.inr rfl)) (by decide) DTs.nil (DO.callQ (d_worst_results T) ok.blk (by decide) (DV.cons (nm 1) (DV.cons (nm 6) DV.nil)))) DA.nil)) (DV.cons (nm 4) (DV.cons (nm 5) DV.nil))))))) (DSs.one (DS.ret (DO.tup (DV.cons (DO.ix od_ix (nm 0) DO.int) (DV.cons (DO.callTy cd_tuple rfl T.n_tuple rfl (DA.cons (nm 2) DA.nil)) (DV.cons (DO.ix od_ix (nm 0) DO.int) (DV.cons (DO.ix od_ix (nm 0) DO.int) (DV.cons (DO.ix od_ix (nm 0) DO.int) DV.nil)))))))))))
def F__law_mixed : M Unit Out := (seqM (asgM 2 (op2 addD (op2 addD (op2 modD (callM intD (consO (op2 mulD (op2 mulD (nameM 0) (op2 addD (ret (.val (PyData.int 1))) (op2 mulD (ret (.val (PyData.int 2))) (nameM 1)))) (ret (.val (PyData.int 48271)))) nilM)) (ret (.val (PyData.int 2147483647)))) (op2 mulD (op2 mulD (ret (.val (PyData.int 7919))) (nameM 1)) (nameM 1))) (op2 mulD (ret (.val (PyData.int 104729))) (nameM 1)))) (retM (op2 fdivD (op2 modD (callM intD (consO (op2 mulD (nameM 2) (ret (.val (PyData.int 69621)))) nilM)) (ret (.val (PyData.int 2147483629)))) (ret (.val (PyData.int 7))))))
def m__law_mixed : List D → Option D := runP2 2 3 F__law_mixed
theorem d__law_mixed (T : Top K mg) : DefQ P w K mg base 1 "_law_mixed" ["cell", "n"] m__law_mixed :=
  Has.pure (N := ["cell", "n", "blend"]) T.h__law_mixed ⟨rfl, rfl, rfl, by decide +kernel, rfl, by decide +kernel, by decide +kernel⟩ rfl rfl fun A B ok =>
    (DSs.cons (DS.set (i := 2) ok.nd rfl (by first | exact Or.inl rfl | exact Or.inr rfl) (Or.inl rfl) (DO.bin od_add (DO.bin od_add (DO.bin od_mod (DO.callTy cd_int rfl T.n_int rfl (DA.cons (DO.bin od_mul (DO.bin od_mul (nm 0) (DO.bin od_add DO.int (DO.bin od_mul DO.int (nm 1)))) DO.int) DA.nil)) DO.int) (DO.bin od_mul (DO.bin od_mul DO.int (nm 1)) (nm 1))) (DO.bin od_mul DO.int (nm 1)))) (DSs.one (DS.ret (DO.bin od_fdiv (DO.bin od_mod (DO.callTy cd_int rfl T.n_int rfl (DA.cons (DO.bin od_mul (nm 2) DO.int) DA.nil)) DO.int) DO.int))))
def F__law_folded : M Unit Out := (seqM (asgM 1 (lcM [2] (rangeM (consO (ret (.val (PyData.int 64))) nilM)) (setM 2) (ret true) (op2 addD (ret (.val (PyData.int 17))) (nameM 2)))) (seqM (loopM (bnd (scrL 0) fun xs => ret (enumL 0 xs)) (tupG 2 (gsCons (setM 2) (gsCons (setM 3) gsNil))) (bnd (valM (op2 modD (callM intD (consO (op2 addD (op2 mulD (op2 ixD (nameM 1) (op2 modD (callM intD (consO (nameM 2) nilM)) (ret (.val (PyData.int 64))))) (ret (.val (PyData.int 48271)))) (nameM 3)) nilM)) (ret (.val (PyData.int 2147483647))))) fun d => bnd (ownAt 1) fun _ => setIxM 1 (DL.ret (Opd.val d)) (op2 modD (callM intD (consO (nameM 2) nilM)) (ret (.val (PyData.int 64)))))) (seqM (loopM (rangeM (consO (ret (.val (PyData.int 1))) (consO (ret (.val (PyData.int 64))) nilM))) (setM 2) (bnd (valM (op2 modD (callM intD (consO (op2 addD (op2 ixD (nameM 1) (nameM 2)) (op2 mulD (op2 ixD (nameM 1) (op2 subD (nameM 2) (ret (.val (PyData.int 1))))) (ret (.val (PyData.int 16807))))) nilM)) (ret (.val (PyData.int 2147483647))))) fun d => bnd (ownAt 1) fun _ => setIxM 1 (DL.ret (Opd.val d)) (nameM 2))) (retM (nameM 1)))))
def m__law_folded : List Int → Option D := runS 4 F__law_folded
theorem d__law_folded (T : Top K mg) : DefS P w K mg base 1 "_law_folded" ["script"] m__law_folded :=
  Has.scr (N := ["script", "found", "n", "cell"]) T.h__law_folded ⟨rfl, rfl, rfl, by decide +kernel, rfl, by decide +kernel, by decide +kernel⟩ rfl fun A B ok =>
    (DSs.cons (DS.setLc (i := 1) (own := [("n", 2)]) ok.nd (fun X h => by rw [h.sc]; rfl) rfl rfl rfl (by decide +kernel) (DI.range1 (DA.cons DO.int DA.nil) rfl T.n_range) (blkOk_by (by dsimp only [Gam.blk]; decide +kernel)) (DG.name (i := 2) ok.blk.nd rfl (by first | exact Or.inl rfl | exact Or.inr rfl) (by first | exact Or.inl rfl | exact Or.inr rfl)) (by decide) DTs.nil (DO.bin od_add DO.int (nm 2))) (DSs.cons (DS.for_ (DI.enumScr (i := 0) rfl (by first | exact Or.inl rfl | exact Or.inr (Or.inl rfl) | exact Or.inr (Or.inr rfl)) rfl T.n_enumerate) (DG.tup (DGs.cons (DG.name (i := 2) ok.nd rfl (by first | exact Or.inl rfl | exact Or.inr rfl) (by first | exact Or.inl rfl | exact Or.inr rfl)) (DGs.cons (DG.name (i := 3) ok.nd rfl (by first | exact Or.inl rfl | exact Or.inr rfl) (by first | exact Or.inl rfl | exact Or.inr rfl)) DGs.nil))) (DSs.one (DS.setIx (i := 1) rfl (by first | exact Or.inl rfl | exact Or.inr (Or.inl rfl) | exact Or.inr (Or.inr rfl)) (DO.bin od_mod (DO.callTy cd_int rfl T.n_int rfl (DA.cons (DO.bin od_add (DO.bin od_mul (DO.ix od_ix (nm 1) (DO.bin od_mod (DO.callTy cd_int rfl T.n_int rfl (DA.cons (nm 2) DA.nil)) DO.int)) DO.int) (nm 3)) DA.nil)) DO.int) (DO.bin od_mod (DO.callTy cd_int rfl T.n_int rfl (DA.cons (nm 2) DA.nil)) DO.int)))) (DSs.cons (DS.for_ (DI.range2 (DA.cons DO.int (DA.cons DO.int DA.nil)) rfl T.n_range) (DG.name (i := 2) ok.nd rfl (by first | exact Or.inl rfl | exact Or.inr rfl) (by first | exact Or.inl rfl | exact Or.inr rfl)) (DSs.one (DS.setIx (i := 1) rfl (by first | exact Or.inl rfl | exact Or.inr (Or.inl rfl) | exact Or.inr (Or.inr rfl)) (DO.bin od_mod (DO.callTy cd_int rfl T.n_int rfl (DA.cons (DO.bin od_add (DO.ix od_ix (nm 1) (nm 2)) (DO.bin od_mul (DO.ix od_ix (nm 1) (DO.bin od_sub (nm 2) DO.int)) DO.int)) DA.nil)) DO.int) (nm 2)))) (DSs.one (DS.ret (nm 1))))))
def m__law_draw : List D → DrawSt → Option (D × DrawSt) := drawF m__law_mixed
theorem d__law_draw (T : Top K mg) : DefD P w K mg base 2 "_law_draw" ["m", "limit"] m__law_draw := by
  obtain ⟨am, fm, Fm, hmm, hkm, hbm⟩ := (d__law_mixed (P := P) (w := w) (base := base) T).ex
  obtain ⟨a, fd, Fn, h1, h2, h3⟩ := T.h__law_draw
  have Sc : FnScope ["m", "limit", "n", "lot", "here", "cell"] ["m", "limit"] (defScope s__law_draw) := ⟨rfl, rfl, rfl, by decide +kernel, rfl, by decide +kernel, by decide +kernel⟩
  refine ⟨a, fd, fnAny Fn Sc ?_ fun A vs H Q E hsp ok => ?_, h1, h2, h3⟩
  · rintro vs H Q E ⟨pm, pg, pc, S, us, ds, st, d, st', rfl, _, _, _, h, e, _⟩
    unfold m__law_draw drawF at e
    split at e
    · rw [List.length_cons, h.len]; rfl
    · cases e
  obtain ⟨pm, pg, pc, S, us, ds, st, d, st', rfl, wS, nr, at_, hds, hrun, hQ⟩ := hsp
  refine ⟨tDraw K m__law_mixed, fun X h => ?_, ?_⟩
  · have hu : X.A.units + 65 < cLine := by rw [h.A]; exact ok.hu
    have F' : FnG X.prog X.w X.K X.mg X.base 1 am fm ["cell", "n"] (spP X.K m__law_mixed) := by rw [h.P, h.w, h.K, h.mg, h.base]; exact Fm
    have gl : ∀ x : Str, (defScope s__law_draw).names.lookup x = some .globalImplicit → Gl X x := fun x hg => gl_of h hg
    have v : ∀ (i : Nat) (x : Str) (pos : Pos), (["m", "limit", "n", "lot", "here", "cell"] : List Str)[i]? = some x → (defScope s__law_draw).names.lookup x = some .local → (x == ("__debug__" : Str)) = false → (x == ("__classdict__" : Str)) = false → PE X (.Name x pos) (tVar i) := fun i x pos e1 e2 e3 e4 =>
      pe_var (by rw [h.N]; exact e1) (by rw [h.sc]; exact Or.inl e2) e3 e4
    have nd : X.N.Nodup := by rw [h.N]; exact ok.nd
    have ni : ∀ (i : Nat) (x : Str), (["m", "limit", "n", "lot", "here", "cell"] : List Str)[i]? = some x → X.N[i]? = some x := fun i x e => by rw [h.N]; exact e
    have lo : ∀ x : Str, (defScope s__law_draw).names.lookup x = some .local → Loc X.env.scope x := fun x e => by rw [h.sc]; exact Or.inl e
    have fnl : ∀ x : Str, (defScope s__law_draw).names.lookup x = some .local → X.fn x = true ∨ X.env.scope.names.lookup x = some .local := fun x e => by rw [h.sc]; exact Or.inr e
    have mi : X.mg "int" = none := by rw [h.mg]; exact T.n_int
    have ml : X.mg "len" = none := by rw [h.mg]; exact T.n_len
    have cal : ∀ {e : Expr} {es : List Expr} {p pos : Pos} {t : TA}, PA X (e :: es) t → starEach (e :: es) X.env = (false, eval e X.env) :: starEach es X.env → (backTo pos (starEach es X.env)).any (·.1) = false → PE X (.Call (.Name "_law_mixed" p) (e :: es) [] pos) (tCall (spP X.K m__law_mixed) [] E0 t) :=
      fun ha he hp => pe_callG F' (by rw [h.A]; exact ok.room.mono (by decide)) (by rw [h.A]; exact ok.gd) (gl "_law_mixed" rfl) (by rw [h.mg]; exact hmm) (by rw [h.K]; exact hkm) (by rw [h.K]; exact hbm) ha (by decide) he hp
    have key : PSs X (defBody s__law_draw) (tDraw X.K m__law_mixed) := pss_cons (X := X) (ps_set nd (ni 2 "n" rfl) (lo "n" rfl) (pe_dget (by omega) (v 0 "m" _ rfl rfl (by decide) (by decide)) pe_str (fun _ _ => rfl)) rfl (fnl "n" rfl))
      (pss_cons (ps_dput (by omega) (v 0 "m" _ rfl rfl (by decide) (by decide)) pe_str (pe_op op_add (v 2 "n" _ rfl rfl (by decide) (by decide)) pe_int) rfl)
      (pss_cons (ps_if (pt_cmpR (op_neD (by omega)) (pe_dget (by omega) (v 0 "m" _ rfl rfl (by decide) (by decide)) pe_str (fun _ _ => rfl)) (pe_lst pa_nil) rfl)
        (pss_cons (ps_set nd (ni 3 "lot" rfl) (lo "lot" rfl) (pe_dget (by omega) (v 0 "m" _ rfl rfl (by decide) (by decide)) pe_str (fun _ _ => rfl)) rfl (fnl "lot" rfl))
        (pss_cons (ps_set nd (ni 4 "here" rfl) (lo "here" rfl) (pe_op op_mod (pe_callTy call_int1 (gl "int" rfl) mi rfl (pa_cons (v 2 "n" _ rfl rfl (by decide) (by decide)) pa_nil)) (pe_callB call_len (gl "len" rfl) ml PySem.boot_len (pa_cons (v 3 "lot" _ rfl rfl (by decide) (by decide)) pa_nil))) rfl (fnl "here" rfl))
        (pss_cons (ps_set nd (ni 5 "cell" rfl) (lo "cell" rfl) (pe_ix ix_list (v 3 "lot" _ rfl rfl (by decide) (by decide)) (v 4 "here" _ rfl rfl (by decide) (by decide)) (fun _ _ => rfl)) rfl (fnl "cell" rfl))
        (pss_one (ps_if (pt_cmpR op_gt (v 5 "cell" _ rfl rfl (by decide) (by decide)) pe_int rfl)
          (pss_cons (ps_asg (pe_op op_fdivW (v 5 "cell" _ rfl rfl (by decide) (by decide)) (v 1 "limit" _ rfl rfl (by decide) (by decide))) (pg_sub (v 3 "lot" _ rfl rfl (by decide) (by decide)) (v 4 "here" _ rfl rfl (by decide) (by decide)) set_list (fun _ => rfl)))
          (pss_one (ps_ret (pe_op op_mod (pe_callTy call_int1 (gl "int" rfl) mi rfl (pa_cons (v 5 "cell" _ rfl rfl (by decide) (by decide)) pa_nil)) (v 1 "limit" _ rfl rfl (by decide) (by decide))))))
          pss_nil))))) pss_nil)
      (pss_cons (ps_set nd (ni 3 "lot" rfl) (lo "lot" rfl) (pe_dget (by omega) (v 0 "m" _ rfl rfl (by decide) (by decide)) pe_str (fun _ _ => rfl)) rfl (fnl "lot" rfl))
      (pss_one (ps_ret (pe_op op_mod (pe_callTy call_int1 (gl "int" rfl) mi rfl (pa_cons
        (cal (pa_cons (cal (pa_cons (pe_op op_add (pe_ix ix_list (v 3 "lot" _ rfl rfl (by decide) (by decide)) (pe_op op_mod (pe_callTy call_int1 (gl "int" rfl) mi rfl (pa_cons (v 2 "n" _ rfl rfl (by decide) (by decide)) pa_nil)) pe_int) (fun _ _ => rfl))
          (pe_op op_mul pe_int (pe_op op_fdivW (v 2 "n" _ rfl rfl (by decide) (by decide)) pe_int))) (pa_cons (v 2 "n" _ rfl rfl (by decide) (by decide)) pa_nil)) rfl rfl)
          (pa_cons (pe_op op_add (v 2 "n" _ rfl rfl (by decide) (by decide)) pe_int) pa_nil)) rfl rfl) pa_nil)) (v 1 "limit" _ rfl rfl (by decide) (by decide))))))))
    rw [h.K] at key
    exact key
  · have hrun' := hrun
    unfold m__law_draw drawF at hrun'
    split at hrun'
    · cases hds with
      | cons r0 rs =>
        cases rs
        cases r0
        exact draw_run wS nr at_ hrun rfl hQ
    · cases hrun'
theorem d__law_begun (T : Top K mg) : LawQ P w K mg base 2 "_law_begun" ["script"] (spB K m__law_folded) := by
  obtain ⟨am, fm, Fm, hmm, hkm, hbm⟩ := (d__law_folded (P := P) (w := w) (base := base) T).ex
  obtain ⟨a, fd, Fn, h1, h2, h3⟩ := T.h__law_begun
  have Sc : FnScope ["script", "m", "cell"] ["script"] (defScope s__law_begun) := ⟨rfl, rfl, rfl, by decide +kernel, rfl, by decide +kernel, by decide +kernel⟩
  refine ⟨a, fd, fnAny Fn Sc ?_ fun A vs H Q E hsp ok => ?_, h1, h2, h3⟩
  · rintro vs H Q E ⟨a, ns, cells, rfl, _⟩
    rfl
  obtain ⟨a, ns, cells, rfl, hO, hq, hl, hf, hQ⟩ := hsp
  refine ⟨tBegun K m__law_folded, fun X h => ?_, begun_run hO hq hl hf rfl hQ⟩
  have hu : X.A.units + 65 < cLine := by rw [h.A]; exact ok.hu
  have F' : FnG X.prog X.w X.K X.mg X.base 1 am fm ["script"] (spS X.K m__law_folded) := by rw [h.P, h.w, h.K, h.mg, h.base]; exact Fm
  have gl : ∀ x : Str, (defScope s__law_begun).names.lookup x = some .globalImplicit → Gl X x := fun x hg => gl_of h hg
  have v : ∀ (i : Nat) (x : Str) (pos : Pos), (["script", "m", "cell"] : List Str)[i]? = some x → (defScope s__law_begun).names.lookup x = some .local → (x == ("__debug__" : Str)) = false → (x == ("__classdict__" : Str)) = false → PE X (.Name x pos) (tVar i) := fun i x pos e1 e2 e3 e4 =>
    pe_var (by rw [h.N]; exact e1) (by rw [h.sc]; exact Or.inl e2) e3 e4
  have nd : X.N.Nodup := by rw [h.N]; exact ok.nd
  have ni : ∀ (i : Nat) (x : Str), (["script", "m", "cell"] : List Str)[i]? = some x → X.N[i]? = some x := fun i x e => by rw [h.N]; exact e
  have lo : Loc X.env.scope "m" := by rw [h.sc]; exact Or.inl rfl
  have fnl : X.fn ("m" : Str) = true ∨ X.env.scope.names.lookup ("m" : Str) = some NameKind.local := by rw [h.sc]; exact Or.inr rfl
  have cal : ∀ {e : Expr} {es : List Expr} {p pos : Pos} {t : TA}, PA X (e :: es) t → starEach (e :: es) X.env = (false, eval e X.env) :: starEach es X.env → (backTo pos (starEach es X.env)).any (·.1) = false → PE X (.Call (.Name "_law_folded" p) (e :: es) [] pos) (tCall (spS X.K m__law_folded) [] E0 t) :=
    fun ha he hp => pe_callG F' (by rw [h.A]; exact ok.room.mono (by decide)) (by rw [h.A]; exact ok.gd) (gl "_law_folded" rfl) (by rw [h.mg]; exact hmm) (by rw [h.K]; exact hkm) (by rw [h.K]; exact hbm) ha (by decide) he hp
  have key : PSs X (defBody s__law_begun) (tBegun X.K m__law_folded) :=
    pss_cons (ps_set nd (ni 1 "m" rfl) lo (pe_disp (pps_cons pe_str (cal (pa_cons (v 0 "script" _ rfl rfl (by decide) (by decide)) pa_nil) rfl rfl) (pps_cons pe_str (pe_lst pa_nil) (pps_cons pe_str pe_int pps_nil))) rfl rfl (fun z => by cases z) (by decide)) rfl fnl)
    (pss_cons (ps_dput (by omega) (v 1 "m" _ rfl rfl (by decide) (by decide)) pe_str
      (pe_lc (own := [("cell", 2)]) (g := gName 2) (tt := tYes) h.calm nd (pi_list (v 0 "script" _ rfl rfl (by decide) (by decide))) (by rw [h.N, h.sc]; exact blkOk_by (N := ["script", "m", "cell"]) (sc := defScope s__law_begun) (by decide +kernel)) (fun _ _ _ _ _ => pg_name nd (ni 2 "cell" rfl) (Or.inl rfl) (.inr rfl)) (fun _ _ _ _ _ => pts_nil)
        (fun _ _ _ _ _ => pe_ifExp (pt_cmpR op_ge (pe_var (i := 2) (ni 2 "cell" rfl) (Or.inl rfl)) (pe_op op_pow pe_int pe_int) rfl) (pe_var (i := 2) (ni 2 "cell" rfl) (Or.inl rfl)) pe_int)) rfl)
    (pss_one (ps_ret (v 1 "m" _ rfl rfl (by decide) (by decide)))))
  rw [h.K] at key
  exact key
def F__law_like : M Unit Out := (retM (op2 eqD (callM reprD (consO (nameM 0) nilM)) (callM reprD (consO (nameM 1) nilM))))
def m__law_like : List D → Option D := runP2 2 2 F__law_like
theorem d__law_like (T : Top K mg) : DefQ P w K mg base 1 "_law_like" ["got", "due"] m__law_like :=
  Has.pure (N := ["got", "due"]) T.h__law_like ⟨rfl, rfl, rfl, by decide +kernel, rfl, by decide +kernel, by decide +kernel⟩ rfl rfl fun A B ok =>
    (DSs.one (DS.ret (DO.cmp (od_eq ok) (DO.callB (cd_repr ok) rfl T.n_repr rfl (DA.cons (nm 0) DA.nil)) (DO.callB (cd_repr ok) rfl T.n_repr rfl (DA.cons (nm 1) DA.nil)) rfl)))
def F__law_order : M DrawSt Out := (seqM (asgM 2 (listRgM (consO (nameM 1) nilM))) (retM (lcM [3] (rangeM (consO (nameM 1) nilM)) (setM 3) (ret true) (popM 2 (callD 0 m__law_draw (consD (callM lenD (consO (nameM 2) nilM)) nilM))))))
def m__law_order : List D → DrawSt → Option (D × DrawSt) := runD2 2 4 F__law_order
theorem d__law_order (T : Top K mg) : DefD P w K mg base 3 "_law_order" ["m", "many"] m__law_order :=
  Has.draw (N := ["m", "many", "left", "turn"]) T.h__law_order ⟨rfl, rfl, rfl, by decide +kernel, rfl, by decide +kernel, by decide +kernel⟩ rfl rfl fun A B hB ok =>
    (DSs.cons (DS.set (i := 2) ok.nd rfl (by first | exact Or.inl rfl | exact Or.inr rfl) (Or.inl rfl) (DO.listRg1 (nm 1) rfl T.n_list rfl T.n_range)) (DSs.one (DS.ret (DO.lc (own := [("turn", 3)]) ok.nd (DI.range1 (DA.cons (nm 1) DA.nil) rfl T.n_range) (blkOk_by (by dsimp only [Gam.blk]; decide +kernel)) (DG.name (i := 3) ok.blk.nd rfl (by first | exact Or.inl rfl | exact Or.inr rfl) (by first | exact Or.inl rfl | exact Or.inr rfl)) (by decide) DTs.nil (DO.pop (i := 2) rfl (by first | exact Or.inl rfl | exact Or.inr (Or.inl rfl) | exact Or.inr (Or.inr rfl)) (DO.callD (i := 0) (d__law_draw T) hB ok.blk (by decide) (DV.cons (DO.callB cd_len rfl T.n_len rfl (DA.cons (nm 2) DA.nil)) DV.nil)))))))
def F__law_up : M DrawSt Out := (seqM (asgM 4 (callD 0 m__law_order (consD (nameM 1) nilM))) (seqM (asgM 3 (callM minD (consO (nameM 3) (consO (nameM 1) nilM)))) (retM (callM tupleD (consO (callM sortedD (consO (sliceM slD (nameM 4) (ret none) (bnd (op2 addD (nameM 2) (callD 0 m__law_draw (consD (op2 subD (op2 addD (nameM 3) (ret (.val (PyData.int 1)))) (nameM 2)) nilM))) intO)) nilM)) nilM)))))
def m__law_up : List D → DrawSt → Option (D × DrawSt) := runD2 4 5 F__law_up
theorem d__law_up (T : Top K mg) : DefD P w K mg base 4 "_law_up" ["m", "many", "least", "top"] m__law_up :=
  Has.draw (N := ["m", "many", "least", "top", "order"]) T.h__law_up ⟨rfl, rfl, rfl, by decide +kernel, rfl, by decide +kernel, by decide +kernel⟩ rfl rfl fun A B hB ok =>
    (DSs.cons (DS.set (i := 4) ok.nd rfl (by first | exact Or.inl rfl | exact Or.inr rfl) (Or.inl rfl) (DO.callD (i := 0) (d__law_order T) hB ok (by decide) (DV.cons (nm 1) DV.nil))) (DSs.cons (DS.set (i := 3) ok.nd rfl (by first | exact Or.inl rfl | exact Or.inr rfl) (Or.inl rfl) (DO.callB cd_min rfl T.n_min rfl (DA.cons (nm 3) (DA.cons (nm 1) DA.nil)))) (DSs.one (DS.ret (DO.callTy cd_tuple rfl T.n_tuple rfl (DA.cons (DO.callB cd_sorted rfl T.n_sorted rfl (DA.cons (DO.slice od_sl (nm 4) DP.none (DP.some (DO.bin od_add (nm 2) (DO.callD (i := 0) (d__law_draw T) hB ok (by decide) (DV.cons (DO.bin od_sub (DO.bin od_add (nm 3) DO.int) (nm 2)) DV.nil))))) DA.nil)) DA.nil))))))
def F__law_wash_drawn : M DrawSt Out := (seqM (asgM 3 (callM tupleD (consO (lcM [4] (rangeM (consO (nameM 1) nilM)) (setM 4) (ret true) (callD 0 m__law_up (consD (nameM 1) (consD (ret (.val (PyData.int 1))) (consD (ret (.val (PyData.int 3))) nilM))))) nilM))) (seqM (asgM 5 (op2 addD (ret (.val (PyData.int 1))) (callD 0 m__law_draw (consD (nameM 2) nilM)))) (retM (tupM (consD (nameM 3) (consD (nameM 5) (consD (op2 addD (nameM 5) (callD 0 m__law_draw (consD (op2 subD (op2 addD (nameM 2) (ret (.val (PyData.int 1)))) (nameM 5)) nilM))) nilM)))))))
def m__law_wash_drawn : List D → DrawSt → Option (D × DrawSt) := runD2 3 6 F__law_wash_drawn
theorem d__law_wash_drawn (T : Top K mg) : DefD P w K mg base 5 "_law_wash_drawn" ["m", "states", "top"] m__law_wash_drawn :=
  Has.draw (N := ["m", "states", "top", "after", "state", "low"]) T.h__law_wash_drawn ⟨rfl, rfl, rfl, by decide +kernel, rfl, by decide +kernel, by decide +kernel⟩ rfl rfl fun A B hB ok =>
    (DSs.cons (DS.set (i := 3) ok.nd rfl (by first | exact Or.inl rfl | exact Or.inr rfl) (Or.inl rfl) (DO.callTy cd_tuple rfl T.n_tuple rfl (DA.cons (DO.lc (own := [("state", 4)]) ok.nd (DI.range1 (DA.cons (nm 1) DA.nil) rfl T.n_range) (blkOk_by (by dsimp only [Gam.blk]; decide +kernel)) (DG.name (i := 4) ok.blk.nd rfl (by first | exact Or.inl rfl | exact Or.inr rfl) (by first | exact Or.inl rfl | exact Or.inr rfl)) (by decide) DTs.nil (DO.callD (i := 0) (d__law_up T) hB ok.blk (by decide) (DV.cons (nm 1) (DV.cons DO.int (DV.cons DO.int DV.nil))))) DA.nil))) (DSs.cons (DS.set (i := 5) ok.nd rfl (by first | exact Or.inl rfl | exact Or.inr rfl) (Or.inl rfl) (DO.bin od_add DO.int (DO.callD (i := 0) (d__law_draw T) hB ok (by decide) (DV.cons (nm 2) DV.nil)))) (DSs.one (DS.ret (DO.tup (DV.cons (nm 3) (DV.cons (nm 5) (DV.cons (DO.bin od_add (nm 5) (DO.callD (i := 0) (d__law_draw T) hB ok (by decide) (DV.cons (DO.bin od_sub (DO.bin od_add (nm 2) DO.int) (nm 5)) DV.nil))) DV.nil))))))))
def F__law_meets_drawn : M DrawSt Out := (seqM (asgM 3 (lstM (consD (lcM [4] (rangeM (consO (nameM 2) nilM)) (setM 4) (ret true) (callD 0 m__law_draw (consD (nameM 1) nilM))) nilM))) (seqM (loopM (rangeM (consO (ret (.val (PyData.int 1))) (consO (nameM 1) nilM))) (setM 5) (bnd (ownAt 3) fun _ => appM 3 (lcM [4] (rangeM (consO (nameM 2) nilM)) (setM 4) (ret true) (iteM (bnd (op2 eqD (callD 0 m__law_draw (consD (ret (.val (PyData.int 3))) nilM)) (ret (.val (PyData.int 0)))) boolO) (ret (.val PyData.none)) (callD 0 m__law_draw (consD (nameM 1) nilM)))))) (retM (callM tupleD (consO (lcM [6] (iterM (nameM 3)) (setM 6) (ret true) (callM tupleD (consO (nameM 6) nilM))) nilM)))))
def m__law_meets_drawn : List D → DrawSt → Option (D × DrawSt) := runD2 3 7 F__law_meets_drawn
theorem d__law_meets_drawn (T : Top K mg) : DefD P w K mg base 3 "_law_meets_drawn" ["m", "states", "stuffs"] m__law_meets_drawn :=
  Has.draw (N := ["m", "states", "stuffs", "rows", "stuff", "state", "row"]) T.h__law_meets_drawn ⟨rfl, rfl, rfl, by decide +kernel, rfl, by decide +kernel, by decide +kernel⟩ rfl rfl fun A B hB ok =>
    (DSs.cons (DS.set (i := 3) ok.nd rfl (by first | exact Or.inl rfl | exact Or.inr rfl) (Or.inl rfl) (DO.lst (DV.cons (DO.lc (own := [("stuff", 4)]) ok.nd (DI.range1 (DA.cons (nm 2) DA.nil) rfl T.n_range) (blkOk_by (by dsimp only [Gam.blk]; decide +kernel)) (DG.name (i := 4) ok.blk.nd rfl (by first | exact Or.inl rfl | exact Or.inr rfl) (by first | exact Or.inl rfl | exact Or.inr rfl)) (by decide) DTs.nil (DO.callD (i := 0) (d__law_draw T) hB ok.blk (by decide) (DV.cons (nm 1) DV.nil))) DV.nil))) (DSs.cons (DS.for_ (DI.range2 (DA.cons DO.int (DA.cons (nm 1) DA.nil)) rfl T.n_range) (DG.name (i := 5) ok.nd rfl (by first | exact Or.inl rfl | exact Or.inr rfl) (by first | exact Or.inl rfl | exact Or.inr rfl)) (DSs.one (DS.app (i := 3) rfl (by first | exact Or.inl rfl | exact Or.inr (Or.inl rfl) | exact Or.inr (Or.inr rfl)) (DO.lc (own := [("stuff", 4)]) ok.nd (DI.range1 (DA.cons (nm 2) DA.nil) rfl T.n_range) (blkOk_by (by dsimp only [Gam.blk]; decide +kernel)) (DG.name (i := 4) ok.blk.nd rfl (by first | exact Or.inl rfl | exact Or.inr rfl) (by first | exact Or.inl rfl | exact Or.inr rfl)) (by decide) DTs.nil (DO.ite (DT.cmp (od_eq ok.blk) (DO.callD (i := 0) (d__law_draw T) hB ok.blk (by decide) (DV.cons DO.int DV.nil)) DO.int rfl) DO.non (DO.callD (i := 0) (d__law_draw T) hB ok.blk (by decide) (DV.cons (nm 1) DV.nil))))))) (DSs.one (DS.ret (DO.callTy cd_tuple rfl T.n_tuple rfl (DA.cons (DO.lc (own := [("row", 6)]) ok.nd (DI.seq (nm 3)) (blkOk_by (by dsimp only [Gam.blk]; decide +kernel)) (DG.name (i := 6) ok.blk.nd rfl (by first | exact Or.inl rfl | exact Or.inr rfl) (by first | exact Or.inl rfl | exact Or.inr rfl)) (by decide) DTs.nil (DO.callTy cd_tuple rfl T.n_tuple rfl (DA.cons (nm 6) DA.nil))) DA.nil))))))
def F__law_lab_drawn : M DrawSt Out := (seqM (asgM 5 (op2 addD (ret (.val (PyData.int 1))) (callD 0 m__law_draw (consD (nameM 1) nilM)))) (seqM (asgM 6 (callD 0 m__law_meets_drawn (consD (nameM 5) (consD (op2 addD (ret (.val (PyData.int 1))) (callD 0 m__law_draw (consD (nameM 2) nilM))) nilM)))) (seqM (asgM 7 (callM tupleD (consO (lcM [8] (rangeM (consO (callD 0 m__law_draw (consD (op2 addD (nameM 3) (ret (.val (PyData.int 1)))) nilM)) nilM)) (setM 8) (ret true) (callD 0 m__law_wash_drawn (consD (nameM 5) (consD (nameM 4) nilM)))) nilM))) (retM (tupM (consD (nameM 6) (consD (nameM 7) (consD (op2 addD (ret (.val (PyData.int 1))) (callD 0 m__law_draw (consD (ret (.val (PyData.int 3))) nilM))) (consD (op2 addD (ret (.val (PyData.int 1))) (callD 0 m__law_draw (consD (ret (.val (PyData.int 3))) nilM))) (consD (callD 0 m__law_draw (consD (ret (.val (PyData.int 5))) nilM)) nilM))))))))))
def m__law_lab_drawn : List D → DrawSt → Option (D × DrawSt) := runD2 5 9 F__law_lab_drawn
theorem d__law_lab_drawn (T : Top K mg) : DefD P w K mg base 6 "_law_lab_drawn" ["m", "states", "stuffs", "washes", "top"] m__law_lab_drawn :=
  Has.draw (N := ["m", "states", "stuffs", "washes", "top", "many", "meets", "rows", "wash"]) T.h__law_lab_drawn ⟨rfl, rfl, rfl, by decide +kernel, rfl, by decide +kernel, by decide +kernel⟩ rfl rfl fun A B hB ok =>
    (DSs.cons (DS.set (i := 5) ok.nd rfl (by first | exact Or.inl rfl | exact Or.inr rfl) (Or.inl rfl) (DO.bin od_add DO.int (DO.callD (i := 0) (d__law_draw T) hB ok (by decide) (DV.cons (nm 1) DV.nil)))) (DSs.cons (DS.set (i := 6) ok.nd rfl (by first | exact Or.inl rfl | exact Or.inr rfl) (Or.inl rfl) (DO.callD (i := 0) (d__law_meets_drawn T) hB ok (by decide) (DV.cons (nm 5) (DV.cons (DO.bin od_add DO.int (DO.callD (i := 0) (d__law_draw T) hB ok (by decide) (DV.cons (nm 2) DV.nil))) DV.nil)))) (DSs.cons (DS.set (i := 7) ok.nd rfl (by first | exact Or.inl rfl | exact Or.inr rfl) (Or.inl rfl) (DO.callTy cd_tuple rfl T.n_tuple rfl (DA.cons (DO.lc (own := [("wash", 8)]) ok.nd (DI.range1 (DA.cons (DO.callD (i := 0) (d__law_draw T) hB ok (by decide) (DV.cons (DO.bin od_add (nm 3) DO.int) DV.nil)) DA.nil) rfl T.n_range) (blkOk_by (by dsimp only [Gam.blk]; decide +kernel)) (DG.name (i := 8) ok.blk.nd rfl (by first | exact Or.inl rfl | exact Or.inr rfl) (by first | exact Or.inl rfl | exact Or.inr rfl)) (by decide) DTs.nil (DO.callD (i := 0) (d__law_wash_drawn T) hB ok.blk (by decide) (DV.cons (nm 5) (DV.cons (nm 4) DV.nil)))) DA.nil))) (DSs.one (DS.ret (DO.tup (DV.cons (nm 6) (DV.cons (nm 7) (DV.cons (DO.bin od_add DO.int (DO.callD (i := 0) (d__law_draw T) hB ok (by decide) (DV.cons DO.int DV.nil))) (DV.cons (DO.bin od_add DO.int (DO.callD (i := 0) (d__law_draw T) hB ok (by decide) (DV.cons DO.int DV.nil))) (DV.cons (DO.callD (i := 0) (d__law_draw T) hB ok (by decide) (DV.cons DO.int DV.nil)) DV.nil)))))))))))
def F__law_is_good : M Unit Out := (seqM (loopM (rangeM (consO (callM lenD (consO (op2 ixD (op2 ixD (nameM 0) (ret (.val (PyData.int 0)))) (ret (.val (PyData.int 0)))) nilM)) nilM)) (setM 4) (seqM (parM [5, 6] (consN (op2 ixD (op2 ixD (op2 ixD (nameM 0) (ret (.val (PyData.int 0)))) (nameM 2)) (nameM 4)) (consN (op2 ixD (op2 ixD (op2 ixD (nameM 0) (ret (.val (PyData.int 0)))) (nameM 3)) (nameM 4)) nilM))) (ifM (andT (bnd (op2 isNotD (nameM 6) (ret (.val PyData.none))) boolO) (orT (bnd (op2 isD (nameM 5) (ret (.val PyData.none))) boolO) (notT (orT (bnd (op2 eqD (nameM 5) (nameM 6)) boolO) (bnd (op2 inD (tupM (consD (nameM 5) (consD (nameM 6) nilM))) (nameM 1)) boolO))))) (retM (ret (.val (PyData.bool false)))) (ret .nx)))) (seqM (loopM (iterM (op2 ixD (nameM 0) (ret (.val (PyData.int 1))))) (setM 7) (loopM (iterM (op2 ixD (op2 ixD (nameM 7) (ret (.val (PyData.int 0)))) (nameM 2))) (setM 5) (ifM (bnd (op2 eqD (callM lenD (consO (lcM [6] (iterM (op2 ixD (op2 ixD (nameM 7) (ret (.val (PyData.int 0)))) (nameM 3))) (setM 6) (orT (bnd (op2 eqD (nameM 5) (nameM 6)) boolO) (bnd (op2 inD (tupM (consD (nameM 5) (consD (nameM 6) nilM))) (nameM 1)) boolO)) (nameM 6)) nilM)) (ret (.val (PyData.int 0)))) boolO) (retM (ret (.val (PyData.bool false)))) (ret .nx)))) (retM (ret (.val (PyData.bool true))))))
def m__law_is_good : List D → Option D := runP2 4 8 F__law_is_good
theorem d__law_is_good (T : Top K mg) : DefQ P w K mg base 1 "_law_is_good" ["lab", "good", "better", "worse"] m__law_is_good :=
  Has.pure (N := ["lab", "good", "better", "worse", "stuff", "one", "other", "wash"]) T.h__law_is_good ⟨rfl, rfl, rfl, by decide +kernel, rfl, by decide +kernel, by decide +kernel⟩ rfl rfl fun A B ok =>
    (DSs.cons (DS.for_ (DI.range1 (DA.cons (DO.callB cd_len rfl T.n_len rfl (DA.cons (DO.ix od_ix (DO.ix od_ix (nm 0) DO.int) DO.int) DA.nil)) DA.nil) rfl T.n_range) (DG.name (i := 4) ok.nd rfl (by first | exact Or.inl rfl | exact Or.inr rfl) (by first | exact Or.inl rfl | exact Or.inr rfl)) (DSs.cons (DS.unpN (DN.cons (DO.ix od_ix (DO.ix od_ix (DO.ix od_ix (nm 0) DO.int) (nm 2)) (nm 4)) (DN.cons (DO.ix od_ix (DO.ix od_ix (DO.ix od_ix (nm 0) DO.int) (nm 3)) (nm 4)) DN.nil)) (DNm.cons (i := 5) ok.nd rfl (by first | exact Or.inl rfl | exact Or.inr rfl) (Or.inl rfl) (DNm.cons (i := 6) ok.nd rfl (by first | exact Or.inl rfl | exact Or.inr rfl) (Or.inl rfl) DNm.nil)) (by decide) (hw := (fun X h => by unfold swappedStores Env.blockKind Env.kindOf; rw [h.sc]; rfl))) (DSs.one (DS.if_ (DW.pt (DW.and (DT.cmp od_isNot (nm 6) DO.non rfl) (DW.and1 (DW.pt (DW.or (DT.cmp od_is (nm 5) DO.non rfl) (DW.or1 (DT.not (DW.pt (DW.or (DT.cmp (od_eq ok) (nm 5) (nm 6) rfl) (DW.or1 (DT.cmp (od_in ok) (DO.tup (DV.cons (nm 5) (DV.cons (nm 6) DV.nil))) (nm 1) rfl))))))))))) (DSs.one (DS.ret DO.bl)) DSs.nil)))) (DSs.cons (DS.for_ (DI.seq (DO.ix od_ix (nm 0) DO.int)) (DG.name (i := 7) ok.nd rfl (by first | exact Or.inl rfl | exact Or.inr rfl) (by first | exact Or.inl rfl | exact Or.inr rfl)) (DSs.one (DS.for_ (DI.seq (DO.ix od_ix (DO.ix od_ix (nm 7) DO.int) (nm 2))) (DG.name (i := 5) ok.nd rfl (by first | exact Or.inl rfl | exact Or.inr rfl) (by first | exact Or.inl rfl | exact Or.inr rfl)) (DSs.one (DS.if_ (DT.cmp (od_eq ok) (DO.callB cd_len rfl T.n_len rfl (DA.cons (DO.lc (own := [("other", 6)]) ok.nd (DI.seq (DO.ix od_ix (DO.ix od_ix (nm 7) DO.int) (nm 3))) (blkOk_by (by dsimp only [Gam.blk]; decide +kernel)) (DG.name (i := 6) ok.blk.nd rfl (by first | exact Or.inl rfl | exact Or.inr rfl) (by first | exact Or.inl rfl | exact Or.inr rfl)) (by decide) (DTs.one (DW.pt (DW.or (DT.cmp (od_eq ok.blk) (nm 5) (nm 6) rfl) (DW.or1 (DT.cmp (od_in ok.blk) (DO.tup (DV.cons (nm 5) (DV.cons (nm 6) DV.nil))) (nm 1) rfl))))) (nm 6)) DA.nil)) DO.int rfl) (DSs.one (DS.ret DO.bl)) DSs.nil))))) (DSs.one (DS.ret DO.bl))))
def F__law_pairs_due : M Unit Out := (seqM (asgM 1 (listRgM (consO (callM lenD (consO (op2 ixD (nameM 0) (ret (.val (PyData.int 0)))) nilM)) nilM))) (seqM (asgM 2 (lstM nilM)) (seqM (loopM (iterM (nameM 1)) (setM 3) (asgM 2 (op2 addD (nameM 2) (lcM [4] (iterM (nameM 1)) (setM 4) (bnd (op2 neD (nameM 3) (nameM 4)) boolO) (tupM (consD (nameM 3) (consD (nameM 4) nilM))))))) (seqM (loopM (rangeM (consO (op2 mulD (callM lenD (consO (op2 ixD (nameM 0) (ret (.val (PyData.int 0)))) nilM)) (callM lenD (consO (op2 ixD (nameM 0) (ret (.val (PyData.int 0)))) nilM))) nilM)) (setM 5) (seqM (asgM 6 (lcM [7] (iterM (nameM 2)) (setM 7) (bnd (callP m__law_is_good (consD (nameM 0) (consD (nameM 2) (consD (op2 ixD (nameM 7) (ret (.val (PyData.int 0)))) (consD (op2 ixD (nameM 7) (ret (.val (PyData.int 1)))) nilM))))) boolO) (nameM 7))) (seqM (ifM (bnd (op2 eqD (nameM 6) (nameM 2)) boolO) (ret .bk) (ret .nx)) (asgM 2 (nameM 6))))) (retM (nameM 2))))))
def m__law_pairs_due : List D → Option D := runP2 1 8 F__law_pairs_due
theorem d__law_pairs_due (T : Top K mg) : DefQ P w K mg base 2 "_law_pairs_due" ["lab"] m__law_pairs_due :=
  Has.pure (N := ["lab", "states", "good", "state", "other", "turn", "left", "pair"]) T.h__law_pairs_due ⟨rfl, rfl, rfl, by decide +kernel, rfl, by decide +kernel, by decide +kernel⟩ rfl rfl fun A B ok =>
    (DSs.cons (DS.set (i := 1) ok.nd rfl (by first | exact Or.inl rfl | exact Or.inr rfl) (Or.inl rfl) (DO.listRg1 (DO.callB cd_len rfl T.n_len rfl (DA.cons (DO.ix od_ix (nm 0) DO.int) DA.nil)) rfl T.n_list rfl T.n_range)) (DSs.cons (DS.set (i := 2) ok.nd rfl (by first | exact Or.inl rfl | exact Or.inr rfl) (Or.inl rfl) (DO.lst DV.nil)) (DSs.cons (DS.for_ (DI.seq (nm 1)) (DG.name (i := 3) ok.nd rfl (by first | exact Or.inl rfl | exact Or.inr rfl) (by first | exact Or.inl rfl | exact Or.inr rfl)) (DSs.one (DS.set (i := 2) ok.nd rfl (by first | exact Or.inl rfl | exact Or.inr rfl) (Or.inl rfl) (DO.bin od_add (nm 2) (DO.lc (own := [("other", 4)]) ok.nd (DI.seq (nm 1)) (blkOk_by (by dsimp only [Gam.blk]; decide +kernel)) (DG.name (i := 4) ok.blk.nd rfl (by first | exact Or.inl rfl | exact Or.inr rfl) (by first | exact Or.inl rfl | exact Or.inr rfl)) (by decide) (DTs.one (DT.cmp (od_ne ok.blk) (nm 3) (nm 4) rfl)) (DO.tup (DV.cons (nm 3) (DV.cons (nm 4) DV.nil)))))))) (DSs.cons (DS.for_ (DI.range1 (DA.cons (DO.bin od_mul (DO.callB cd_len rfl T.n_len rfl (DA.cons (DO.ix od_ix (nm 0) DO.int) DA.nil)) (DO.callB cd_len rfl T.n_len rfl (DA.cons (DO.ix od_ix (nm 0) DO.int) DA.nil))) DA.nil) rfl T.n_range) (DG.name (i := 5) ok.nd rfl (by first | exact Or.inl rfl | exact Or.inr rfl) (by first | exact Or.inl rfl | exact Or.inr rfl)) (DSs.cons (DS.setLc (i := 6) (own := [("pair", 7)]) ok.nd (fun X h => by rw [h.sc]; rfl) rfl rfl rfl (by decide +kernel) (DI.seq (nm 2)) (blkOk_by (by dsimp only [Gam.blk]; decide +kernel)) (DG.name (i := 7) ok.blk.nd rfl (by first | exact Or.inl rfl | exact Or.inr rfl) (by first | exact Or.inl rfl | exact Or.inr rfl)) (by decide) (DTs.one (DT.val (DO.callQ (d__law_is_good T) ok.blk (by decide) (DV.cons (nm 0) (DV.cons (nm 2) (DV.cons (DO.ix od_ix (nm 7) DO.int) (DV.cons (DO.ix od_ix (nm 7) DO.int) DV.nil))))))) (nm 7)) (DSs.cons (DS.if_ (DT.cmp (od_eq ok) (nm 6) (nm 2) rfl) (DSs.one DS.brk) DSs.nil) (DSs.one (DS.set (i := 2) ok.nd rfl (by first | exact Or.inl rfl | exact Or.inr rfl) (Or.inl rfl) (nm 6)))))) (DSs.one (DS.ret (nm 2)))))))
def F__law_near_wash : M DrawSt Out := (seqM (unpM (nameM 2) (tupG 3 (gsCons (setM 3) (gsCons (setM 4) (gsCons (setM 5) gsNil))))) (seqM (asgM 6 (lstM nilM)) (seqM (loopM (iterM (nameM 3)) (setM 7) (seqM (asgM 8 (callD 0 m__law_draw (consD (ret (.val (PyData.int 4))) nilM))) (seqM (asgM 9 (callD 0 m__law_draw (consD (callM lenD (consO (nameM 3) nilM)) nilM))) (seqM (ifM (bnd (op2 eqD (nameM 8) (ret (.val (PyData.int 0)))) boolO) (asgM 7 (iteM (bnd (op2 gtD (callM lenD (consO (nameM 7) nilM)) (ret (.val (PyData.int 1)))) boolO) (sliceM slD (nameM 7) (bnd (ret (.val (PyData.int 1))) intO) (ret none)) (nameM 7))) (ifM (bnd (op2 eqD (nameM 8) (ret (.val (PyData.int 1)))) boolO) (asgM 7 (sliceM slD (callM tupleD (consO (sortSetM (op2 addD (nameM 7) (tupM (consD (nameM 9) nilM)))) nilM)) (ret none) (bnd (ret (.val (PyData.int 3))) intO))) (ifM (bnd (op2 eqD (nameM 8) (ret (.val (PyData.int 2)))) boolO) (asgM 7 (callM tupleD (consO (sortSetM (op2 addD (sliceM slD (nameM 7) (bnd (ret (.val (PyData.int 1))) intO) (ret none)) (tupM (consD (nameM 9) nilM)))) nilM))) (ret .nx)))) (bnd (ownAt 6) fun _ => appM 6 (nameM 7)))))) (seqM (asgM 4 (callM maxD (consO (ret (.val (PyData.int 1))) (consO (callM minD (consO (ret (.val (PyData.int 6))) (consO (op2 subD (op2 addD (nameM 4) (callD 0 m__law_draw (consD (ret (.val (PyData.int 4))) nilM))) (ret (.val (PyData.int 1)))) nilM))) nilM)))) (retM (tupM (consD (callM tupleD (consO (nameM 6) nilM)) (consD (nameM 4) (consD (callM maxD (consO (nameM 4) (consO (callM minD (consO (ret (.val (PyData.int 6))) (consO (op2 subD (op2 addD (nameM 5) (callD 0 m__law_draw (consD (ret (.val (PyData.int 4))) nilM))) (ret (.val (PyData.int 2)))) nilM))) nilM))) nilM)))))))))
def m__law_near_wash : List D → DrawSt → Option (D × DrawSt) := runD2 3 10 F__law_near_wash
theorem d__law_near_wash (T : Top K mg) : DefD P w K mg base 3 "_law_near_wash" ["m", "lab", "wash"] m__law_near_wash :=
  Has.draw (N := ["m", "lab", "wash", "after", "low", "high", "rows", "results", "kind", "other"]) T.h__law_near_wash ⟨rfl, rfl, rfl, by decide +kernel, rfl, by decide +kernel, by decide +kernel⟩ rfl rfl fun A B hB ok =>
    (DSs.cons (DS.unp (nm 2) (DG.tup (DGs.cons (DG.name (i := 3) ok.nd rfl (by first | exact Or.inl rfl | exact Or.inr rfl) (by first | exact Or.inl rfl | exact Or.inr rfl)) (DGs.cons (DG.name (i := 4) ok.nd rfl (by first | exact Or.inl rfl | exact Or.inr rfl) (by first | exact Or.inl rfl | exact Or.inr rfl)) (DGs.cons (DG.name (i := 5) ok.nd rfl (by first | exact Or.inl rfl | exact Or.inr rfl) (by first | exact Or.inl rfl | exact Or.inr rfl)) DGs.nil))))) (DSs.cons (DS.set (i := 6) ok.nd rfl (by first | exact Or.inl rfl | exact Or.inr rfl) (Or.inl rfl) (DO.lst DV.nil)) (DSs.cons (DS.for_ (DI.seq (nm 3)) (DG.name (i := 7) ok.nd rfl (by first | exact Or.inl rfl | exact Or.inr rfl) (by first | exact Or.inl rfl | exact Or.inr rfl)) (DSs.cons (DS.set (i := 8) ok.nd rfl (by first | exact Or.inl rfl | exact Or.inr rfl) (Or.inl rfl) (DO.callD (i := 0) (d__law_draw T) hB ok (by decide) (DV.cons DO.int DV.nil))) (DSs.cons (DS.set (i := 9) ok.nd rfl (by first | exact Or.inl rfl | exact Or.inr rfl) (Or.inl rfl) (DO.callD (i := 0) (d__law_draw T) hB ok (by decide) (DV.cons (DO.callB cd_len rfl T.n_len rfl (DA.cons (nm 3) DA.nil)) DV.nil))) (DSs.cons (DS.if_ (DT.cmp (od_eq ok) (nm 8) DO.int rfl) (DSs.one (DS.set (i := 7) ok.nd rfl (by first | exact Or.inl rfl | exact Or.inr rfl) (Or.inl rfl) (DO.ite (DT.cmp od_gt (DO.callB cd_len rfl T.n_len rfl (DA.cons (nm 7) DA.nil)) DO.int rfl) (DO.slice od_sl (nm 7) (DP.some DO.int) DP.none) (nm 7)))) (DSs.one (DS.if_ (DT.cmp (od_eq ok) (nm 8) DO.int rfl) (DSs.one (DS.set (i := 7) ok.nd rfl (by first | exact Or.inl rfl | exact Or.inr rfl) (Or.inl rfl) (DO.slice od_sl (DO.callTy cd_tuple rfl T.n_tuple rfl (DA.cons (DO.sortSet rfl T.n_sorted rfl T.n_set (DO.bin od_add (nm 7) (DO.tup (DV.cons (nm 9) DV.nil)))) DA.nil)) DP.none (DP.some DO.int)))) (DSs.one (DS.if_ (DT.cmp (od_eq ok) (nm 8) DO.int rfl) (DSs.one (DS.set (i := 7) ok.nd rfl (by first | exact Or.inl rfl | exact Or.inr rfl) (Or.inl rfl) (DO.callTy cd_tuple rfl T.n_tuple rfl (DA.cons (DO.sortSet rfl T.n_sorted rfl T.n_set (DO.bin od_add (DO.slice od_sl (nm 7) (DP.some DO.int) DP.none) (DO.tup (DV.cons (nm 9) DV.nil)))) DA.nil)))) DSs.nil))))) (DSs.one (DS.app (i := 6) rfl (by first | exact Or.inl rfl | exact Or.inr (Or.inl rfl) | exact Or.inr (Or.inr rfl)) (nm 7))))))) (DSs.cons (DS.set (i := 4) ok.nd rfl (by first | exact Or.inl rfl | exact Or.inr rfl) (Or.inl rfl) (DO.callB cd_max rfl T.n_max rfl (DA.cons DO.int (DA.cons (DO.callB cd_min rfl T.n_min rfl (DA.cons DO.int (DA.cons (DO.bin od_sub (DO.bin od_add (nm 4) (DO.callD (i := 0) (d__law_draw T) hB ok (by decide) (DV.cons DO.int DV.nil))) DO.int) DA.nil))) DA.nil)))) (DSs.one (DS.ret (DO.tup (DV.cons (DO.callTy cd_tuple rfl T.n_tuple rfl (DA.cons (nm 6) DA.nil)) (DV.cons (nm 4) (DV.cons (DO.callB cd_max rfl T.n_max rfl (DA.cons (nm 4) (DA.cons (DO.callB cd_min rfl T.n_min rfl (DA.cons DO.int (DA.cons (DO.bin od_sub (DO.bin od_add (nm 5) (DO.callD (i := 0) (d__law_draw T) hB ok (by decide) (DV.cons DO.int DV.nil))) DO.int) DA.nil))) DA.nil))) DV.nil))))))))))
def F__law_washed_lab : M DrawSt Out := (seqM (asgM 1 (callD 0 m__law_lab_drawn (consD (ret (.val (PyData.int 5))) (consD (ret (.val (PyData.int 3))) (consD (ret (.val (PyData.int 3))) (consD (ret (.val (PyData.int 4))) nilM)))))) (seqM (asgM 2 (callM listD (consO (op2 ixD (nameM 1) (ret (.val (PyData.int 1)))) nilM))) (seqM (ifM (andT (bnd (op2 neD (nameM 2) (lstM nilM)) boolO) (bnd (op2 gtD (callD 0 m__law_draw (consD (ret (.val (PyData.int 5))) nilM)) (ret (.val (PyData.int 0)))) boolO)) (bnd (valM (callD 0 m__law_near_wash (consD (nameM 1) (consD (op2 ixD (nameM 2) (ret (.val (PyData.int 0)))) nilM)))) fun d => bnd (ownAt 2) fun _ => setIxM 2 (DL.ret (Opd.val d)) (negM (ret (.val (PyData.int 1))))) (ret .nx)) (seqM (ifM (bnd (op2 eqD (callM lenD (consO (nameM 2) nilM)) (ret (.val (PyData.int 1)))) boolO) (bnd (ownAt 2) fun _ => appM 2 (callD 0 m__law_near_wash (consD (nameM 1) (consD (op2 ixD (nameM 2) (ret (.val (PyData.int 0)))) nilM)))) (ret .nx)) (retM (tupM (consD (op2 ixD (nameM 1) (ret (.val (PyData.int 0)))) (consD (callM tupleD (consO (nameM 2) nilM)) (consD (op2 ixD (nameM 1) (ret (.val (PyData.int 2)))) (consD (op2 ixD (nameM 1) (ret (.val (PyData.int 3)))) (consD (op2 ixD (nameM 1) (ret (.val (PyData.int 4)))) nilM)))))))))))
def m__law_washed_lab : List D → DrawSt → Option (D × DrawSt) := runD2 1 3 F__law_washed_lab
theorem d__law_washed_lab (T : Top K mg) : DefD P w K mg base 7 "_law_washed_lab" ["m"] m__law_washed_lab :=
  Has.draw (N := ["m", "lab", "washes"]) T.h__law_washed_lab ⟨rfl, rfl, rfl, by decide +kernel, rfl, by decide +kernel, by decide +kernel⟩ rfl rfl fun A B hB ok =>
    (DSs.cons (DS.set (i := 1) ok.nd rfl (by first | exact Or.inl rfl | exact Or.inr rfl) (Or.inl rfl) (DO.callD (i := 0) (d__law_lab_drawn T) hB ok (by decide) (DV.cons DO.int (DV.cons DO.int (DV.cons DO.int (DV.cons DO.int DV.nil)))))) (DSs.cons (DS.set (i := 2) ok.nd rfl (by first | exact Or.inl rfl | exact Or.inr rfl) (Or.inl rfl) (DO.callTy cd_list rfl T.n_list rfl (DA.cons (DO.ix od_ix (nm 1) DO.int) DA.nil))) (DSs.cons (DS.if_ (DW.pt (DW.and (DT.cmp (od_ne ok) (nm 2) (DO.lst DV.nil) rfl) (DW.and1 (DT.cmp od_gt (DO.callD (i := 0) (d__law_draw T) hB ok (by decide) (DV.cons DO.int DV.nil)) DO.int rfl)))) (DSs.one (DS.setIx (i := 2) rfl (by first | exact Or.inl rfl | exact Or.inr (Or.inl rfl) | exact Or.inr (Or.inr rfl)) (DO.callD (i := 0) (d__law_near_wash T) hB ok (by decide) (DV.cons (nm 1) (DV.cons (DO.ix od_ix (nm 2) DO.int) DV.nil))) (DO.neg DO.int))) DSs.nil) (DSs.cons (DS.if_ (DT.cmp (od_eq ok) (DO.callB cd_len rfl T.n_len rfl (DA.cons (nm 2) DA.nil)) DO.int rfl) (DSs.one (DS.app (i := 2) rfl (by first | exact Or.inl rfl | exact Or.inr (Or.inl rfl) | exact Or.inr (Or.inr rfl)) (DO.callD (i := 0) (d__law_near_wash T) hB ok (by decide) (DV.cons (nm 1) (DV.cons (DO.ix od_ix (nm 2) DO.int) DV.nil))))) DSs.nil) (DSs.one (DS.ret (DO.tup (DV.cons (DO.ix od_ix (nm 1) DO.int) (DV.cons (DO.callTy cd_tuple rfl T.n_tuple rfl (DA.cons (nm 2) DA.nil)) (DV.cons (DO.ix od_ix (nm 1) DO.int) (DV.cons (DO.ix od_ix (nm 1) DO.int) (DV.cons (DO.ix od_ix (nm 1) DO.int) DV.nil))))))))))))
def F__law_stands : M Unit Out := (seqM (parM [4, 5] (consN (op2 ixD (op2 ixD (nameM 0) (ret (.val (PyData.int 1)))) (nameM 2)) (consN (op2 ixD (op2 ixD (nameM 0) (ret (.val (PyData.int 1)))) (nameM 3)) nilM))) (seqM (ifM (orT (bnd (op2 eqD (nameM 2) (nameM 3)) boolO) (notT (andT (bnd (op2 leD (op2 ixD (nameM 5) (ret (.val (PyData.int 1)))) (op2 ixD (nameM 4) (ret (.val (PyData.int 1))))) boolO) (bnd (op2 leD (op2 ixD (nameM 4) (ret (.val (PyData.int 2)))) (op2 ixD (nameM 5) (ret (.val (PyData.int 2))))) boolO)))) (retM (ret (.val (PyData.bool false)))) (ret .nx)) (seqM (loopM (rangeM (consO (callM lenD (consO (op2 ixD (nameM 0) (ret (.val (PyData.int 0)))) nilM)) nilM)) (setM 6) (loopM (iterM (op2 ixD (op2 ixD (nameM 4) (ret (.val (PyData.int 0)))) (nameM 6))) (setM 7) (ifM (bnd (op2 eqD (callM lenD (consO (lcM [8] (iterM (op2 ixD (op2 ixD (nameM 5) (ret (.val (PyData.int 0)))) (nameM 6))) (setM 8) (orT (bnd (op2 eqD (nameM 7) (nameM 8)) boolO) (bnd (op2 inD (tupM (consD (nameM 7) (consD (nameM 8) nilM))) (nameM 1)) boolO)) (nameM 8)) nilM)) (ret (.val (PyData.int 0)))) boolO) (retM (ret (.val (PyData.bool false)))) (ret .nx)))) (retM (ret (.val (PyData.bool true)))))))
def m__law_stands : List D → Option D := runP2 4 9 F__law_stands
theorem d__law_stands (T : Top K mg) : DefQ P w K mg base 1 "_law_stands" ["lab", "good", "wash", "other"] m__law_stands :=
  Has.pure (N := ["lab", "good", "wash", "other", "mine", "theirs", "state", "one", "two"]) T.h__law_stands ⟨rfl, rfl, rfl, by decide +kernel, rfl, by decide +kernel, by decide +kernel⟩ rfl rfl fun A B ok =>
    (DSs.cons (DS.par2 (i := 4) (j := 5) ok.nd rfl rfl (by decide) rfl rfl (DN.cons (DO.ix od_ix (DO.ix od_ix (nm 0) DO.int) (nm 2)) (DN.cons (DO.ix od_ix (DO.ix od_ix (nm 0) DO.int) (nm 3)) DN.nil)) (fun X h => by unfold swappedStores Env.blockKind Env.kindOf; rw [h.sc]; rfl)) (DSs.cons (DS.if_ (DW.pt (DW.or (DT.cmp (od_eq ok) (nm 2) (nm 3) rfl) (DW.or1 (DT.not (DW.pt (DW.and (DT.cmp od_le (DO.ix od_ix (nm 5) DO.int) (DO.ix od_ix (nm 4) DO.int) rfl) (DW.and1 (DT.cmp od_le (DO.ix od_ix (nm 4) DO.int) (DO.ix od_ix (nm 5) DO.int) rfl)))))))) (DSs.one (DS.ret DO.bl)) DSs.nil) (DSs.cons (DS.for_ (DI.range1 (DA.cons (DO.callB cd_len rfl T.n_len rfl (DA.cons (DO.ix od_ix (nm 0) DO.int) DA.nil)) DA.nil) rfl T.n_range) (DG.name (i := 6) ok.nd rfl (by first | exact Or.inl rfl | exact Or.inr rfl) (by first | exact Or.inl rfl | exact Or.inr rfl)) (DSs.one (DS.for_ (DI.seq (DO.ix od_ix (DO.ix od_ix (nm 4) DO.int) (nm 6))) (DG.name (i := 7) ok.nd rfl (by first | exact Or.inl rfl | exact Or.inr rfl) (by first | exact Or.inl rfl | exact Or.inr rfl)) (DSs.one (DS.if_ (DT.cmp (od_eq ok) (DO.callB cd_len rfl T.n_len rfl (DA.cons (DO.lc (own := [("two", 8)]) ok.nd (DI.seq (DO.ix od_ix (DO.ix od_ix (nm 5) DO.int) (nm 6))) (blkOk_by (by dsimp only [Gam.blk]; decide +kernel)) (DG.name (i := 8) ok.blk.nd rfl (by first | exact Or.inl rfl | exact Or.inr rfl) (by first | exact Or.inl rfl | exact Or.inr rfl)) (by decide) (DTs.one (DW.pt (DW.or (DT.cmp (od_eq ok.blk) (nm 7) (nm 8) rfl) (DW.or1 (DT.cmp (od_in ok.blk) (DO.tup (DV.cons (nm 7) (DV.cons (nm 8) DV.nil))) (nm 1) rfl))))) (nm 8)) DA.nil)) DO.int rfl) (DSs.one (DS.ret DO.bl)) DSs.nil))))) (DSs.one (DS.ret DO.bl)))))
def F__law_needless_due : M Unit Out := (seqM (asgM 2 (lstM nilM)) (seqM (loopM (rangeM (consO (callM lenD (consO (op2 ixD (nameM 0) (ret (.val (PyData.int 1)))) nilM)) nilM)) (setM 3) (seqM (asgM 4 (lcM [5] (rangeM (consO (callM lenD (consO (op2 ixD (nameM 0) (ret (.val (PyData.int 1)))) nilM)) nilM)) (setM 5) (bnd (callP m__law_stands (consD (nameM 0) (consD (nameM 1) (consD (nameM 5) (consD (nameM 3) nilM))))) boolO) (nameM 5))) (ifM (bnd (op2 gtD (callM lenD (consO (lcM [5] (iterM (nameM 4)) (setM 5) (orT (bnd (op2 ltD (nameM 5) (nameM 3)) boolO) (notT (bnd (callP m__law_stands (consD (nameM 0) (consD (nameM 1) (consD (nameM 3) (consD (nameM 5) nilM))))) boolO))) (nameM 5)) nilM)) (ret (.val (PyData.int 0)))) boolO) (bnd (ownAt 2) fun _ => appM 2 (nameM 3)) (ret .nx)))) (retM (callM tupleD (consO (nameM 2) nilM)))))
def m__law_needless_due : List D → Option D := runP2 2 6 F__law_needless_due
theorem d__law_needless_due (T : Top K mg) : DefQ P w K mg base 2 "_law_needless_due" ["lab", "good"] m__law_needless_due :=
  Has.pure (N := ["lab", "good", "found", "wash", "others", "other"]) T.h__law_needless_due ⟨rfl, rfl, rfl, by decide +kernel, rfl, by decide +kernel, by decide +kernel⟩ rfl rfl fun A B ok =>
    (DSs.cons (DS.set (i := 2) ok.nd rfl (by first | exact Or.inl rfl | exact Or.inr rfl) (Or.inl rfl) (DO.lst DV.nil)) (DSs.cons (DS.for_ (DI.range1 (DA.cons (DO.callB cd_len rfl T.n_len rfl (DA.cons (DO.ix od_ix (nm 0) DO.int) DA.nil)) DA.nil) rfl T.n_range) (DG.name (i := 3) ok.nd rfl (by first | exact Or.inl rfl | exact Or.inr rfl) (by first | exact Or.inl rfl | exact Or.inr rfl)) (DSs.cons (DS.setLc (i := 4) (own := [("other", 5)]) ok.nd (fun X h => by rw [h.sc]; rfl) rfl rfl rfl (by decide +kernel) (DI.range1 (DA.cons (DO.callB cd_len rfl T.n_len rfl (DA.cons (DO.ix od_ix (nm 0) DO.int) DA.nil)) DA.nil) rfl T.n_range) (blkOk_by (by dsimp only [Gam.blk]; decide +kernel)) (DG.name (i := 5) ok.blk.nd rfl (by first | exact Or.inl rfl | exact Or.inr rfl) (by first | exact Or.inl rfl | exact Or.inr rfl)) (by decide) (DTs.one (DT.val (DO.callQ (d__law_stands T) ok.blk (by decide) (DV.cons (nm 0) (DV.cons (nm 1) (DV.cons (nm 5) (DV.cons (nm 3) DV.nil))))))) (nm 5)) (DSs.one (DS.if_ (DT.cmp od_gt (DO.callB cd_len rfl T.n_len rfl (DA.cons (DO.lc (own := [("other", 5)]) ok.nd (DI.seq (nm 4)) (blkOk_by (by dsimp only [Gam.blk]; decide +kernel)) (DG.name (i := 5) ok.blk.nd rfl (by first | exact Or.inl rfl | exact Or.inr rfl) (by first | exact Or.inl rfl | exact Or.inr rfl)) (by decide) (DTs.one (DW.pt (DW.or (DT.cmp od_lt (nm 5) (nm 3) rfl) (DW.or1 (DT.not (DT.val (DO.callQ (d__law_stands T) ok.blk (by decide) (DV.cons (nm 0) (DV.cons (nm 1) (DV.cons (nm 3) (DV.cons (nm 5) DV.nil))))))))))) (nm 5)) DA.nil)) DO.int rfl) (DSs.one (DS.app (i := 2) rfl (by first | exact Or.inl rfl | exact Or.inr (Or.inl rfl) | exact Or.inr (Or.inr rfl)) (nm 3))) DSs.nil)))) (DSs.one (DS.ret (DO.callTy cd_tuple rfl T.n_tuple rfl (DA.cons (nm 2) DA.nil))))))
def F__law_entry_due : M Unit Out := (seqM (asgM 2 (lstM nilM)) (seqM (loopM (iterM (nameM 1)) (setM 3) (seqM (asgM 4 (lcM [5] (iterM (nameM 1)) (setM 5) (andT (bnd (op2 neD (nameM 5) (nameM 3)) boolO) (bnd (op2 inD (tupM (consD (nameM 3) (consD (nameM 5) nilM))) (nameM 0)) boolO)) (nameM 5))) (ifM (bnd (op2 eqD (callM lenD (consO (lcM [5] (iterM (nameM 4)) (setM 5) (orT (bnd (op2 ltD (nameM 5) (nameM 3)) boolO) (bnd (op2 notInD (tupM (consD (nameM 5) (consD (nameM 3) nilM))) (nameM 0)) boolO)) (nameM 5)) nilM)) (ret (.val (PyData.int 0)))) boolO) (bnd (ownAt 2) fun _ => appM 2 (nameM 3)) (ret .nx)))) (retM (callM tupleD (consO (nameM 2) nilM)))))
def m__law_entry_due : List D → Option D := runP2 2 6 F__law_entry_due
theorem d__law_entry_due (T : Top K mg) : DefQ P w K mg base 1 "_law_entry_due" ["good", "results"] m__law_entry_due :=
  Has.pure (N := ["good", "results", "found", "one", "worse", "two"]) T.h__law_entry_due ⟨rfl, rfl, rfl, by decide +kernel, rfl, by decide +kernel, by decide +kernel⟩ rfl rfl fun A B ok =>
    (DSs.cons (DS.set (i := 2) ok.nd rfl (by first | exact Or.inl rfl | exact Or.inr rfl) (Or.inl rfl) (DO.lst DV.nil)) (DSs.cons (DS.for_ (DI.seq (nm 1)) (DG.name (i := 3) ok.nd rfl (by first | exact Or.inl rfl | exact Or.inr rfl) (by first | exact Or.inl rfl | exact Or.inr rfl)) (DSs.cons (DS.setLc (i := 4) (own := [("two", 5)]) ok.nd (fun X h => by rw [h.sc]; rfl) rfl rfl rfl (by decide +kernel) (DI.seq (nm 1)) (blkOk_by (by dsimp only [Gam.blk]; decide +kernel)) (DG.name (i := 5) ok.blk.nd rfl (by first | exact Or.inl rfl | exact Or.inr rfl) (by first | exact Or.inl rfl | exact Or.inr rfl)) (by decide) (DTs.one (DW.pt (DW.and (DT.cmp (od_ne ok.blk) (nm 5) (nm 3) rfl) (DW.and1 (DT.cmp (od_in ok.blk) (DO.tup (DV.cons (nm 3) (DV.cons (nm 5) DV.nil))) (nm 0) rfl))))) (nm 5)) (DSs.one (DS.if_ (DT.cmp (od_eq ok) (DO.callB cd_len rfl T.n_len rfl (DA.cons (DO.lc (own := [("two", 5)]) ok.nd (DI.seq (nm 4)) (blkOk_by (by dsimp only [Gam.blk]; decide +kernel)) (DG.name (i := 5) ok.blk.nd rfl (by first | exact Or.inl rfl | exact Or.inr rfl) (by first | exact Or.inl rfl | exact Or.inr rfl)) (by decide) (DTs.one (DW.pt (DW.or (DT.cmp od_lt (nm 5) (nm 3) rfl) (DW.or1 (DT.cmp (od_notIn ok.blk) (DO.tup (DV.cons (nm 5) (DV.cons (nm 3) DV.nil))) (nm 0) rfl))))) (nm 5)) DA.nil)) DO.int rfl) (DSs.one (DS.app (i := 2) rfl (by first | exact Or.inl rfl | exact Or.inr (Or.inl rfl) | exact Or.inr (Or.inr rfl)) (nm 3))) DSs.nil)))) (DSs.one (DS.ret (DO.callTy cd_tuple rfl T.n_tuple rfl (DA.cons (nm 2) DA.nil))))))
def F__law_kept_right : M Unit Out := (seqM (loopM (iterM (nameM 2)) (setM 3) (seqM (asgM 4 (lcM [5] (rangeM (consO (callM lenD (consO (op2 ixD (nameM 0) (ret (.val (PyData.int 1)))) nilM)) nilM)) (setM 5) (andT (bnd (op2 notInD (nameM 5) (nameM 2)) boolO) (bnd (callP m__law_stands (consD (nameM 0) (consD (nameM 1) (consD (nameM 5) (consD (nameM 3) nilM))))) boolO)) (nameM 5))) (ifM (bnd (op2 eqD (nameM 4) (lstM nilM)) boolO) (retM (ret (.val (PyData.bool false)))) (ret .nx)))) (seqM (loopM (iterM (op2 ixD (callP m_lab_with_worst (consD (nameM 0) nilM)) (ret (.val (PyData.int 1))))) (tupG 3 (gsCons (setM 6) (gsCons (setM 7) (gsCons (setM 8) gsNil)))) (loopM (iterM (nameM 6)) (setM 9) (ifM (orT (notT (bnd (isiM "tuple" (nameM 9)) boolO)) (bnd (op2 eqD (callM lenD (consO (nameM 9) nilM)) (ret (.val (PyData.int 0)))) boolO)) (retM (ret (.val (PyData.bool false)))) (ret .nx)))) (retM (ret (.val (PyData.bool true))))))
def m__law_kept_right : List D → Option D := runP2 3 10 F__law_kept_right
theorem d__law_kept_right (T : Top K mg) : DefQ P w K mg base 8 "_law_kept_right" ["lab", "good", "due"] m__law_kept_right :=
  Has.pure (N := ["lab", "good", "due", "wash", "others", "other", "after", "low", "high", "results"]) T.h__law_kept_right ⟨rfl, rfl, rfl, by decide +kernel, rfl, by decide +kernel, by decide +kernel⟩ rfl rfl fun A B ok =>
    (DSs.cons (DS.for_ (DI.seq (nm 2)) (DG.name (i := 3) ok.nd rfl (by first | exact Or.inl rfl | exact Or.inr rfl) (by first | exact Or.inl rfl | exact Or.inr rfl)) (DSs.cons (DS.setLc (i := 4) (own := [("other", 5)]) ok.nd (fun X h => by rw [h.sc]; rfl) rfl rfl rfl (by decide +kernel) (DI.range1 (DA.cons (DO.callB cd_len rfl T.n_len rfl (DA.cons (DO.ix od_ix (nm 0) DO.int) DA.nil)) DA.nil) rfl T.n_range) (blkOk_by (by dsimp only [Gam.blk]; decide +kernel)) (DG.name (i := 5) ok.blk.nd rfl (by first | exact Or.inl rfl | exact Or.inr rfl) (by first | exact Or.inl rfl | exact Or.inr rfl)) (by decide) (DTs.one (DW.pt (DW.and (DT.cmp (od_notIn ok.blk) (nm 5) (nm 2) rfl) (DW.and1 (DT.val (DO.callQ (d__law_stands T) ok.blk (by decide) (DV.cons (nm 0) (DV.cons (nm 1) (DV.cons (nm 5) (DV.cons (nm 3) DV.nil)))))))))) (nm 5)) (DSs.one (DS.if_ (DT.cmp (od_eq ok) (nm 4) (DO.lst DV.nil) rfl) (DSs.one (DS.ret DO.bl)) DSs.nil)))) (DSs.cons (DS.for_ (DI.seq (DO.ix od_ix (DO.callQ (d_lab_with_worst T) ok (by decide) (DV.cons (nm 0) DV.nil)) DO.int)) (DG.tup (DGs.cons (DG.name (i := 6) ok.nd rfl (by first | exact Or.inl rfl | exact Or.inr rfl) (by first | exact Or.inl rfl | exact Or.inr rfl)) (DGs.cons (DG.name (i := 7) ok.nd rfl (by first | exact Or.inl rfl | exact Or.inr rfl) (by first | exact Or.inl rfl | exact Or.inr rfl)) (DGs.cons (DG.name (i := 8) ok.nd rfl (by first | exact Or.inl rfl | exact Or.inr rfl) (by first | exact Or.inl rfl | exact Or.inr rfl)) DGs.nil)))) (DSs.one (DS.for_ (DI.seq (nm 6)) (DG.name (i := 9) ok.nd rfl (by first | exact Or.inl rfl | exact Or.inr rfl) (by first | exact Or.inl rfl | exact Or.inr rfl)) (DSs.one (DS.if_ (DW.pt (DW.or (DT.not (DT.val (DO.isi (by decide) (nm 9) rfl T.n_isinstance rfl T.n_tuple rfl))) (DW.or1 (DT.cmp (od_eq ok) (DO.callB cd_len rfl T.n_len rfl (DA.cons (nm 9) DA.nil)) DO.int rfl)))) (DSs.one (DS.ret DO.bl)) DSs.nil))))) (DSs.one (DS.ret DO.bl))))
def F_law : M DrawSt Out := (seqM (loopM (rangeM (consO (ret (.val (PyData.int 4))) nilM)) (setM 2) (seqM (asgM 3 (callD 1 m__law_washed_lab nilM)) (seqM (asgM 4 (callP m__law_pairs_due (consD (nameM 3) nilM))) (seqM (asgM 5 (callP m__law_needless_due (consD (nameM 3) (consD (nameM 4) nilM)))) (seqM (ifM (orT (notT (bnd (callP m__law_like (consD (callP m_needless_washes (consD (nameM 3) nilM)) (consD (nameM 5) nilM))) boolO)) (notT (bnd (callP m__law_kept_right (consD (nameM 3) (consD (nameM 4) (consD (nameM 5) nilM)))) boolO))) (retM (ret (.val (PyData.bool false)))) (ret .nx)) (seqM (asgM 6 (iteM (bnd (op2 eqD (callD 1 m__law_draw (consD (ret (.val (PyData.int 2))) nilM)) (ret (.val (PyData.int 0)))) boolO) (nameM 5) (callD 1 m__law_up (consD (callM lenD (consO (op2 ixD (nameM 3) (ret (.val (PyData.int 1)))) nilM)) (consD (ret (.val (PyData.int 0))) (consD (ret (.val (PyData.int 3))) nilM)))))) (seqM (asgM 7 (lcM [8, 9] (enumM (op2 ixD (nameM 3) (ret (.val (PyData.int 1))))) (tupG 2 (gsCons (setM 8) (gsCons (setM 9) gsNil))) (bnd (op2 notInD (nameM 8) (nameM 6)) boolO) (nameM 9))) (seqM (ifM (notT (bnd (callP m__law_like (consD (callP m_lab_without (consD (nameM 3) (consD (nameM 6) nilM))) (consD (tupM (consD (op2 ixD (nameM 3) (ret (.val (PyData.int 0)))) (consD (callM tupleD (consO (nameM 7) nilM)) (consD (op2 ixD (nameM 3) (ret (.val (PyData.int 2)))) (consD (op2 ixD (nameM 3) (ret (.val (PyData.int 3)))) (consD (op2 ixD (nameM 3) (ret (.val (PyData.int 4)))) nilM)))))) nilM))) boolO)) (retM (ret (.val (PyData.bool false)))) (ret .nx)) (seqM (asgM 10 (lstM nilM)) (seqM (loopM (iterM (op2 ixD (nameM 3) (ret (.val (PyData.int 1))))) (tupG 3 (gsCons (setM 11) (gsCons (setM 12) (gsCons (setM 13) gsNil)))) (bnd (ownAt 10) fun _ => appM 10 (tupM (consD (callM tupleD (consO (lcM [14] (iterM (nameM 11)) (setM 14) (ret true) (callP m__law_entry_due (consD (nameM 4) (consD (nameM 14) nilM)))) nilM)) (consD (nameM 12) (consD (nameM 13) nilM)))))) (ifM (notT (bnd (callP m__law_like (consD (callP m_lab_with_worst (consD (nameM 3) nilM)) (consD (tupM (consD (op2 ixD (nameM 3) (ret (.val (PyData.int 0)))) (consD (callM tupleD (consO (nameM 10) nilM)) (consD (op2 ixD (nameM 3) (ret (.val (PyData.int 2)))) (consD (op2 ixD (nameM 3) (ret (.val (PyData.int 3)))) (consD (op2 ixD (nameM 3) (ret (.val (PyData.int 4)))) nilM)))))) nilM))) boolO)) (retM (ret (.val (PyData.bool false)))) (ret .nx)))))))))))) (retM (ret (.val (PyData.bool true)))))
theorem dd_law (T : Top K mg) {A : Around} {B : Bd DrawSt} (hB : ∃ pm pg pc, B.dr = drawDr pm pg pc) (ok : Gam.Ok ⟨P, w, K, mg, base, A, ["script", "m", "turn", "lab", "good", "due", "some", "left", "n", "wash", "washes", "after", "low", "high", "results"], defScope s_law, fun _ => true⟩ 8) :
    DSs ⟨P, w, K, mg, base, A, ["script", "m", "turn", "lab", "good", "due", "some", "left", "n", "wash", "washes", "after", "low", "high", "results"], defScope s_law, fun _ => true⟩ B (defBody s_law).tail F_law :=
  (DSs.cons (DS.for_ (DI.range1 (DA.cons DO.int DA.nil) rfl T.n_range) (DG.name (i := 2) ok.nd rfl (by first | exact Or.inl rfl | exact Or.inr rfl) (by first | exact Or.inl rfl | exact Or.inr rfl)) (DSs.cons (DS.set (i := 3) ok.nd rfl (by first | exact Or.inl rfl | exact Or.inr rfl) (Or.inl rfl) (DO.callD (i := 1) (d__law_washed_lab T) hB ok (by decide) DV.nil)) (DSs.cons (DS.set (i := 4) ok.nd rfl (by first | exact Or.inl rfl | exact Or.inr rfl) (Or.inl rfl) (DO.callQ (d__law_pairs_due T) ok (by decide) (DV.cons (nm 3) DV.nil))) (DSs.cons (DS.set (i := 5) ok.nd rfl (by first | exact Or.inl rfl | exact Or.inr rfl) (Or.inl rfl) (DO.callQ (d__law_needless_due T) ok (by decide) (DV.cons (nm 3) (DV.cons (nm 4) DV.nil)))) (DSs.cons (DS.if_ (DW.pt (DW.or (DT.not (DT.val (DO.callQ (d__law_like T) ok (by decide) (DV.cons (DO.callQ (d_needless_washes T) ok (by decide) (DV.cons (nm 3) DV.nil)) (DV.cons (nm 5) DV.nil))))) (DW.or1 (DT.not (DT.val (DO.callQ (d__law_kept_right T) ok (by decide) (DV.cons (nm 3) (DV.cons (nm 4) (DV.cons (nm 5) DV.nil))))))))) (DSs.one (DS.ret DO.bl)) DSs.nil) (DSs.cons (DS.set (i := 6) ok.nd rfl (by first | exact Or.inl rfl | exact Or.inr rfl) (Or.inl rfl) (DO.ite (DT.cmp (od_eq ok) (DO.callD (i := 1) (d__law_draw T) hB ok (by decide) (DV.cons DO.int DV.nil)) DO.int rfl) (nm 5) (DO.callD (i := 1) (d__law_up T) hB ok (by decide) (DV.cons (DO.callB cd_len rfl T.n_len rfl (DA.cons (DO.ix od_ix (nm 3) DO.int) DA.nil)) (DV.cons DO.int (DV.cons DO.int DV.nil)))))) (DSs.cons (DS.setLc (i := 7) (own := [("n", 8), ("wash", 9)]) ok.nd (fun X h => by rw [h.sc]; rfl) rfl rfl rfl (by decide +kernel) (DI.enum (DO.ix od_ix (nm 3) DO.int) rfl T.n_enumerate) (blkOk_by (by dsimp only [Gam.blk]; decide +kernel)) (DG.tup (DGs.cons (DG.name (i := 8) ok.blk.nd rfl (by first | exact Or.inl rfl | exact Or.inr rfl) (by first | exact Or.inl rfl | exact Or.inr rfl)) (DGs.cons (DG.name (i := 9) ok.blk.nd rfl (by first | exact Or.inl rfl | exact Or.inr rfl) (by first | exact Or.inl rfl | exact Or.inr rfl)) DGs.nil))) (by decide) (DTs.one (DT.cmp (od_notIn ok.blk) (nm 8) (nm 6) rfl)) (nm 9)) (DSs.cons (DS.if_ (DT.not (DT.val (DO.callQ (d__law_like T) ok (by decide) (DV.cons (DO.callQ (d_lab_without T) ok (by decide) (DV.cons (nm 3) (DV.cons (nm 6) DV.nil))) (DV.cons (DO.tup (DV.cons (DO.ix od_ix (nm 3) DO.int) (DV.cons (DO.callTy cd_tuple rfl T.n_tuple rfl (DA.cons (nm 7) DA.nil)) (DV.cons (DO.ix od_ix (nm 3) DO.int) (DV.cons (DO.ix od_ix (nm 3) DO.int) (DV.cons (DO.ix od_ix (nm 3) DO.int) DV.nil)))))) DV.nil))))) (DSs.one (DS.ret DO.bl)) DSs.nil) (DSs.cons (DS.set (i := 10) ok.nd rfl (by first | exact Or.inl rfl | exact Or.inr rfl) (Or.inl rfl) (DO.lst DV.nil)) (DSs.cons (DS.for_ (DI.seq (DO.ix od_ix (nm 3) DO.int)) (DG.tup (DGs.cons (DG.name (i := 11) ok.nd rfl (by first | exact Or.inl rfl | exact Or.inr rfl) (by first | exact Or.inl rfl | exact Or.inr rfl)) (DGs.cons (DG.name (i := 12) ok.nd rfl (by first | exact Or.inl rfl | exact Or.inr rfl) (by first | exact Or.inl rfl | exact Or.inr rfl)) (DGs.cons (DG.name (i := 13) ok.nd rfl (by first | exact Or.inl rfl | exact Or.inr rfl) (by first | exact Or.inl rfl | exact Or.inr rfl)) DGs.nil)))) (DSs.one (DS.app (i := 10) rfl (by first | exact Or.inl rfl | exact Or.inr (Or.inl rfl) | exact Or.inr (Or.inr rfl)) (DO.tup (DV.cons (DO.callTy cd_tuple rfl T.n_tuple rfl (DA.cons (DO.lc (own := [("results", 14)]) ok.nd (DI.seq (nm 11)) (blkOk_by (by dsimp only [Gam.blk]; decide +kernel)) (DG.name (i := 14) ok.blk.nd rfl (by first | exact Or.inl rfl | exact Or.inr rfl) (by first | exact Or.inl rfl | exact Or.inr rfl)) (by decide) DTs.nil (DO.callQ (d__law_entry_due T) ok.blk (by decide) (DV.cons (nm 4) (DV.cons (nm 14) DV.nil)))) DA.nil)) (DV.cons (nm 12) (DV.cons (nm 13) DV.nil))))))) (DSs.one (DS.if_ (DT.not (DT.val (DO.callQ (d__law_like T) ok (by decide) (DV.cons (DO.callQ (d_lab_with_worst T) ok (by decide) (DV.cons (nm 3) DV.nil)) (DV.cons (DO.tup (DV.cons (DO.ix od_ix (nm 3) DO.int) (DV.cons (DO.callTy cd_tuple rfl T.n_tuple rfl (DA.cons (nm 10) DA.nil)) (DV.cons (DO.ix od_ix (nm 3) DO.int) (DV.cons (DO.ix od_ix (nm 3) DO.int) (DV.cons (DO.ix od_ix (nm 3) DO.int) DV.nil)))))) DV.nil))))) (DSs.one (DS.ret DO.bl)) DSs.nil)))))))))))) (DSs.one (DS.ret DO.bl)))
theorem d_law (T : Top K mg) (hT : RunsTrue 13 m__law_folded F_law) : LawQ P w K mg base 9 "law" ["script"] (spLaw K) := by
  obtain ⟨am, fm, Fm, hmm, hkm, hbm⟩ := d__law_begun (P := P) (w := w) (base := base) T
  obtain ⟨a, fd, Fn, h1, h2, h3⟩ := T.h_law
  have Sc : FnScope ["script", "m", "turn", "lab", "good", "due", "some", "left", "n", "wash", "washes", "after", "low", "high", "results"] ["script"] (defScope s_law) := ⟨rfl, rfl, rfl, by decide +kernel, rfl, by decide +kernel, by decide +kernel⟩
  refine ⟨a, fd, fnAny (k := 8) Fn Sc ?_ fun A vs H Q E hsp ok => ?_, h1, h2, h3⟩
  · rintro vs H Q E ⟨a, ns, rfl, _⟩
    rfl
  obtain ⟨a, ns, rfl, hO, hq, hlen, hQ⟩ := hsp
  obtain ⟨cells, s', e1, e2⟩ := hT ns hlen
  refine ⟨tSeq (tAsg (tCall (spB K m__law_folded) [] E0 (tCons (tVar 0) tNil)) (gName 1)) (tEx fun t => ∀ X, Gam.Has ⟨P, w, K, mg, base, A, ["script", "m", "turn", "lab", "good", "due", "some", "left", "n", "wash", "washes", "after", "low", "high", "results"], defScope s_law, fun _ => true⟩ X → PSs X (defBody s_law).tail t), fun X h => ?_, ?_⟩
  · have F' : FnG X.prog X.w X.K X.mg X.base 2 am fm ["script"] (spB X.K m__law_folded) := by rw [h.P, h.w, h.K, h.mg, h.base]; exact Fm
    have v0 : ∀ pos : Pos, PE X (.Name "script" pos) (tVar 0) := fun pos => pe_var (by rw [h.N]; rfl) (by rw [h.sc]; exact Or.inl rfl)
    have cal : ∀ {p pos p2 : Pos}, PE X (.Call (.Name "_law_begun" p) [.Name "script" p2] [] pos) (tCall (spB X.K m__law_folded) [] E0 (tCons (tVar 0) tNil)) := fun {p pos p2} =>
      pe_callG F' (by rw [h.A]; exact ok.room.mono (by decide)) (by rw [h.A]; exact ok.gd) (gl_of h (x := "_law_begun") rfl) (by rw [h.mg]; exact hmm) (by rw [h.K]; exact hkm) (by rw [h.K]; exact hbm) (pa_cons (v0 p2) pa_nil rfl) (by decide) rfl rfl
    have key : PSs X (defBody s_law) (tSeq (tAsg (tCall (spB X.K m__law_folded) [] E0 (tCons (tVar 0) tNil)) (gName 1)) (tEx fun t => ∀ X, Gam.Has ⟨P, w, K, mg, base, A, ["script", "m", "turn", "lab", "good", "due", "some", "left", "n", "wash", "washes", "after", "low", "high", "results"], defScope s_law, fun _ => true⟩ X → PSs X (defBody s_law).tail t)) :=
      pss_cons (ps_set (i := 1) (by rw [h.N]; exact ok.nd) (by rw [h.N]; rfl) (by rw [h.sc]; first | exact Or.inl rfl | exact Or.inr rfl) cal rfl (h.fn "m" rfl)) (pss_ex fun t pt => pt X h)
    rw [h.K] at key
    exact key
  · refine ⟨_, rfl, a, ns, cells, rfl, hO, hq, hlen, e1, fun pm pg pc H1 w1 at1 nr => ?_⟩
    obtain ⟨t, pt, mt⟩ := dd_law (P := P) (w := w) (base := base) T (A := A) (B := ⟨drawDr pm pg pc, H1, H⟩) ⟨pm, pg, pc, rfl⟩ ok
    exact ⟨t, pt, law_run hO hq w1 at1 nr mt e2 hQ _ rfl⟩
end
end LW
end

section
set_option Elab.async false
set_option linter.all false
set_option maxRecDepth 100000
set_option maxHeartbeats 3999999
set_option exponentiation.threshold 5001
open DL
namespace LW
/-! ### the drawn numbers -/
theorem mulOk_of {i j : Int} (hi : i.natAbs < 2 ^ 4000) (hj : j.natAbs < 2 ^ 4000) : mulOk i j = true := by
  have b : ∀ x : Int, x.natAbs < 2 ^ 4000 → x.natAbs.log2 < 4000 := fun x h => by
    by_cases h0 : x.natAbs = 0
    · rw [h0]; decide
    · exact (Nat.log2_lt h0).mpr h
  unfold mulOk
  have h1 := b i hi
  have h2 := b j hj
  exact decide_eq_true (by omega)
theorem lt_mul {a b : Int} {p q r : Nat} (ha : a.natAbs < 2 ^ p) (hb : b.natAbs < 2 ^ q) (h : p + q ≤ r) : (a * b).natAbs < 2 ^ r := by
  rw [Int.natAbs_mul]
  refine Nat.lt_of_lt_of_le (Nat.mul_lt_mul'' ha hb) ?_
  rw [← Nat.pow_add]
  exact Nat.pow_le_pow_right (by decide) h
theorem le_pow {a : Int} {p q : Nat} (ha : a.natAbs < 2 ^ p) (h : p ≤ q) : a.natAbs < 2 ^ q := Nat.lt_of_lt_of_le ha (Nat.pow_le_pow_right (by decide) h)
/-- the number that the cells mix to -/
def mixI (x n : Int) : Int := ((x * (1 + 2 * n) * 48271) % 2147483647 + 7919 * n * n + 104729 * n) * 69621 % 2147483629 / 7
theorem mixed_ok {x n : Int} (hx : x.natAbs < 2 ^ 200) (hn : n.natAbs < 2 ^ 62) : m__law_mixed [.int x, .int n] = some (.int (mixI x n)) := by
  have hn2 : (1 + 2 * n).natAbs < 2 ^ 64 := by omega
  have k1 : mulOk 2 n = true := mulOk_of (by decide) (le_pow hn (by decide))
  have k2 : mulOk x (1 + 2 * n) = true := mulOk_of (le_pow hx (by decide)) (le_pow hn2 (by decide))
  have k3 : mulOk (x * (1 + 2 * n)) 48271 = true := mulOk_of (lt_mul hx hn2 (by decide)) (by decide)
  have k4 : mulOk 7919 n = true := mulOk_of (by decide) (le_pow hn (by decide))
  have k5 : mulOk (7919 * n) n = true := mulOk_of (lt_mul (p := 13) (by decide) hn (by decide)) (le_pow hn (by decide))
  have k6 : mulOk 104729 n = true := mulOk_of (by decide) (le_pow hn (by decide))
  have b1 : ((x * (1 + 2 * n) * 48271) % 2147483647).natAbs < 2 ^ 31 := by omega
  have b2 : (7919 * n * n).natAbs < 2 ^ 137 := lt_mul (p := 75) (q := 62) (lt_mul (p := 13) (by decide) hn (by decide)) hn (by decide)
  have b3 : (104729 * n).natAbs < 2 ^ 79 := lt_mul (p := 17) (by decide) hn (by decide)
  have k7 : mulOk ((x * (1 + 2 * n) * 48271) % 2147483647 + 7919 * n * n + 104729 * n) 69621 = true := mulOk_of (le_pow (p := 140) (by omega) (by decide)) (by decide)
  have k8 : Nat.log2 7 < 9000 := by decide
  simp [m__law_mixed, runP2, runP, F__law_mixed, seqM, asgM, bnd, op2, lateM, nameM, getO, lift, ret, callM, intD, consO, nilM, getL, valM, toD, putM, setM, retM, mulD, orO, opI, addD, modD, modOk, fdivD, divOk, k1, k2, k3, k4, k5, k6, k7, k8, mixI]
theorem mixI_lt (x n : Int) : 0 ≤ mixI x n ∧ mixI x n < 2 ^ 31 := by
  unfold mixI
  generalize (x * (1 + 2 * n) * 48271 % 2147483647 + 7919 * n * n + 104729 * n) * 69621 = y
  omega
/-- the drawn numbers stand well, at most k are drawn -/
structure StOk (k : Nat) (st : DrawSt) : Prop where
  len : st.cells.length = 64
  small : ∀ c ∈ st.cells, 0 ≤ c ∧ c < 2 ^ 31
  lo : 0 ≤ st.spot
  hi : st.spot ≤ k
theorem ixN_mod {n : Nat} {i : Int} (h : 0 < n) : ∃ j, L2.ixN n (i % n) = some j ∧ j < n := by
  have h1 : 0 ≤ i % (n : Int) := Int.emod_nonneg _ (by omega)
  have h2 : i % (n : Int) < n := Int.emod_lt_of_pos _ (by omega)
  refine ⟨(i % (n : Int)).toNat, ?_, by omega⟩
  unfold L2.ixN
  rw [if_pos h1, if_pos h2]
theorem drawC_ok {k : Nat} {st st1 : DrawSt} (h : StOk k st) (hk : k ≤ 1000000) {L : Int} (hL : 0 < L) : ∃ r, drawC m__law_mixed L st st1 = some (.int r, st1) ∧ 0 ≤ r ∧ r < L := by
  obtain ⟨h1, h2, h3, h4⟩ := h
  obtain ⟨j, e1, e2⟩ := ixN_mod (n := 64) (i := st.spot) (by decide)
  obtain ⟨c, e3⟩ : ∃ c, st.cells[j]? = some c := ⟨_, List.getElem?_eq_getElem (by omega)⟩
  obtain ⟨b1, b2⟩ := h2 c (List.mem_of_getElem? e3)
  have at_ : L2.atI st.cells (st.spot % 64) = some c := by
    unfold L2.atI
    rw [h1]
    show (L2.ixN 64 (st.spot % ((64 : Nat) : Int))).bind _ = _
    rw [e1]
    exact e3
  have m1 := mixed_ok (x := c + 31 * (st.spot / 64)) (n := st.spot) (by omega) (by omega)
  have m2 := mixed_ok (x := mixI (c + 31 * (st.spot / 64)) st.spot) (n := st.spot + 7) (by have := mixI_lt (c + 31 * (st.spot / 64)) st.spot; omega) (by omega)
  refine ⟨mixI (mixI (c + 31 * (st.spot / 64)) st.spot) (st.spot + 7) % L, ?_, Int.emod_nonneg _ (by omega), Int.emod_lt_of_pos _ hL⟩
  unfold drawC
  rw [at_]
  simp [m1, m2]
theorem draw_ok {k : Nat} {st : DrawSt} (h : StOk k st) (hk : k ≤ 1000000) {L : Int} (hL : 0 < L) (hL2 : L < 2 ^ 4000) : ∃ r st', m__law_draw [.int L] st = some (.int r, st') ∧ 0 ≤ r ∧ r < L ∧ StOk (k + 1) st' := by
  have hl : L.natAbs.log2 < 9000 := by
    have : L.natAbs.log2 < 4000 := (Nat.log2_lt (by omega)).mpr (by omega)
    omega
  have ok1 : StOk (k + 1) ⟨st.cells, st.great, st.spot + 1⟩ := ⟨h.len, h.small, by have := h.lo; show 0 ≤ st.spot + 1; omega, by have := h.hi; show st.spot + 1 ≤ _; omega⟩
  obtain ⟨r, hr, r0, r1⟩ := drawC_ok (st1 := ⟨st.cells, st.great, st.spot + 1⟩) h hk hL
  unfold m__law_draw drawF
  simp only [decide_eq_true hL, decide_eq_true hl, Bool.and_self, if_true]
  cases hg : st.great.isEmpty with
  | true =>
    simp only [if_true]
    exact ⟨r, _, hr, r0, r1, ok1⟩
  | false =>
    simp only [Bool.false_eq_true, if_false]
    have hn : 0 < st.great.length := by
      cases q : st.great with
      | nil => rw [q] at hg; cases hg
      | cons _ _ => simp
    obtain ⟨j, e1, e2⟩ := ixN_mod (n := st.great.length) (i := st.spot) hn
    rw [e1]
    simp only [List.getElem?_eq_getElem e2]
    by_cases hc : 0 < st.great[j]
    · rw [if_pos hc]
      exact ⟨_, _, rfl, Int.emod_nonneg _ (by omega), Int.emod_lt_of_pos _ hL, ⟨h.len, h.small, by have := h.lo; show 0 ≤ st.spot + 1; omega, by have := h.hi; show st.spot + 1 ≤ _; omega⟩⟩
    · rw [if_neg hc]
      exact ⟨r, _, hr, r0, r1, ok1⟩
end LW
end

section
set_option Elab.async false
set_option linter.all false
set_option maxRecDepth 100000
set_option maxHeartbeats 3999999
set_option exponentiation.threshold 5001
open DL
namespace LW
/-! ### the cells that a script folds to -/
def bodyA : M Unit Out := (bnd (valM (op2 modD (callM intD (consO (op2 addD (op2 mulD (op2 ixD (nameM 1) (op2 modD (callM intD (consO (nameM 2) nilM)) (ret (.val (PySem.PyData.int 64))))) (ret (.val (PySem.PyData.int 48271)))) (nameM 3)) nilM)) (ret (.val (PySem.PyData.int 2147483647))))) fun d => bnd (ownAt 1) fun _ => setIxM 1 (DL.ret (Opd.val d)) (op2 modD (callM intD (consO (nameM 2) nilM)) (ret (.val (PySem.PyData.int 64)))))
def bodyB : M Unit Out := (bnd (valM (op2 modD (callM intD (consO (op2 addD (op2 ixD (nameM 1) (nameM 2)) (op2 mulD (op2 ixD (nameM 1) (op2 subD (nameM 2) (ret (.val (PySem.PyData.int 1))))) (ret (.val (PySem.PyData.int 16807))))) nilM)) (ret (.val (PySem.PyData.int 2147483647))))) fun d => bnd (ownAt 1) fun _ => setIxM 1 (DL.ret (Opd.val d)) (nameM 2))
def tgA : D → M Unit Unit := tupG 2 (gsCons (setM 2) (gsCons (setM 3) gsNil))
def Cells (cs : List Int) : Prop := cs.length = 64 ∧ ∀ c ∈ cs, 0 ≤ c ∧ c < 2 ^ 31
theorem Cells.set {cs : List Int} (h : Cells cs) (j : Nat) {v : Int} (h1 : 0 ≤ v) (h2 : v < 2 ^ 31) : Cells (cs.set j v) := by
  refine ⟨by rw [List.length_set]; exact h.1, fun c hc => ?_⟩
  rcases List.mem_or_eq_of_mem_set hc with q | q
  · exact h.2 c q
  · rw [q]; exact ⟨h1, h2⟩
theorem Cells.get {cs : List Int} (h : Cells cs) {j : Nat} (hj : j < 64) : ∃ c, cs[j]? = some c ∧ 0 ≤ c ∧ c < 2 ^ 31 := by
  have e : cs[j]? = some (cs[j]'(by rw [h.1]; exact hj)) := List.getElem?_eq_getElem _
  exact ⟨_, e, h.2 _ (List.mem_of_getElem? e)⟩
theorem atI_ints {cs : List Int} {i : Int} {j : Nat} {c : Int} (h : Cells cs) (e : L2.ixN 64 i = some j) (ec : cs[j]? = some c) : L2.atI (cs.map PySem.PyData.int) i = some (.int c) := by
  unfold L2.atI
  rw [List.length_map, h.1, e]
  show (cs.map PySem.PyData.int)[j]? = _
  rw [List.getElem?_map, ec]
  rfl
theorem stepA {ns cs : List Int} {k : Nat} {c : Int} (h : Cells cs) : ∃ cs', Cells cs' ∧ bodyA ⟨[some (.s ns), some (.own (cs.map .int)), some (.d (.int (k : Nat))), some (.d (.int c))], ()⟩ =
    some (.nx, ⟨[some (.s ns), some (.own (cs'.map .int)), some (.d (.int (k : Nat))), some (.d (.int c))], ()⟩) := by
  obtain ⟨j, e1, e2⟩ := ixN_mod (n := 64) (i := (k : Nat)) (by decide)
  have e1' : L2.ixN 64 ((k : Int) % 64) = some j := e1
  obtain ⟨x, e3, x0, x1⟩ := h.get e2
  have m1 : mulOk x 48271 = true := mulOk_of (by omega) (by decide)
  have a1 := atI_ints h e1' e3
  refine ⟨cs.set j ((x * 48271 + c) % 2147483647), h.set j (by omega) (by omega), ?_⟩
  simp [bodyA, setIxM, ownAt, bnd, op2, lateM, nameM, getO, lift, ret, callM, intD, consO, nilM, getL, valM, toD, mulD, orO, opI, addD, modD, modOk, ixD, a1, m1, h.1, e1', List.map_set]
theorem loopA {ns : List Int} : ∀ (ms : List Int) (k : Nat) (cs : List Int) (w2 w3 : Option Sl), Cells cs → ∃ cs' u2 u3, Cells cs' ∧ forM tgA bodyA (enumL k (ms.map .int)) ⟨[some (.s ns), some (.own (cs.map .int)), w2, w3], ()⟩ = some (.nx, ⟨[some (.s ns), some (.own (cs'.map .int)), u2, u3], ()⟩)
  | [], k, cs, w2, w3, h => ⟨cs, w2, w3, h, rfl⟩
  | m :: ms, k, cs, w2, w3, h => by
    obtain ⟨cs1, h1, e1⟩ := stepA (ns := ns) (k := k) (c := m) h
    obtain ⟨cs', u2, u3, h2, e2⟩ := loopA ms (k + 1) cs1 (some (.d (.int (k : Nat)))) (some (.d (.int m))) h1
    refine ⟨cs', u2, u3, h2, ?_⟩
    rw [List.map_cons]
    unfold DL.enumL DL.forM
    have e0 : tgA (.tuple [.int (k : Nat), .int m]) ⟨[some (.s ns), some (.own (cs.map .int)), w2, w3], ()⟩ = some ((), ⟨[some (.s ns), some (.own (cs.map .int)), some (.d (.int (k : Nat))), some (.d (.int m))], ()⟩) := rfl
    simp only [bnd, e0, e1]
    exact e2
theorem stepB {ns cs : List Int} {i : Int} {w3 : Option Sl} (h : Cells cs) (i1 : 1 ≤ i) (i2 : i < 64) : ∃ cs', Cells cs' ∧ bodyB ⟨[some (.s ns), some (.own (cs.map .int)), some (.d (.int i)), w3], ()⟩ =
    some (.nx, ⟨[some (.s ns), some (.own (cs'.map .int)), some (.d (.int i)), w3], ()⟩) := by
  have e1 : L2.ixN 64 i = some i.toNat := by
    unfold L2.ixN
    rw [if_pos (by omega), if_pos (by omega)]
  have e2 : L2.ixN 64 (i - 1) = some (i - 1).toNat := by
    unfold L2.ixN
    rw [if_pos (by omega), if_pos (by omega)]
  obtain ⟨x, e3, x0, x1⟩ := h.get (j := i.toNat) (by omega)
  obtain ⟨y, e4, y0, y1⟩ := h.get (j := (i - 1).toNat) (by omega)
  have m1 : mulOk y 16807 = true := mulOk_of (by omega) (by decide)
  have a1 := atI_ints h e1 e3
  have a2 := atI_ints h e2 e4
  refine ⟨cs.set i.toNat ((x + y * 16807) % 2147483647), h.set _ (by omega) (by omega), ?_⟩
  simp [bodyB, setIxM, ownAt, bnd, op2, lateM, nameM, getO, lift, ret, callM, intD, consO, nilM, getL, valM, toD, mulD, orO, opI, addD, subD, modD, modOk, ixD, a1, a2, m1, h.1, e1, List.map_set]
theorem loopB {ns : List Int} : ∀ (ms : List Int) (cs : List Int) (w2 w3 : Option Sl), (∀ m ∈ ms, 1 ≤ m ∧ m < 64) → Cells cs → ∃ cs' u2, Cells cs' ∧ forM (setM 2) bodyB (ms.map .int) ⟨[some (.s ns), some (.own (cs.map .int)), w2, w3], ()⟩ = some (.nx, ⟨[some (.s ns), some (.own (cs'.map .int)), u2, w3], ()⟩)
  | [], cs, w2, w3, hm, h => ⟨cs, w2, h, rfl⟩
  | m :: ms, cs, w2, w3, hm, h => by
    obtain ⟨m1, m2⟩ := hm m (by simp)
    obtain ⟨cs1, h1, e1⟩ := stepB (ns := ns) (i := m) (w3 := w3) h m1 m2
    obtain ⟨cs', u2, h2, e2⟩ := loopB ms cs1 (some (.d (.int m))) w3 (fun z hz => hm z (by simp [hz])) h1
    refine ⟨cs', u2, h2, ?_⟩
    rw [List.map_cons]
    unfold DL.forM
    have e0 : setM 2 (.int m) (⟨[some (.s ns), some (.own (cs.map .int)), w2, w3], ()⟩ : Stt Unit) = some ((), ⟨[some (.s ns), some (.own (cs.map .int)), some (.d (.int m)), w3], ()⟩) := rfl
    simp only [bnd, e0, e1]
    exact e2
def cells0 : List Int := (List.range 64).map fun n : Nat => 17 + (n : Int)
theorem fold0 (ns : List Int) : asgM 1 (lcM [2] (rangeM (consO (ret (.val (PySem.PyData.int 64))) nilM)) (setM 2) (ret true) (op2 addD (ret (.val (PySem.PyData.int 17))) (nameM 2))) (⟨[some (.s ns), none, none, none], ()⟩ : Stt Unit) = some (.nx, ⟨[some (.s ns), some (.own (cells0.map .int)), none, none], ()⟩) := by kernel_rfl
theorem rg63 (s : Stt Unit) : rangeM (consO (ret (.val (PySem.PyData.int 1))) (consO (ret (.val (PySem.PyData.int 64))) nilM)) s = some (((List.range 63).map fun n : Nat => 1 + (n : Int)).map .int, s) := by kernel_rfl
theorem foldF : F__law_folded = seqM (asgM 1 (lcM [2] (rangeM (consO (ret (.val (PySem.PyData.int 64))) nilM)) (setM 2) (ret true) (op2 addD (ret (.val (PySem.PyData.int 17))) (nameM 2)))) (seqM (loopM (bnd (scrL 0) fun xs => ret (enumL 0 xs)) tgA bodyA) (seqM (loopM (rangeM (consO (ret (.val (PySem.PyData.int 1))) (consO (ret (.val (PySem.PyData.int 64))) nilM))) (setM 2) bodyB) (retM (nameM 1)))) := by kernel_rfl
theorem cells0_ok : Cells cells0 := by
  refine ⟨by unfold cells0; rw [List.length_map, List.length_range], fun c hc => ?_⟩
  unfold cells0 at hc
  obtain ⟨n, hn, rfl⟩ := List.mem_map.mp hc
  have := List.mem_range.mp hn
  omega
theorem fold_rest (ns : List Int) {c0 : List Int} (h0 : Cells c0) : ∃ cs v2 u3, Cells cs ∧ (seqM (loopM (bnd (scrL 0) fun xs => ret (enumL 0 xs)) tgA bodyA) (seqM (loopM (rangeM (consO (ret (.val (PySem.PyData.int 1))) (consO (ret (.val (PySem.PyData.int 64))) nilM))) (setM 2) bodyB) (retM (nameM 1)))) (⟨[some (.s ns), some (.own (c0.map .int)), none, none], ()⟩ : Stt Unit) = some (.rt (.list (cs.map .int)), ⟨[some (.s ns), some (.d (.list (cs.map .int))), v2, u3], ()⟩) := by
  obtain ⟨c1, u2, u3, h1, e1⟩ := loopA (ns := ns) ns 0 c0 none none h0
  obtain ⟨c2, v2, h2, e2⟩ := loopB (ns := ns) ((List.range 63).map fun n : Nat => 1 + (n : Int)) c1 u2 u3 (fun m hm => by
    obtain ⟨n, hn, rfl⟩ := List.mem_map.mp hm
    have := List.mem_range.mp hn
    omega) h1
  have s1 : (loopM (bnd (scrL 0) fun xs => ret (enumL 0 xs)) tgA bodyA) (⟨[some (.s ns), some (.own (c0.map .int)), none, none], ()⟩ : Stt Unit) = some (.nx, ⟨[some (.s ns), some (.own (c1.map .int)), u2, u3], ()⟩) := by
    simp only [loopM, bnd, scrL, scrAt, ret, List.getElem?_cons_zero]
    exact e1
  have s2 : (loopM (rangeM (consO (ret (.val (PySem.PyData.int 1))) (consO (ret (.val (PySem.PyData.int 64))) nilM))) (setM 2) bodyB) (⟨[some (.s ns), some (.own (c1.map .int)), u2, u3], ()⟩ : Stt Unit) = some (.nx, ⟨[some (.s ns), some (.own (c2.map .int)), v2, u3], ()⟩) := by
    unfold loopM
    simp only [bnd, rg63]
    exact e2
  refine ⟨c2, v2, u3, h2, ?_⟩
  simp only [seqM, bnd, s1, s2]
  simp [retM, valM, bnd, nameM, toD, ret]
theorem folded_ok (ns : List Int) : ∃ cs, m__law_folded ns = some (.list (cs.map .int)) ∧ Cells cs := by
  obtain ⟨cs, v2, u3, h, e⟩ := fold_rest ns cells0_ok
  refine ⟨cs, ?_, h⟩
  have e0 : F__law_folded (⟨[some (.s ns), none, none, none], ()⟩ : Stt Unit) = some (.rt (.list (cs.map .int)), ⟨[some (.s ns), some (.d (.list (cs.map .int))), v2, u3], ()⟩) := by
    rw [foldF]
    unfold seqM bnd
    rw [fold0]
    exact e
  unfold m__law_folded runS
  simp only [List.replicate]
  rw [e0]
end LW
end

section
set_option Elab.async false
set_option linter.all false
set_option maxRecDepth 100000
set_option maxHeartbeats 999999
set_option exponentiation.threshold 5001
open DL
open PySem (PyData Str)
namespace LW
/-! ### texts of plain data are short -/
def plainB : D → Bool
  | .none => true
  | .bool _ => true
  | .int i => decide (0 ≤ i) && decide (i < 10 ^ 150)
  | .list xs => plains xs
  | .tuple xs => plains xs
  | _ => false
where plains : List D → Bool
  | [] => true
  | x :: xs => plainB x && plains xs
def big : D → Nat
  | .int _ => 150
  | .list xs => bigs xs + 6
  | .tuple xs => bigs xs + 6
  | _ => 6
where bigs : List D → Nat
  | [] => 0
  | x :: xs => big x + 2 + bigs xs
def pil (ts : List Str) : Nat := (ts.map fun t => t.length + 2).sum
theorem textFrom_le : ∀ (ts : List Str) (k : Nat) (acc : Str), (PySem.textFrom k acc ts).length ≤ acc.length + pil ts
  | [], k, acc => by show acc.length ≤ acc.length + 0; omega
  | t :: r, k, acc => by
    show (PySem.textFrom (k + 1) (acc ++ (if k > 0 then ", " else "" : String) ++ t) r).length ≤ _
    refine Nat.le_trans (textFrom_le r (k + 1) _) ?_
    rw [PySem.strLen_append, PySem.strLen_append]
    have h2 : (((if k > 0 then ", " else "" : String) : Str)).length ≤ 2 := by split <;> decide
    show _ ≤ acc.length + ((t.length + 2) + pil r)
    omega
theorem join_le : ∀ ts : List Str, (Str.join ", " ts).length ≤ pil ts
  | [] => Nat.zero_le _
  | [x] => by show x.length ≤ (x.length + 2) + 0; omega
  | x :: y :: r => by
    have h := join_le (y :: r)
    show (x ++ ", " ++ Str.join ", " (y :: r)).length ≤ (x.length + 2) + pil (y :: r)
    rw [PySem.strLen_append, PySem.strLen_append]
    have h2 : (((", " : String) : Str)).length = 2 := rfl
    omega
mutual
theorem shown_le : ∀ d : D, plainB d = true → d.shown.length ≤ big d ∧ d.showable = true ∧ d.hasDict = false
  | .none, _ => ⟨by decide, rfl, rfl⟩
  | .bool b, _ => ⟨by cases b <;> decide, rfl, rfl⟩
  | .int i, h => by
    unfold plainB at h
    obtain ⟨h1, h2⟩ := Bool.and_eq_true_iff.mp h
    have h1 := of_decide_eq_true h1
    have h2 := of_decide_eq_true h2
    refine ⟨PyProof.Rows.toString_length_le h1 (by show 0 < 150; decide) h2, ?_, rfl⟩
    show decide (i.natAbs.log2 < 1920) = true
    by_cases h0 : i.natAbs = 0
    · rw [h0]; decide
    · have : i.natAbs.log2 < 1920 := (Nat.log2_lt h0).mpr (Nat.lt_of_lt_of_le (m := 10 ^ 150) (by omega) (by decide))
      exact decide_eq_true this
  | .list xs, h => by
    unfold plainB at h
    obtain ⟨h1, h2, h3⟩ := showns_le xs h
    refine ⟨?_, h2, h3⟩
    show (PySem.textFrom 0 "[" (PyData.shownAll xs) ++ "]").length ≤ big.bigs xs + 6
    rw [PySem.strLen_append]
    have h4 := textFrom_le (PyData.shownAll xs) 0 "["
    have h5 : (((("[" : String) : Str))).length = 1 := rfl
    have h6 : (((("]" : String) : Str))).length = 1 := rfl
    omega
  | .tuple xs, h => by
    unfold plainB at h
    obtain ⟨h1, h2, h3⟩ := showns_le xs h
    refine ⟨?_, h2, h3⟩
    show (PySem.tupleText (PyData.shownAll xs)).length ≤ big.bigs xs + 6
    unfold PySem.tupleText
    rw [PySem.strLen_append, PySem.strLen_append]
    have h4 := join_le (PyData.shownAll xs)
    have h5 : (((("(" : String) : Str))).length = 1 := rfl
    have h6 : (((if (PyData.shownAll xs).length == 1 then ",)" else ")" : String) : Str)).length ≤ 2 := by split <;> decide
    omega
  | .str _, h => by
    unfold plainB at h
    cases h
  | .dict _, h => by
    unfold plainB at h
    cases h
theorem showns_le : ∀ xs : List D, plainB.plains xs = true → pil (PyData.shownAll xs) ≤ big.bigs xs ∧ PyData.showableAll xs = true ∧ PyData.hasDictAll xs = false
  | [], _ => ⟨Nat.le_refl _, rfl, rfl⟩
  | x :: xs, h => by
    unfold plainB.plains at h
    obtain ⟨h1, h2⟩ := Bool.and_eq_true_iff.mp h
    obtain ⟨a1, a2, a3⟩ := shown_le x h1
    obtain ⟨b1, b2, b3⟩ := showns_le xs h2
    refine ⟨?_, ?_, ?_⟩
    · show (x.shown.length + 2) + pil (PyData.shownAll xs) ≤ big x + 2 + big.bigs xs
      omega
    · show (x.showable && PyData.showableAll xs) = true
      rw [a2, b2]
      rfl
    · show (x.hasDict || PyData.hasDictAll xs) = false
      rw [a3, b3]
      rfl
end
theorem ok_of (s : String) : PyData.strOk (PySem.Str.ofString s) = true := by
  rw [PySem.Str.ofString_eq_toList]
  unfold PyData.strOk
  rw [← Array.all_toList]
  refine List.all_eq_true.mpr fun n hn => ?_
  obtain ⟨c, hc, rfl⟩ := List.mem_map.mp (by simpa using hn)
  have h := c.valid
  have e : c.toNat = c.val.toNat := rfl
  rcases h with h | ⟨_, h⟩
  · exact decide_eq_true (by rw [e]; omega)
  · exact decide_eq_true (by rw [e]; omega)
theorem ok_app (x y : Str) : PyData.strOk (x ++ y) = (PyData.strOk x && PyData.strOk y) := by
  show (x.cps ++ y.cps).all _ = _
  rw [Array.all_append]
  rfl
theorem ok_from : ∀ (ts : List Str) (k : Nat) (acc : Str), PyData.strOk acc = true → (∀ t ∈ ts, PyData.strOk t = true) → PyData.strOk (PySem.textFrom k acc ts) = true
  | [], k, acc, h, _ => h
  | t :: r, k, acc, h, hs => by
    refine ok_from r (k + 1) _ ?_ fun z hz => hs z (by simp [hz])
    rw [ok_app, ok_app, h, hs t (by simp)]
    have : PyData.strOk ((if k > 0 then ", " else "" : String) : Str) = true := ok_of _
    rw [this]
    rfl
theorem ok_join : ∀ ts : List Str, (∀ t ∈ ts, PyData.strOk t = true) → PyData.strOk (Str.join ", " ts) = true
  | [], _ => by
    show PyData.strOk Str.empty = true
    decide +kernel
  | [x], h => h x (by simp)
  | x :: y :: r, h => by
    show PyData.strOk (x ++ ", " ++ Str.join ", " (y :: r)) = true
    rw [ok_app, ok_app, h x (by simp), ok_join (y :: r) fun z hz => h z (by simp [List.mem_cons.mp hz])]
    have : PyData.strOk ((", " : String) : Str) = true := ok_of _
    rw [this]
    rfl
mutual
theorem shown_strOk : ∀ d : D, plainB d = true → PyData.strOk d.shown = true
  | .none, _ => ok_of _
  | .bool b, _ => by cases b <;> exact ok_of _
  | .int i, _ => ok_of _
  | .list xs, h => by
    unfold plainB at h
    show PyData.strOk (PySem.textFrom 0 "[" (PyData.shownAll xs) ++ "]") = true
    rw [ok_app, ok_from _ _ _ (ok_of _) (showns_strOk xs h)]
    exact ok_of _
  | .tuple xs, h => by
    unfold plainB at h
    show PyData.strOk (PySem.tupleText (PyData.shownAll xs)) = true
    unfold PySem.tupleText
    rw [ok_app, ok_app, ok_join _ (showns_strOk xs h)]
    have h1 : PyData.strOk (("(" : String) : Str) = true := ok_of _
    have h2 : PyData.strOk ((if (PyData.shownAll xs).length == 1 then ",)" else ")" : String) : Str) = true := ok_of _
    rw [h1, h2]
    rfl
  | .str _, h => by
    unfold plainB at h
    cases h
  | .dict _, h => by
    unfold plainB at h
    cases h
theorem showns_strOk : ∀ xs : List D, plainB.plains xs = true → ∀ t ∈ PyData.shownAll xs, PyData.strOk t = true
  | [], _, t, ht => by cases ht
  | x :: xs, h, t, ht => by
    unfold plainB.plains at h
    obtain ⟨h1, h2⟩ := Bool.and_eq_true_iff.mp h
    have ht' : t ∈ x.shown :: PyData.shownAll xs := ht
    rcases List.mem_cons.mp ht' with rfl | q
    · exact shown_strOk x h1
    · exact showns_strOk xs h2 t q
end
theorem repr_ok {d : D} (h : plainB d = true) (h1 : d.depth ≤ 64) (h2 : big d ≤ 16777216) : reprOk d = true := by
  obtain ⟨a1, a2, a3⟩ := shown_le d h
  unfold reprOk
  rw [a2, a3, decide_eq_true h1, decide_eq_true (Nat.le_trans a1 (by rw [PySem.sizeLine_eq]; exact h2))]
  rfl
theorem like_ok {d : D} (h : plainB d = true) (h1 : d.depth ≤ 64) (h2 : big d ≤ 16777216) : m__law_like [d, d] = some (.bool true) := by
  have hr := repr_ok h h1 h2
  have hs : PySem.SeqAt.shaped (.str d.shown) = true := by
    show (PyData.strOk d.shown && decide (0 ≤ 64)) = true
    rw [shown_strOk d h]
    rfl
  simp [m__law_like, runP2, runP, F__law_like, retM, valM, bnd, op2, lateM, nameM, getO, toD, lift, ret, callM, reprD, consO, nilM, getL, hr, eqD, hs, PyData.eqv]
end LW
end

section
set_option Elab.async false
set_option linter.all false
set_option maxRecDepth 100000
set_option maxHeartbeats 999999
/-! WMath0: the mirrors, applied to a state: rules for simp; what a mirror comes to (Ev), its loops and comprehensions -/
namespace DL
open PySem (PyData Str)
variable {τ α β : Type} {s : Stt τ}
section
@[simp] theorem bnd_s (m : M τ α) (f : α → M τ β) : bnd m f s = (match m s with | none => none | some (a, s') => f a s') := rfl
@[simp] theorem ret_s (a : α) : ret a s = some (a, s) := rfl
@[simp] theorem stuck_s : (stuck : M τ α) s = none := rfl
@[simp] theorem lift_s1 (a : α) : lift (some a) s = some (a, s) := rfl
@[simp] theorem lift_s0 : (lift none : M τ α) s = none := rfl
@[simp] theorem getO_v (x : D) : getO (.val x) s = some (x, s) := rfl
@[simp] theorem getO_n (xs : List D) : getO (.new xs) s = some (.list xs, s) := rfl
@[simp] theorem getO_s (i : Nat) : getO (.slot i) s = (match s.env[i]? with | some (some (.d x)) => some (x, s) | some (some (.own xs)) => some (.list xs, s) | _ => none) := rfl
@[simp] theorem toD_v (x : D) : toD (.val x) s = some (x, s) := rfl
@[simp] theorem toD_n (xs : List D) : toD (.new xs) s = some (.list xs, s) := rfl
@[simp] theorem toD_s (i : Nat) : toD (.slot i) s = (match s.env[i]? with | some (some (.d x)) => some (x, s) | some (some (.own xs)) => some (.list xs, { s with env := s.env.set i (some (.d (.list xs))) }) | _ => none) := rfl
@[simp] theorem valM_s (F : M τ Opd) : valM F s = bnd F toD s := rfl
@[simp] theorem lateM_s (F : M τ Opd) : lateM F s = (match F s with | none => none | some (.new xs, s') => some (.val (.list xs), s') | some (.val x, s') => some (.val x, s') | some (.slot i, s') => some (.slot i, s')) := by
  unfold lateM bnd
  cases F s with
  | none => rfl
  | some p => obtain ⟨o, s'⟩ := p; cases o <;> rfl
@[simp] theorem nameM_s (i : Nat) : nameM i s = (match s.env[i]? with | some (some (.d _)) => some (.slot i, s) | some (some (.own _)) => some (.slot i, s) | _ => none) := rfl
@[simp] theorem op2_s (op : D → D → Option Opd) (Fa Fb : M τ Opd) : op2 op Fa Fb s = bnd (lateM Fa) (fun o1 => bnd Fb fun o2 => bnd (getO o1) fun x => bnd (getO o2) fun y => lift (op x y)) s := rfl
@[simp] theorem boolO_s (o : Opd) : boolO o s = (match getO o s with | some (.bool b, s') => some (b, s') | _ => none) := by
  unfold boolO bnd
  cases getO o s with
  | none => rfl
  | some p => obtain ⟨x, s'⟩ := p; cases x <;> rfl
@[simp] theorem chainM_s (f f' : D → D → Option Opd) (Fa Fb Fc : M τ Opd) : chainM f f' Fa Fb Fc s = bnd (lateM Fa) (fun o1 => bnd (lateM Fb) fun o2 => bnd (getO o1) fun x => bnd (getO o2) fun y => bnd (lift (f x y)) fun o => bnd (boolO o) fun k =>
  if k then bnd Fc fun o3 => bnd (getO o2) fun y => bnd (getO o3) fun z => lift (f' y z) else ret (.val (.bool false))) s := rfl
@[simp] theorem andT_s (F G : M τ Bool) : andT F G s = (match F s with | none => none | some (k, s') => if k then G s' else some (false, s')) := by
  unfold andT bnd
  cases F s with
  | none => rfl
  | some p => obtain ⟨k, s'⟩ := p; cases k <;> rfl
@[simp] theorem orT_s (F G : M τ Bool) : orT F G s = (match F s with | none => none | some (k, s') => if k then some (true, s') else G s') := by
  unfold orT bnd
  cases F s with
  | none => rfl
  | some p => obtain ⟨k, s'⟩ := p; cases k <;> rfl
@[simp] theorem notT_s (F : M τ Bool) : notT F s = (match F s with | none => none | some (k, s') => some (!k, s')) := by
  unfold notT bnd
  cases F s with
  | none => rfl
  | some p => rfl
@[simp] theorem andV_s (F G : M τ Opd) : andV F G s = (match bnd F boolO s with | none => none | some (k, s') => if k then G s' else some (.val (.bool false), s')) := by
  show bnd (bnd F boolO) _ s = _
  generalize bnd F boolO = W
  unfold bnd
  cases W s with
  | none => rfl
  | some p => obtain ⟨k, s'⟩ := p; cases k <;> rfl
@[simp] theorem orV_s (F G : M τ Opd) : orV F G s = (match bnd F boolO s with | none => none | some (k, s') => if k then some (.val (.bool true), s') else G s') := by
  show bnd (bnd F boolO) _ s = _
  generalize bnd F boolO = W
  unfold bnd
  cases W s with
  | none => rfl
  | some p => obtain ⟨k, s'⟩ := p; cases k <;> rfl
@[simp] theorem notV_s (F : M τ Opd) : notV F s = (match bnd F boolO s with | none => none | some (k, s') => some (.val (.bool (!k)), s')) := by
  show bnd (bnd F boolO) _ s = _
  generalize bnd F boolO = W
  unfold bnd
  cases W s with
  | none => rfl
  | some p => rfl
@[simp] theorem iteM_s (T : M τ Bool) (F G : M τ Opd) : iteM T F G s = (match T s with | none => none | some (k, s') => if k then F s' else G s') := by
  unfold iteM bnd
  cases T s with
  | none => rfl
  | some p => obtain ⟨k, s'⟩ := p; cases k <;> rfl
@[simp] theorem nilM_s : (nilM : M τ (List α)) s = some ([], s) := rfl
@[simp] theorem consO_s (F : M τ Opd) (G : M τ (List Opd)) : consO F G s = bnd (lateM F) (fun o => bnd G fun os => ret (o :: os)) s := rfl
@[simp] theorem consN_s (F : M τ Opd) (G : M τ (List Opd)) : consN F G s = bnd F (fun o => bnd G fun os => ret (o :: os)) s := rfl
@[simp] theorem consD_s (F : M τ Opd) (G : M τ (List D)) : consD F G s = bnd (valM F) (fun o => bnd G fun os => ret (o :: os)) s := rfl
@[simp] theorem consB_s (F : M τ Opd) (G : M τ (List (Option D))) : consB F G s = bnd (valM F) (fun d => bnd G fun ds => ret (some d :: ds)) s := rfl
@[simp] theorem consHd_s (i : Nat) (G : M τ (List (Option D))) : consHd i G s = bnd (hAt i) (fun _ => bnd G fun ds => ret (none :: ds)) s := rfl
@[simp] theorem hAt_s (i : Nat) : (hAt i : M τ Unit) s = (match s.env[i]? with | some (some .h) => some ((), s) | _ => none) := rfl
@[simp] theorem tupM_s (G : M τ (List D)) : tupM G s = (match G s with | none => none | some (ds, s') => if decide (ds.length ≤ 16777216) then some (.val (.tuple ds), s') else none) := by
  unfold tupM bnd fitsL
  rw [PySem.sizeLine_eq]
  cases G s with
  | none => rfl
  | some p =>
    obtain ⟨k, s'⟩ := p
    dsimp only
    split <;> rfl
@[simp] theorem lstM_s (G : M τ (List D)) : lstM G s = (match G s with | none => none | some (ds, s') => if decide (ds.length ≤ 16777216) then some (.new ds, s') else none) := by
  unfold lstM bnd fitsL
  rw [PySem.sizeLine_eq]
  cases G s with
  | none => rfl
  | some p =>
    obtain ⟨k, s'⟩ := p
    dsimp only
    split <;> rfl
@[simp] theorem intO_s (o : Opd) : intO o s = (match getO o s with | some (.int i, s') => some (some i, s') | _ => none) := by
  unfold intO bnd
  cases getO o s with
  | none => rfl
  | some p => obtain ⟨x, s'⟩ := p; cases x <;> rfl
@[simp] theorem numO_s (o : Opd) : numO o s = (match getO o s with | some (.int i, s') => some (i, s') | _ => none) := by
  unfold numO bnd
  cases getO o s with
  | none => rfl
  | some p => obtain ⟨x, s'⟩ := p; cases x <;> rfl
@[simp] theorem sliceM_s (f : D → Option Int → Option Int → Option Opd) (F : M τ Opd) (L U : M τ (Option Int)) : sliceM f F L U s = bnd (lateM F) (fun o => bnd L fun l => bnd U fun u => bnd (getO o) fun x => lift (f x l u)) s := rfl
@[simp] theorem getL_nil : (getL [] : M τ (List D)) s = some ([], s) := rfl
@[simp] theorem getL_cons (o : Opd) (os : List Opd) : getL (o :: os) s = bnd (getO o) (fun x => bnd (getL os) fun xs => ret (x :: xs)) s := rfl
@[simp] theorem callM_s (f : List D → Option Opd) (G : M τ (List Opd)) : callM f G s = bnd G (fun os => bnd (getL os) fun xs => lift (f xs)) s := rfl
@[simp] theorem callP_s (f : List D → Option D) (G : M τ (List D)) : callP f G s = (match G s with | none => none | some (ds, s') => match f ds with | none => none | some d => some (.val d, s')) := by
  unfold callP bnd lift
  cases G s with
  | none => rfl
  | some p =>
    obtain ⟨k, s'⟩ := p
    dsimp only
    cases f k <;> rfl
@[simp] theorem callN_s (f : List D → Option (List D)) (G : M τ (List D)) : callN f G s = (match G s with | none => none | some (ds, s') => match f ds with | none => none | some d => some (.new d, s')) := by
  unfold callN bnd lift
  cases G s with
  | none => rfl
  | some p =>
    obtain ⟨k, s'⟩ := p
    dsimp only
    cases f k <;> rfl
@[simp] theorem isiM_s (T : String) (F : M τ Opd) : isiM T F s = bnd F (fun o => bnd (getO o) fun x => ret (.val (.bool (isiB (tyD x) T)))) s := rfl
@[simp] theorem seqO_l (xs : List D) : seqO (.list xs) s = some (xs, s) := rfl
@[simp] theorem seqO_t (xs : List D) : seqO (.tuple xs) s = some (xs, s) := rfl
@[simp] theorem iterM_s (F : M τ Opd) : iterM F s = bnd (valM F) seqO s := rfl
@[simp] theorem enumM_s (F : M τ Opd) : enumM F s = bnd (iterM F) (fun xs => ret (enumL 0 xs)) s := rfl
@[simp] theorem intsM_s (G : M τ (List Opd)) : intsM G s = bnd G (fun os => getL os) s := rfl
@[simp] theorem rangeM_s (G : M τ (List Opd)) : rangeM G s = (match bnd (intsM G) (fun ds => lift (rng2 ds)) s with | none => none | some (ab, s') => if rgOk ab.1 ab.2 then some (rgD ab.1 ab.2, s') else none) := by
  unfold rangeM bnd
  cases intsM G s with
  | none => rfl
  | some p =>
    obtain ⟨k, s'⟩ := p
    dsimp only
    cases lift (rng2 k) s' with
    | none => rfl
    | some q =>
      obtain ⟨ab, s2⟩ := q
      dsimp only
      split <;> rfl
@[simp] theorem listRgM_s (G : M τ (List Opd)) : listRgM G s = (match bnd (intsM G) (fun ds => lift (rng2 ds)) s with | none => none | some (ab, s') => if rgOk ab.1 ab.2 then some (.new (rgD ab.1 ab.2), s') else none) := by
  unfold listRgM bnd
  cases intsM G s with
  | none => rfl
  | some p =>
    obtain ⟨k, s'⟩ := p
    dsimp only
    cases lift (rng2 k) s' with
    | none => rfl
    | some q =>
      obtain ⟨ab, s2⟩ := q
      dsimp only
      split <;> rfl
@[simp] theorem rngAt_s (i : Nat) : (rngAt i : M τ (List D)) s = (match s.env[i]? with | some (some (.r lo hi)) => if rgOk lo hi then some (rgD lo hi, s) else none | _ => none) := rfl
@[simp] theorem setM_s (i : Nat) (d : D) : setM i d s = some ((), { s with env := s.env.set i (some (.d d)) }) := rfl
@[simp] theorem gsNil_s : (gsNil [] : M τ Unit) s = some ((), s) := rfl
@[simp] theorem gsCons_s (G : D → M τ Unit) (Gs : List D → M τ Unit) (d : D) (ds : List D) : gsCons G Gs (d :: ds) s = bnd (G d) (fun _ => Gs ds) s := rfl
@[simp] theorem tupG_s (n : Nat) (Gs : List D → M τ Unit) (ds : List D) : tupG n Gs (.tuple ds) s = (if ds.length = n then Gs ds s else none) := by
  unfold tupG
  dsimp only
  split <;> rfl
@[simp] theorem dropM_s (F : M τ Opd) : dropM F s = bnd F (fun _ => ret .nx) s := rfl
@[simp] theorem retM_s (F : M τ Opd) : retM F s = bnd (valM F) (fun d => ret (.rt d)) s := rfl
@[simp] theorem ifM_s (T : M τ Bool) (F G : M τ Out) : ifM T F G s = (match T s with | none => none | some (k, s') => if k then F s' else G s') := by
  unfold ifM bnd
  cases T s with
  | none => rfl
  | some p => obtain ⟨k, s'⟩ := p; cases k <;> rfl
@[simp] theorem putM_n (i : Nat) (xs : List D) : putM i (.new xs) s = some ((), { s with env := s.env.set i (some (.own xs)) }) := rfl
@[simp] theorem putM_v (i : Nat) (d : D) : putM i (.val d) s = some ((), { s with env := s.env.set i (some (.d d)) }) := rfl
@[simp] theorem putM_s (i j : Nat) : putM i (.slot j) s = bnd (toD (.slot j)) (setM i) s := rfl
@[simp] theorem asgM_s (i : Nat) (F : M τ Opd) : asgM i F s = bnd F (fun o => bnd (putM i o) fun _ => ret .nx) s := rfl
@[simp] theorem retF_s (F : M τ Opd) : retF F s = (match F s with | some (.new xs, s') => some (.rn xs, s') | some (.slot i, s') => (match s'.env[i]? with | some (some (.own xs)) => some (.rn xs, s') | _ => none) | _ => none) := by
  unfold retF bnd
  cases F s with
  | none => rfl
  | some p => obtain ⟨x, s'⟩ := p; cases x <;> rfl
@[simp] theorem unpM_s (F : M τ Opd) (G : D → M τ Unit) : unpM F G s = bnd (valM F) (fun d => bnd (G d) fun _ => ret .nx) s := rfl
@[simp] theorem augM_s (i : Nat) (f : D → D → Option Opd) (F : M τ Opd) : augM i f F s = (match s.env[i]? with | some (some (.d x)) => (bnd F fun o => bnd (getO o) fun y => bnd (lift (f x y)) fun r => bnd (putM i r) fun _ => ret .nx) s | _ => none) := rfl
@[simp] theorem appM_s (i : Nat) (F : M τ Opd) : appM i F s = (match valM F s with | none => none | some (d, s') => (match s'.env[i]? with | some (some (.own xs)) => if xs.length < 16777216 then some (.nx, { s' with env := s'.env.set i (some (.own (xs ++ [d]))) }) else none | _ => none)) := by
  rw [← PySem.sizeLine_eq]
  unfold appM bnd
  cases valM F s with
  | none => rfl
  | some p => rfl
@[simp] theorem ownAt_s (i : Nat) : (ownAt i : M τ Unit) s = (match s.env[i]? with | some (some (.own _)) => some ((), s) | _ => none) := rfl
@[simp] theorem popM_s (i : Nat) (F : M τ Opd) : popM i F s = bnd (ownAt i) (fun _ => bnd F fun o => bnd (getO o) fun y => popIx i y) s := rfl
@[simp] theorem fixM_nil : (fixM [] : M τ (List Opd)) s = some ([], s) := rfl
@[simp] theorem fixM_slot (i : Nat) (os : List Opd) : fixM (.slot i :: os) s = bnd (toD (.slot i)) (fun d => bnd (fixM os) fun os' => ret (.val d :: os')) s := by
  show bnd (bnd (toD (.slot i)) fun d => ret (.val d)) (fun o' => bnd (fixM os) fun os' => ret (o' :: os')) s = _
  unfold bnd
  cases toD (.slot i) s with
  | none => rfl
  | some p => rfl
@[simp] theorem fixM_val (x : D) (os : List Opd) : fixM (.val x :: os) s = bnd (fixM os) (fun os' => ret (.val x :: os')) s := rfl
@[simp] theorem fixM_new (x : List D) (os : List Opd) : fixM (.new x :: os) s = bnd (fixM os) (fun os' => ret (.new x :: os')) s := rfl
@[simp] theorem setsM_nil : (setsM [] [] : M τ Unit) s = some ((), s) := rfl
@[simp] theorem setsM_cons (i : Nat) (is : List Nat) (o : Opd) (os : List Opd) : setsM (i :: is) (o :: os) s = bnd (putM i o) (fun _ => setsM is os) s := rfl
@[simp] theorem parM_s (is : List Nat) (G : M τ (List Opd)) : parM is G s = bnd G (fun os => bnd (fixM os) fun os' => bnd (setsM is os') fun _ => ret .nx) s := rfl
@[simp] theorem negM_s (F : M τ Opd) : negM F s = (match bnd F getO s with | some (.int i, s') => some (.val (.int (-i)), s') | _ => none) := by
  show bnd F (fun o => bnd (getO o) fun x => match x with | .int i => ret (Opd.val (.int (-i))) | _ => stuck) s = _
  unfold bnd
  cases F s with
  | none => rfl
  | some p =>
    obtain ⟨o, s'⟩ := p
    dsimp only
    cases getO o s' with
    | none => rfl
    | some q => obtain ⟨x, s2⟩ := q; cases x <;> rfl
@[simp] theorem seqM_s (F G : M τ Out) : seqM F G s = (match F s with | none => none | some (.nx, s') => G s' | some (.bk, s') => some (.bk, s') | some (.ct, s') => some (.ct, s') | some (.rt d, s') => some (.rt d, s') | some (.rn d, s') => some (.rn d, s')) := by
  unfold seqM bnd
  cases F s with
  | none => rfl
  | some p => obtain ⟨o, s'⟩ := p; cases o <;> rfl
@[simp] theorem extM_s (i : Nat) (F : M τ Opd) : extM i F s = (match lateM F s with | none => none | some (o, s1) => (match getO o s1 with | some (.list ys, s') => (match s'.env[i]? with | some (some (.own xs)) => if xs.length + ys.length ≤ 16777216 then some (.nx, { s' with env := s'.env.set i (some (.own (xs ++ ys))) }) else none | _ => none) | _ => none)) := by
  rw [← PySem.sizeLine_eq]
  unfold extM bnd
  cases lateM F s with
  | none => rfl
  | some p =>
    obtain ⟨o, s1⟩ := p
    dsimp only
    cases getO o s1 with
    | none => rfl
    | some q =>
      obtain ⟨y, s2⟩ := q
      dsimp only
      cases he : s2.env[i]? with
      | none => cases y <;> first | rfl | (dsimp only; rw [he])
      | some z =>
        cases z with
        | none => cases y <;> first | rfl | (dsimp only; rw [he])
        | some z => cases z <;> cases y <;> first | rfl | (dsimp only; rw [he])
end
section
variable {s : Stt TabS}
@[simp] theorem callT_s (f : List D → Option D) (G : M TabS (List (Option D))) : callT f G s = (match G s with | none => none | some (os, s') => (match f (os.map fun o => o.getD (tabD s'.dr)) with | some d => if nolst d then some (.val d, s') else none | none => none)) := by
  unfold callT bnd
  cases G s with
  | none => rfl
  | some p => rfl
@[simp] theorem rowAt_s (a : Int) : rowAt a s = (match L2.atI s.dr a with | some _ => some ((), s) | none => none) := rfl
@[simp] theorem tabGet_s (a b : Int) : tabGet a b s = (match (L2.atI s.dr a).bind fun row => L2.atI row b with | some d => some (.val d, s) | none => none) := rfl
@[simp] theorem tabIx_s (i : Nat) (Fa Fb : M TabS Opd) : tabIx i Fa Fb s = bnd (hAt i) (fun _ => bnd Fa fun oa => bnd (numO oa) fun a => bnd (rowAt a) fun _ => bnd Fb fun ob => bnd (numO ob) fun b => tabGet a b) s := rfl
@[simp] theorem tabSet_s (i : Nat) (F Fa Fb : M TabS Opd) : tabSet i F Fa Fb s = bnd (valM F) (fun d => bnd (hAt i) fun _ => bnd Fa fun oa => bnd (numO oa) fun a => bnd (rowAt a) fun _ => bnd Fb fun ob => bnd (numO ob) fun b => tabPut d a b) s := rfl
@[simp] theorem setRgM_s {τ : Type} {s : Stt τ} (i : Nat) (F : M τ Opd) : setRgM i F s = bnd F (fun o => bnd (numO o) fun n => fun s => some (.nx, { s with env := s.env.set i (some (.r 0 n)) })) s := rfl
end
end DL
end

section
set_option Elab.async false
set_option linter.all false
set_option maxRecDepth 100000
set_option maxHeartbeats 999999
/-! WMath1: operators on data; what a mirror comes to (Ev): blocks, loops, comprehensions -/
namespace DL
open PySem (PyData Str)
variable {τ α β : Type}
/-! ### plain data -/
def pd : Nat → D → Bool
  | _, .none => true
  | _, .bool _ => true
  | _, .int _ => true
  | _, .str x => PyData.strOk x
  | n + 1, .list xs => xs.all (pd n)
  | n + 1, .tuple xs => xs.all (pd n)
  | _, _ => false
theorem canAll : ∀ xs : List D, (∀ x ∈ xs, PyData.canLay0 x = true) → PyData.canLayAll0 xs = true
  | [], _ => by simp [PyData.canLayAll0]
  | x :: xs, h => by
    unfold PyData.canLayAll0
    rw [h x List.mem_cons_self, canAll xs fun y m => h y (List.mem_cons_of_mem _ m)]
    rfl
theorem depthAll_le {n : Nat} : ∀ xs : List D, (∀ x ∈ xs, PyData.depth x ≤ n) → PyData.depthAll xs ≤ n
  | [], _ => by simp [PyData.depthAll]
  | x :: xs, h => by
    unfold PyData.depthAll
    exact Nat.max_le.mpr ⟨h x List.mem_cons_self, depthAll_le xs fun y m => h y (List.mem_cons_of_mem _ m)⟩
theorem pd_can : ∀ (n : Nat) (d : D), pd n d = true → PyData.canLay0 d = true ∧ PyData.depth d ≤ n
  | n, .none, _ => ⟨rfl, by simp [PyData.depth]⟩
  | n, .bool _, _ => ⟨rfl, by simp [PyData.depth]⟩
  | n, .int _, _ => ⟨rfl, by simp [PyData.depth]⟩
  | 0, .list xs, h => by simp [pd] at h
  | 0, .tuple xs, h => by simp [pd] at h
  | n + 1, .list xs, h => by
    have h' : ∀ x ∈ xs, pd n x = true := by simpa [pd] using h
    refine ⟨?_, ?_⟩
    · unfold PyData.canLay0
      exact canAll xs fun x m => (pd_can n x (h' x m)).1
    · unfold PyData.depth
      have := depthAll_le (n := n) xs fun x m => (pd_can n x (h' x m)).2
      omega
  | n + 1, .tuple xs, h => by
    have h' : ∀ x ∈ xs, pd n x = true := by simpa [pd] using h
    refine ⟨?_, ?_⟩
    · unfold PyData.canLay0
      exact canAll xs fun x m => (pd_can n x (h' x m)).1
    · unfold PyData.depth
      have := depthAll_le (n := n) xs fun x m => (pd_can n x (h' x m)).2
      omega
  | n, .str x, h => by
    have h' : PyData.strOk x = true := by simpa [pd] using h
    exact ⟨h', by simp [PyData.depth]⟩
  | 0, .dict _, h => by simp [pd] at h
  | n + 1, .dict _, h => by simp [pd] at h
theorem shaped_pd {n : Nat} {d : D} (h : pd n d = true) (hn : n ≤ 64 := by decide) : PySem.SeqAt.shaped d = true := by
  obtain ⟨h1, h2⟩ := pd_can n d h
  unfold PySem.SeqAt.shaped
  rw [h1, decide_eq_true (Nat.le_trans h2 hn)]
  rfl
/-! ### operators -/
@[simp] theorem addD_i (i j : Int) : addD (.int i) (.int j) = some (.val (.int (i + j))) := rfl
@[simp] theorem addD_t (xs ys : List D) : addD (.tuple xs) (.tuple ys) = if xs.length + ys.length ≤ 16777216 then some (.val (.tuple (xs ++ ys))) else none := by
  rw [← PySem.sizeLine_eq]
  show orO catT (orO catL catS) _ _ = _
  unfold orO catT
  dsimp only
  split <;> rename_i h
  · split at h
    · rename_i hz; rw [if_pos hz]; exact h.symm
    · cases h
  · split at h
    · cases h
    · rename_i hz; rw [if_neg hz]; rfl
@[simp] theorem addD_l (xs ys : List D) : addD (.list xs) (.list ys) = if xs.length + ys.length ≤ 16777216 then some (.new (xs ++ ys)) else none := by
  rw [← PySem.sizeLine_eq]
  show orO catL catS _ _ = _
  unfold orO catL
  dsimp only
  split <;> rename_i h
  · split at h
    · rename_i hz; rw [if_pos hz]; exact h.symm
    · cases h
  · split at h
    · cases h
    · rename_i hz; rw [if_neg hz]; rfl
@[simp] theorem subD_i (i j : Int) : subD (.int i) (.int j) = some (.val (.int (i - j))) := rfl
@[simp] theorem ltD_i (i j : Int) : ltD (.int i) (.int j) = some (.val (.bool (decide (i < j)))) := rfl
@[simp] theorem leD_i (i j : Int) : leD (.int i) (.int j) = some (.val (.bool (decide (i ≤ j)))) := rfl
@[simp] theorem gtD_i (i j : Int) : gtD (.int i) (.int j) = some (.val (.bool (decide (j < i)))) := rfl
@[simp] theorem geD_i (i j : Int) : geD (.int i) (.int j) = some (.val (.bool (decide (j ≤ i)))) := rfl
@[simp] theorem mulD_i (i j : Int) : mulD (.int i) (.int j) = if mulOk i j then some (.val (.int (i * j))) else none := by
  show orO (opI mulOk fun i j => .int (i * j)) (orO repT (orO rep1 repL)) _ _ = _
  unfold orO opI
  dsimp only
  split <;> rename_i h
  · split at h
    · rename_i hz; rw [if_pos hz]; exact h.symm
    · cases h
  · split at h
    · cases h
    · rename_i hz; rw [if_neg hz]; rfl
theorem log2_lt {n k : Nat} (hk : 0 < k) (h : n < 2 ^ k) : n.log2 < k := by
  by_cases h0 : n = 0
  · subst h0; show Nat.log2 0 < k; rw [show Nat.log2 0 = 0 from rfl]; exact hk
  · exact (Nat.log2_lt h0).mpr h
theorem mulOk_small {i j : Int} (hi : i.natAbs < 2 ^ 64) (hj : j.natAbs < 2 ^ 64) : mulOk i j = true := by
  have h1 := log2_lt (by decide) hi
  have h2 := log2_lt (by decide) hj
  exact decide_eq_true (by omega)
@[simp] theorem isD_n (x : D) : isD x .none = some (.val (.bool (isNoneB x))) := rfl
@[simp] theorem isNotD_n (x : D) : isNotD x .none = some (.val (.bool (!isNoneB x))) := rfl
@[simp] theorem isNoneB_n : isNoneB .none = true := rfl
@[simp] theorem isNoneB_b (b : Bool) : isNoneB (.bool b) = false := rfl
@[simp] theorem isNoneB_i (b : Int) : isNoneB (.int b) = false := rfl
@[simp] theorem isNoneB_t (b : List D) : isNoneB (.tuple b) = false := rfl
@[simp] theorem isNoneB_l (b : List D) : isNoneB (.list b) = false := rfl
@[simp] theorem isNoneB_s (b : Str) : isNoneB (.str b) = false := rfl
@[simp] theorem lenD_l (xs : List D) : lenD [.list xs] = some (.val (.int (xs.length : Nat))) := rfl
@[simp] theorem lenD_t (xs : List D) : lenD [.tuple xs] = some (.val (.int (xs.length : Nat))) := rfl
@[simp] theorem tupleD_l (xs : List D) : tupleD [.list xs] = some (.val (.tuple xs)) := rfl
@[simp] theorem tupleD_t (xs : List D) : tupleD [.tuple xs] = some (.val (.tuple xs)) := rfl
@[simp] theorem listD_l (xs : List D) : listD [.list xs] = some (.new xs) := rfl
@[simp] theorem listD_t (xs : List D) : listD [.tuple xs] = some (.new xs) := rfl
@[simp] theorem intD_i (i : Int) : intD [.int i] = some (.val (.int i)) := rfl
@[simp] theorem minD_i (i j : Int) : minD [.int i, .int j] = some (.val (.int (if j < i then j else i))) := rfl
@[simp] theorem maxD_i (i j : Int) : maxD [.int i, .int j] = some (.val (.int (if j > i then j else i))) := rfl
@[simp] theorem ixD_l (xs : List D) (i : Int) : ixD (.list xs) (.int i) = (L2.atI xs i).map .val := rfl
@[simp] theorem ixD_t (xs : List D) (i : Int) : ixD (.tuple xs) (.int i) = (L2.atI xs i).map .val := rfl
theorem ixN_nat {n i : Nat} : L2.ixN n (i : Int) = if i < n then some i else none := by
  unfold L2.ixN
  rw [if_pos (by omega)]
  by_cases h : i < n
  · rw [if_pos (by omega), if_pos h]
    rfl
  · rw [if_neg (by omega), if_neg h]
@[simp] theorem atI_nat {γ : Type} (xs : List γ) (i : Nat) : L2.atI xs (i : Int) = xs[i]? := by
  unfold L2.atI
  rw [ixN_nat]
  by_cases h : i < xs.length
  · rw [if_pos h]; rfl
  · rw [if_neg h, List.getElem?_eq_none (by omega)]; rfl
@[simp] theorem atI_0 {γ : Type} (xs : List γ) : L2.atI xs 0 = xs[0]? := atI_nat xs 0
@[simp] theorem atI_1 {γ : Type} (xs : List γ) : L2.atI xs 1 = xs[1]? := atI_nat xs 1
@[simp] theorem atI_2 {γ : Type} (xs : List γ) : L2.atI xs 2 = xs[2]? := atI_nat xs 2
@[simp] theorem atI_3 {γ : Type} (xs : List γ) : L2.atI xs 3 = xs[3]? := atI_nat xs 3
@[simp] theorem atI_4 {γ : Type} (xs : List γ) : L2.atI xs 4 = xs[4]? := atI_nat xs 4
theorem atI_toNat {γ : Type} (xs : List γ) (i : Int) (h : 0 ≤ i) : L2.atI xs i = xs[i.toNat]? := by
  rw [← atI_nat, Int.toNat_of_nonneg h]
theorem eqD_sh {x y : D} (hx : PySem.SeqAt.shaped x = true) (hy : PySem.SeqAt.shaped y = true) : eqD x y = some (.val (.bool (PyData.eqv x y))) := by
  unfold eqD
  rw [hx, hy]
  rfl
theorem neD_sh {x y : D} (hx : PySem.SeqAt.shaped x = true) (hy : PySem.SeqAt.shaped y = true) : neD x y = some (.val (.bool (!PyData.eqv x y))) := by
  unfold neD
  rw [hx, hy]
  rfl
@[simp] theorem eqD_i (i j : Int) : eqD (.int i) (.int j) = some (.val (.bool (decide (i = j)))) := by
  rw [eqD_sh (shaped_pd (n := 0) rfl) (shaped_pd (n := 0) rfl)]
  simp only [PyData.eqv]
  rfl
@[simp] theorem neD_i (i j : Int) : neD (.int i) (.int j) = some (.val (.bool (!decide (i = j)))) := by
  rw [neD_sh (shaped_pd (n := 0) rfl) (shaped_pd (n := 0) rfl)]
  simp only [PyData.eqv]
  rfl
theorem eqD_nil {xs : List D} (h : PySem.SeqAt.shaped (.list xs) = true) : eqD (.list xs) (.list []) = some (.val (.bool xs.isEmpty)) := by
  rw [eqD_sh h (shaped_pd (n := 1) rfl)]
  cases xs <;> rfl
theorem neD_nil {xs : List D} (h : PySem.SeqAt.shaped (.list xs) = true) : neD (.list xs) (.list []) = some (.val (.bool (!xs.isEmpty))) := by
  rw [neD_sh h (shaped_pd (n := 1) rfl)]
  cases xs <;> rfl
@[simp] theorem ty_t (xs : List D) : tyD (.tuple xs) = "tuple" := rfl
@[simp] theorem ty_l (xs : List D) : tyD (.list xs) = "list" := rfl
@[simp] theorem ty_i (i : Int) : tyD (.int i) = "int" := rfl
@[simp] theorem ty_b (i : Bool) : tyD (.bool i) = "bool" := rfl
@[simp] theorem ty_n : tyD .none = "NoneType" := rfl
@[simp] theorem isiB_tt : isiB "tuple" "tuple" = true := by decide
@[simp] theorem isiB_ii : isiB "int" "int" = true := by decide
@[simp] theorem isiB_ib : isiB "int" "bool" = false := by decide
@[simp] theorem isiB_lt : isiB "list" "tuple" = false := by decide
@[simp] theorem rng2_1 (n : Int) : rng2 [.int n] = some (0, n) := rfl
@[simp] theorem rng2_2 (a b : Int) : rng2 [.int a, .int b] = some (a, b) := rfl
def rgN (n : Nat) : List D := (List.range n).map fun i => .int (i : Nat)
theorem rgD_nat (n : Nat) : rgD 0 (n : Int) = rgN n := by
  unfold rgD rgN
  rw [Int.sub_zero, Int.toNat_natCast]
  exact List.map_congr_left fun i _ => by rw [Int.zero_add]
theorem rgOk_small {a b : Int} (h1 : 0 ≤ a) (h2 : a ≤ 1000000) (h3 : 0 ≤ b) (h4 : b ≤ 1000000) : rgOk a b = true := by
  unfold rgOk
  simp only [Bool.and_eq_true, decide_eq_true_eq]
  omega
theorem enumL_map {γ : Type} (f : γ → D) : ∀ (k : Nat) (xs : List γ), enumL k (xs.map f) = (xs.zipIdx k).map fun p => .tuple [.int (p.2 : Nat), f p.1]
  | _, [] => rfl
  | k, x :: xs => by
    rw [List.map_cons, enumL, List.zipIdx_cons, List.map_cons, enumL_map f (k + 1) xs]
/-! ### what a mirror comes to -/
structure Ev (F : M τ α) (s : Stt τ) (P : α → Stt τ → Prop) : Prop where
  ex : ∃ a s', F s = some (a, s') ∧ P a s'
def Res (x : Option (α × Stt τ)) (P : α → Stt τ → Prop) : Prop := match x with
  | some (a, s') => P a s'
  | none => False
@[simp] theorem Res_some (a : α) (s : Stt τ) (P : α → Stt τ → Prop) : Res (some (a, s)) P = P a s := rfl
@[simp] theorem Res_none (P : α → Stt τ → Prop) : Res none P = False := rfl
theorem Ev.run {F : M τ α} {s : Stt τ} {P : α → Stt τ → Prop} (h : Res (F s) P) : Ev F s P := by
  cases e : F s with
  | none => rw [e] at h; exact h.elim
  | some p => rw [e] at h; exact ⟨p.1, p.2, e, h⟩
theorem Ev.mono {F : M τ α} {s : Stt τ} {P Q : α → Stt τ → Prop} (h : Ev F s P) (q : ∀ a s', P a s' → Q a s') : Ev F s Q := by
  obtain ⟨a, s', e, p⟩ := h
  exact ⟨a, s', e, q a s' p⟩
theorem Ev.bnd {m : M τ α} {f : α → M τ β} {s : Stt τ} {P : β → Stt τ → Prop} (h : Ev m s fun a s' => Ev (f a) s' P) : Ev (DL.bnd m f) s P := by
  obtain ⟨a, s1, e1, b, s2, e2, p⟩ := h
  exact ⟨b, s2, by unfold DL.bnd; rw [e1]; exact e2, p⟩
theorem Ev.ret {a : α} {s : Stt τ} {P : α → Stt τ → Prop} (h : P a s) : Ev (DL.ret a) s P := ⟨a, s, rfl, h⟩
def thenP (G : M τ Out) (P : Out → Stt τ → Prop) : Out → Stt τ → Prop
  | .nx, s => Ev G s P
  | o, s => P o s
@[simp] theorem thenP_nx (G : M τ Out) (P : Out → Stt τ → Prop) (s : Stt τ) : thenP G P .nx s = Ev G s P := rfl
@[simp] theorem thenP_rt (G : M τ Out) (P : Out → Stt τ → Prop) (s : Stt τ) (d : D) : thenP G P (.rt d) s = P (.rt d) s := rfl
@[simp] theorem thenP_bk (G : M τ Out) (P : Out → Stt τ → Prop) (s : Stt τ) : thenP G P .bk s = P .bk s := rfl
@[simp] theorem thenP_ct (G : M τ Out) (P : Out → Stt τ → Prop) (s : Stt τ) : thenP G P .ct s = P .ct s := rfl
theorem Ev.seq {F G : M τ Out} {s : Stt τ} {P : Out → Stt τ → Prop} (h : Ev F s (thenP G P)) : Ev (seqM F G) s P := by
  refine Ev.bnd (h.mono fun o s' q => ?_)
  cases o with
  | nx => exact q
  | _ => exact Ev.ret q
theorem Ev.seqN {F G : M τ Out} {s : Stt τ} {P : Out → Stt τ → Prop} (h : Ev F s fun o s' => o = .nx ∧ Ev G s' P) : Ev (seqM F G) s P :=
  Ev.seq (h.mono fun o s' q => by obtain ⟨rfl, q⟩ := q; exact q)
/-- behind a turn -/
def turnP (I : Stt τ → Prop) (P : Out → Stt τ → Prop) : Out → Stt τ → Prop
  | .nx, s => I s
  | .ct, s => I s
  | .bk, s => P .nx s
  | .rt d, s => P (.rt d) s
  | .rn xs, s => P (.rn xs) s
@[simp] theorem turnP_nx (I : Stt τ → Prop) (P : Out → Stt τ → Prop) (s : Stt τ) : turnP I P .nx s = I s := rfl
@[simp] theorem turnP_ct (I : Stt τ → Prop) (P : Out → Stt τ → Prop) (s : Stt τ) : turnP I P .ct s = I s := rfl
@[simp] theorem turnP_bk (I : Stt τ → Prop) (P : Out → Stt τ → Prop) (s : Stt τ) : turnP I P .bk s = P .nx s := rfl
@[simp] theorem turnP_rt (I : Stt τ → Prop) (P : Out → Stt τ → Prop) (s : Stt τ) (d : D) : turnP I P (.rt d) s = P (.rt d) s := rfl
@[simp] theorem turnP_rn (I : Stt τ → Prop) (P : Out → Stt τ → Prop) (s : Stt τ) (d : List D) : turnP I P (.rn d) s = P (.rn d) s := rfl
theorem Ev.for_ {G : D → M τ Unit} {body : M τ Out} {P : Out → Stt τ → Prop} (I : Nat → Stt τ → Prop) {xs : List D} (hs : ∀ (i : Nat) (x : D) (s : Stt τ), xs[i]? = some x → I i s → Ev (DL.bnd (G x) fun _ => body) s (turnP (I (i + 1)) P))
    (hd : ∀ s, I xs.length s → P .nx s) {s : Stt τ} (h0 : I 0 s) : Ev (forM G body xs) s P := by
  have key : ∀ (ys : List D) (k : Nat) (s : Stt τ), (∀ i, ys[i]? = xs[k + i]?) → k + ys.length = xs.length → I k s → Ev (forM G body ys) s P := by
    intro ys
    induction ys with
    | nil =>
      intro k s _ hl hi
      have : k = xs.length := by simpa using hl
      subst this
      exact Ev.ret (hd s hi)
    | cons y ys ih =>
      intro k s he hl hi
      have hy : xs[k]? = some y := (he 0).symm
      unfold forM
      have h1 := hs k y s hy hi
      obtain ⟨o, s2, e2, q⟩ := h1
      obtain ⟨u, s1, e3, e4⟩ := bnd_some e2
      refine Ev.bnd ⟨u, s1, e3, Ev.bnd ⟨o, s2, e4, ?_⟩⟩
      have nxt : I (k + 1) s2 → Ev (forM G body ys) s2 P := fun hi2 => ih (k + 1) s2 (fun i => by have := he (i + 1); rw [show k + 1 + i = k + (i + 1) by omega, ← this]; rfl) (by simp only [List.length_cons] at hl; omega) hi2
      cases o with
      | nx => exact nxt q
      | ct => exact nxt q
      | bk => exact Ev.ret q
      | rt d => exact Ev.ret q
      | rn zs => exact Ev.ret q
  exact key xs 0 s (fun i => by rw [Nat.zero_add]) (by omega) h0
theorem Ev.loop {Fi : M τ (List D)} {G : D → M τ Unit} {body : M τ Out} {s : Stt τ} {P : Out → Stt τ → Prop} (h : Ev Fi s fun xs s' => Ev (forM G body xs) s' P) : Ev (loopM Fi G body) s P := Ev.bnd h
theorem Ev.rng {i : Nat} {lo hi : Int} {s : Stt τ} {P : List D → Stt τ → Prop} (h : s.env[i]? = some (some (.r lo hi))) (ok : rgOk lo hi = true) (hp : P (rgD lo hi) s) : Ev (rngAt i) s P := ⟨rgD lo hi, s, by
  unfold rngAt
  rw [h]
  dsimp only
  rw [if_pos ok], hp⟩
/-- a comprehension: I speaks of the turns done and of the list so far; e0: the slots without the block's own -/
theorem Ev.lc {ws : List Nat} {Fi : M τ (List D)} {G : D → M τ Unit} {T : M τ Bool} {E : M τ Opd} {s : Stt τ} {P : Opd → Stt τ → Prop}
    (h : Ev Fi s fun xs s1 => xs.length ≤ 16777216 ∧ ∃ I : Nat → List D → Stt τ → Prop, I 0 [] { s1 with env := wipeE s1.env ws } ∧
      (∀ (i : Nat) (x : D) (acc : List D) (s2 : Stt τ), xs[i]? = some x → I i acc s2 → Ev (turnM G T (valM E) x acc) s2 fun acc' s3 => I (i + 1) acc' { s3 with env := wipeE s3.env ws }) ∧
      ∀ acc s2, I xs.length acc s2 → P (.new acc) { s2 with env := restE s1.env ws s2.env }) : Ev (lcM ws Fi G T E) s P := by
  obtain ⟨xs, s1, e1, hl, I, h0, hs, hd⟩ := h
  have key : ∀ (ys : List D) (k : Nat) (acc : List D) (s2 : Stt τ), (∀ i, ys[i]? = xs[k + i]?) → k + ys.length = xs.length → I k acc s2 → ∃ acc' s3, lcLoop ws G T (valM E) ys acc s2 = some (acc', s3) ∧ I xs.length acc' s3 := by
    intro ys
    induction ys with
    | nil =>
      intro k acc s2 _ hl hi
      have : k = xs.length := by simpa using hl
      subst this
      exact ⟨acc, s2, rfl, hi⟩
    | cons y ys ih =>
      intro k acc s2 he hl hi
      have hy : xs[k]? = some y := (he 0).symm
      obtain ⟨acc', s3, e3, hi3⟩ := hs k y acc s2 hy hi
      obtain ⟨acc2, s4, e4, hi4⟩ := ih (k + 1) acc' _ (fun i => by have := he (i + 1); rw [show k + 1 + i = k + (i + 1) by omega, ← this]; rfl) (by simp only [List.length_cons] at hl; omega) hi3
      refine ⟨acc2, s4, ?_, hi4⟩
      unfold lcLoop
      rw [e3]
      exact e4
  obtain ⟨acc, s3, e3, hi⟩ := key xs 0 [] _ (fun i => by rw [Nat.zero_add]) (by omega) h0
  refine ⟨.new acc, _, ?_, hd acc s3 hi⟩
  unfold lcM DL.bnd
  rw [e1]
  dsimp only
  have : fitsL xs = true := by
    unfold fitsL
    rw [PySem.sizeLine_eq]
    exact decide_eq_true hl
  rw [if_pos this, e3]
/-- .. which leaves the state as it is: g says what each item gives -/
theorem lc_val {ws : List Nat} {Fi : M τ (List D)} {G : D → M τ Unit} {T : M τ Bool} {E : M τ Opd} {s s1 : Stt τ} {xs : List D} (g : D → Option D) (h1 : Fi s = some (xs, s1)) (hl : xs.length ≤ 16777216) (hr : restE s1.env ws (wipeE s1.env ws) = s1.env)
    (ht : ∀ x ∈ xs, ∀ acc, ∃ env, turnM G T (valM E) x acc { s1 with env := wipeE s1.env ws } = some (acc ++ (g x).toList, { s1 with env := env }) ∧ wipeE env ws = wipeE s1.env ws) :
    lcM ws Fi G T E s = some (.new (xs.filterMap g), s1) := by
  have e : Ev (lcM ws Fi G T E) s fun o s' => o = .new (xs.filterMap g) ∧ s' = s1 := by
    refine Ev.lc ⟨xs, s1, h1, hl, fun i acc s2 => acc = (xs.take i).filterMap g ∧ s2 = { s1 with env := wipeE s1.env ws }, ⟨rfl, rfl⟩, ?_, ?_⟩
    · rintro i x acc s2 hx ⟨rfl, rfl⟩
      obtain ⟨env, e1, e2⟩ := ht x (List.mem_of_getElem? hx) ((xs.take i).filterMap g)
      refine ⟨_, _, e1, ?_, ?_⟩
      · obtain ⟨hi, hx'⟩ := List.getElem?_eq_some_iff.mp hx
        rw [List.take_succ, hx, List.filterMap_append]
        cases hg : g x <;> simp [hg]
      · dsimp only
        rw [e2]
    · rintro acc s2 ⟨rfl, rfl⟩
      rw [List.take_length]
      refine ⟨rfl, ?_⟩
      dsimp only
      rw [hr]
  obtain ⟨o, s', e1, rfl, rfl⟩ := e
  exact e1
@[simp] theorem turnM_s (G : D → M τ Unit) (T : M τ Bool) (E : M τ D) (x : D) (acc : List D) (s : Stt τ) : turnM G T E x acc s = (match DL.bnd (G x) (fun _ => T) s with | none => none | some (k, s') => if k then (match E s' with | none => none | some (d, s2) => some (acc ++ [d], s2)) else some (acc, s')) := by
  show DL.bnd (G x) (fun _ => DL.bnd T fun k => if k then DL.bnd E fun d => DL.ret (acc ++ [d]) else DL.ret acc) s = _
  unfold DL.bnd
  cases G x s with
  | none => rfl
  | some p =>
    obtain ⟨u, s1⟩ := p
    dsimp only
    cases T s1 with
    | none => rfl
    | some q =>
      obtain ⟨k, s2⟩ := q
      cases k with
      | false => rfl
      | true =>
        dsimp only
        rw [if_pos rfl, if_pos rfl]
        cases E s2 <;> rfl
@[simp] theorem wipeE_nil (env : List (Option Sl)) : wipeE env [] = env := rfl
@[simp] theorem wipeE_cons (env : List (Option Sl)) (v : Nat) (vs : List Nat) : wipeE env (v :: vs) = (wipeE env vs).set v none := rfl
@[simp] theorem restE_nil (env0 env : List (Option Sl)) : restE env0 [] env = env := rfl
@[simp] theorem restE_cons (env0 env : List (Option Sl)) (v : Nat) (vs : List Nat) : restE env0 (v :: vs) env = (restE env0 vs env).set v (keepD env0[v]?) := rfl
@[simp] theorem keepD_d (x : D) : keepD (some (some (.d x))) = some (.d x) := rfl
@[simp] theorem keepD_n : keepD (some none) = none := rfl
@[simp] theorem keepD_0 : keepD none = none := rfl
theorem Ev.asg {i : Nat} {F : M τ Opd} {s : Stt τ} {P : Out → Stt τ → Prop} (h : Ev F s fun o s' => Ev (putM i o) s' fun _ s2 => P .nx s2) : Ev (asgM i F) s P :=
  Ev.bnd (h.mono fun o s' q => Ev.bnd (q.mono fun _ s2 q2 => Ev.ret q2))
theorem Ev.if_ {T : M τ Bool} {F G : M τ Out} {s : Stt τ} {P : Out → Stt τ → Prop} (h : Ev T s fun k s' => Ev (if k then F else G) s' P) : Ev (ifM T F G) s P := Ev.bnd h
theorem lc_eq {ws : List Nat} {Fi : M τ (List D)} {G : D → M τ Unit} {T : M τ Bool} {E : M τ Opd} {s s1 : Stt τ} {xs : List D} (g : D → Option D) (h1 : Fi s = some (xs, s1)) (hl : xs.length ≤ 16777216) (hr : restE s1.env ws (wipeE s1.env ws) = s1.env)
    (ht : ∀ x ∈ xs, ∀ acc, Ev (turnM G T (valM E) x acc) { s1 with env := wipeE s1.env ws } fun acc' s3 => acc' = acc ++ (g x).toList ∧ wipeE s3.env ws = wipeE s1.env ws ∧ s3.dr = s1.dr) : lcM ws Fi G T E s = some (.new (xs.filterMap g), s1) := by
  refine lc_val g h1 hl hr fun x hx acc => ?_
  obtain ⟨acc', s3, e3, rfl, h2, h3⟩ := ht x hx acc
  obtain ⟨env, dr⟩ := s3
  obtain rfl : dr = s1.dr := h3
  exact ⟨env, e3, h2⟩
theorem Ev.lcv {ws : List Nat} {Fi : M τ (List D)} {G : D → M τ Unit} {T : M τ Bool} {E : M τ Opd} {s : Stt τ} {P : Opd → Stt τ → Prop} (g : D → Option D)
    (h : Ev Fi s fun xs s1 => xs.length ≤ 16777216 ∧ restE s1.env ws (wipeE s1.env ws) = s1.env ∧
      (∀ x ∈ xs, ∀ acc, Ev (turnM G T (valM E) x acc) { s1 with env := wipeE s1.env ws } fun acc' s3 => acc' = acc ++ (g x).toList ∧ wipeE s3.env ws = wipeE s1.env ws ∧ s3.dr = s1.dr) ∧ P (.new (xs.filterMap g)) s1) : Ev (lcM ws Fi G T E) s P := by
  obtain ⟨xs, s1, e1, hl, hr, ht, hp⟩ := h
  refine ⟨_, _, lc_val g e1 hl hr fun x hx acc => ?_, hp⟩
  obtain ⟨acc', s3, e3, rfl, h2, h3⟩ := ht x hx acc
  obtain ⟨env, dr⟩ := s3
  obtain rfl : dr = s1.dr := h3
  exact ⟨env, e3, h2⟩
theorem Ev.lcw {ws : List Nat} {Fi : M τ (List D)} {G : D → M τ Unit} {T : M τ Bool} {E : M τ Opd} {s : Stt τ} {P : Opd → Stt τ → Prop} (g : D → Option D) (e0 : List (Option Sl)) (d0 : τ)
    (h : Ev Fi s fun xs s1 => xs.length ≤ 16777216 ∧ s1.dr = d0 ∧ wipeE s1.env ws = e0 ∧ restE s1.env ws e0 = s1.env ∧
      (∀ x ∈ xs, ∀ acc, Ev (turnM G T (valM E) x acc) ⟨e0, d0⟩ fun acc' s3 => acc' = acc ++ (g x).toList ∧ wipeE s3.env ws = e0 ∧ s3.dr = d0) ∧ P (.new (xs.filterMap g)) s1) : Ev (lcM ws Fi G T E) s P := by
  refine Ev.lcv g (h.mono fun xs s1 q => ?_)
  obtain ⟨h1, rfl, rfl, h3, h4, h5⟩ := q
  exact ⟨h1, h3, h4, h5⟩
def rowT (n : Nat) (f : Nat → D) : List D := (List.range n).map f
@[simp] theorem rowT_len (n : Nat) (f : Nat → D) : (rowT n f).length = n := by unfold rowT; simp
theorem rowT_get {n i : Nat} {f : Nat → D} (h : i < n) : (rowT n f)[i]? = some (f i) := by
  unfold rowT
  rw [List.getElem?_map, List.getElem?_range h]
  rfl
theorem rowT_some {n i : Nat} {f : Nat → D} {x : D} (h : (rowT n f)[i]? = some x) : i < n ∧ x = f i := by
  have hi : i < n := by
    have := (List.getElem?_eq_some_iff.mp h).1
    simpa using this
  rw [rowT_get hi] at h
  exact ⟨hi, (Option.some.inj h).symm⟩
theorem rowT_mem {n : Nat} {f : Nat → D} {x : D} (h : x ∈ rowT n f) : ∃ i, i < n ∧ x = f i := by
  obtain ⟨i, hi, rfl⟩ := List.mem_map.mp h
  exact ⟨i, List.mem_range.mp hi, rfl⟩
theorem enumT_some {k i : Nat} {xs : List D} {x : D} (h : (enumL k xs)[i]? = some x) : ∃ y, xs[i]? = some y ∧ x = .tuple [.int ((k + i : Nat)), y] := enumL_get k xs i x h
theorem enumT_mem {xs : List D} {x : D} (h : x ∈ enumL 0 xs) : ∃ i y, xs[i]? = some y ∧ x = .tuple [.int ((i : Nat)), y] := by
  obtain ⟨i, hi⟩ := List.mem_iff_getElem?.mp h
  obtain ⟨y, h1, h2⟩ := enumT_some hi
  rw [Nat.zero_add] at h2
  exact ⟨i, y, h1, h2⟩
theorem Ev.rangeM {G : M τ (List Opd)} {lo hi : Int} {s : Stt τ} {P : List D → Stt τ → Prop} (h : DL.bnd (intsM G) (fun ds => lift (rng2 ds)) s = some ((lo, hi), s)) (ok : rgOk lo hi = true) (hp : P (rgD lo hi) s) : Ev (DL.rangeM G) s P := ⟨rgD lo hi, s, by
  rw [rangeM_s, h]
  dsimp only
  rw [if_pos ok], hp⟩
theorem Ev.tuple {F : M τ Opd} {s : Stt τ} {P : Opd → Stt τ → Prop} (h : Ev F s fun o s' => ∃ xs, o = .new xs ∧ P (.val (.tuple xs)) s') : Ev (callM tupleD (consO F nilM)) s P := by
  obtain ⟨o, s', e, xs, rfl, hp⟩ := h
  exact ⟨_, s', by simp [e], hp⟩
theorem Ev.retM {F : M τ Opd} {s : Stt τ} {P : Out → Stt τ → Prop} (h : Ev F s fun o s' => Ev (toD o) s' fun d s2 => P (.rt d) s2) : Ev (DL.retM F) s P := by
  obtain ⟨o, s', e, d, s2, e2, hp⟩ := h
  exact ⟨_, s2, by simp [e, e2], hp⟩
theorem Ev.toDv {x : D} {s : Stt τ} {P : D → Stt τ → Prop} (h : P x s) : Ev (toD (.val x)) s P := ⟨x, s, rfl, h⟩
theorem Ev.toDn {x : List D} {s : Stt τ} {P : D → Stt τ → Prop} (h : P (.list x) s) : Ev (toD (.new x)) s P := ⟨_, s, rfl, h⟩
/-! ### a def's answer -/
theorem runP2_of {np n : Nat} {F : M Unit Out} {ds : List D} {d : D} (hl : ds.length = np) (h : Ev F ⟨ds.map (fun d => some (.d d)) ++ List.replicate (n - ds.length) none, ()⟩ fun o _ => o = .rt d ∨ (o = .nx ∧ d = .none)) : runP2 np n F ds = some d := by
  obtain ⟨o, s', e, h⟩ := h
  unfold runP2 runP
  rw [if_pos hl, e]
  rcases h with rfl | ⟨rfl, rfl⟩ <;> rfl
theorem runD2_of {np n : Nat} {F : M DrawSt Out} {ds : List D} {st : DrawSt} {P : D → DrawSt → Prop} (hl : ds.length + 1 = np) (h : Ev F ⟨some .h :: (ds.map (fun d => some (.d d)) ++ List.replicate (n - (ds.length + 1)) none), st⟩ fun o s' => ∃ d, o = .rt d ∧ P d s'.dr) : ∃ d st', runD2 np n F ds st = some (d, st') ∧ P d st' := by
  obtain ⟨o, s', e, d, rfl, h⟩ := h
  refine ⟨d, s'.dr, ?_, h⟩
  unfold runD2 runD
  rw [if_pos hl, e]
theorem runP2_ex {np n : Nat} {F : M Unit Out} {ds : List D} {Q : D → Prop} (hl : ds.length = np) (h : Ev F ⟨ds.map (fun d => some (.d d)) ++ List.replicate (n - ds.length) none, ()⟩ fun o _ => ∃ d, (o = .rt d ∨ (o = .nx ∧ d = .none)) ∧ Q d) : ∃ d, runP2 np n F ds = some d ∧ Q d := by
  obtain ⟨o, s', e, d, h, q⟩ := h
  exact ⟨d, runP2_of hl ⟨o, s', e, h⟩, q⟩
end DL
end

section
set_option Elab.async false
set_option linter.all false
set_option maxRecDepth 100000
set_option maxHeartbeats 999999
open DL
open PySem (PyData Str)
namespace LW
/-! ### laboratories, as data -/
structure Wash where
  after : Nat → List Nat
  low : Int
  high : Int
structure Lab where
  n : Nat
  k : Nat
  meet : Nat → Nat → Option Nat
  washes : List Wash
  tools : Int
  arms : Int
  zones : Int
def oD : Option Nat → D
  | none => .none
  | some i => .int (i : Nat)
def nD (i : Nat) : D := .int (i : Nat)
def resD (l : List Nat) : D := .tuple (l.map nD)
def washD (n : Nat) (W : Wash) : D := .tuple [.tuple (rowT n fun s => resD (W.after s)), .int W.low, .int W.high]
def Lab.mrow (L : Lab) (s : Nat) : D := .tuple (rowT L.k fun t => oD (L.meet s t))
def Lab.meets (L : Lab) : D := .tuple (rowT L.n L.mrow)
def Lab.ws (L : Lab) : D := .tuple (L.washes.map (washD L.n))
def Lab.D (L : Lab) : DL.D := .tuple [L.meets, L.ws, .int L.tools, .int L.arms, .int L.zones]
structure WashOk (n : Nat) (W : Wash) : Prop where
  ne : ∀ s, s < n → W.after s ≠ []
  few : ∀ s, s < n → (W.after s).length ≤ 3
  up : ∀ s, s < n → (W.after s).Pairwise (· < ·)
  lt : ∀ s, s < n → ∀ r ∈ W.after s, r < n
  low : 1 ≤ W.low
  lowhi : W.low ≤ W.high
  high : W.high ≤ 6
structure LabOk (L : Lab) : Prop where
  n1 : 1 ≤ L.n
  n8 : L.n ≤ 8
  k1 : 1 ≤ L.k
  k8 : L.k ≤ 8
  meet : ∀ s t r, s < L.n → t < L.k → L.meet s t = some r → r < L.n
  meet0 : ∀ t, t < L.k → L.meet 0 t ≠ none
  few : L.washes.length ≤ 3
  wash : ∀ W ∈ L.washes, WashOk L.n W
  t1 : 1 ≤ L.tools
  t3 : L.tools ≤ 3
  a1 : 1 ≤ L.arms
  a3 : L.arms ≤ 3
  z0 : 0 ≤ L.zones
  z4 : L.zones ≤ 4
/-! ### tests of form -/
@[simp] theorem whole_i (i : Int) : m_is_whole [.int i] = some (.bool true) := by rfl
@[simp] theorem within_i (k lo hi : Int) : m_is_within [.int k, .int lo, .int hi] = some (.bool (decide (lo ≤ k) && decide (k ≤ hi))) := by
  refine runP2_of rfl (Ev.run ?_)
  by_cases h : lo ≤ k <;> simp [F_is_within, h]
@[simp] theorem tuple_of (xs : List D) (n : Int) : m_is_tuple_of [.tuple xs, .int n] = some (.bool (decide (((xs.length : Nat) : Int) = n))) := by
  refine runP2_of rfl (Ev.run ?_)
  simp [F_is_tuple_of]
@[simp] theorem tuple_to (xs : List D) (lo hi : Int) : m_is_tuple_to [.tuple xs, .int lo, .int hi] = some (.bool (decide (lo ≤ ((xs.length : Nat) : Int)) && decide (((xs.length : Nat) : Int) ≤ hi))) := by
  refine runP2_of rfl (Ev.run ?_)
  by_cases h : lo ≤ ((xs.length : Nat) : Int) <;> simp [F_is_tuple_to, h]
theorem descent_none {l : List Nat} {lim : Int} (h : l.Pairwise (· < ·)) (hl : ∀ r ∈ l, (r : Int) < lim) : m_first_descent [.tuple (l.map nD), .int lim] = some .none := by
  refine runP2_of rfl ?_
  unfold F_first_descent
  refine Ev.seqN (Ev.run ?_)
  simp
  refine Ev.seqN (Ev.loop (Ev.run ?_))
  simp
  refine Ev.for_ (fun i s => ∃ (w3 w4 : Option Sl) (last : Int), (∀ r, l[i]? = some r → last < (r : Int)) ∧ -1 ≤ last ∧ s = ⟨[some (.d (.tuple (l.map nD))), some (.d (.int lim)), some (.d (.int last)), w3, w4], ()⟩) ?_ ?_ ⟨_, _, -1, fun r _ => by omega, by omega, rfl⟩
  · rintro i x s hx ⟨w3, w4, last, h1, h2, rfl⟩
    obtain ⟨y, hy, rfl⟩ := enumT_some hx
    rw [List.getElem?_map] at hy
    obtain ⟨r, hr, rfl⟩ := Option.map_eq_some_iff.mp hy
    have a1 := h1 r hr
    have a2 := hl r (List.mem_of_getElem? hr)
    refine Ev.run ?_
    have b1 : last + 1 ≤ (r : Int) := a1
    have b2 : (r : Int) ≤ lim - 1 := by omega
    simp [nD, b1, b2]
    refine ⟨_, _, _, fun q hq => ?_, ?_, rfl, rfl, rfl⟩
    rotate_left
    · omega
    obtain ⟨g1, g2⟩ := List.getElem?_eq_some_iff.mp hr
    obtain ⟨g3, g4⟩ := List.getElem?_eq_some_iff.mp hq
    have := List.pairwise_iff_getElem.mp h i (i + 1) g1 g3 (by omega)
    rw [g2, g4] at this
    omega
  · rintro s ⟨w3, w4, last, _, _, rfl⟩
    refine ⟨rfl, Ev.run ?_⟩
    simp
theorem oD_none {o : Option Nat} : isNoneB (oD o) = o.isNone := by cases o <;> rfl
theorem meets_none {L : Lab} (h : LabOk L) : m_meets_fault [L.meets] = some .none := by
  have n1 := h.n1
  have n8 := h.n8
  have k1 := h.k1
  have k8 := h.k8
  refine runP2_of rfl ?_
  unfold F_meets_fault
  refine Ev.seqN (Ev.run ?_)
  have c1 : (1 : Int) ≤ (L.n : Nat) := by omega
  have c2 : ((L.n : Nat) : Int) ≤ 8 := by omega
  simp [Lab.meets, c1, c2]
  refine Ev.seqN (Ev.run ?_)
  simp
  refine Ev.seqN (Ev.loop (Ev.run ?_))
  simp
  refine Ev.for_ (fun i s => ∃ (w2 w3 w4 w5 : Option Sl) (st : Int), (i = 0 ∨ st = (L.k : Nat)) ∧ s = ⟨[some (.d L.meets), some (.d (.int st)), w2, w3, w4, w5], ()⟩) ?_ ?_ ⟨_, _, _, _, 0, .inl rfl, rfl⟩
  · rintro i x s hx ⟨w2, w3, w4, w5, st, hst, rfl⟩
    obtain ⟨y, hy, rfl⟩ := enumT_some hx
    obtain ⟨hi, rfl⟩ := rowT_some hy
    refine Ev.bnd (Ev.run ?_)
    simp
    have d1 : (1 : Int) ≤ (L.k : Nat) := by omega
    have d2 : ((L.k : Nat) : Int) ≤ 8 := by omega
    have e3 : ∀ j : Nat, j < L.k → L.meet i j = none → i ≠ 0 := fun j hj e z => by
      subst z
      exact h.meet0 j hj e
    have fin : ∀ (w4 w5 : Option Sl) (P : Out → Stt Unit → Prop), (∀ w4 w5, P .nx ⟨[some (.d L.meets), some (.d (.int (L.k : Nat))), some (.d (.int (i : Nat))), some (.d (.tuple (rowT L.k fun t => oD (L.meet i t)))), w4, w5], ()⟩) →
        Ev (loopM (enumM (nameM 3)) (tupG 2 (gsCons (setM 4) (gsCons (setM 5) gsNil))) (ifM (orT (andT (bnd (op2 isD (nameM 5) (ret (.val PyData.none))) boolO) (bnd (op2 eqD (nameM 2) (ret (.val (PyData.int 0)))) boolO)) (andT (bnd (op2 isNotD (nameM 5) (ret (.val PyData.none))) boolO) (notT (bnd (callP m_is_within (consD (nameM 5) (consD (ret (.val (PyData.int 0))) (consD (op2 subD (callM lenD (consO (nameM 0) nilM)) (ret (.val (PyData.int 1)))) nilM)))) boolO)))) (retM (tupM (consD (ret (.val (PyData.int 0))) (consD (nameM 2) (consD (nameM 4) nilM))))) (ret .nx)))
          (⟨[some (.d L.meets), some (.d (.int (L.k : Nat))), some (.d (.int (i : Nat))), some (.d (.tuple (rowT L.k fun t => oD (L.meet i t)))), w4, w5], ()⟩ : Stt Unit) P := by
      intro w4 w5 P hP
      refine Ev.loop (Ev.run ?_)
      simp
      refine Ev.for_ (fun j s => ∃ (w4 w5 : Option Sl), s = ⟨[some (.d L.meets), some (.d (.int (L.k : Nat))), some (.d (.int (i : Nat))), some (.d (.tuple (rowT L.k fun t => oD (L.meet i t)))), w4, w5], ()⟩) ?_ ?_ ⟨_, _, rfl⟩
      · rintro j x s hx ⟨w4, w5, rfl⟩
        obtain ⟨y, hy, rfl⟩ := enumT_some hx
        obtain ⟨hj, rfl⟩ := rowT_some hy
        refine Ev.run ?_
        cases hm : L.meet i j with
        | none =>
          have := e3 j hj hm
          simp [oD, this]
        | some r =>
          have q1 := h.meet i j r hi hj hm
          have q2 : (r : Int) ≤ (L.n : Nat) - 1 := by omega
          simp [oD, Lab.meets, q2]
      · rintro s ⟨w4, w5, rfl⟩
        exact hP w4 w5
    rcases Nat.eq_zero_or_pos i with h0 | h0
    · subst h0
      refine Ev.seqN (Ev.run ?_)
      simp [Lab.mrow, d1, d2]
      refine Ev.seqN (Ev.run ?_)
      simp
      refine Ev.seqN (Ev.run ?_)
      simp
      refine fin _ _ _ fun w4 w5 => ?_
      simp
    · have st' : st = (L.k : Nat) := hst.resolve_left (by omega)
      subst st'
      have h0' : ¬ i = 0 := by omega
      refine Ev.seqN (Ev.run ?_)
      simp [Lab.mrow, h0']
      refine Ev.seqN (Ev.run ?_)
      simp [h0']
      refine Ev.seqN (Ev.run ?_)
      simp
      refine fin _ _ _ fun w4 w5 => ?_
      simp
  · rintro s ⟨w2, w3, w4, w5, st, _, rfl⟩
    refine ⟨rfl, Ev.run ?_⟩
    simp
theorem wash_none {n : Nat} {W : Wash} (h : WashOk n W) : m_wash_fault [washD n W, .int (n : Nat)] = some .none := by
  refine runP2_of rfl ?_
  unfold F_wash_fault
  refine Ev.seqN (Ev.run ?_)
  simp [washD]
  refine Ev.seqN (Ev.run ?_)
  simp
  refine Ev.seqN (Ev.run ?_)
  simp
  refine Ev.seqN (Ev.loop (Ev.run ?_))
  simp
  refine Ev.for_ (fun i s => ∃ (w5 w6 w7 : Option Sl), s = ⟨[some (.d (washD n W)), some (.d (.int (n : Nat))), some (.d (.tuple (rowT n fun s => resD (W.after s)))), some (.d (.int W.low)), some (.d (.int W.high)), w5, w6, w7], ()⟩) ?_ ?_ ⟨_, _, _, rfl⟩
  · rintro i x s hx ⟨w5, w6, w7, rfl⟩
    obtain ⟨y, hy, rfl⟩ := enumT_some hx
    obtain ⟨hi, rfl⟩ := rowT_some hy
    refine Ev.bnd (Ev.run ?_)
    simp
    have d1 : (1 : Int) ≤ ((W.after i).length : Nat) := by
      have := List.length_pos_iff.mpr (h.ne i hi)
      omega
    have d2 : (((W.after i).length : Nat) : Int) ≤ 3 := by
      have := h.few i hi
      omega
    refine Ev.seqN (Ev.run ?_)
    simp [resD, d1, d2]
    have e := descent_none (l := W.after i) (lim := (n : Nat)) (h.up i hi) fun r hr => by
      have := h.lt i hi r hr
      omega
    refine Ev.seqN (Ev.run ?_)
    simp [e]
    refine Ev.run ?_
    simp
  · rintro s ⟨w5, w6, w7, rfl⟩
    have l1 := h.low
    have l2 := h.lowhi
    have l3 := h.high
    have l4 : W.low ≤ 6 := by omega
    refine ⟨rfl, ?_⟩
    refine Ev.seqN (Ev.run ?_)
    simp [l1, l4]
    refine Ev.seqN (Ev.run ?_)
    simp [l2, l3]
    refine Ev.run ?_
    simp
theorem lab_none {L : Lab} (h : LabOk L) : m_lab_fault [L.D] = some .none := by
  refine runP2_of rfl ?_
  unfold F_lab_fault
  refine Ev.seqN (Ev.run ?_)
  simp [Lab.D]
  refine Ev.seqN (Ev.run ?_)
  simp
  refine Ev.seqN (Ev.run ?_)
  simp [meets_none h]
  refine Ev.seqN (Ev.run ?_)
  simp
  have c2 : ((L.washes.length : Nat) : Int) ≤ 3 := by have := h.few; omega
  refine Ev.seqN (Ev.run ?_)
  simp [Lab.ws, c2]
  refine Ev.seqN (Ev.loop (Ev.run ?_))
  simp
  refine Ev.for_ (fun i s => ∃ (w7 w8 : Option Sl), s = ⟨[some (.d L.D), some (.d L.meets), some (.d L.ws), some (.d (.int L.tools)), some (.d (.int L.arms)), some (.d (.int L.zones)), some (.d .none), w7, w8], ()⟩) ?_ ?_ ⟨_, _, rfl⟩
  · rintro i x s hx ⟨w7, w8, rfl⟩
    obtain ⟨y, hy, rfl⟩ := enumT_some hx
    rw [List.getElem?_map] at hy
    obtain ⟨W, hW, rfl⟩ := Option.map_eq_some_iff.mp hy
    have e := wash_none (h.wash W (List.mem_of_getElem? hW))
    refine Ev.run ?_
    simp [Lab.meets, e]
  · rintro s ⟨w7, w8, rfl⟩
    refine ⟨rfl, ?_⟩
    refine Ev.seqN (Ev.run ?_)
    simp [h.t1, h.t3]
    refine Ev.seqN (Ev.run ?_)
    simp [h.a1, h.a3]
    refine Ev.seqN (Ev.run ?_)
    simp [h.z0, h.z4]
    refine Ev.run ?_
    simp
theorem need_lab {L : Lab} (h : LabOk L) : m_need_lab [L.D] = some L.D := by
  refine runP2_of rfl (Ev.run ?_)
  simp [F_need_lab, lab_none h]
end LW
end

section
set_option Elab.async false
set_option linter.all false
set_option maxRecDepth 100000
set_option maxHeartbeats 999999
open DL
open PySem (PyData Str)
namespace LW
/-! ### one state as good as another: a round -/
/-- as good by the table T: what worse may touch, better may; each result of better's wash is as good as one of worse's -/
def OkPair (L : Lab) (T : Nat → Nat → Bool) (b w : Nat) : Prop :=
  (∀ t e, t < L.k → L.meet w t = some e → ∃ f, L.meet b t = some f ∧ T f e = true) ∧ ∀ W ∈ L.washes, ∀ r ∈ W.after b, ∃ o ∈ W.after w, T r o = true
def trow (n : Nat) (T : Nat → Nat → Bool) (b : Nat) : List D := rowT n fun w => .bool (T b w)
def tabE (n : Nat) (T : Nat → Nat → Bool) : TabS := (List.range n).map (trow n T)
def tD (n : Nat) (T : Nat → Nat → Bool) : D := .list (rowT n fun b => .list (trow n T b))
theorem tabD_tabE (n : Nat) (T : Nat → Nat → Bool) : tabD (tabE n T) = tD n T := by
  unfold tabD tabE tD rowT
  rw [List.map_map]
  rfl
theorem getN {n i : Nat} {f : Nat → D} (h : i < n) : L2.atI (rowT n f) (i : Int) = some (f i) := by rw [atI_nat, rowT_get h]
theorem pd_row {n m : Nat} {f : Nat → D} (h : ∀ i, i < n → pd m (f i) = true) : (rowT n f).all (pd m) = true := by
  refine List.all_eq_true.mpr fun x hx => ?_
  obtain ⟨i, hi, rfl⟩ := rowT_mem hx
  exact h i hi
/-- what is read of a laboratory -/
structure In (L : Lab) (T : Nat → Nat → Bool) (b w : Nat) : Prop where
  ok : LabOk L
  b : b < L.n
  w : w < L.n
def stuffsOf (L : Lab) (w : Nat) : List Nat := (List.range L.k).filter fun t => (L.meet w t).isSome
def gSt : D → Option D
  | .tuple [.int i, .none] => none
  | .tuple [.int i, _] => some (.int i)
  | _ => none
theorem stuffs_eq (L : Lab) (w : Nat) : (enumL 0 (rowT L.k fun t => oD (L.meet w t))).filterMap gSt = (stuffsOf L w).map nD := by
  unfold rowT
  rw [enumL_map, stuffsOf, List.filterMap_map]
  have key : ∀ (m k : Nat), ((List.range' k m).zipIdx k).filterMap (gSt ∘ fun p => PyData.tuple [.int (p.2 : Nat), oD (L.meet w p.1)]) = ((List.range' k m).filter fun t => (L.meet w t).isSome).map nD := by
    intro m
    induction m with
    | zero => intro k; rfl
    | succ m ih =>
      intro k
      rw [List.range'_succ, List.zipIdx_cons, List.filterMap_cons, List.filter_cons, ih (k + 1)]
      cases hm : L.meet w k <;> simp [gSt, oD, hm, nD]
  have := key L.k 0
  rw [List.range_eq_range']
  exact this
theorem mem_stuffs {L : Lab} {w t : Nat} : t ∈ stuffsOf L w ↔ t < L.k ∧ ∃ e, L.meet w t = some e := by
  unfold stuffsOf
  rw [List.mem_filter, List.mem_range, Option.isSome_iff_exists]
theorem ok1 : PyData.strOk "stuff" = true := by decide +kernel
theorem ok2 : PyData.strOk "touch" = true := by decide +kernel
theorem ok3 : PyData.strOk "wash" = true := by decide +kernel
def gT (p : Nat → Bool) : D → Option D
  | .int o => if p o.toNat then some (.int o) else none
  | _ => none
theorem gT_map (p : Nat → Bool) : ∀ l : List Nat, (l.map nD).filterMap (gT p) = (l.filter p).map nD
  | [] => rfl
  | o :: l => by
    rw [List.map_cons, List.filterMap_cons, List.filter_cons, gT_map p l]
    cases h : p o <;> simp [gT, nD, h]
theorem pd_nats (l : List Nat) : pd 1 (.list (l.map nD)) = true := by
  show (l.map nD).all (pd 0) = true
  refine List.all_eq_true.mpr fun x hx => ?_
  obtain ⟨i, _, rfl⟩ := List.mem_map.mp hx
  rfl
def PR (L : Lab) (T : Nat → Nat → Bool) (b w : Nat) : Out → Stt Unit → Prop := fun o _ => ∃ d, (o = .rt d ∨ (o = .nx ∧ d = .none)) ∧ (nolst d = true ∧ pd 1 d = true) ∧ (isNoneB d = true ↔ OkPair L T b w)
def envR (L : Lab) (T : Nat → Nat → Bool) (b w : Nat) (w7 w9 w10 w11 : Option Sl) : Stt Unit :=
  ⟨[some (.d L.D), some (.d (tD L.n T)), some (.d (.int (b : Nat))), some (.d (.int (w : Nat))), some (.d L.meets), some (.d L.ws), some (.d (.list ((stuffsOf L w).map nD))), w7, none, w9, w10, w11, none], ()⟩
def JW (L : Lab) (T : Nat → Nat → Bool) (b w : Nat) (i : Nat) (s : Stt Unit) : Prop := ∃ w7 w9 w10 w11, s = envR L T b w w7 w9 w10 w11 ∧ ∀ j W, j < i → L.washes[j]? = some W → ∀ r ∈ W.after b, ∃ o ∈ W.after w, T r o = true
def JI (L : Lab) (T : Nat → Nat → Bool) (b w : Nat) (w7 : Option Sl) (i : Nat) (W : Wash) (j : Nat) (s : Stt Unit) : Prop := ∃ w11, s = envR L T b w w7 (some (.d (.int (i : Nat)))) (some (.d (washD L.n W))) w11 ∧ ∀ j' r, j' < j → (W.after b)[j']? = some r → ∃ o ∈ W.after w, T r o = true
theorem nats_nil (l : List Nat) : eqD (.list (l.map nD)) (.list []) = some (.val (.bool l.isEmpty)) := by
  rw [eqD_nil (shaped_pd (pd_nats l))]
  cases l <;> rfl
theorem reason_ok {L : Lab} {T : Nat → Nat → Bool} {b w : Nat} (I : In L T b w) : ∃ d, m_first_reason [L.D, tD L.n T, .int (b : Nat), .int (w : Nat)] = some d ∧ (nolst d = true ∧ pd 1 d = true) ∧ (isNoneB d = true ↔ OkPair L T b w) := by
  obtain ⟨ok, hb, hw⟩ := I
  have k8 := ok.k8
  refine runP2_ex rfl ?_
  unfold F_first_reason
  refine Ev.seqN (Ev.run ?_)
  simp [Lab.D]
  -- the stuffs that worse may touch
  refine Ev.seqN (Ev.asg (Ev.lcv gSt (Ev.run ?_)))
  simp [Lab.meets, getN hw, Lab.mrow]
  refine ⟨by rw [enumL_len, rowT_len]; omega, ?_, ?_⟩
  · intro x hx acc
    obtain ⟨i, y, hy, rfl⟩ := enumT_mem hx
    obtain ⟨hi, rfl⟩ := rowT_some hy
    refine Ev.run ?_
    cases hm : L.meet w i <;> simp [oD, gSt]
  rw [stuffs_eq]
  refine Ev.run ?_
  simp
  -- stuff
  refine Ev.seq (Ev.loop (Ev.run ?_))
  simp
  show Ev _ (envR L T b w none none none none) _
  refine Ev.for_ (fun i s => ∃ w7, s = envR L T b w w7 none none none ∧ ∀ j t, j < i → (stuffsOf L w)[j]? = some t → L.meet b t ≠ none) ?_ ?_ ⟨_, rfl, fun j t h => by omega⟩
  · rintro i x s hx ⟨w7, rfl, h1⟩
    rw [List.getElem?_map] at hx
    obtain ⟨t, ht, rfl⟩ := Option.map_eq_some_iff.mp hx
    obtain ⟨ht1, e, ht2⟩ := mem_stuffs.mp (List.mem_of_getElem? ht)
    refine Ev.run ?_
    cases hm : L.meet b t with
    | none =>
      simp [envR, nD, Lab.meets, Lab.mrow, getN hb, getN ht1, hm, oD, nolst, nolstA, pd, ok1, ok2, ok3]
      rintro ⟨q, _⟩
      obtain ⟨f, q1, _⟩ := q t e ht1 ht2
      rw [hm] at q1
      cases q1
    | some f =>
      simp [envR, nD, Lab.meets, Lab.mrow, getN hb, getN ht1, hm, oD]
      intro j t' hj ht'
      by_cases hji : j < i
      · exact h1 j t' hji ht'
      · have : j = i := by omega
        subst this
        rw [ht] at ht'
        cases ht'
        rw [hm]
        exact fun z => nomatch z
  rintro s ⟨w7, rfl, h1⟩
  have hA : ∀ t, t ∈ stuffsOf L w → L.meet b t ≠ none := fun t m => by
    obtain ⟨j, hj⟩ := List.mem_iff_getElem?.mp m
    refine h1 j t ?_ hj
    have := (List.getElem?_eq_some_iff.mp hj).1
    simpa using this
  rw [thenP_nx]
  -- touch
  refine Ev.seq (Ev.loop (Ev.run ?_))
  simp [envR]
  show Ev _ (envR L T b w w7 none none none) _
  refine Ev.for_ (fun i s => ∃ w7, s = envR L T b w w7 none none none ∧ ∀ j t e f, j < i → (stuffsOf L w)[j]? = some t → L.meet w t = some e → L.meet b t = some f → T f e = true) ?_ ?_ ⟨_, rfl, fun j t _ _ h => by omega⟩
  · rintro i x s hx ⟨w7, rfl, h1⟩
    rw [List.getElem?_map] at hx
    obtain ⟨t, ht, rfl⟩ := Option.map_eq_some_iff.mp hx
    obtain ⟨ht1, e, ht2⟩ := mem_stuffs.mp (List.mem_of_getElem? ht)
    obtain ⟨f, hf⟩ := Option.ne_none_iff_exists'.mp (hA t (List.mem_of_getElem? ht))
    have fn := ok.meet b t f hb ht1 hf
    have en := ok.meet w t e hw ht1 ht2
    refine Ev.run ?_
    cases hT : T f e with
    | false =>
      simp [envR, nD, Lab.meets, Lab.mrow, tD, trow, getN hb, getN hw, getN ht1, getN fn, getN en, hf, ht2, oD, hT, nolst, nolstA, pd, ok1, ok2, ok3]
      rintro ⟨q, _⟩
      obtain ⟨f', q1, q2⟩ := q t e ht1 ht2
      rw [hf] at q1
      cases q1
      rw [hT] at q2
      cases q2
    | true =>
      simp [envR, nD, Lab.meets, Lab.mrow, tD, trow, getN hb, getN hw, getN ht1, getN fn, getN en, hf, ht2, oD, hT]
      intro j t' e' f' hj ht' he' hf'
      by_cases hji : j < i
      · exact h1 j t' e' f' hji ht' he' hf'
      · have : j = i := by omega
        subst this
        rw [ht] at ht'
        cases ht'
        rw [ht2] at he'
        rw [hf] at hf'
        cases he'
        cases hf'
        exact hT
  rintro s ⟨w7, rfl, h2⟩
  have hB : ∀ t e, t < L.k → L.meet w t = some e → ∃ f, L.meet b t = some f ∧ T f e = true := fun t e ht he => by
    have m : t ∈ stuffsOf L w := mem_stuffs.mpr ⟨ht, e, he⟩
    obtain ⟨f, hf⟩ := Option.ne_none_iff_exists'.mp (hA t m)
    obtain ⟨j, hj⟩ := List.mem_iff_getElem?.mp m
    refine ⟨f, hf, h2 j t e f ?_ hj he hf⟩
    have := (List.getElem?_eq_some_iff.mp hj).1
    simpa using this
  rw [thenP_nx]
  -- wash
  refine Ev.seq (Ev.loop (Ev.run ?_))
  simp [envR, Lab.ws]
  show Ev _ (envR L T b w w7 none none none) _
  refine Ev.for_ (JW L T b w) ?_ ?_ ⟨_, _, _, _, rfl, fun j W h => by omega⟩
  · rintro i x s hx ⟨w7, w9, w10, w11, rfl, h3⟩
    obtain ⟨y, hy, rfl⟩ := enumT_some hx
    rw [List.getElem?_map] at hy
    obtain ⟨W, hW, rfl⟩ := Option.map_eq_some_iff.mp hy
    have wok := ok.wash W (List.mem_of_getElem? hW)
    refine Ev.bnd (Ev.run ?_)
    simp [envR]
    refine Ev.loop (Ev.run ?_)
    simp [washD, getN hb, resD]
    show Ev _ (envR L T b w w7 (some (.d (.int (i : Nat)))) (some (.d (washD L.n W))) w11) _
    refine Ev.for_ (JI L T b w w7 i W) ?_ ?_ ⟨_, rfl, fun j t h => by omega⟩
    · rintro j x s hx ⟨w11, rfl, h4⟩
      rw [List.getElem?_map] at hx
      obtain ⟨r, hr, rfl⟩ := Option.map_eq_some_iff.mp hx
      have rn := wok.lt b hb r (List.mem_of_getElem? hr)
      refine Ev.bnd (Ev.run ?_)
      simp [envR, nD]
      generalize hF : lcM [12] _ _ _ _ = F
      have e : F (envR L T b w w7 (some (.d (.int (i : Nat)))) (some (.d (washD L.n W))) (some (.d (.int (r : Nat))))) = some (.new (((W.after w).filter fun o => T r o).map nD), envR L T b w w7 (some (.d (.int (i : Nat)))) (some (.d (washD L.n W))) (some (.d (.int (r : Nat))))) := by
        subst hF
        rw [← gT_map]
        refine lc_eq (s1 := envR L T b w w7 (some (.d (.int (i : Nat)))) (some (.d (washD L.n W))) (some (.d (.int (r : Nat))))) (xs := (W.after w).map nD) (gT fun o => T r o) ?_ ?_ ?_ ?_
        · simp [envR, washD, getN hw, resD]
        · have := wok.few w hw
          rw [List.length_map]
          omega
        · simp [envR]
        · intro x hx acc
          obtain ⟨o, ho, rfl⟩ := List.mem_map.mp hx
          have on := wok.lt w hw o ho
          refine Ev.run ?_
          cases hT : T r o <;> simp [envR, nD, tD, trow, getN rn, getN on, hT, gT]
      simp only [envR] at e
      refine Ev.run ?_
      cases hq : ((W.after w).filter fun o => T r o).isEmpty with
      | true =>
        simp [e, nats_nil, hq, nolst, nolstA, pd, ok1, ok2, ok3]
        rintro ⟨_, q⟩
        obtain ⟨o, ho, hT⟩ := q W (List.mem_of_getElem? hW) r (List.mem_of_getElem? hr)
        have : o ∈ (W.after w).filter fun o => T r o := List.mem_filter.mpr ⟨ho, hT⟩
        rw [List.isEmpty_iff.mp hq] at this
        cases this
      | false =>
        simp [e, nats_nil, hq]
        refine ⟨_, rfl, fun j' r' hj' hr' => ?_⟩
        by_cases hjj : j' < j
        · exact h4 j' r' hjj hr'
        · have : j' = j := by omega
          subst this
          rw [hr] at hr'
          cases hr'
          cases hz : ((W.after w).filter fun o => T r o) with
          | nil => rw [hz] at hq; cases hq
          | cons o os =>
            have m : o ∈ (W.after w).filter fun o => T r o := by rw [hz]; exact List.mem_cons_self
            obtain ⟨m1, m2⟩ := List.mem_filter.mp m
            exact ⟨o, m1, m2⟩
    · rintro s ⟨w11, rfl, h4⟩
      rw [turnP_nx]
      refine ⟨_, _, _, _, rfl, fun j W' hj hW' r hr => ?_⟩
      by_cases hji : j < i
      · exact h3 j W' hji hW' r hr
      · have : j = i := by omega
        subst this
        rw [hW] at hW'
        cases hW'
        obtain ⟨j', hj'⟩ := List.mem_iff_getElem?.mp hr
        refine h4 j' r ?_ hj'
        have := (List.getElem?_eq_some_iff.mp hj').1
        simpa using this
  · rintro s ⟨w7, w9, w10, w11, rfl, h3⟩
    rw [thenP_nx]
    refine Ev.run ?_
    simp
    refine ⟨⟨rfl, rfl⟩, hB, fun W hW r hr => ?_⟩
    obtain ⟨j', hj'⟩ := List.mem_iff_getElem?.mp hW
    refine h3 j' W ?_ hj' r hr
    have := (List.getElem?_eq_some_iff.mp hj').1
    simpa [enumL_len] using this
end LW
end

section
set_option Elab.async false
set_option linter.all false
set_option maxRecDepth 100000
set_option maxHeartbeats 999999
open DL
open PySem (PyData Str)
namespace LW
/-! ### rounds -/
open Classical in
noncomputable def stepT (L : Lab) (T : Nat → Nat → Bool) : Nat → Nat → Bool := fun b w => T b w && decide (b = w ∨ OkPair L T b w)
noncomputable def roundT (L : Lab) : Nat → Nat → Nat → Bool
  | 0 => fun _ _ => true
  | m + 1 => stepT L (roundT L m)
def Bad (L : Lab) (T : Nat → Nat → Bool) (b w : Nat) : Prop := T b w = true ∧ b ≠ w ∧ ¬ OkPair L T b w
open Classical in
theorem step_eq {L : Lab} {T : Nat → Nat → Bool} {b w : Nat} : stepT L T b w = true ↔ T b w = true ∧ ¬ Bad L T b w := by
  unfold stepT Bad
  rw [Bool.and_eq_true, decide_eq_true_eq]
  constructor
  · rintro ⟨h, q⟩
    exact ⟨h, fun z => q.elim z.2.1 z.2.2⟩
  · rintro ⟨h, q⟩
    refine ⟨h, ?_⟩
    by_cases e : b = w
    · exact .inl e
    · exact .inr (Classical.byContradiction fun z => q ⟨h, e, z⟩)
def Same2 (n : Nat) (T U : Nat → Nat → Bool) : Prop := ∀ b w, b < n → w < n → T b w = U b w
theorem trow_congr {n b : Nat} {T U : Nat → Nat → Bool} (h : ∀ w, w < n → T b w = U b w) : trow n T b = trow n U b := by
  unfold trow rowT
  exact List.map_congr_left fun w hw => by rw [h w (List.mem_range.mp hw)]
theorem tabE_congr {n : Nat} {T U : Nat → Nat → Bool} (h : Same2 n T U) : tabE n T = tabE n U := by
  unfold tabE
  exact List.map_congr_left fun b hb => trow_congr fun w hw => h b w (List.mem_range.mp hb) hw
theorem okPair_congr {L : Lab} (ok : LabOk L) {T U : Nat → Nat → Bool} (h : Same2 L.n T U) {b w : Nat} (hb : b < L.n) (hw : w < L.n) (o : OkPair L T b w) : OkPair L U b w := by
  refine ⟨fun t e ht he => ?_, fun W hW r hr => ?_⟩
  · obtain ⟨f, h1, h2⟩ := o.1 t e ht he
    exact ⟨f, h1, by rw [← h f e (ok.meet b t f hb ht h1) (ok.meet w t e hw ht he)]; exact h2⟩
  · obtain ⟨q, h1, h2⟩ := o.2 W hW r hr
    exact ⟨q, h1, by rw [← h r q ((ok.wash W hW).lt b hb r hr) ((ok.wash W hW).lt w hw q h1)]; exact h2⟩
theorem Same2.symm {n : Nat} {T U : Nat → Nat → Bool} (h : Same2 n T U) : Same2 n U T := fun b w hb hw => (h b w hb hw).symm
open Classical in
theorem step_congr {L : Lab} (ok : LabOk L) {T U : Nat → Nat → Bool} (h : Same2 L.n T U) : Same2 L.n (stepT L T) (stepT L U) := fun b w hb hw => by
  unfold stepT
  rw [h b w hb hw]
  congr 1
  have : (b = w ∨ OkPair L T b w) ↔ (b = w ∨ OkPair L U b w) := ⟨fun o => o.imp id (okPair_congr ok h hb hw), fun o => o.imp id (okPair_congr ok h.symm hb hw)⟩
  exact decide_eq_decide.mpr this
/-- from a round that changes nothing on, nothing changes -/
theorem round_stop {L : Lab} (ok : LabOk L) {m : Nat} (h : Same2 L.n (roundT L (m + 1)) (roundT L m)) : ∀ k, Same2 L.n (roundT L (m + k)) (roundT L m)
  | 0 => fun _ _ _ _ => rfl
  | k + 1 => fun b w hb hw => (step_congr ok (round_stop ok h k) b w hb hw).trans (h b w hb hw)
theorem no_bad {L : Lab} {m : Nat} (h : ∀ b w, b < L.n → w < L.n → ¬ Bad L (roundT L m) b w) : Same2 L.n (roundT L (m + 1)) (roundT L m) := fun b w hb hw => by
  show stepT L (roundT L m) b w = roundT L m b w
  cases hT : roundT L m b w with
  | true => exact step_eq.mpr ⟨hT, h b w hb hw⟩
  | false =>
    unfold stepT
    rw [hT]
    rfl
/-- what both come to -/
noncomputable def gT_ (L : Lab) : Nat → Nat → Bool := roundT L (L.n * L.n)
/-! ### the rows of a round -/
structure FrX (L : Lab) (T : Nat → Nat → Bool) (lv : Int) (x : D) (b w : Nat) : Prop where
  hb : b < L.n
  hw : w < L.n
  bad : Bad L T b w
  is : ∃ d, x = .tuple [.int (b : Nat), .int (w : Nat), .int lv, d] ∧ pd 1 d = true
structure FrI (L : Lab) (T : Nat → Nat → Bool) (lv : Int) (S : Nat → Nat → Prop) (fr : List D) (c : Nat) : Prop where
  all : ∀ x ∈ fr, ∃ b w, FrX L T lv x b w
  has : ∀ b w, b < L.n → w < L.n → S b w → Bad L T b w → ∃ x ∈ fr, FrX L T lv x b w
  len : fr.length ≤ c
theorem FrI.pd {L : Lab} {T : Nat → Nat → Bool} {lv : Int} {S : Nat → Nat → Prop} {fr : List D} {c : Nat} (h : FrI L T lv S fr c) : DL.pd 3 (.list fr) = true := by
  show fr.all (DL.pd 2) = true
  refine List.all_eq_true.mpr fun x hx => ?_
  obtain ⟨b, w, q⟩ := h.all x hx
  obtain ⟨d, rfl, hd⟩ := q.is
  simp [DL.pd, hd]
def envF (L : Lab) (rows : List D) (w6 w7 w8 w9 w10 w11 : Option Sl) (T : Nat → Nat → Bool) : Stt TabS :=
  ⟨[some (.d L.D), some (.r 0 (L.n : Nat)), some .h, none, none, some (.own rows), w6, w7, w8, w9, w10, w11], tabE L.n T⟩
def JO (L : Lab) (T : Nat → Nat → Bool) (lv : Int) (rows : List D) (w11 : Option Sl) (i : Nat) (s : Stt TabS) : Prop :=
  ∃ w8 w9 w10 fr, s = envF L rows (some (.d (.int lv))) (some (.own fr)) w8 w9 w10 w11 T ∧ FrI L T lv (fun b _ => b < i) fr (i * L.n)
def JN (L : Lab) (T : Nat → Nat → Bool) (lv : Int) (rows : List D) (w11 : Option Sl) (b : Nat) (j : Nat) (s : Stt TabS) : Prop :=
  ∃ w9 w10 fr, s = envF L rows (some (.d (.int lv))) (some (.own fr)) (some (.d (.int (b : Nat)))) w9 w10 w11 T ∧ FrI L T lv (fun b' w => b' < b ∨ (b' = b ∧ w < j)) fr (b * L.n + j)
theorem getTab {n i : Nat} {T : Nat → Nat → Bool} (h : i < n) : L2.atI (tabE n T) (i : Int) = some (trow n T i) := by
  rw [atI_nat]
  unfold tabE
  rw [List.getElem?_map, List.getElem?_range h]
  rfl
theorem rgN_len (n : Nat) : (rgN n).length = n := by unfold rgN; simp
theorem rgN_some {n i : Nat} {x : D} (h : (rgN n)[i]? = some x) : i < n ∧ x = .int (i : Nat) := rowT_some (f := fun i => .int (i : Nat)) h
theorem pair_ok {L : Lab} {T : Nat → Nat → Bool} {lv : Int} {rows : List D} {w11 : Option Sl} (ok : LabOk L) {b w : Nat} (hb : b < L.n) (hw : w < L.n) {s : Stt TabS} {P : Out → Stt TabS → Prop} (h : JN L T lv rows w11 b w s) (hP : ∀ s', JN L T lv rows w11 b (w + 1) s' → P .nx s') :
    Ev (DL.bnd ((setM 9 : D → M TabS Unit) (.int (w : Nat))) fun _ => seqM (asgM 10 (iteM (andT (bnd (tabIx 2 (nameM 8) (nameM 9)) boolO) (bnd (op2 neD (nameM 8) (nameM 9)) boolO)) (callT m_first_reason (consB (nameM 0) (consHd 2 (consB (nameM 8) (consB (nameM 9) nilM))))) (ret (.val PyData.none))))
      (ifM (bnd (op2 isNotD (nameM 10) (ret (.val PyData.none))) boolO) (bnd (ownAt 7) fun _ => appM 7 (tupM (consD (nameM 8) (consD (nameM 9) (consD (nameM 6) (consD (nameM 10) nilM)))))) (ret .nx))) s P := by
  obtain ⟨w9, w10, fr, rfl, F⟩ := h
  have n8 := ok.n8
  have hlen : fr.length < 16777216 := by
    have := F.len
    have : b * L.n ≤ 8 * 8 := Nat.mul_le_mul (by omega) n8
    omega
  -- nothing is added
  have skip : ∀ w10', ¬ Bad L T b w → P .nx (envF L rows (some (.d (.int lv))) (some (.own fr)) (some (.d (.int (b : Nat)))) (some (.d (.int (w : Nat)))) w10' w11 T) := fun w10' nb => by
    refine hP _ ⟨_, _, fr, rfl, F.all, fun b' w' hb' hw' hS hB => ?_, by have := F.len; omega⟩
    rcases hS with q | ⟨rfl, q⟩
    · exact F.has b' w' hb' hw' (.inl q) hB
    · by_cases e : w' = w
      · subst e; exact absurd hB nb
      · exact F.has b' w' hb' hw' (.inr ⟨rfl, by omega⟩) hB
  refine Ev.bnd (Ev.run ?_)
  simp [envF]
  refine Ev.seqN (Ev.run ?_)
  cases hT : T b w with
  | false =>
    simp [getTab hb, trow, rowT_get hw, hT]
    refine Ev.run ?_
    simp
    exact skip _ fun q => by rw [q.1] at hT; cases hT
  | true =>
    by_cases e : b = w
    · subst e
      simp [getTab hb, trow, rowT_get hw, hT]
      refine Ev.run ?_
      simp
      exact skip _ fun q => q.2.1 rfl
    · obtain ⟨d, e1, ⟨e2, e3⟩, e4⟩ := reason_ok (T := T) ⟨ok, hb, hw⟩
      have ne : ¬ ((b : Int) = (w : Int)) := by omega
      simp [getTab hb, trow, rowT_get hw, hT, ne, e, tabD_tabE, e1, e2]
      refine Ev.run ?_
      cases hd : isNoneB d with
      | true =>
        simp [hd]
        exact skip _ fun q => q.2.2 (e4.mp hd)
      | false =>
        simp [hd, hlen]
        have bad : Bad L T b w := ⟨hT, e, fun o => by rw [e4.mpr o] at hd; cases hd⟩
        have X : FrX L T lv (.tuple [.int (b : Nat), .int (w : Nat), .int lv, d]) b w := ⟨hb, hw, bad, d, rfl, e3⟩
        refine hP _ ⟨_, _, _, rfl, fun x hx => ?_, fun b' w' hb' hw' hS hB => ?_, ?_⟩
        · rcases List.mem_append.mp hx with m | m
          · exact F.all x m
          · have : x = .tuple [.int (b : Nat), .int (w : Nat), .int lv, d] := by simpa using m
            subst this
            exact ⟨b, w, X⟩
        · by_cases q : b' = b ∧ w' = w
          · obtain ⟨rfl, rfl⟩ := q
            exact ⟨_, List.mem_append_right _ (by simp), X⟩
          · obtain ⟨x, hx, hx2⟩ := F.has b' w' hb' hw' (by
              rcases hS with z | ⟨z1, z2⟩
              · exact .inl z
              · exact .inr ⟨z1, by
                  by_cases e : w' = w
                  · exact absurd ⟨z1, e⟩ q
                  · omega⟩) hB
            exact ⟨x, List.mem_append_left _ hx, hx2⟩
        · have := F.len
          rw [List.length_append]
          show _ + 1 ≤ _
          omega
end LW
end

section
set_option Elab.async false
set_option linter.all false
set_option maxRecDepth 100000
set_option maxHeartbeats 999999
open DL
open PySem (PyData Str)
namespace LW
/-! ### falls -/
theorem trow_set {n b w : Nat} {U : Nat → Nat → Bool} : (trow n U b).set w (.bool false) = rowT n fun v => .bool (U b v && !(decide (v = w))) := by
  apply List.ext_getElem?
  intro i
  by_cases hi : i < n
  · rw [rowT_get hi]
    by_cases e : w = i
    · subst e
      rw [List.getElem?_set_self (by unfold trow; rw [rowT_len]; exact hi)]
      simp
    · rw [List.getElem?_set_ne e]
      unfold trow
      rw [rowT_get hi]
      have : ¬ i = w := fun z => e z.symm
      simp [this]
  · rw [List.getElem?_eq_none (by rw [List.length_set]; unfold trow; rw [rowT_len]; omega), List.getElem?_eq_none (by rw [rowT_len]; omega)]
theorem tab_get {n i : Nat} {T : Nat → Nat → Bool} (h : i < n) : (tabE n T)[i]? = some (trow n T i) := by
  rw [← atI_nat, getTab h]
theorem tabE_len (n : Nat) (T : Nat → Nat → Bool) : (tabE n T).length = n := by unfold tabE; simp
theorem tab_at {n i : Nat} {T : Nat → Nat → Bool} (h : i < (tabE n T).length) : (tabE n T)[i] = trow n T i := by
  have := tab_get (T := T) (show i < n by rw [tabE_len] at h; exact h)
  rw [List.getElem?_eq_getElem h] at this
  exact Option.some.inj this
theorem trow_len (n : Nat) (T : Nat → Nat → Bool) (b : Nat) : (trow n T b).length = n := by unfold trow; rw [rowT_len]
def cutT (U : Nat → Nat → Bool) (b0 w0 : Nat) : Nat → Nat → Bool := fun b w => U b w && !(decide (b = b0) && decide (w = w0))
theorem tab_set {n b0 w0 : Nat} {U : Nat → Nat → Bool} : (tabE n U).set b0 ((trow n U b0).set w0 (.bool false)) = tabE n (cutT U b0 w0) := by
  apply List.ext_getElem?
  intro i
  by_cases hi : i < n
  · rw [tab_get hi]
    by_cases e : b0 = i
    · subst e
      rw [List.getElem?_set_self (by rw [tabE_len]; exact hi), trow_set]
      unfold trow cutT
      simp
    · rw [List.getElem?_set_ne e, tab_get hi]
      have : ¬ i = b0 := fun z => e z.symm
      unfold trow cutT
      simp [this]
  · rw [List.getElem?_eq_none (by rw [List.length_set, tabE_len]; omega), List.getElem?_eq_none (by rw [tabE_len]; omega)]
theorem frx_eq {L : Lab} {T : Nat → Nat → Bool} {lv : Int} {x : D} {b w b' w' : Nat} (h : FrX L T lv x b w) (h' : FrX L T lv x b' w') : b' = b ∧ w' = w := by
  obtain ⟨d, rfl, _⟩ := h.is
  obtain ⟨d', e, _⟩ := h'.is
  simp at e
  omega
structure CutI (L : Lab) (T U : Nat → Nat → Bool) (lv : Int) (fr : List D) : Prop where
  iff : ∀ b w, b < L.n → w < L.n → (U b w = true ↔ T b w = true ∧ ¬ ∃ x ∈ fr, FrX L T lv x b w)
def envS (L : Lab) (rows fr : List D) (w6 w8 w9 w10 w11 : Option Sl) (T : Nat → Nat → Bool) : Stt TabS :=
  ⟨[some (.d L.D), some (.r 0 (L.n : Nat)), some .h, none, none, some (.own rows), w6, some (.d (.list fr)), w8, w9, w10, w11], tabE L.n T⟩
def JS (L : Lab) (T : Nat → Nat → Bool) (lv : Int) (rows fr : List D) (w6 w8 w9 w10 : Option Sl) (j : Nat) (s : Stt TabS) : Prop :=
  ∃ w11 U, s = envS L rows fr w6 w8 w9 w10 w11 U ∧ CutI L T U lv (fr.take j)
theorem cut_ok {L : Lab} {T : Nat → Nat → Bool} {lv : Int} {rows fr : List D} {S : Nat → Nat → Prop} {c : Nat} (F : FrI L T lv S fr c) (hS : ∀ b w, b < L.n → w < L.n → S b w) {w6 w8 w9 w10 w11 : Option Sl} {P : Out → Stt TabS → Prop}
    (hP : ∀ w11, P .nx (envS L rows fr w6 w8 w9 w10 w11 (stepT L T))) :
    Ev (forM (setM 11) (tabSet 2 (ret (.val (PyData.bool false))) (op2 ixD (nameM 11) (ret (.val (PyData.int 0)))) (op2 ixD (nameM 11) (ret (.val (PyData.int 1))))) fr) (envS L rows fr w6 w8 w9 w10 w11 T) P := by
  refine Ev.for_ (JS L T lv rows fr w6 w8 w9 w10) ?_ ?_ ⟨_, T, rfl, ⟨fun b w _ _ => ⟨fun h => ⟨h, fun ⟨x, hx, _⟩ => by simp at hx⟩, fun h => h.1⟩⟩⟩
  · rintro j x s hx ⟨w11, U, rfl, C⟩
    obtain ⟨b0, w0, X⟩ := F.all x (List.mem_of_getElem? hx)
    obtain ⟨d, rfl, _⟩ := X.is
    refine Ev.run ?_
    have t1 := tab_get (T := U) X.hb
    have t2 : (trow L.n U b0)[w0]? = some (.bool (U b0 w0)) := by
      unfold trow
      rw [rowT_get X.hw]
    have t3 : (trow L.n U b0).length = L.n := by unfold trow; rw [rowT_len]
    simp [envS, t1, plainD, tabPut, tabE_len, trow_len, tab_at, ixN_nat, X.hb, X.hw, tab_set]
    refine ⟨_, cutT U b0 w0, rfl, ⟨fun b w hb hw => ?_⟩⟩
    have tk : fr.take (j + 1) = fr.take j ++ [.tuple [.int (b0 : Nat), .int (w0 : Nat), .int lv, d]] := by
      rw [List.take_succ, hx]
      rfl
    rw [tk]
    unfold cutT
    rw [Bool.and_eq_true, C.iff b w hb hw]
    constructor
    · rintro ⟨⟨h1, h2⟩, h3⟩
      refine ⟨h1, ?_⟩
      rintro ⟨y, hy, Y⟩
      rcases List.mem_append.mp hy with m | m
      · exact h2 ⟨y, m, Y⟩
      · have : y = .tuple [.int (b0 : Nat), .int (w0 : Nat), .int lv, d] := by simpa using m
        subst this
        obtain ⟨rfl, rfl⟩ := frx_eq X Y
        simp at h3
    · rintro ⟨h1, h2⟩
      refine ⟨⟨h1, fun ⟨y, hy, Y⟩ => h2 ⟨y, List.mem_append_left _ hy, Y⟩⟩, ?_⟩
      by_cases e : b = b0 ∧ w = w0
      · obtain ⟨rfl, rfl⟩ := e
        exact absurd ⟨_, List.mem_append_right _ (by simp), X⟩ h2
      · have : (decide (b = b0) && decide (w = w0)) = false := by
          cases q : (decide (b = b0) && decide (w = w0)) with
          | false => rfl
          | true =>
            rw [Bool.and_eq_true, decide_eq_true_eq, decide_eq_true_eq] at q
            exact absurd q e
        rw [this]
        rfl
  · rintro s ⟨w11, U, rfl, C⟩
    have e : tabE L.n U = tabE L.n (stepT L T) := by
      refine tabE_congr fun b w hb hw => ?_
      have h1 := C.iff b w hb hw
      rw [List.take_length] at h1
      have h2 : U b w = true ↔ stepT L T b w = true := by
        rw [h1, step_eq]
        constructor
        · rintro ⟨q1, q2⟩
          exact ⟨q1, fun B => q2 (F.has b w hb hw (hS b w hb hw) B)⟩
        · rintro ⟨q1, q2⟩
          refine ⟨q1, ?_⟩
          rintro ⟨x, _, X⟩
          exact q2 X.bad
      cases h3 : U b w <;> cases h4 : stepT L T b w <;> simp_all
    unfold envS
    rw [e]
    exact hP w11
def JL (L : Lab) (i : Nat) (s : Stt TabS) : Prop := ∃ rows w6 w7 w8 w9 w10 w11, s = envF L rows w6 w7 w8 w9 w10 w11 (roundT L i) ∧ rows.length ≤ 64 * i
theorem level_ok {L : Lab} (ok : LabOk L) {i : Nat} (hi : i < L.n * L.n) (nn : L.n * L.n ≤ 8 * 8) (g2 : rgOk 0 (L.n : Nat) = true) {rows : List D} {w6 w7 w8 w9 w10 w11 : Option Sl} (hrows : rows.length ≤ 64 * i) :
    Ev (DL.bnd ((setM 6 : D → M TabS Unit) (.int (1 + (i : Nat)))) fun _ => (seqM (asgM 7 (lstM nilM)) (seqM (loopM (rngAt 1) (setM 8) (loopM (rngAt 1) (setM 9) (seqM (asgM 10 (iteM (andT (bnd (tabIx 2 (nameM 8) (nameM 9)) boolO) (bnd (op2 neD (nameM 8) (nameM 9)) boolO)) (callT m_first_reason (consB (nameM 0) (consHd 2 (consB (nameM 8) (consB (nameM 9) nilM))))) (ret (.val PyData.none)))) (ifM (bnd (op2 isNotD (nameM 10) (ret (.val PyData.none))) boolO) (bnd (ownAt 7) fun _ => appM 7 (tupM (consD (nameM 8) (consD (nameM 9) (consD (nameM 6) (consD (nameM 10) nilM)))))) (ret .nx))))) (seqM (ifM (bnd (op2 eqD (nameM 7) (lstM nilM)) boolO) (ret .bk) (ret .nx)) (seqM (loopM (iterM (nameM 7)) (setM 11) (tabSet 2 (ret (.val (PyData.bool false))) (op2 ixD (nameM 11) (ret (.val (PyData.int 0)))) (op2 ixD (nameM 11) (ret (.val (PyData.int 1)))))) (bnd (ownAt 5) fun _ => extM 5 (nameM 7))))))) (envF L rows w6 w7 w8 w9 w10 w11 (roundT L i)) (turnP (JL L (i + 1)) fun o s => o = .nx ∧ ∃ rows w6 w7 w8 w9 w10 w11, s = envF L rows w6 w7 w8 w9 w10 w11 (gT_ L)) := by
  refine Ev.bnd (Ev.run ?_)
  simp [envF]
  refine Ev.seqN (Ev.run ?_)
  simp
  -- the pairs
  refine Ev.seq (Ev.loop (Ev.rng (lo := 0) (hi := (L.n : Nat)) rfl g2 ?_))
  rw [rgD_nat]
  refine Ev.for_ (JO L (roundT L i) (1 + (i : Nat)) rows w11) ?_ ?_ ⟨_, _, _, [], rfl, ⟨fun x hx => (by simp at hx), fun b w _ _ h => by omega, by simp⟩⟩
  · rintro b x s hx ⟨w8, w9, w10, fr, rfl, F⟩
    obtain ⟨hb, rfl⟩ := rgN_some hx
    refine Ev.bnd (Ev.run ?_)
    simp [envF]
    refine Ev.loop (Ev.rng (lo := 0) (hi := (L.n : Nat)) rfl g2 ?_)
    rw [rgD_nat]
    refine Ev.for_ (JN L (roundT L i) (1 + (i : Nat)) rows w11 b) ?_ ?_ ⟨_, _, fr, rfl, ⟨F.all, fun b' w' h1 h2 h3 h4 => ?_, by have := F.len; omega⟩⟩
    · rintro w x s hx J
      obtain ⟨hw, rfl⟩ := rgN_some hx
      exact pair_ok ok hb hw J fun s' J' => J'
    · rintro s ⟨w9, w10, fr, rfl, F⟩
      rw [rgN_len] at F
      refine ⟨_, _, _, fr, rfl, ⟨F.all, fun b' w' h1 h2 h3 h4 => F.has b' w' h1 h2 (by omega) h4, ?_⟩⟩
      have := F.len
      rw [Nat.add_mul]
      omega
    · exact F.has b' w' h1 h2 (by omega) h4
  · rintro s ⟨w8, w9, w10, fr, rfl, F⟩
    rw [rgN_len] at F
    rw [thenP_nx]
    have hfl : fr.length ≤ 64 := by have := F.len; omega
    refine Ev.seq (Ev.run ?_)
    simp [envF, eqD_nil (shaped_pd F.pd)]
    cases hfr : fr.isEmpty with
    | true =>
      -- nothing falls any more
      have hf : fr = [] := List.isEmpty_iff.mp hfr
      have nb : ∀ b w, b < L.n → w < L.n → ¬ Bad L (roundT L i) b w := fun b w hb hw B => by
        obtain ⟨x, hx, _⟩ := F.has b w hb hw hb B
        rw [hf] at hx
        cases hx
      have sm : Same2 L.n (roundT L i) (gT_ L) := by
        have := round_stop ok (no_bad nb) (L.n * L.n - i)
        rw [show i + (L.n * L.n - i) = L.n * L.n by omega] at this
        exact this.symm
      have te := tabE_congr sm
      simp [hf]
      exact te
    | false =>
      have hf : ¬ fr = [] := fun z => by rw [z] at hfr; cases hfr
      simp [hf]
      refine Ev.seq (Ev.loop (Ev.run ?_))
      simp
      refine cut_ok (w6 := some (.d (.int (1 + (i : Nat))))) (w8 := w8) (w9 := w9) (w10 := w10) (w11 := w11) F (fun b w hb _ => hb) fun w11' => ?_
      rw [thenP_nx]
      refine Ev.run ?_
      have z : rows.length + fr.length ≤ 16777216 := by
        have : 64 * i ≤ 64 * 64 := by omega
        omega
      simp [envS, z]
      exact ⟨_, _, _, _, _, _, _, rfl, by rw [List.length_append]; omega⟩
theorem falls_ok {L : Lab} (ok : LabOk L) : ∃ rows, m_falls [L.D] = some (.tuple [.list rows, tD L.n (gT_ L)]) := by
  have n1 := ok.n1
  have n8 := ok.n8
  have nn : L.n * L.n ≤ 8 * 8 := Nat.mul_le_mul n8 n8
  have f1 : F1_falls (⟨some (.d L.D) :: List.replicate (12 - 1) none, ()⟩ : Stt Unit) = some (.nx, ⟨[some (.d L.D), some (.r 0 (L.n : Nat)), none, none, none, none, none, none, none, none, none, none], ()⟩) := by
    simp [F1_falls, Lab.D, Lab.meets, List.replicate]
  have f2 : Ev (seqM F3_falls F4_falls) (⟨[some (.d L.D), some (.r 0 (L.n : Nat)), some .h, none, none, none, none, none, none, none, none, none], rowsOf L.n (.bool true)⟩ : Stt TabS) fun o s => o = .nx ∧ ∃ rows w6 w7 w8 w9 w10 w11, s = envF L rows w6 w7 w8 w9 w10 w11 (gT_ L) := by
    have r0 : rowsOf L.n (.bool true) = tabE L.n (roundT L 0) := by
      unfold rowsOf tabE trow rowT roundT
      rw [List.map_const', List.map_const', List.length_range]
    rw [r0]
    refine Ev.seqN (Ev.run ?_)
    simp [F3_falls]
    unfold F4_falls
    refine Ev.loop (Ev.run ?_)
    have m1 : mulOk (L.n : Nat) (L.n : Nat) = true := mulOk_small (by omega) (by omega)
    have g1 : rgOk 1 ((L.n : Int) * (L.n : Int) + 1) = true := rgOk_small (by omega) (by omega) (by
      have : (0 : Int) ≤ (L.n : Int) * (L.n : Int) := Int.mul_nonneg (by omega) (by omega)
      omega) (by
      have : ((L.n * L.n : Nat) : Int) ≤ 64 := by omega
      rw [Int.natCast_mul] at this
      omega)
    have g2 : rgOk 0 (L.n : Nat) = true := rgOk_small (by omega) (by omega) (by omega) (by omega)
    simp [Lab.D, Lab.meets, m1, g1]
    have hl : (rgD 1 ((L.n : Int) * (L.n : Int) + 1)).length = L.n * L.n := by
      unfold rgD
      rw [List.length_map, List.length_range, Int.add_sub_cancel, ← Int.natCast_mul, Int.toNat_natCast]
    refine Ev.for_ (JL L) ?_ ?_ ⟨[], _, _, _, _, _, _, rfl, by simp⟩
    · rintro i x s hx ⟨rows, w6, w7, w8, w9, w10, w11, rfl, hrows⟩
      have hi : i < L.n * L.n := by
        have := (List.getElem?_eq_some_iff.mp hx).1
        rw [hl] at this
        exact this
      have hx' : x = .int (1 + (i : Nat)) := by
        unfold rgD at hx
        rw [List.getElem?_map] at hx
        obtain ⟨k, h1, h2⟩ := Option.map_eq_some_iff.mp hx
        obtain ⟨hk, h3⟩ := List.getElem?_eq_some_iff.mp h1
        rw [List.getElem_range] at h3
        subst h3
        exact h2.symm
      subst hx'
      exact level_ok ok hi nn g2 hrows
    · rintro s ⟨rows, w6, w7, w8, w9, w10, w11, rfl, _⟩
      rw [hl]
      refine ⟨rfl, rows, w6, w7, w8, w9, w10, w11, ?_⟩
      unfold gT_
      exact Eq.refl _
  obtain ⟨o, s, e, rfl, rows, w6, w7, w8, w9, w10, w11, rfl⟩ := f2
  refine ⟨rows, ?_⟩
  unfold m_falls runTab
  dsimp only
  rw [f1]
  have z1 : (0 : Int) ≤ (L.n : Nat) := by omega
  have z2 : ((L.n : Nat) : Int) ≤ 1000 := by omega
  simp [bare, z2, -seqM_s]
  rw [e]
  simp [envF, tabD_tabE]
end LW
end

section
set_option Elab.async false
set_option linter.all false
set_option maxRecDepth 100000
set_option maxHeartbeats 999999
open DL
open PySem (PyData Str)
namespace LW
/-! ### washes that stand for others -/
theorem table_ok {L : Lab} (ok : LabOk L) : m_as_good_table [L.D] = some (tD L.n (gT_ L)) := by
  obtain ⟨rows, e⟩ := falls_ok ok
  refine runP2_of rfl (Ev.run ?_)
  simp [F_as_good_table, e]
/-- wash A is wherever B is, by the table T -/
structure Stand (n : Nat) (T : Nat → Nat → Bool) (A B : Wash) : Prop where
  low : B.low ≤ A.low
  high : A.high ≤ B.high
  res : ∀ s, s < n → ∀ r ∈ A.after s, ∃ o ∈ B.after s, T r o = true
def Stands (L : Lab) (T : Nat → Nat → Bool) (i j : Nat) : Prop := i ≠ j ∧ ∃ A B, L.washes[i]? = some A ∧ L.washes[j]? = some B ∧ Stand L.n T A B
theorem stands_iff {L : Lab} {T : Nat → Nat → Bool} {i j : Nat} {A B : Wash} (h1 : L.washes[i]? = some A) (h2 : L.washes[j]? = some B) : Stands L T i j ↔ i ≠ j ∧ Stand L.n T A B := by
  constructor
  · rintro ⟨q, A', B', e1, e2, z⟩
    rw [h1] at e1
    rw [h2] at e2
    cases e1
    cases e2
    exact ⟨q, z⟩
  · rintro ⟨q, z⟩
    exact ⟨q, A, B, h1, h2, z⟩
def envG (L : Lab) (T : Nat → Nat → Bool) (i j : Nat) (A B : Wash) (w10 w11 w12 : Option Sl) : Stt Unit :=
  ⟨[some (.d L.D), some (.d (tD L.n T)), some (.d (.int (i : Nat))), some (.d (.int (j : Nat))), some (.d (.tuple (rowT L.n fun s => resD (A.after s)))), some (.d (.int A.low)), some (.d (.int A.high)), some (.d (.tuple (rowT L.n fun s => resD (B.after s)))), some (.d (.int B.low)), some (.d (.int B.high)), w10, w11, w12, none], ()⟩
def KO (L : Lab) (T : Nat → Nat → Bool) (i j : Nat) (A B : Wash) (k : Nat) (s : Stt Unit) : Prop := ∃ w10 w11 w12, s = envG L T i j A B w10 w11 w12 ∧ ∀ s', s' < k → s' < L.n → ∀ r ∈ A.after s', ∃ o ∈ B.after s', T r o = true
def KI (L : Lab) (T : Nat → Nat → Bool) (i j : Nat) (A B : Wash) (st : Nat) (k : Nat) (s : Stt Unit) : Prop := ∃ w12, s = envG L T i j A B (some (.d (.int (st : Nat)))) (some (.d (resD (A.after st)))) w12 ∧ ∀ k' r, k' < k → (A.after st)[k']? = some r → ∃ o ∈ B.after st, T r o = true
theorem wget {L : Lab} {i : Nat} {A : Wash} (h : L.washes[i]? = some A) : L2.atI (L.washes.map (washD L.n)) (i : Int) = some (washD L.n A) := by
  rw [atI_nat, List.getElem?_map, h]
  rfl
theorem wget2 {L : Lab} {i : Nat} {A : Wash} (h : L.washes[i]? = some A) : (L.washes.map (washD L.n))[i]? = some (washD L.n A) := by
  rw [List.getElem?_map, h]
  rfl
theorem stands_ok {L : Lab} (ok : LabOk L) (T : Nat → Nat → Bool) {i j : Nat} {A B : Wash} (hi : L.washes[i]? = some A) (hj : L.washes[j]? = some B) :
    ∃ v, m_stands_for [L.D, tD L.n T, .int (i : Nat), .int (j : Nat)] = some (.bool v) ∧ (v = true ↔ Stands L T i j) := by
  have okA := ok.wash A (List.mem_of_getElem? hi)
  have okB := ok.wash B (List.mem_of_getElem? hj)
  obtain ⟨d, e, v, rfl, q⟩ : ∃ d, m_stands_for [L.D, tD L.n T, .int (i : Nat), .int (j : Nat)] = some d ∧ ∃ v, d = .bool v ∧ (v = true ↔ Stands L T i j) := by
    refine runP2_ex rfl ?_
    unfold F_stands_for
    refine Ev.seqN (Ev.run ?_)
    simp [Lab.D, Lab.ws, wget2 hi, washD]
    refine Ev.seqN (Ev.run ?_)
    simp [wget2 hj, washD]
    refine Ev.seq (Ev.run ?_)
    rw [stands_iff hi hj]
    by_cases hij : i = j
    · simp [hij]
    have hij' : ¬ (i : Int) = (j : Int) := by omega
    by_cases hl : A.low < B.low
    · simp [hij, hij', hl]
      intro z
      have := z.low
      omega
    by_cases hh : B.high < A.high
    · simp [hij, hij', hl, hh]
      intro z
      have := z.high
      omega
    simp [hij, hij', hl, hh]
    refine Ev.seq (Ev.loop (Ev.run ?_))
    simp
    refine Ev.for_ (KO L T i j A B) ?_ ?_ ⟨_, _, _, rfl, fun s h => by omega⟩
    · rintro st x s hx ⟨w10, w11, w12, rfl, h1⟩
      obtain ⟨y, hy, rfl⟩ := enumT_some hx
      obtain ⟨hst, rfl⟩ := rowT_some hy
      refine Ev.bnd (Ev.run ?_)
      simp [envG]
      refine Ev.loop (Ev.run ?_)
      simp [resD]
      refine Ev.for_ (KI L T i j A B st) ?_ ?_ ⟨_, rfl, fun k r h => by omega⟩
      · rintro k x s hx ⟨w12, rfl, h2⟩
        rw [List.getElem?_map] at hx
        obtain ⟨r, hr, rfl⟩ := Option.map_eq_some_iff.mp hx
        have rn := okA.lt st hst r (List.mem_of_getElem? hr)
        refine Ev.bnd (Ev.run ?_)
        simp [envG, nD]
        generalize hF : lcM [13] _ _ _ _ = F
        have e : F (envG L T i j A B (some (.d (.int (st : Nat)))) (some (.d (resD (A.after st)))) (some (.d (.int (r : Nat))))) = some (.new (((B.after st).filter fun o => T r o).map nD), envG L T i j A B (some (.d (.int (st : Nat)))) (some (.d (resD (A.after st)))) (some (.d (.int (r : Nat))))) := by
          subst hF
          rw [← gT_map]
          refine lc_eq (s1 := envG L T i j A B (some (.d (.int (st : Nat)))) (some (.d (resD (A.after st)))) (some (.d (.int (r : Nat))))) (xs := (B.after st).map nD) (gT fun o => T r o) ?_ ?_ ?_ ?_
          · simp [envG, rowT_get hst, resD]
          · have := okB.few st hst
            rw [List.length_map]
            omega
          · simp [envG]
          · intro x hx acc
            obtain ⟨o, ho, rfl⟩ := List.mem_map.mp hx
            have on := okB.lt st hst o ho
            refine Ev.run ?_
            cases hT : T r o <;> simp [envG, nD, tD, trow, rowT_get rn, rowT_get on, hT, gT]
        simp only [envG] at e
        refine Ev.run ?_
        cases hq : ((B.after st).filter fun o => T r o).isEmpty with
        | true =>
          simp [e, nats_nil, hq]
          intro z
          obtain ⟨o, ho, hT⟩ := z.res st hst r (List.mem_of_getElem? hr)
          have : o ∈ (B.after st).filter fun o => T r o := List.mem_filter.mpr ⟨ho, hT⟩
          rw [List.isEmpty_iff.mp hq] at this
          cases this
        | false =>
          simp [e, nats_nil, hq]
          refine ⟨_, rfl, fun k' r' hk' hr' => ?_⟩
          by_cases hkk : k' < k
          · exact h2 k' r' hkk hr'
          · have : k' = k := by omega
            subst this
            rw [hr] at hr'
            cases hr'
            cases hz : ((B.after st).filter fun o => T r o) with
            | nil => rw [hz] at hq; cases hq
            | cons o os =>
              have m : o ∈ (B.after st).filter fun o => T r o := by rw [hz]; exact List.mem_cons_self
              obtain ⟨m1, m2⟩ := List.mem_filter.mp m
              exact ⟨o, m1, m2⟩
      · rintro s ⟨w12, rfl, h2⟩
        rw [turnP_nx]
        refine ⟨_, _, _, rfl, fun s' hs' hs2 r hr => ?_⟩
        by_cases hss : s' < st
        · exact h1 s' hss hs2 r hr
        · have : s' = st := by omega
          subst this
          obtain ⟨k', hk'⟩ := List.mem_iff_getElem?.mp hr
          refine h2 k' r ?_ hk'
          have := (List.getElem?_eq_some_iff.mp hk').1
          simpa using this
    · rintro s ⟨w10, w11, w12, rfl, h1⟩
      rw [thenP_nx]
      refine Ev.run ?_
      simp
      refine ⟨by omega, by omega, fun s hs r hr => ?_⟩
      refine h1 s ?_ hs r hr
      rw [enumL_len, rowT_len]
      exact hs
  exact ⟨v, e, q⟩
end LW
end

section
set_option Elab.async false
set_option linter.all false
set_option maxRecDepth 100000
set_option maxHeartbeats 999999
open DL
open PySem (PyData Str)
namespace LW
/-! ### needless washes, needed results -/
def Needless (L : Lab) (T : Nat → Nat → Bool) (w : Nat) : Prop := ∃ o, o < L.washes.length ∧ Stands L T o w ∧ (o < w ∨ ¬ Stands L T w o)
theorem wat {L : Lab} {i : Nat} (h : i < L.washes.length) : ∃ A, L.washes[i]? = some A := ⟨_, List.getElem?_eq_getElem h⟩
def KN (L : Lab) (T : Nat → Nat → Bool) (w : Nat) (k : Nat) (s : Stt Unit) : Prop := ∃ w3, s = ⟨[some (.d L.D), some (.d (tD L.n T)), some (.d (.int (w : Nat))), w3], ()⟩ ∧ ∀ o, o < k → ¬ (Stands L T o w ∧ (o < w ∨ ¬ Stands L T w o))
theorem needless_ok {L : Lab} (ok : LabOk L) (T : Nat → Nat → Bool) {w : Nat} (hw : w < L.washes.length) : ∃ v, m_is_needless [L.D, tD L.n T, .int (w : Nat)] = some (.bool v) ∧ (v = true ↔ Needless L T w) := by
  have few := ok.few
  obtain ⟨B, hB⟩ := wat hw
  obtain ⟨d, e, v, rfl, q⟩ : ∃ d, m_is_needless [L.D, tD L.n T, .int (w : Nat)] = some d ∧ ∃ v, d = .bool v ∧ (v = true ↔ Needless L T w) := by
    refine runP2_ex rfl ?_
    unfold F_is_needless
    have g2 : rgOk 0 (L.washes.length : Nat) = true := rgOk_small (by omega) (by omega) (by omega) (by omega)
    refine Ev.seq (Ev.loop (Ev.run ?_))
    simp [Lab.D, Lab.ws, g2, rgD_nat]
    refine Ev.for_ (KN L T w) ?_ ?_ ⟨_, rfl, fun o h => by omega⟩
    · rintro o x s hx ⟨w3, rfl, h1⟩
      obtain ⟨ho, rfl⟩ := rgN_some hx
      obtain ⟨A, hA⟩ := wat ho
      obtain ⟨v1, e1, q1⟩ := stands_ok ok T hA hB
      obtain ⟨v2, e2, q2⟩ := stands_ok ok T hB hA
      refine Ev.run ?_
      have nxt : ¬ (Stands L T o w ∧ (o < w ∨ ¬ Stands L T w o)) → KN L T w (o + 1) ⟨[some (.d L.D), some (.d (tD L.n T)), some (.d (.int (w : Nat))), some (.d (.int (o : Nat)))], ()⟩ := fun h => ⟨_, rfl, fun o' ho' => by
        by_cases z : o' < o
        · exact h1 o' z
        · have : o' = o := by omega
          subst this
          exact h⟩
      cases v1 with
      | false =>
        have z : ¬ Stands L T o w := fun z => by have := q1.mpr z; cases this
        simp [e1]
        exact nxt fun y => z y.1
      | true =>
        have z := q1.mp rfl
        by_cases hl : o < w
        · have hl' : (o : Int) < (w : Nat) := by omega
          simp [e1, hl']
          exact ⟨o, ho, z, .inl hl⟩
        · have hl' : ¬ (o : Int) < (w : Nat) := by omega
          cases v2 with
          | false =>
            have z2 : ¬ Stands L T w o := fun z => by have := q2.mpr z; cases this
            simp [e1, e2, hl']
            exact ⟨o, ho, z, .inr z2⟩
          | true =>
            have z2 := q2.mp rfl
            simp [e1, e2, hl']
            exact nxt fun y => y.2.elim hl fun n => n z2
    · rintro s ⟨w3, rfl, h1⟩
      rw [thenP_nx]
      refine Ev.run ?_
      simp
      rintro ⟨o, ho, h2⟩
      exact h1 o (by rw [rgN_len]; exact ho) h2
  exact ⟨v, e, q⟩
noncomputable def needB (L : Lab) (T : Nat → Nat → Bool) (w : Nat) : Bool := @decide (Needless L T w) (Classical.propDecidable _)
theorem needB_iff {L : Lab} {T : Nat → Nat → Bool} {w : Nat} : needB L T w = true ↔ Needless L T w := by
  unfold needB
  exact @decide_eq_true_iff _ (Classical.propDecidable _)
noncomputable def needs (L : Lab) (T : Nat → Nat → Bool) : List Nat := (List.range L.washes.length).filter (needB L T)
theorem mem_needs {L : Lab} {T : Nat → Nat → Bool} {w : Nat} : w ∈ needs L T ↔ w < L.washes.length ∧ Needless L T w := by
  unfold needs
  rw [List.mem_filter, List.mem_range, needB_iff]
theorem needs_up (L : Lab) (T : Nat → Nat → Bool) : (needs L T).Pairwise (· < ·) := List.pairwise_lt_range.filter _
theorem bool_iff {a b : Bool} {p : Prop} (h1 : a = true ↔ p) (h2 : b = true ↔ p) : a = b := by
  cases a <;> cases b <;> simp_all
theorem rgN_map (n : Nat) : rgN n = (List.range n).map nD := rfl
theorem turnX {f : List D → Option D} {a b : D} {w : Nat} {v : Bool} (e1 : f [a, b, .int (w : Nat)] = some (.bool v)) (acc : List D) (p : Nat → Bool) (hv : p w = v) :
   Ev (turnM (setM 2) (bnd (callP f (consD (nameM 0) (consD (nameM 1) (consD (nameM 2) nilM)))) boolO) (valM (nameM 2)) (nD w) acc) (⟨[some (.d a), some (.d b), none], ()⟩ : Stt Unit) fun acc' s3 => acc' = acc ++ (gT p (nD w)).toList ∧ wipeE s3.env [2] = [some (.d a), some (.d b), none] ∧ s3.dr = () := by
  refine Ev.run ?_
  cases v <;> simp [nD, e1, gT, hv]
theorem washes_ok {L : Lab} (ok : LabOk L) : m_needless_washes [L.D] = some (.tuple ((needs L (gT_ L)).map nD)) := by
  have few := ok.few
  have e1 := need_lab ok
  have e2 := table_ok ok
  have hN := fun w (hw : w < L.washes.length) => needless_ok ok (gT_ L) hw
  generalize gT_ L = T at e2 hN ⊢
  refine runP2_of rfl ?_
  unfold F_needless_washes
  generalize m_is_needless = f at hN ⊢
  generalize m_need_lab = f1 at e1 ⊢
  generalize m_as_good_table = f2 at e2 ⊢
  refine Ev.seqN (Ev.run ?_)
  simp [e1, e2]
  have g2 : rgOk 0 (L.washes.length : Nat) = true := rgOk_small (by omega) (by omega) (by omega) (by omega)
  refine Ev.retM (Ev.tuple (Ev.lcw (gT (needB L T)) [some (.d L.D), some (.d (tD L.n T)), none] () (Ev.rangeM (lo := 0) (hi := (L.washes.length : Nat)) (by simp [Lab.D, Lab.ws]) g2 ?_)))
  rw [rgD_nat, rgN_map]
  refine ⟨by rw [List.length_map, List.length_range]; omega, rfl, rfl, rfl, ?_, ?_⟩
  · intro x hx acc
    obtain ⟨w, hw, rfl⟩ := List.mem_map.mp hx
    have hw := List.mem_range.mp hw
    obtain ⟨v, e1, q1⟩ := hN w hw
    have hv : needB L T w = v := bool_iff needB_iff q1
    exact turnX e1 acc _ hv
  · rw [gT_map]
    exact ⟨_, rfl, Ev.toDv rfl⟩
/-! results -/
def Worse (T : Nat → Nat → Bool) (rs : List Nat) (r : Nat) : Prop := ∃ o ∈ rs, o ≠ r ∧ T r o = true ∧ (o < r ∨ ¬ T o r = true)
noncomputable def worseB (T : Nat → Nat → Bool) (rs : List Nat) (r : Nat) : Bool := @decide (Worse T rs r) (Classical.propDecidable _)
theorem worseB_iff {T : Nat → Nat → Bool} {rs : List Nat} {r : Nat} : worseB T rs r = true ↔ Worse T rs r := by
  unfold worseB
  exact @decide_eq_true_iff _ (Classical.propDecidable _)
noncomputable def worst (T : Nat → Nat → Bool) (rs : List Nat) : List Nat := rs.filter fun r => !worseB T rs r
def p1 (T : Nat → Nat → Bool) (r o : Nat) : Bool := !decide (o = r) && T r o
def p2 (T : Nat → Nat → Bool) (r o : Nat) : Bool := decide (o < r) || !T o r
theorem worse_list {T : Nat → Nat → Bool} {rs : List Nat} {r : Nat} : ((rs.filter (p1 T r)).filter (p2 T r)).isEmpty = !worseB T rs r := by
  have h : ((rs.filter (p1 T r)).filter (p2 T r)).isEmpty = true ↔ ¬ Worse T rs r := by
    rw [List.isEmpty_iff, List.filter_eq_nil_iff]
    constructor
    · rintro h ⟨o, ho, h1, h2, h3⟩
      refine h o (List.mem_filter.mpr ⟨ho, ?_⟩) ?_
      · unfold p1
        simp [h1, h2]
      · unfold p2
        rcases h3 with h3 | h3
        · simp [h3]
        · simp at h3
          simp [h3]
    · intro h o ho hp
      obtain ⟨h1, h2⟩ := List.mem_filter.mp ho
      unfold p1 at h2
      unfold p2 at hp
      simp at h2 hp
      exact h ⟨o, h1, h2.1, h2.2, by simpa using hp⟩
  have := worseB_iff (T := T) (rs := rs) (r := r)
  cases h1 : worseB T rs r <;> cases h2 : ((rs.filter (p1 T r)).filter (p2 T r)).isEmpty <;> simp_all
def envV (n : Nat) (T : Nat → Nat → Bool) (rs ys : List Nat) (w3 w4 : Option Sl) : Stt Unit := ⟨[some (.d (tD n T)), some (.d (resD rs)), some (.own (ys.map nD)), w3, w4, none], ()⟩
theorem turn1 {n r o : Nat} {T : Nat → Nat → Bool} {rs ys : List Nat} (hr : r < n) (ho : o < n) (acc : List D) (w4 : Option Sl) :
    Ev (turnM (setM 5) (andT (bnd (op2 neD (nameM 5) (nameM 3)) boolO) (bnd (op2 ixD (op2 ixD (nameM 0) (nameM 3)) (nameM 5)) boolO)) (valM (nameM 5)) (nD o) acc) (envV n T rs ys (some (.d (.int (r : Nat)))) w4) fun acc' s3 => acc' = acc ++ (gT (p1 T r) (nD o)).toList ∧ wipeE s3.env [5] = (envV n T rs ys (some (.d (.int (r : Nat)))) w4).env ∧ s3.dr = () := by
  refine Ev.run ?_
  by_cases h : o = r
  · subst h
    simp [envV, nD, gT, p1]
  · have h' : ¬ (o : Int) = (r : Int) := by omega
    cases hT : T r o <;> simp [envV, nD, gT, p1, h, h', tD, trow, rowT_get hr, rowT_get ho, hT]
theorem turn2 {n r o : Nat} {T : Nat → Nat → Bool} {rs ys : List Nat} (hr : r < n) (ho : o < n) (acc : List D) (w4 : Option Sl) :
    Ev (turnM (setM 5) (orT (bnd (op2 ltD (nameM 5) (nameM 3)) boolO) (notT (bnd (op2 ixD (op2 ixD (nameM 0) (nameM 5)) (nameM 3)) boolO))) (valM (nameM 5)) (nD o) acc) (envV n T rs ys (some (.d (.int (r : Nat)))) w4) fun acc' s3 => acc' = acc ++ (gT (p2 T r) (nD o)).toList ∧ wipeE s3.env [5] = (envV n T rs ys (some (.d (.int (r : Nat)))) w4).env ∧ s3.dr = () := by
  refine Ev.run ?_
  by_cases h : o < r
  · have h' : (o : Int) < (r : Int) := by omega
    simp [envV, nD, gT, p2, h, h']
  · have h' : ¬ (o : Int) < (r : Int) := by omega
    cases hT : T o r <;> simp [envV, nD, gT, p2, h, h', tD, trow, rowT_get hr, rowT_get ho, hT]
theorem tests_ok {n r : Nat} {T : Nat → Nat → Bool} {rs ys : List Nat} (hn : ∀ o ∈ rs, o < n) (hr : r < n) (hl : rs.length ≤ 1000) (w4 : Option Sl) :
    lcM [5] (iterM (nameM 1)) (setM 5) (andT (bnd (op2 neD (nameM 5) (nameM 3)) boolO) (bnd (op2 ixD (op2 ixD (nameM 0) (nameM 3)) (nameM 5)) boolO)) (nameM 5) (envV n T rs ys (some (.d (.int (r : Nat)))) w4) = some (.new ((rs.filter (p1 T r)).map nD), envV n T rs ys (some (.d (.int (r : Nat)))) w4) ∧
    lcM [5] (iterM (nameM 4)) (setM 5) (orT (bnd (op2 ltD (nameM 5) (nameM 3)) boolO) (notT (bnd (op2 ixD (op2 ixD (nameM 0) (nameM 5)) (nameM 3)) boolO))) (nameM 5) (envV n T rs ys (some (.d (.int (r : Nat)))) (some (.own ((rs.filter (p1 T r)).map nD)))) =
      some (.new (((rs.filter (p1 T r)).filter (p2 T r)).map nD), envV n T rs ys (some (.d (.int (r : Nat)))) (some (.d (.list ((rs.filter (p1 T r)).map nD))))) := by
  constructor
  · rw [← gT_map]
    refine lc_eq (s1 := envV n T rs ys (some (.d (.int (r : Nat)))) w4) (xs := rs.map nD) _ ?_ (by rw [List.length_map]; omega) rfl ?_
    · simp [envV, resD]
    · intro x hx acc
      obtain ⟨o, ho, rfl⟩ := List.mem_map.mp hx
      exact turn1 hr (hn o ho) acc w4
  · rw [← gT_map (p2 T r)]
    refine lc_eq (s1 := envV n T rs ys (some (.d (.int (r : Nat)))) (some (.d (.list ((rs.filter (p1 T r)).map nD))))) (xs := (rs.filter (p1 T r)).map nD) _ ?_ ?_ rfl ?_
    · simp [envV]
    · rw [List.length_map]
      have := List.length_filter_le (p1 T r) rs
      omega
    · intro x hx acc
      obtain ⟨o, ho, rfl⟩ := List.mem_map.mp hx
      exact turn2 hr (hn o (List.mem_filter.mp ho).1) acc _
def KW (n : Nat) (T : Nat → Nat → Bool) (rs : List Nat) (k : Nat) (s : Stt Unit) : Prop := ∃ w3 w4, s = envV n T rs ((rs.take k).filter fun r => !worseB T rs r) w3 w4
theorem worst_ok {n : Nat} {T : Nat → Nat → Bool} {rs : List Nat} (hn : ∀ o ∈ rs, o < n) (hl : rs.length ≤ 1000) : m_worst_results [tD n T, resD rs] = some (resD (worst T rs)) := by
  refine runP2_of rfl ?_
  unfold F_worst_results
  refine Ev.seqN (Ev.run ?_)
  simp
  refine Ev.seqN (Ev.loop (Ev.run ?_))
  simp [resD]
  refine Ev.for_ (KW n T rs) ?_ ?_ ⟨_, _, rfl⟩
  · rintro k x s hx ⟨w3, w4, rfl⟩
    rw [List.getElem?_map] at hx
    obtain ⟨r, hr, rfl⟩ := Option.map_eq_some_iff.mp hx
    have hrn := hn r (List.mem_of_getElem? hr)
    obtain ⟨t1, t2⟩ := tests_ok (ys := (rs.take k).filter fun r => !worseB T rs r) (T := T) hn hrn hl w4
    refine Ev.bnd (Ev.run ?_)
    simp [envV, nD]
    refine Ev.seqN (Ev.asg ⟨_, _, t1, Ev.run ?_⟩)
    simp [envV]
    simp only [envV] at t2
    generalize lcM [5] (iterM (nameM 4)) _ _ _ = F at t2 ⊢
    refine Ev.run ?_
    have wl := worse_list (T := T) (rs := rs) (r := r)
    have tk : rs.take (k + 1) = rs.take k ++ [r] := by
      rw [List.take_succ, hr]
      rfl
    have hsz : ((rs.take k).filter fun r => !worseB T rs r).length < 16777216 := by
      have h1 := List.length_filter_le (fun r => !worseB T rs r) (rs.take k)
      have h2 := List.length_take_le k rs
      have h3 : (rs.take k).length ≤ rs.length := by rw [List.length_take]; omega
      omega
    generalize (rs.filter (p1 T r)).filter (p2 T r) = l at t2 wl
    cases hw : worseB T rs r with
    | true =>
      rw [hw] at wl
      simp only [Bool.not_true] at wl
      simp [t2, nats_nil, wl]
      have fk : ((rs.take (k + 1)).filter fun r => !worseB T rs r) = (rs.take k).filter fun r => !worseB T rs r := by
        rw [tk, List.filter_append]
        simp [hw]
      unfold KW
      rw [fk]
      exact ⟨_, _, rfl⟩
    | false =>
      rw [hw] at wl
      simp only [Bool.not_false] at wl
      simp [t2, nats_nil, wl, hsz]
      have fk : ((rs.take (k + 1)).filter fun r => !worseB T rs r) = ((rs.take k).filter fun r => !worseB T rs r) ++ [r] := by
        rw [tk, List.filter_append]
        simp [hw]
      unfold KW
      rw [fk]
      unfold envV
      rw [List.map_append]
      exact ⟨_, _, rfl⟩
  · rintro s ⟨w3, w4, rfl⟩
    rw [List.length_map, List.take_length]
    refine ⟨rfl, Ev.run ?_⟩
    simp [envV, worst, resD]
end LW
end

section
set_option Elab.async false
set_option linter.all false
set_option maxRecDepth 100000
set_option maxHeartbeats 999999
open DL
open PySem (PyData Str)
namespace LW
/-! ### laboratories made from laboratories -/
theorem eqv_ii (a b : Int) : PyData.eqv (.int a) (.int b) = decide (a = b) := by
  simp only [PyData.eqv]
  rfl
theorem any_nats (l : List Nat) (i : Nat) : ((l.map nD).any fun z => PyData.eqv z (.int (i : Nat))) = decide (i ∈ l) := by
  induction l with
  | nil => rfl
  | cons a l ih =>
    rw [List.map_cons, List.any_cons, ih]
    show (PyData.eqv (.int (a : Nat)) (.int (i : Nat)) || _) = _
    rw [eqv_ii]
    by_cases h : a = i
    · subst h
      simp
    · have h' : ¬ ((a : Int) = (i : Int)) := by omega
      have h2 : ¬ i = a := fun z => h z.symm
      simp [h', h2]
theorem flat_nats (l : List Nat) : (l.map nD).all flatD = true := by
  refine List.all_eq_true.mpr fun x hx => ?_
  obtain ⟨i, _, rfl⟩ := List.mem_map.mp hx
  rfl
theorem notIn_nats (l : List Nat) (i : Nat) : notInD (.int (i : Nat)) (.tuple (l.map nD)) = some (.val (.bool (!decide (i ∈ l)))) := by
  unfold notInD orO inT
  have : (flatD (.int (i : Nat)) && (l.map nD).all flatD) = true := by rw [flat_nats]; rfl
  dsimp only
  rw [if_pos this, any_nats]
  rfl
def gOut (l : List Nat) : D → Option D
  | .tuple [.int i, w] => if decide (i.toNat ∈ l) then none else some w
  | _ => none
def leftD (L : Lab) (l : List Nat) : List D := (enumL 0 (L.washes.map (washD L.n))).filterMap (gOut l)
theorem turn3 {a b c : D} {l : List Nat} {i : Nat} {w : D} (acc : List D) :
    Ev (turnM (tupG 2 (gsCons (setM 3) (gsCons (setM 4) gsNil))) (bnd (op2 notInD (nameM 3) (nameM 1)) boolO) (valM (nameM 4)) (.tuple [.int (i : Nat), w]) acc) (⟨[some (.d a), some (.d (.tuple (l.map nD))), none, none, none], ()⟩ : Stt Unit)
      fun acc' s3 => acc' = acc ++ (gOut l (.tuple [.int (i : Nat), w])).toList ∧ wipeE s3.env [3, 4] = [some (.d a), some (.d (.tuple (l.map nD))), none, none, none] ∧ s3.dr = () := by
  refine Ev.run ?_
  by_cases h : i ∈ l <;> simp [notIn_nats, h, gOut]
theorem without_ok {L : Lab} (ok : LabOk L) {l : List Nat} (h1 : l.Pairwise (· < ·)) (h2 : ∀ i ∈ l, i < L.washes.length) : m_lab_without [L.D, .tuple (l.map nD)] = some (.tuple [L.meets, .tuple (leftD L l), .int L.tools, .int L.arms, .int L.zones]) := by
  have few := ok.few
  have e1 := need_lab ok
  have e2 := descent_none (l := l) (lim := (L.washes.length : Nat)) h1 fun r hr => by have := h2 r hr; omega
  refine runP2_of rfl ?_
  unfold F_lab_without
  generalize m_need_lab = f1 at e1 ⊢
  generalize m_first_descent = f2 at e2 ⊢
  refine Ev.seqN (Ev.run ?_)
  simp [e1]
  refine Ev.seqN (Ev.run ?_)
  simp [Lab.D, Lab.ws, e2]
  refine Ev.seqN (Ev.asg (Ev.tuple (Ev.lcw (gOut l) [some (.d L.D), some (.d (.tuple (l.map nD))), none, none, none] () (Ev.run ?_))))
  simp
  refine ⟨by rw [enumL_len, List.length_map]; omega, rfl, rfl, ?_, ?_⟩
  · intro x hx acc
    obtain ⟨i, y, hy, rfl⟩ := enumT_mem hx
    exact (turn3 (b := .none) (c := .none) acc).mono fun acc' s3 h => ⟨h.1, h.2.1⟩
  · refine Ev.run ?_
    simp
    refine Ev.run ?_
    simp [leftD]
noncomputable def worstW (T : Nat → Nat → Bool) (W : Wash) : Wash := { W with after := fun s => worst T (W.after s) }
theorem turn4 {f : List D → Option D} {a b c d : D} {x y : D} {s2 w4 w5 : Option Sl} (e : f [b, x] = some y) (acc : List D) :
    Ev (turnM (setM 6) (ret true) (valM (callP f (consD (nameM 1) (consD (nameM 6) nilM)))) x acc) (⟨[some (.d a), some (.d b), s2, some (.d c), w4, w5, none], ()⟩ : Stt Unit)
      fun acc' s3 => acc' = acc ++ (f [b, x]).toList ∧ wipeE s3.env [6] = [some (.d a), some (.d b), s2, some (.d c), w4, w5, none] ∧ s3.dr = () := by
  refine Ev.run ?_
  simp [e]
noncomputable def ysV (L : Lab) (T : Nat → Nat → Bool) (k : Nat) : List D := (L.washes.take k).map fun W => washD L.n (worstW T W)
theorem ysV_succ {L : Lab} {T : Nat → Nat → Bool} {k : Nat} {W : Wash} (hk : L.washes[k]? = some W) : ysV L T (k + 1) = ysV L T k ++ [washD L.n (worstW T W)] := by
  unfold ysV
  rw [List.take_succ, hk, List.map_append]
  rfl
theorem ysV_len (L : Lab) (T : Nat → Nat → Bool) (k : Nat) : (ysV L T k).length ≤ L.washes.length := by
  unfold ysV
  rw [List.length_map, List.length_take]
  omega
def KV (L : Lab) (T : Nat → Nat → Bool) (k : Nat) (s : Stt Unit) : Prop := ∃ w3 w4 w5, s = ⟨[some (.d L.D), some (.d (tD L.n T)), some (.own (ysV L T k)), w3, w4, w5, none], ()⟩
theorem filterMap_row {n : Nat} {f : Nat → D} {g : D → Option D} {h : Nat → D} (e : ∀ i, i < n → g (f i) = some (h i)) : (rowT n f).filterMap g = rowT n h := by
  unfold rowT
  rw [List.filterMap_map]
  have : ∀ l : List Nat, (∀ i ∈ l, i < n) → l.filterMap (g ∘ f) = l.map h := by
    intro l
    induction l with
    | nil => intro _; rfl
    | cons a l ih =>
      intro hl
      rw [List.filterMap_cons, List.map_cons, ih fun i m => hl i (List.mem_cons_of_mem _ m)]
      have : (g ∘ f) a = some (h a) := e a (hl a List.mem_cons_self)
      rw [this]
  exact this _ fun i m => List.mem_range.mp m
theorem worstlab_ok {L : Lab} (ok : LabOk L) : m_lab_with_worst [L.D] = some (.tuple [L.meets, .tuple (L.washes.map fun W => washD L.n (worstW (gT_ L) W)), .int L.tools, .int L.arms, .int L.zones]) := by
  have few := ok.few
  have e1 := need_lab ok
  have e2 := table_ok ok
  have hW := fun (rs : List Nat) (h1 : ∀ o ∈ rs, o < L.n) (h2 : rs.length ≤ 1000) => worst_ok (T := gT_ L) h1 h2
  generalize gT_ L = T at e2 hW ⊢
  refine runP2_of rfl ?_
  unfold F_lab_with_worst
  generalize m_need_lab = f1 at e1 ⊢
  generalize m_as_good_table = f2 at e2 ⊢
  generalize m_worst_results = f at hW ⊢
  refine Ev.seqN (Ev.run ?_)
  simp [e1, e2]
  refine Ev.seqN (Ev.run ?_)
  simp
  refine Ev.seqN (Ev.loop (Ev.run ?_))
  simp [Lab.D, Lab.ws]
  refine Ev.for_ (KV L T) ?_ ?_ ⟨_, _, _, rfl⟩
  · rintro k x s hx ⟨w3, w4, w5, rfl⟩
    rw [List.getElem?_map] at hx
    obtain ⟨W, hk, rfl⟩ := Option.map_eq_some_iff.mp hx
    have wok := ok.wash W (List.mem_of_getElem? hk)
    refine Ev.bnd (Ev.run ?_)
    simp [washD]
    generalize hF : lcM [6] _ _ _ _ = F
    have e : F ⟨[some (.d L.D), some (.d (tD L.n T)), some (.own (ysV L T k)), some (.d (.tuple (rowT L.n fun s => resD (W.after s)))), some (.d (.int W.low)), some (.d (.int W.high)), none], ()⟩ =
        some (.new (rowT L.n fun s => resD (worst T (W.after s))), ⟨[some (.d L.D), some (.d (tD L.n T)), some (.own (ysV L T k)), some (.d (.tuple (rowT L.n fun s => resD (W.after s)))), some (.d (.int W.low)), some (.d (.int W.high)), none], ()⟩) := by
      subst hF
      have hf : ∀ i, i < L.n → f [tD L.n T, resD (W.after i)] = some (resD (worst T (W.after i))) := fun i hi => hW _ (fun o ho => wok.lt i hi o ho) (by have := wok.few i hi; omega)
      rw [← filterMap_row (g := fun x => f [tD L.n T, x]) hf]
      refine lc_eq (s1 := (⟨[some (.d L.D), some (.d (tD L.n T)), some (.own (ysV L T k)), some (.d (.tuple (rowT L.n fun s => resD (W.after s)))), some (.d (.int W.low)), some (.d (.int W.high)), none], ()⟩ : Stt Unit)) (xs := rowT L.n fun s => resD (W.after s)) _ ?_ (by rw [rowT_len]; have := ok.n8; omega) rfl ?_
      · simp
      · intro x hx acc
        obtain ⟨i, hi, rfl⟩ := rowT_mem hx
        exact turn4 (d := .none) (hf i hi) acc
    refine Ev.run ?_
    have hsz : (ysV L T k).length < 16777216 := by have := ysV_len L T k; omega
    simp [e, hsz]
    unfold KV
    rw [ysV_succ hk]
    exact ⟨_, _, _, rfl⟩
  · rintro s ⟨w3, w4, w5, rfl⟩
    have hy : ysV L T L.washes.length = L.washes.map fun W => washD L.n (worstW T W) := by
      unfold ysV
      rw [List.take_length]
    rw [List.length_map, hy]
    refine ⟨rfl, Ev.run ?_⟩
    simp [Lab.D]
end LW
end

section
set_option Elab.async false
set_option linter.all false
set_option maxRecDepth 100000
set_option maxHeartbeats 999999
open DL
open PySem (PyData Str)
namespace LW
/-! ### the law's own pairs -/
def pairD (p : Nat × Nat) : D := .tuple [.int (p.1 : Nat), .int (p.2 : Nat)]
theorem eqv_pair (p q : Nat × Nat) : PyData.eqv (pairD p) (pairD q) = decide (p = q) := by
  obtain ⟨a, b⟩ := p
  obtain ⟨c, d⟩ := q
  unfold pairD
  simp only [PyData.eqv, PyData.eqvAll]
  show ((((a : Nat) : Int) == ((c : Nat) : Int)) && ((((b : Nat) : Int) == ((d : Nat) : Int)) && true)) = _
  by_cases h1 : a = c <;> by_cases h2 : b = d <;> simp [h1, h2] <;> omega
theorem any_pairs (l : List (Nat × Nat)) (p : Nat × Nat) : ((l.map pairD).any fun z => PyData.eqv z (pairD p)) = decide (p ∈ l) := by
  induction l with
  | nil => rfl
  | cons a l ih =>
    rw [List.map_cons, List.any_cons, ih, eqv_pair]
    by_cases h : a = p
    · subst h; simp
    · have h2 : ¬ p = a := fun z => h z.symm
      simp [h, h2]
theorem pd_pairs (l : List (Nat × Nat)) : pd 2 (.list (l.map pairD)) = true := by
  show (l.map pairD).all (pd 1) = true
  refine List.all_eq_true.mpr fun x hx => ?_
  obtain ⟨i, _, rfl⟩ := List.mem_map.mp hx
  rfl
theorem in_pairs (l : List (Nat × Nat)) (p : Nat × Nat) : inD (pairD p) (.list (l.map pairD)) = some (.val (.bool (decide (p ∈ l)))) := by
  unfold inD orO inT inL
  dsimp only
  have : (PySem.SeqAt.shaped (pairD p) && PySem.SeqAt.shaped (.list (l.map pairD))) = true := by
    rw [shaped_pd (n := 1) rfl, shaped_pd (pd_pairs l)]
    rfl
  rw [if_pos this, any_pairs]
  rfl
theorem notIn_pairs (l : List (Nat × Nat)) (p : Nat × Nat) : notInD (pairD p) (.list (l.map pairD)) = some (.val (.bool (!decide (p ∈ l)))) := by
  unfold notInD orO inT inL
  dsimp only
  have : (PySem.SeqAt.shaped (pairD p) && PySem.SeqAt.shaped (.list (l.map pairD))) = true := by
    rw [shaped_pd (n := 1) rfl, shaped_pd (pd_pairs l)]
    rfl
  rw [if_pos this, any_pairs]
  rfl
theorem eqv_pairs : ∀ l m : List (Nat × Nat), PyData.eqvAll (l.map pairD) (m.map pairD) = decide (l = m)
  | [], [] => rfl
  | [], _ :: _ => rfl
  | _ :: _, [] => rfl
  | a :: l, b :: m => by
    rw [List.map_cons, List.map_cons]
    unfold PyData.eqvAll
    rw [eqv_pair, eqv_pairs l m]
    by_cases h1 : a = b <;> by_cases h2 : l = m <;> simp [h1, h2]
theorem eq_pairs (l m : List (Nat × Nat)) : eqD (.list (l.map pairD)) (.list (m.map pairD)) = some (.val (.bool (decide (l = m)))) := by
  rw [eqD_sh (shaped_pd (pd_pairs l)) (shaped_pd (pd_pairs m))]
  unfold PyData.eqv
  rw [eqv_pairs]
def gdM (i j k : Nat) : M Unit Bool := orT (bnd (op2 eqD (nameM i) (nameM j)) boolO) (bnd (op2 inD (tupM (consD (nameM i) (consD (nameM j) nilM))) (nameM k)) boolO)
theorem or_good {i j k : Nat} {s : Stt Unit} {a b : Nat} {l : List (Nat × Nat)} {T : Nat → Nat → Bool} (h : (a = b ∨ (a, b) ∈ l) ↔ T a b = true) (hi : s.env[i]? = some (some (.d (.int (a : Nat))))) (hj : s.env[j]? = some (some (.d (.int (b : Nat))))) (hk : s.env[k]? = some (some (.d (.list (l.map pairD))))) :
    orT (bnd (op2 eqD (nameM i) (nameM j)) boolO) (bnd (op2 inD (tupM (consD (nameM i) (consD (nameM j) nilM))) (nameM k)) boolO) s = some (T a b, s) := by
  have ip : inD (.tuple [.int (a : Nat), .int (b : Nat)]) (.list (l.map pairD)) = some (.val (.bool (decide ((a, b) ∈ l)))) := in_pairs l (a, b)
  by_cases hab : a = b
  · have hT : T a b = true := h.mp (.inl hab)
    have hab' : (a : Int) = (b : Int) := by omega
    simp [hi, hj, hk, hab', hT]
  · have hab' : ¬ (a : Int) = (b : Int) := by omega
    have : T a b = decide ((a, b) ∈ l) := by
      by_cases hm : (a, b) ∈ l
      · rw [h.mp (.inr hm)]; simp [hm]
      · cases hT : T a b with
        | true => exact absurd (h.mpr hT) (fun z => z.elim hab hm)
        | false => simp [hm]
    simp [hi, hj, hk, hab', ip, this]
/-- the list of pairs is the table's -/
def Gd (n : Nat) (T : Nat → Nat → Bool) (l : List (Nat × Nat)) : Prop := ∀ a b, a < n → b < n → ((a = b ∨ (a, b) ∈ l) ↔ T a b = true)
def lD (l : List (Nat × Nat)) : D := .list (l.map pairD)
def envA (L : Lab) (l : List (Nat × Nat)) (b w : Nat) (w4 w5 w6 w7 : Option Sl) : Stt Unit := ⟨[some (.d L.D), some (.d (lD l)), some (.d (.int (b : Nat))), some (.d (.int (w : Nat))), w4, w5, w6, w7], ()⟩
def oS (w : Option D) : Option Sl := w.map Sl.d
@[simp] theorem keep_oS (w : Option D) : keepD (some (oS w)) = oS w := by cases w <;> rfl
def AS (L : Lab) (T : Nat → Nat → Bool) (l : List (Nat × Nat)) (b w : Nat) (i : Nat) (s : Stt Unit) : Prop := ∃ w4 w5 w6, s = envA L l b w w4 w5 (oS w6) none ∧ ∀ t e, t < i → L.meet w t = some e → ∃ f, L.meet b t = some f ∧ T f e = true
def AW (L : Lab) (T : Nat → Nat → Bool) (l : List (Nat × Nat)) (b w : Nat) (i : Nat) (s : Stt Unit) : Prop := ∃ w4 w5 w6 w7, s = envA L l b w w4 w5 (oS w6) w7 ∧ ∀ j W, j < i → L.washes[j]? = some W → ∀ r ∈ W.after b, ∃ o ∈ W.after w, T r o = true
def AI (L : Lab) (T : Nat → Nat → Bool) (l : List (Nat × Nat)) (b w : Nat) (w4 : Option Sl) (w6 : Option D) (W : Wash) (k : Nat) (s : Stt Unit) : Prop := ∃ w5, s = envA L l b w w4 w5 (oS w6) (some (.d (washD L.n W))) ∧ ∀ k' r, k' < k → (W.after b)[k']? = some r → ∃ o ∈ W.after w, T r o = true
/-- the list of what stands for r among the results -/
theorem turn5 {a c d : D} {l : List (Nat × Nat)} {T : Nat → Nat → Bool} {r o : Nat} {w4 w7 : Option Sl} (h : (r = o ∨ (r, o) ∈ l) ↔ T r o = true) (acc : List D) :
    Ev (turnM (setM 6) (orT (bnd (op2 eqD (nameM 5) (nameM 6)) boolO) (bnd (op2 inD (tupM (consD (nameM 5) (consD (nameM 6) nilM))) (nameM 1)) boolO)) (valM (nameM 6)) (nD o) acc) (⟨[some (.d a), some (.d (lD l)), some (.d c), some (.d d), w4, some (.d (.int (r : Nat))), none, w7], ()⟩ : Stt Unit)
      fun acc' s3 => acc' = acc ++ (gT (fun o => T r o) (nD o)).toList ∧ wipeE s3.env [6] = [some (.d a), some (.d (lD l)), some (.d c), some (.d d), w4, some (.d (.int (r : Nat))), none, w7] ∧ s3.dr = () := by
  refine Ev.run ?_
  have e := or_good (i := 5) (j := 6) (k := 1) (s := (⟨[some (.d a), some (.d (lD l)), some (.d c), some (.d d), w4, some (.d (.int (r : Nat))), some (.d (.int (o : Nat))), w7], ()⟩ : Stt Unit)) h rfl rfl rfl
  generalize orT (bnd (op2 eqD (nameM 5) (nameM 6)) boolO) _ = F at e ⊢
  cases hT : T r o <;> simp [nD, gT, e, hT]
theorem good_ok {L : Lab} (ok : LabOk L) {T : Nat → Nat → Bool} {l : List (Nat × Nat)} (G : Gd L.n T l) {b w : Nat} (hb : b < L.n) (hw : w < L.n) :
    ∃ v, m__law_is_good [L.D, lD l, .int (b : Nat), .int (w : Nat)] = some (.bool v) ∧ (v = true ↔ OkPair L T b w) := by
  have k8 := ok.k8
  have n1 := ok.n1
  obtain ⟨d, e, v, rfl, q⟩ : ∃ d, m__law_is_good [L.D, lD l, .int (b : Nat), .int (w : Nat)] = some d ∧ ∃ v, d = .bool v ∧ (v = true ↔ OkPair L T b w) := by
    refine runP2_ex rfl ?_
    unfold F__law_is_good
    have g2 : rgOk 0 (L.k : Nat) = true := rgOk_small (by omega) (by omega) (by omega) (by omega)
    refine Ev.seq (Ev.loop (Ev.rangeM (lo := 0) (hi := (L.k : Nat)) (by simp [Lab.D, Lab.meets, rowT_get n1, Lab.mrow]) g2 ?_))
    rw [rgD_nat]
    refine Ev.for_ (AS L T l b w) ?_ ?_ ⟨_, _, none, rfl, fun t e h => by omega⟩
    · rintro t x s hx ⟨w4, w5, w6, rfl, h1⟩
      obtain ⟨ht, rfl⟩ := rgN_some hx
      refine Ev.bnd (Ev.run ?_)
      simp [envA]
      refine Ev.seqN (Ev.run ?_)
      simp [Lab.D, Lab.meets, Lab.mrow, rowT_get hb, rowT_get hw, rowT_get ht]
      have nxt : (∀ e, L.meet w t = some e → ∃ f, L.meet b t = some f ∧ T f e = true) → ∀ w5 w6, AS L T l b w (t + 1) (envA L l b w (some (.d (.int (t : Nat)))) w5 (oS w6) none) := fun h w5 w6 => ⟨_, _, w6, rfl, fun t' e ht' he => by
        by_cases z : t' < t
        · exact h1 t' e z he
        · have : t' = t := by omega
          subst this
          exact h e he⟩
      refine Ev.run ?_
      cases he : L.meet w t with
      | none =>
        simp [oD, he]
        exact nxt (fun e h => by rw [he] at h; cases h) _ (some .none)
      | some e =>
        have en := ok.meet w t e hw ht he
        cases hf : L.meet b t with
        | none =>
          simp [oD, he, hf]
          rintro ⟨z, _⟩
          obtain ⟨f, h2, _⟩ := z t e ht he
          rw [hf] at h2
          cases h2
        | some f =>
          have fn := ok.meet b t f hb ht hf
          have eg := or_good (i := 5) (j := 6) (k := 1) (s := (⟨[some (.d L.D), some (.d (lD l)), some (.d (.int (b : Nat))), some (.d (.int (w : Nat))), some (.d (.int (t : Nat))), some (.d (.int (f : Nat))), some (.d (.int (e : Nat))), none], ()⟩ : Stt Unit)) (G f e fn en) rfl rfl rfl
          generalize orT (bnd (op2 eqD (nameM 5) (nameM 6)) boolO) _ = F at eg ⊢
          simp only [Lab.D, Lab.meets] at eg
          cases hT : T f e with
          | true =>
            rw [hT] at eg
            simp [oD, he, hf, eg]
            exact nxt (fun e' h => by rw [he] at h; cases h; exact ⟨f, hf, hT⟩) _ (some (.int (e : Nat)))
          | false =>
            rw [hT] at eg
            simp [oD, he, hf, eg]
            rintro ⟨z, _⟩
            obtain ⟨f', h2, h3⟩ := z t e ht he
            rw [hf] at h2
            cases h2
            rw [hT] at h3
            cases h3
    · rintro s ⟨w4, w5, w6, rfl, h1⟩
      rw [rgN_len] at h1
      rw [thenP_nx]
      refine Ev.seq (Ev.loop (Ev.run ?_))
      simp [envA, Lab.D, Lab.ws]
      refine Ev.for_ (AW L T l b w) ?_ ?_ ⟨_, _, w6, _, rfl, fun j W h => by omega⟩
      · rintro i x s hx ⟨w4, w5, w6, w7, rfl, h3⟩
        rw [List.getElem?_map] at hx
        obtain ⟨W, hW, rfl⟩ := Option.map_eq_some_iff.mp hx
        have wok := ok.wash W (List.mem_of_getElem? hW)
        refine Ev.bnd (Ev.run ?_)
        simp [envA]
        refine Ev.loop (Ev.run ?_)
        simp [washD, rowT_get hb, resD]
        refine Ev.for_ (AI L T l b w w4 w6 W) ?_ ?_ ⟨_, rfl, fun k r h => by omega⟩
        · rintro k x s hx ⟨w5, rfl, h4⟩
          rw [List.getElem?_map] at hx
          obtain ⟨r, hr, rfl⟩ := Option.map_eq_some_iff.mp hx
          have rn := wok.lt b hb r (List.mem_of_getElem? hr)
          refine Ev.bnd (Ev.run ?_)
          simp [envA, nD]
          generalize hF : lcM [6] _ _ _ _ = F
          have e : F (envA L l b w w4 (some (.d (.int (r : Nat)))) (oS w6) (some (.d (washD L.n W)))) = some (.new (((W.after w).filter fun o => T r o).map nD), envA L l b w w4 (some (.d (.int (r : Nat)))) (oS w6) (some (.d (washD L.n W)))) := by
            subst hF
            rw [← gT_map]
            refine lc_eq (s1 := envA L l b w w4 (some (.d (.int (r : Nat)))) (oS w6) (some (.d (washD L.n W)))) (xs := (W.after w).map nD) (gT fun o => T r o) ?_ ?_ ?_ ?_
            · simp [envA, washD, rowT_get hw, resD]
            · have := wok.few w hw
              rw [List.length_map]
              omega
            · simp [envA]
            · intro x hx acc
              obtain ⟨o, ho, rfl⟩ := List.mem_map.mp hx
              exact turn5 (G r o rn (wok.lt w hw o ho)) acc
          simp only [envA] at e
          refine Ev.run ?_
          generalize hl : ((W.after w).filter fun o => T r o) = fl at e
          cases fl with
          | nil =>
            simp [e]
            rintro ⟨_, z⟩
            obtain ⟨o, ho, hT⟩ := z W (List.mem_of_getElem? hW) r (List.mem_of_getElem? hr)
            have : o ∈ (W.after w).filter fun o => T r o := List.mem_filter.mpr ⟨ho, hT⟩
            rw [hl] at this
            cases this
          | cons o os =>
            have nz : ¬ ((os.length : Int) + 1 = 0) := by omega
            simp [e, nz]
            refine ⟨_, rfl, fun k' r' hk' hr' => ?_⟩
            by_cases hkk : k' < k
            · exact h4 k' r' hkk hr'
            · have : k' = k := by omega
              subst this
              rw [hr] at hr'
              cases hr'
              have m : o ∈ (W.after w).filter fun o => T r o := by rw [hl]; exact List.mem_cons_self
              obtain ⟨m1, m2⟩ := List.mem_filter.mp m
              exact ⟨o, m1, m2⟩
        · rintro s ⟨w5, rfl, h4⟩
          rw [turnP_nx]
          refine ⟨_, _, w6, _, rfl, fun j W' hj hW' r hr => ?_⟩
          by_cases hji : j < i
          · exact h3 j W' hji hW' r hr
          · have : j = i := by omega
            subst this
            rw [hW] at hW'
            cases hW'
            obtain ⟨j', hj'⟩ := List.mem_iff_getElem?.mp hr
            refine h4 j' r ?_ hj'
            have := (List.getElem?_eq_some_iff.mp hj').1
            simpa using this
      · rintro s ⟨w4, w5, w6, w7, rfl, h3⟩
        rw [thenP_nx]
        refine Ev.run ?_
        simp
        refine ⟨fun t e ht he => h1 t e ht he, fun W hW r hr => ?_⟩
        obtain ⟨j', hj'⟩ := List.mem_iff_getElem?.mp hW
        refine h3 j' W ?_ hj' r hr
        have := (List.getElem?_eq_some_iff.mp hj').1
        simpa using this
  exact ⟨v, e, q⟩
end LW
end

section
set_option Elab.async false
set_option linter.all false
set_option maxRecDepth 100000
set_option maxHeartbeats 999999
open DL
open PySem (PyData Str)
namespace LW
/-! ### the law's pairs, all of them, left by rounds -/
def prow (n b : Nat) : List (Nat × Nat) := ((List.range n).filter fun w => !decide (b = w)).map fun w => (b, w)
def allp (n k : Nat) : List (Nat × Nat) := (List.range k).flatMap (prow n)
theorem allp_succ (n k : Nat) : allp n (k + 1) = allp n k ++ prow n k := by
  unfold allp
  rw [List.range_succ, List.flatMap_append]
  simp
theorem prow_len (n b : Nat) : (prow n b).length ≤ n := by
  unfold prow
  rw [List.length_map]
  have := List.length_filter_le (fun w => !decide (b = w)) (List.range n)
  rw [List.length_range] at this
  exact this
theorem allp_len (n : Nat) : ∀ k, (allp n k).length ≤ k * n
  | 0 => by simp [allp]
  | k + 1 => by
    rw [allp_succ, List.length_append, Nat.add_mul]
    have := allp_len n k
    have := prow_len n k
    omega
theorem mem_allp {n k : Nat} {p : Nat × Nat} : p ∈ allp n k ↔ p.1 < k ∧ p.2 < n ∧ p.1 ≠ p.2 := by
  obtain ⟨a, b⟩ := p
  unfold allp prow
  simp only [List.mem_flatMap, List.mem_range, List.mem_map, List.mem_filter, Prod.mk.injEq, Bool.not_eq_true', decide_eq_false_iff_not]
  constructor
  · rintro ⟨x, hx, y, ⟨hy, hn⟩, rfl, rfl⟩
    exact ⟨hx, hy, hn⟩
  · rintro ⟨h1, h2, h3⟩
    exact ⟨a, h1, b, ⟨h2, h3⟩, rfl, rfl⟩
def plist (n : Nat) (T : Nat → Nat → Bool) : List (Nat × Nat) := (allp n n).filter fun p => T p.1 p.2
theorem mem_plist {n : Nat} {T : Nat → Nat → Bool} {p : Nat × Nat} : p ∈ plist n T ↔ (p.1 < n ∧ p.2 < n ∧ p.1 ≠ p.2) ∧ T p.1 p.2 = true := by
  unfold plist
  rw [List.mem_filter, mem_allp]
theorem plist_len (n : Nat) (T : Nat → Nat → Bool) : (plist n T).length ≤ n * n := Nat.le_trans (List.length_filter_le _ _) (allp_len n n)
theorem round_refl (L : Lab) (b : Nat) : ∀ m, roundT L m b b = true
  | 0 => rfl
  | m + 1 => step_eq.mpr ⟨round_refl L b m, fun B => B.2.1 rfl⟩
theorem gd_plist {n : Nat} {T : Nat → Nat → Bool} (h : ∀ b, T b b = true) : Gd n T (plist n T) := fun a b ha hb => by
  rw [mem_plist]
  constructor
  · rintro (rfl | ⟨_, h2⟩)
    · exact h a
    · exact h2
  · intro hT
    by_cases e : a = b
    · exact .inl e
    · exact .inr ⟨⟨ha, hb, e⟩, hT⟩
def gP (U : Nat → Nat → Bool) : D → Option D
  | .tuple [.int a, .int b] => if U a.toNat b.toNat then some (.tuple [.int a, .int b]) else none
  | _ => none
theorem gP_map (U : Nat → Nat → Bool) : ∀ l : List (Nat × Nat), (l.map pairD).filterMap (gP U) = (l.filter fun p => U p.1 p.2).map pairD
  | [] => rfl
  | p :: l => by
    rw [List.map_cons, List.filterMap_cons, List.filter_cons, gP_map U l]
    cases h : U p.1 p.2 <;> simp [gP, pairD, h]
theorem plist_step (L : Lab) (n : Nat) (T : Nat → Nat → Bool) : ((plist n T).filter fun p => stepT L T p.1 p.2) = plist n (stepT L T) := by
  unfold plist
  rw [List.filter_filter]
  refine List.filter_congr fun p _ => ?_
  unfold stepT
  cases T p.1 p.2 <;> simp
theorem turn6 {f : List D → Option D} {a l c d e s6 : D} {q : Nat × Nat} {w3 w4 w5 w6 : Option Sl} {v : Bool} (h : f [a, l, .int (q.1 : Nat), .int (q.2 : Nat)] = some (.bool v)) (U : Nat → Nat → Bool) (hv : U q.1 q.2 = v) (acc : List D) :
    Ev (turnM (setM 7) (bnd (callP f (consD (nameM 0) (consD (nameM 2) (consD (op2 ixD (nameM 7) (ret (.val (PyData.int 0)))) (consD (op2 ixD (nameM 7) (ret (.val (PyData.int 1)))) nilM))))) boolO) (valM (nameM 7)) (pairD q) acc) (⟨[some (.d a), w3, some (.d l), w4, none, w5, w6, none], ()⟩ : Stt Unit)
      fun acc' s3 => acc' = acc ++ (gP U (pairD q)).toList ∧ wipeE s3.env [7] = [some (.d a), w3, some (.d l), w4, none, w5, w6, none] ∧ s3.dr = () := by
  refine Ev.run ?_
  cases v <;> simp [pairD, gP, h, hv]
def gB (b : Nat) : D → Option D := fun x => match x with
  | .int w => if !decide (b = w.toNat) then some (pairD (b, w.toNat)) else none
  | _ => none
theorem turn7 {a l2 : D} {n b w : Nat} {s2 : Option Sl} (acc : List D) :
    Ev (turnM (setM 4) (bnd (op2 neD (nameM 3) (nameM 4)) boolO) (valM (tupM (consD (nameM 3) (consD (nameM 4) nilM)))) (nD w) acc) (⟨[some (.d a), some (.d l2), s2, some (.d (.int (b : Nat))), none, none, none, none], ()⟩ : Stt Unit)
      fun acc' s3 => acc' = acc ++ (gB b (nD w)).toList ∧ wipeE s3.env [4] = [some (.d a), some (.d l2), s2, some (.d (.int (b : Nat))), none, none, none, none] ∧ s3.dr = () := by
  refine Ev.run ?_
  by_cases h : b = w
  · subst h
    simp [nD, gB]
  · have h' : ¬ (b : Int) = (w : Int) := by omega
    simp [nD, gB, h, h', pairD]
theorem gB_row (n b : Nat) : (rgN n).filterMap (gB b) = (prow n b).map pairD := by
  unfold rgN prow
  rw [List.filterMap_map, List.map_map]
  generalize List.range n = l
  induction l with
  | nil => rfl
  | cons w l ih =>
    rw [List.filterMap_cons, List.filter_cons, ih]
    by_cases h : b = w <;> simp [gB, h]
def PL (L : Lab) (k : Nat) (s : Stt Unit) : Prop := ∃ w3, s = ⟨[some (.d L.D), some (.d (.list (rgN L.n))), some (.own ((allp L.n k).map pairD)), w3, none, none, none, none], ()⟩
def lS (c : Bool) (l : List (Nat × Nat)) : Option Sl := if c then some (.own (l.map pairD)) else some (.d (lD l))
def PM (L : Lab) (T : Nat → Nat → Bool) (s : Stt Unit) : Prop := ∃ c w3 w5 w6, s = ⟨[some (.d L.D), some (.d (.list (rgN L.n))), lS c (plist L.n T), w3, none, w5, w6, none], ()⟩
theorem plist_all (n : Nat) (L : Lab) : plist n (roundT L 0) = allp n n := by
  unfold plist roundT
  simp
theorem plist_inj {L : Lab} {i : Nat} (h : plist L.n (stepT L (roundT L i)) = plist L.n (roundT L i)) : Same2 L.n (roundT L (i + 1)) (roundT L i) := fun b w hb hw => by
  by_cases e : b = w
  · subst e
    rw [round_refl, round_refl]
  · have h1 : (b, w) ∈ plist L.n (stepT L (roundT L i)) ↔ (b, w) ∈ plist L.n (roundT L i) := by rw [h]
    rw [mem_plist, mem_plist] at h1
    have h2 : stepT L (roundT L i) b w = true ↔ roundT L i b w = true := ⟨fun z => (h1.mp ⟨⟨hb, hw, e⟩, z⟩).2, fun z => (h1.mpr ⟨⟨hb, hw, e⟩, z⟩).2⟩
    exact bool_iff h2 Iff.rfl
theorem plist_congr {n : Nat} {T U : Nat → Nat → Bool} (h : Same2 n T U) : plist n T = plist n U := by
  unfold plist
  exact List.filter_congr fun p hp => h p.1 p.2 (mem_allp.mp hp).1 (mem_allp.mp hp).2.1
theorem Ev.listRgM {τ : Type} {G : M τ (List Opd)} {lo hi : Int} {s : Stt τ} {P : Opd → Stt τ → Prop} (h : DL.bnd (intsM G) (fun ds => lift (rng2 ds)) s = some ((lo, hi), s)) (ok : rgOk lo hi = true) (hp : P (.new (rgD lo hi)) s) : Ev (DL.listRgM G) s P := ⟨.new (rgD lo hi), s, by
  rw [listRgM_s, h]
  dsimp only
  rw [if_pos ok], hp⟩
theorem pairs_ok {L : Lab} (ok : LabOk L) : m__law_pairs_due [L.D] = some (lD (plist L.n (gT_ L))) := by
  have n1 := ok.n1
  have n8 := ok.n8
  have nn : L.n * L.n ≤ 8 * 8 := Nat.mul_le_mul n8 n8
  have hG := fun (T : Nat → Nat → Bool) (l : List (Nat × Nat)) (G : Gd L.n T l) (b w : Nat) (hb : b < L.n) (hw : w < L.n) => good_ok ok G hb hw
  have g2 : rgOk 0 (L.n : Nat) = true := rgOk_small (by omega) (by omega) (by omega) (by omega)
  have g3 : rgOk 0 ((L.n * L.n : Nat) : Int) = true := rgOk_small (by omega) (by omega) (by omega) (by omega)
  have m1 : mulOk (L.n : Nat) (L.n : Nat) = true := mulOk_small (by omega) (by omega)
  refine runP2_of rfl ?_
  unfold F__law_pairs_due
  generalize m__law_is_good = f at hG ⊢
  refine Ev.seqN (Ev.asg (LW.Ev.listRgM (lo := 0) (hi := (L.n : Nat)) (by simp [Lab.D, Lab.meets]) g2 ?_))
  rw [rgD_nat]
  refine Ev.run ?_
  simp
  refine Ev.seqN (Ev.run ?_)
  simp
  refine Ev.seqN (Ev.loop (Ev.run ?_))
  simp
  refine Ev.for_ (PL L) ?_ ?_ ⟨none, rfl⟩
  · rintro b x s hx ⟨w3, rfl⟩
    obtain ⟨hb, rfl⟩ := rgN_some hx
    refine Ev.bnd (Ev.run ?_)
    simp
    generalize hF : lcM [4] _ _ _ _ = F
    have e : F (⟨[some (.d L.D), some (.d (.list (rgN L.n))), some (.own ((allp L.n b).map pairD)), some (.d (.int (b : Nat))), none, none, none, none], ()⟩ : Stt Unit) = some (.new ((prow L.n b).map pairD), ⟨[some (.d L.D), some (.d (.list (rgN L.n))), some (.own ((allp L.n b).map pairD)), some (.d (.int (b : Nat))), none, none, none, none], ()⟩) := by
      subst hF
      rw [← gB_row]
      refine lc_eq (s1 := (⟨[some (.d L.D), some (.d (.list (rgN L.n))), some (.own ((allp L.n b).map pairD)), some (.d (.int (b : Nat))), none, none, none, none], ()⟩ : Stt Unit)) (xs := rgN L.n) _ (by simp) (by rw [rgN_len]; omega) rfl ?_
      intro x hx acc
      obtain ⟨w, hw, rfl⟩ := List.mem_map.mp hx
      exact turn7 (n := 0) acc
    refine Ev.run ?_
    have z : (allp L.n b).length + (prow L.n b).length ≤ 16777216 := by
      have h1 := allp_len L.n b
      have h2 := prow_len L.n b
      have h3 : b * L.n ≤ 8 * 8 := Nat.mul_le_mul (by omega) n8
      omega
    simp [e, z]
    unfold PL
    rw [allp_succ, List.map_append]
    exact ⟨_, rfl⟩
  · rintro s ⟨w3, rfl⟩
    rw [rgN_len]
    refine ⟨rfl, ?_⟩
    refine Ev.seq (Ev.loop (Ev.rangeM (lo := 0) (hi := ((L.n * L.n : Nat) : Int)) (by simp [Lab.D, Lab.meets, m1]) g3 ?_))
    rw [rgD_nat]
    refine Ev.for_ (fun i s => PM L (roundT L i) s) ?_ ?_ ⟨true, w3, none, none, by rw [plist_all]; rfl⟩
    · rintro i x s hx ⟨c, w3, w5, w6, rfl⟩
      obtain ⟨hi, rfl⟩ := rgN_some hx
      have pl := plist_len L.n (roundT L i)
      refine Ev.bnd (Ev.run ?_)
      simp
      refine Ev.seqN (Ev.asg (Ev.lcw (gP (stepT L (roundT L i))) [some (.d L.D), some (.d (.list (rgN L.n))), some (.d (lD (plist L.n (roundT L i)))), w3, none, some (.d (.int (i : Nat))), w6, none] () (Ev.run ?_)))
      have fi : (iterM (nameM 2)) (⟨[some (.d L.D), some (.d (.list (rgN L.n))), lS c (plist L.n (roundT L i)), w3, none, some (.d (.int (i : Nat))), w6, none], ()⟩ : Stt Unit) = some ((plist L.n (roundT L i)).map pairD, ⟨[some (.d L.D), some (.d (.list (rgN L.n))), some (.d (lD (plist L.n (roundT L i)))), w3, none, some (.d (.int (i : Nat))), w6, none], ()⟩) := by
        cases c <;> simp [lS, lD]
      rw [fi]
      refine ⟨by rw [List.length_map]; omega, rfl, rfl, rfl, ?_, ?_⟩
      · intro x hx acc
        obtain ⟨q, hq, rfl⟩ := List.mem_map.mp hx
        obtain ⟨⟨q1, q2, q3⟩, q4⟩ := mem_plist.mp hq
        obtain ⟨v, e1, e2⟩ := hG (roundT L i) _ (gd_plist fun b => round_refl L b i) q.1 q.2 q1 q2
        refine (turn6 (c := .none) (d := .none) (e := .none) (s6 := .none) e1 (stepT L (roundT L i)) ?_ acc)
        refine bool_iff (p := OkPair L (roundT L i) q.1 q.2) ?_ e2
        rw [step_eq]
        constructor
        · rintro ⟨_, z⟩
          exact Classical.byContradiction fun y => z ⟨q4, q3, y⟩
        · intro z
          exact ⟨q4, fun B => B.2.2 z⟩
      · rw [gP_map, plist_step]
        refine Ev.run ?_
        simp
        refine Ev.seq (Ev.run ?_)
        simp [lD, eq_pairs]
        by_cases he : plist L.n (stepT L (roundT L i)) = plist L.n (roundT L i)
        · have sm : Same2 L.n (gT_ L) (roundT L i) := by
            have := round_stop ok (plist_inj he) (L.n * L.n - i)
            rw [show i + (L.n * L.n - i) = L.n * L.n by omega] at this
            exact this
          have pe := plist_congr sm
          simp [he]
          refine Ev.run ?_
          simp [pe, lD]
        · simp [he]
          refine Ev.run ?_
          simp
          exact ⟨false, _, _, _, rfl⟩
    · rintro s ⟨c, w3, w5, w6, rfl⟩
      rw [rgN_len, thenP_nx]
      refine Ev.run ?_
      cases c <;> simp [lS, lD, gT_]
end LW
end

section
set_option Elab.async false
set_option linter.all false
set_option maxRecDepth 100000
set_option maxHeartbeats 999999
open DL
open PySem (PyData Str)
namespace LW
/-! ### what is beaten is beaten by an unbeaten one -/
theorem filter_lt {α : Type} {p q : α → Bool} : ∀ {l : List α}, (∀ x ∈ l, p x = true → q x = true) → ∀ {y : α}, y ∈ l → q y = true → p y = false → (l.filter p).length < (l.filter q).length
  | [], _, y, hy, _, _ => by cases hy
  | x :: l, h, y, hy, h1, h2 => by
    have le : (l.filter p).length ≤ (l.filter q).length := by
      have : ∀ l' : List α, (∀ x ∈ l', p x = true → q x = true) → (l'.filter p).length ≤ (l'.filter q).length := by
        intro l'
        induction l' with
        | nil => intro _; exact Nat.le_refl _
        | cons z l' ih =>
          intro hz
          have r := ih fun x m => hz x (List.mem_cons_of_mem _ m)
          rw [List.filter_cons, List.filter_cons]
          cases hp : p z with
          | true =>
            rw [hz z List.mem_cons_self hp]
            simp only [if_true, List.length_cons]
            omega
          | false =>
            cases q z <;> simp <;> omega
      exact this l fun x m => h x (List.mem_cons_of_mem _ m)
    rw [List.filter_cons, List.filter_cons]
    rcases List.mem_cons.mp hy with rfl | m
    · rw [h1, h2]
      simp
      omega
    · have r := filter_lt (fun x m => h x (List.mem_cons_of_mem _ m)) m h1 h2
      cases hp : p x with
      | true =>
        rw [h x List.mem_cons_self hp]
        simp
        omega
      | false =>
        cases q x <;> simp <;> omega
theorem unbeaten {R : Nat → Nat → Prop} {l : List Nat} (ir : ∀ a, ¬ R a a) (tr : ∀ a b c, a ∈ l → b ∈ l → c ∈ l → R a b → R b c → R a c) :
    ∀ (k w : Nat), w ∈ l → (∃ o ∈ l, R o w) → (l.filter fun o => @decide (R o w) (Classical.propDecidable _)).length ≤ k → ∃ m ∈ l, R m w ∧ ¬ ∃ o ∈ l, R o m := by
  intro k
  have dt : ∀ a b, @decide (R a b) (Classical.propDecidable _) = true ↔ R a b := fun a b => @decide_eq_true_iff _ (Classical.propDecidable _)
  induction k with
  | zero =>
    rintro w hw ⟨o, ho, h⟩ hl
    have : o ∈ l.filter fun o => @decide (R o w) (Classical.propDecidable _) := List.mem_filter.mpr ⟨ho, (dt o w).mpr h⟩
    have := List.length_pos_of_mem this
    omega
  | succ k ih =>
    rintro w hw ⟨o, ho, h⟩ hl
    rcases Classical.em (∃ p ∈ l, R p o) with q | q
    · have lt := filter_lt (p := fun p => @decide (R p o) (Classical.propDecidable _)) (q := fun p => @decide (R p w) (Classical.propDecidable _)) (l := l)
        (fun x hx hp => (dt x w).mpr (tr x o w hx ho hw ((dt x o).mp hp) h)) ho ((dt o w).mpr h) (by
          cases z : @decide (R o o) (Classical.propDecidable _) with
          | false => rfl
          | true => exact absurd ((dt o o).mp z) (ir o))
      obtain ⟨m, hm, h1, h2⟩ := ih o ho q (by omega)
      exact ⟨m, hm, tr m o w hm ho hw h1 h, h2⟩
    · exact ⟨o, ho, h, q⟩
/-- the tables are transitive -/
def Tr (n : Nat) (T : Nat → Nat → Bool) : Prop := ∀ a b c, a < n → b < n → c < n → T a b = true → T b c = true → T a c = true
theorem okPair_trans {L : Lab} (ok : LabOk L) {T : Nat → Nat → Bool} (h : Tr L.n T) {a b c : Nat} (ha : a < L.n) (hb : b < L.n) (hc : c < L.n) (h1 : OkPair L T a b) (h2 : OkPair L T b c) : OkPair L T a c := by
  refine ⟨fun t e ht he => ?_, fun W hW r hr => ?_⟩
  · obtain ⟨f, f1, f2⟩ := h2.1 t e ht he
    obtain ⟨g, g1, g2⟩ := h1.1 t f ht f1
    exact ⟨g, g1, h g f e (ok.meet a t g ha ht g1) (ok.meet b t f hb ht f1) (ok.meet c t e hc ht he) g2 f2⟩
  · have wok := ok.wash W hW
    obtain ⟨o, o1, o2⟩ := h1.2 W hW r hr
    obtain ⟨p, p1, p2⟩ := h2.2 W hW o o1
    exact ⟨p, p1, h r o p (wok.lt a ha r hr) (wok.lt b hb o o1) (wok.lt c hc p p1) o2 p2⟩
theorem step_iff {L : Lab} {T : Nat → Nat → Bool} {b w : Nat} : stepT L T b w = true ↔ T b w = true ∧ (b = w ∨ OkPair L T b w) := by
  rw [step_eq]
  constructor
  · rintro ⟨h1, h2⟩
    refine ⟨h1, Classical.byContradiction fun z => h2 ⟨h1, fun e => z (.inl e), fun o => z (.inr o)⟩⟩
  · rintro ⟨h1, h2⟩
    exact ⟨h1, fun B => h2.elim B.2.1 B.2.2⟩
theorem round_trans {L : Lab} (ok : LabOk L) : ∀ m, Tr L.n (roundT L m)
  | 0 => fun _ _ _ _ _ _ _ _ => rfl
  | m + 1 => fun a b c ha hb hc h1 h2 => by
    have ih := round_trans ok m
    obtain ⟨t1, q1⟩ := step_iff.mp h1
    obtain ⟨t2, q2⟩ := step_iff.mp h2
    refine step_iff.mpr ⟨ih a b c ha hb hc t1 t2, ?_⟩
    rcases q1 with rfl | q1
    · exact q2
    · rcases q2 with rfl | q2
      · exact .inr q1
      · exact .inr (okPair_trans ok ih ha hb hc q1 q2)
theorem stand_trans {L : Lab} {T : Nat → Nat → Bool} (h : Tr L.n T) {A B C : Wash} (oA : WashOk L.n A) (oB : WashOk L.n B) (oC : WashOk L.n C) (h1 : Stand L.n T A B) (h2 : Stand L.n T B C) : Stand L.n T A C := by
  refine ⟨Int.le_trans h2.low h1.low, Int.le_trans h1.high h2.high, fun s hs r hr => ?_⟩
  obtain ⟨o, o1, o2⟩ := h1.res s hs r hr
  obtain ⟨p, p1, p2⟩ := h2.res s hs o o1
  exact ⟨p, p1, h r o p (oA.lt s hs r hr) (oB.lt s hs o o1) (oC.lt s hs p p1) o2 p2⟩
theorem stands_trans {L : Lab} (ok : LabOk L) {T : Nat → Nat → Bool} (h : Tr L.n T) {i j k : Nat} (hik : i ≠ k) (h1 : Stands L T i j) (h2 : Stands L T j k) : Stands L T i k := by
  obtain ⟨_, A, B, a1, a2, a3⟩ := h1
  obtain ⟨_, B', C, b1, b2, b3⟩ := h2
  rw [a2] at b1
  cases b1
  exact ⟨hik, A, C, a1, b2, stand_trans h (ok.wash A (List.mem_of_getElem? a1)) (ok.wash B (List.mem_of_getElem? a2)) (ok.wash C (List.mem_of_getElem? b2)) a3 b3⟩
theorem kept {L : Lab} (ok : LabOk L) {T : Nat → Nat → Bool} (h : Tr L.n T) {w : Nat} (hw : w < L.washes.length) (hn : Needless L T w) : ∃ o, o < L.washes.length ∧ ¬ Needless L T o ∧ Stands L T o w := by
  obtain ⟨m, hm, h1, h2⟩ := unbeaten (R := fun o w => Stands L T o w ∧ (o < w ∨ ¬ Stands L T w o)) (l := List.range L.washes.length) (fun a h => h.1.1 rfl) (fun a b c _ _ _ p q => by
    have ne : a ≠ c := by
      rintro rfl
      rcases p.2 with x | x
      · rcases q.2 with y | y
        · omega
        · exact y p.1
      · exact x q.1
    refine ⟨stands_trans ok h ne p.1 q.1, ?_⟩
    rcases Classical.em (Stands L T c a) with z | z
    · have ba : Stands L T b a := stands_trans ok h (fun e => p.1.1 e.symm) q.1 z
      have cb : Stands L T c b := stands_trans ok h (fun e => q.1.1 e.symm) z p.1
      have x : a < b := p.2.resolve_right fun n => n ba
      have y : b < c := q.2.resolve_right fun n => n cb
      exact .inl (by omega)
    · exact .inr z) _ w (List.mem_range.mpr hw) (by
    obtain ⟨o, ho, q⟩ := hn
    exact ⟨o, List.mem_range.mpr ho, q⟩) (Nat.le_refl _)
  exact ⟨m, List.mem_range.mp hm, fun ⟨o, ho, q⟩ => h2 ⟨o, List.mem_range.mpr ho, q⟩, h1.1⟩
theorem worst_ne {n : Nat} {T : Nat → Nat → Bool} (h : Tr n T) {rs : List Nat} (hr : ∀ r ∈ rs, r < n) (ne : rs ≠ []) : worst T rs ≠ [] := by
  obtain ⟨r, hr1⟩ := List.exists_mem_of_ne_nil rs ne
  have fin : ∀ m, m ∈ rs → ¬ Worse T rs m → worst T rs ≠ [] := fun m hm hw z => by
    have : m ∈ worst T rs := by
      unfold worst
      refine List.mem_filter.mpr ⟨hm, ?_⟩
      cases e : worseB T rs m with
      | false => rfl
      | true => exact absurd (worseB_iff.mp e) hw
    rw [z] at this
    cases this
  rcases Classical.em (Worse T rs r) with w | w
  · obtain ⟨m, hm, h1, h2⟩ := unbeaten (R := fun o r => o ≠ r ∧ T r o = true ∧ (o < r ∨ ¬ T o r = true)) (l := rs) (fun a h => h.1 rfl) (fun a b c ha hb hc p q => by
      have ca : T c a = true := h c b a (hr c hc) (hr b hb) (hr a ha) q.2.1 p.2.1
      have ne : a ≠ c := by
        rintro rfl
        rcases p.2.2 with x | x
        · rcases q.2.2 with y | y
          · omega
          · exact y p.2.1
        · exact x q.2.1
      refine ⟨ne, ca, ?_⟩
      rcases Classical.em (T a c = true) with z | z
      · have ab : T a b = true := h a c b (hr a ha) (hr c hc) (hr b hb) z q.2.1
        have bc : T b c = true := h b a c (hr b hb) (hr a ha) (hr c hc) p.2.1 z
        have x : a < b := p.2.2.resolve_right fun n => n ab
        have y : b < c := q.2.2.resolve_right fun n => n bc
        exact .inl (by omega)
      · exact .inr z) _ r hr1 w (Nat.le_refl _)
    exact fin m hm h2
  · exact fin r hr1 w
end LW
end

section
set_option Elab.async false
set_option linter.all false
set_option maxRecDepth 100000
set_option maxHeartbeats 999999
open DL
open PySem (PyData Str)
namespace LW
/-! ### the law's own tests of washes -/
def envB (L : Lab) (l : List (Nat × Nat)) (i j : Nat) (A B : Wash) (w6 w7 : Option Sl) : Stt Unit :=
  ⟨[some (.d L.D), some (.d (lD l)), some (.d (.int (i : Nat))), some (.d (.int (j : Nat))), some (.d (washD L.n A)), some (.d (washD L.n B)), w6, w7, none], ()⟩
def BO (L : Lab) (T : Nat → Nat → Bool) (l : List (Nat × Nat)) (i j : Nat) (A B : Wash) (k : Nat) (s : Stt Unit) : Prop := ∃ w6 w7, s = envB L l i j A B w6 w7 ∧ ∀ s', s' < k → s' < L.n → ∀ r ∈ A.after s', ∃ o ∈ B.after s', T r o = true
def BI (L : Lab) (T : Nat → Nat → Bool) (l : List (Nat × Nat)) (i j : Nat) (A B : Wash) (st : Nat) (k : Nat) (s : Stt Unit) : Prop := ∃ w7, s = envB L l i j A B (some (.d (.int (st : Nat)))) w7 ∧ ∀ k' r, k' < k → (A.after st)[k']? = some r → ∃ o ∈ B.after st, T r o = true
theorem turn8 {a c d e f : D} {l : List (Nat × Nat)} {T : Nat → Nat → Bool} {r o : Nat} {w6 : Option Sl} (h : (r = o ∨ (r, o) ∈ l) ↔ T r o = true) (acc : List D) :
    Ev (turnM (setM 8) (orT (bnd (op2 eqD (nameM 7) (nameM 8)) boolO) (bnd (op2 inD (tupM (consD (nameM 7) (consD (nameM 8) nilM))) (nameM 1)) boolO)) (valM (nameM 8)) (nD o) acc) (⟨[some (.d a), some (.d (lD l)), some (.d c), some (.d d), some (.d e), some (.d f), w6, some (.d (.int (r : Nat))), none], ()⟩ : Stt Unit)
      fun acc' s3 => acc' = acc ++ (gT (fun o => T r o) (nD o)).toList ∧ wipeE s3.env [8] = [some (.d a), some (.d (lD l)), some (.d c), some (.d d), some (.d e), some (.d f), w6, some (.d (.int (r : Nat))), none] ∧ s3.dr = () := by
  refine Ev.run ?_
  have e := or_good (i := 7) (j := 8) (k := 1) (s := (⟨[some (.d a), some (.d (lD l)), some (.d c), some (.d d), some (.d e), some (.d f), w6, some (.d (.int (r : Nat))), some (.d (.int (o : Nat)))], ()⟩ : Stt Unit)) h rfl rfl rfl
  generalize orT (bnd (op2 eqD (nameM 7) (nameM 8)) boolO) _ = F at e ⊢
  cases hT : T r o <;> simp [nD, gT, e, hT]
theorem lstands_ok {L : Lab} (ok : LabOk L) {T : Nat → Nat → Bool} {l : List (Nat × Nat)} (G : Gd L.n T l) {i j : Nat} {A B : Wash} (hi : L.washes[i]? = some A) (hj : L.washes[j]? = some B) :
    ∃ v, m__law_stands [L.D, lD l, .int (i : Nat), .int (j : Nat)] = some (.bool v) ∧ (v = true ↔ Stands L T i j) := by
  have okA := ok.wash A (List.mem_of_getElem? hi)
  have okB := ok.wash B (List.mem_of_getElem? hj)
  have n8 := ok.n8
  obtain ⟨d, e, v, rfl, q⟩ : ∃ d, m__law_stands [L.D, lD l, .int (i : Nat), .int (j : Nat)] = some d ∧ ∃ v, d = .bool v ∧ (v = true ↔ Stands L T i j) := by
    refine runP2_ex rfl ?_
    unfold F__law_stands
    refine Ev.seqN (Ev.run ?_)
    simp [Lab.D, Lab.ws, wget2 hi, wget2 hj]
    refine Ev.seq (Ev.run ?_)
    rw [stands_iff hi hj]
    by_cases hij : i = j
    · simp [hij]
    have hij' : ¬ (i : Int) = (j : Int) := by omega
    by_cases hl : B.low ≤ A.low
    rotate_left
    · simp [hij, hij', hl, washD]
      intro z
      exact hl z.low
    by_cases hh : A.high ≤ B.high
    rotate_left
    · simp [hij, hij', hl, hh, washD]
      intro z
      exact hh z.high
    simp [hij, hij', hl, hh, washD]
    have g2 : rgOk 0 (L.n : Nat) = true := rgOk_small (by omega) (by omega) (by omega) (by omega)
    refine Ev.seq (Ev.loop (Ev.rangeM (lo := 0) (hi := (L.n : Nat)) (by simp [Lab.meets]) g2 ?_))
    rw [rgD_nat]
    refine Ev.for_ (BO L T l i j A B) ?_ ?_ ⟨_, _, rfl, fun s h => by omega⟩
    · rintro st x s hx ⟨w6, w7, rfl, h1⟩
      obtain ⟨hst, rfl⟩ := rgN_some hx
      refine Ev.bnd (Ev.run ?_)
      simp [envB]
      refine Ev.loop (Ev.run ?_)
      simp [washD, rowT_get hst, resD]
      refine Ev.for_ (BI L T l i j A B st) ?_ ?_ ⟨_, rfl, fun k r h => by omega⟩
      · rintro k x s hx ⟨w7, rfl, h2⟩
        rw [List.getElem?_map] at hx
        obtain ⟨r, hr, rfl⟩ := Option.map_eq_some_iff.mp hx
        have rn := okA.lt st hst r (List.mem_of_getElem? hr)
        refine Ev.bnd (Ev.run ?_)
        simp [envB, nD]
        generalize hF : lcM [8] _ _ _ _ = F
        have e : F (envB L l i j A B (some (.d (.int (st : Nat)))) (some (.d (.int (r : Nat))))) = some (.new (((B.after st).filter fun o => T r o).map nD), envB L l i j A B (some (.d (.int (st : Nat)))) (some (.d (.int (r : Nat))))) := by
          subst hF
          rw [← gT_map]
          refine lc_eq (s1 := envB L l i j A B (some (.d (.int (st : Nat)))) (some (.d (.int (r : Nat))))) (xs := (B.after st).map nD) (gT fun o => T r o) ?_ ?_ ?_ ?_
          · simp [envB, washD, rowT_get hst, resD]
          · have := okB.few st hst
            rw [List.length_map]
            omega
          · simp [envB]
          · intro x hx acc
            obtain ⟨o, ho, rfl⟩ := List.mem_map.mp hx
            exact turn8 (G r o rn (okB.lt st hst o ho)) acc
        simp only [envB] at e
        refine Ev.run ?_
        generalize hl : ((B.after st).filter fun o => T r o) = fl at e
        cases fl with
        | nil =>
          simp [e]
          intro z
          obtain ⟨o, ho, hT⟩ := z.res st hst r (List.mem_of_getElem? hr)
          have : o ∈ (B.after st).filter fun o => T r o := List.mem_filter.mpr ⟨ho, hT⟩
          rw [hl] at this
          cases this
        | cons o os =>
          have nz : ¬ ((os.length : Int) + 1 = 0) := by omega
          simp [e, nz]
          refine ⟨_, rfl, fun k' r' hk' hr' => ?_⟩
          by_cases hkk : k' < k
          · exact h2 k' r' hkk hr'
          · have : k' = k := by omega
            subst this
            rw [hr] at hr'
            cases hr'
            have m : o ∈ (B.after st).filter fun o => T r o := by rw [hl]; exact List.mem_cons_self
            obtain ⟨m1, m2⟩ := List.mem_filter.mp m
            exact ⟨o, m1, m2⟩
      · rintro s ⟨w7, rfl, h2⟩
        rw [turnP_nx]
        refine ⟨_, _, rfl, fun s' hs' hs2 r hr => ?_⟩
        by_cases hss : s' < st
        · exact h1 s' hss hs2 r hr
        · have : s' = st := by omega
          subst this
          obtain ⟨k', hk'⟩ := List.mem_iff_getElem?.mp hr
          refine h2 k' r ?_ hk'
          have := (List.getElem?_eq_some_iff.mp hk').1
          simpa using this
    · rintro s ⟨w6, w7, rfl, h1⟩
      rw [thenP_nx]
      refine Ev.run ?_
      simp
      refine ⟨hl, hh, fun s hs r hr => ?_⟩
      refine h1 s ?_ hs r hr
      rw [rgN_len]
      exact hs
  exact ⟨v, e, q⟩
noncomputable def stB (L : Lab) (T : Nat → Nat → Bool) (i j : Nat) : Bool := @decide (Stands L T i j) (Classical.propDecidable _)
theorem stB_iff {L : Lab} {T : Nat → Nat → Bool} {i j : Nat} : stB L T i j = true ↔ Stands L T i j := by
  unfold stB
  exact @decide_eq_true_iff _ (Classical.propDecidable _)
theorem lst_ok {L : Lab} (ok : LabOk L) {T : Nat → Nat → Bool} {l : List (Nat × Nat)} (G : Gd L.n T l) {i j : Nat} (hi : i < L.washes.length) (hj : j < L.washes.length) : m__law_stands [L.D, lD l, .int (i : Nat), .int (j : Nat)] = some (.bool (stB L T i j)) := by
  obtain ⟨A, hA⟩ := wat hi
  obtain ⟨B, hB⟩ := wat hj
  obtain ⟨v, e, q⟩ := lstands_ok ok G hA hB
  rw [e, bool_iff stB_iff q]
def n1B (L : Lab) (T : Nat → Nat → Bool) (w o : Nat) : Bool := true
theorem turn9 {f : List D → Option D} {a b : D} {w o : Nat} {w2 w4 : Option Sl} {v : Bool} (h : f [a, b, .int (o : Nat), .int (w : Nat)] = some (.bool v)) (p : Nat → Bool) (hp : p o = v) (acc : List D) :
    Ev (turnM (setM 5) (bnd (callP f (consD (nameM 0) (consD (nameM 1) (consD (nameM 5) (consD (nameM 3) nilM))))) boolO) (valM (nameM 5)) (nD o) acc) (⟨[some (.d a), some (.d b), w2, some (.d (.int (w : Nat))), w4, none], ()⟩ : Stt Unit)
      fun acc' s3 => acc' = acc ++ (gT p (nD o)).toList ∧ wipeE s3.env [5] = [some (.d a), some (.d b), w2, some (.d (.int (w : Nat))), w4, none] ∧ s3.dr = () := by
  refine Ev.run ?_
  cases v <;> simp [nD, gT, h, hp]
theorem turn10 {f : List D → Option D} {a b : D} {w o : Nat} {w2 w4 : Option Sl} {v : Bool} (h : f [a, b, .int (w : Nat), .int (o : Nat)] = some (.bool v)) (acc : List D) :
    Ev (turnM (setM 5) (orT (bnd (op2 ltD (nameM 5) (nameM 3)) boolO) (notT (bnd (callP f (consD (nameM 0) (consD (nameM 1) (consD (nameM 3) (consD (nameM 5) nilM))))) boolO))) (valM (nameM 5)) (nD o) acc) (⟨[some (.d a), some (.d b), w2, some (.d (.int (w : Nat))), w4, none], ()⟩ : Stt Unit)
      fun acc' s3 => acc' = acc ++ (if decide (o < w) || !v then some (nD o) else none).toList ∧ wipeE s3.env [5] = [some (.d a), some (.d b), w2, some (.d (.int (w : Nat))), w4, none] ∧ s3.dr = () := by
  refine Ev.run ?_
  by_cases hl : o < w
  · have hl' : (o : Int) < (w : Int) := by omega
    simp [nD, hl, hl']
  · have hl' : ¬ (o : Int) < (w : Int) := by omega
    cases v <;> simp [nD, hl, hl', h]
def gI (p : Nat → Bool) : D → Option D := fun x => match x with
  | .int o => if p o.toNat then some (.int o) else none
  | _ => none
noncomputable def nbB (L : Lab) (T : Nat → Nat → Bool) (w o : Nat) : Bool := decide (o < w) || !stB L T w o
theorem needB_list {L : Lab} {T : Nat → Nat → Bool} {w : Nat} : ((((List.range L.washes.length).filter fun o => stB L T o w).filter (nbB L T w)).length = 0) ↔ ¬ Needless L T w := by
  rw [List.length_eq_zero_iff, List.filter_eq_nil_iff]
  constructor
  · rintro h ⟨o, ho, h1, h2⟩
    refine h o (List.mem_filter.mpr ⟨List.mem_range.mpr ho, stB_iff.mpr h1⟩) ?_
    unfold nbB
    rcases h2 with h2 | h2
    · simp [h2]
    · have : stB L T w o = false := by
        cases e : stB L T w o with
        | false => rfl
        | true => exact absurd (stB_iff.mp e) h2
      simp [this]
  · intro h o ho hp
    obtain ⟨h1, h2⟩ := List.mem_filter.mp ho
    refine h ⟨o, List.mem_range.mp h1, stB_iff.mp h2, ?_⟩
    unfold nbB at hp
    rw [Bool.or_eq_true, decide_eq_true_eq] at hp
    rcases hp with z | z
    · exact .inl z
    · refine .inr fun y => ?_
      rw [stB_iff.mpr y] at z
      cases z
end LW
end

section
set_option Elab.async false
set_option linter.all false
set_option maxRecDepth 100000
set_option maxHeartbeats 999999
open DL
open PySem (PyData Str)
namespace LW
def DN (L : Lab) (T : Nat → Nat → Bool) (l : List (Nat × Nat)) (k : Nat) (s : Stt Unit) : Prop := ∃ w3 w4, s = ⟨[some (.d L.D), some (.d (lD l)), some (.own (((List.range k).filter (needB L T)).map nD)), w3, w4, none], ()⟩
theorem pgt (p : Nat → Bool) (x : D) : gT p x = gI p x := by cases x <;> rfl
theorem due_ok {L : Lab} (ok : LabOk L) {T : Nat → Nat → Bool} {l : List (Nat × Nat)} (G : Gd L.n T l) : m__law_needless_due [L.D, lD l] = some (.tuple ((needs L T).map nD)) := by
  have few := ok.few
  have hS := fun (i j : Nat) (hi : i < L.washes.length) (hj : j < L.washes.length) => lst_ok ok G hi hj
  have g2 : rgOk 0 (L.washes.length : Nat) = true := rgOk_small (by omega) (by omega) (by omega) (by omega)
  refine runP2_of rfl ?_
  unfold F__law_needless_due
  generalize m__law_stands = f at hS ⊢
  refine Ev.seqN (Ev.run ?_)
  simp
  refine Ev.seqN (Ev.loop (Ev.rangeM (lo := 0) (hi := (L.washes.length : Nat)) (by simp [Lab.D, Lab.ws]) g2 ?_))
  rw [rgD_nat]
  refine Ev.for_ (DN L T l) ?_ ?_ ⟨_, _, rfl⟩
  · rintro w x s hx ⟨w3, w4, rfl⟩
    obtain ⟨hw, rfl⟩ := rgN_some hx
    refine Ev.bnd (Ev.run ?_)
    simp
    refine Ev.seqN (Ev.asg (Ev.lcw (gT fun o => stB L T o w) [some (.d L.D), some (.d (lD l)), some (.own (((List.range w).filter (needB L T)).map nD)), some (.d (.int (w : Nat))), w4, none] () (Ev.rangeM (lo := 0) (hi := (L.washes.length : Nat)) (by simp [Lab.D, Lab.ws]) g2 ?_)))
    rw [rgD_nat, rgN_map]
    refine ⟨by rw [List.length_map, List.length_range]; omega, rfl, rfl, rfl, ?_, ?_⟩
    · intro x hx acc
      obtain ⟨o, ho, rfl⟩ := List.mem_map.mp hx
      exact turn9 (hS o w (List.mem_range.mp ho) hw) (fun o => stB L T o w) rfl acc
    rw [gT_map]
    refine Ev.run ?_
    simp
    have hlen : ((List.range L.washes.length).filter fun o => stB L T o w).length ≤ 3 := by
      have := List.length_filter_le (fun o => stB L T o w) (List.range L.washes.length)
      rw [List.length_range] at this
      omega
    generalize hF : lcM [5] (iterM (nameM 4)) _ _ _ = F
    have e : F (⟨[some (.d L.D), some (.d (lD l)), some (.own (((List.range w).filter (needB L T)).map nD)), some (.d (.int (w : Nat))), some (.own (((List.range L.washes.length).filter fun o => stB L T o w).map nD)), none], ()⟩ : Stt Unit) =
        some (.new ((((List.range L.washes.length).filter fun o => stB L T o w).filter (nbB L T w)).map nD), ⟨[some (.d L.D), some (.d (lD l)), some (.own (((List.range w).filter (needB L T)).map nD)), some (.d (.int (w : Nat))), some (.d (.list (((List.range L.washes.length).filter fun o => stB L T o w).map nD))), none], ()⟩) := by
      subst hF
      rw [← gT_map (nbB L T w)]
      refine lc_eq (s1 := (⟨[some (.d L.D), some (.d (lD l)), some (.own (((List.range w).filter (needB L T)).map nD)), some (.d (.int (w : Nat))), some (.d (.list (((List.range L.washes.length).filter fun o => stB L T o w).map nD))), none], ()⟩ : Stt Unit)) (xs := ((List.range L.washes.length).filter fun o => stB L T o w).map nD) _ ?_ (by rw [List.length_map]; omega) rfl ?_
      · simp
      · intro x hx acc
        obtain ⟨o, ho, rfl⟩ := List.mem_map.mp hx
        have ho := List.mem_range.mp (List.mem_filter.mp ho).1
        exact turn10 (hS w o hw ho) acc
    have nl := needB_list (L := L) (T := T) (w := w)
    generalize ((List.range L.washes.length).filter fun o => stB L T o w).filter (nbB L T w) = fl at e nl
    refine Ev.run ?_
    have rs : (List.range (w + 1)).filter (needB L T) = (List.range w).filter (needB L T) ++ if needB L T w then [w] else [] := by
      rw [List.range_succ, List.filter_append]
      cases h : needB L T w <;> simp [h]
    have hsz : ((List.range w).filter (needB L T)).length < 16777216 := by
      have := List.length_filter_le (needB L T) (List.range w)
      rw [List.length_range] at this
      omega
    cases hn : needB L T w with
    | true =>
      have h0 : ¬ fl.length = 0 := fun z => nl.mp z (needB_iff.mp hn)
      have h1 : 0 < fl.length := by omega
      rw [hn] at rs
      simp [e, h1, hsz]
      unfold DN
      rw [rs]
      simp only [if_true, List.map_append]
      exact ⟨_, _, rfl⟩
    | false =>
      have h0 : fl.length = 0 := nl.mpr fun z => by
        have := needB_iff.mpr z
        rw [hn] at this
        cases this
      have h1 : ¬ 0 < fl.length := by omega
      rw [hn] at rs
      simp only [Bool.false_eq_true, if_false, List.append_nil] at rs
      simp [e, h1]
      unfold DN
      rw [rs]
      exact ⟨_, _, rfl⟩
  · rintro s ⟨w3, w4, rfl⟩
    rw [rgN_len]
    refine ⟨rfl, Ev.run ?_⟩
    simp [needs]
/-! entries -/
def envE (l : List (Nat × Nat)) (rs ys : List Nat) (w3 w4 : Option Sl) : Stt Unit := ⟨[some (.d (lD l)), some (.d (resD rs)), some (.own (ys.map nD)), w3, w4, none], ()⟩
theorem in_pairs2 (l : List (Nat × Nat)) (a b : Nat) : inD (.tuple [.int (a : Nat), .int (b : Nat)]) (lD l) = some (.val (.bool (decide ((a, b) ∈ l)))) := in_pairs l (a, b)
theorem notIn_pairs2 (l : List (Nat × Nat)) (a b : Nat) : notInD (.tuple [.int (a : Nat), .int (b : Nat)]) (lD l) = some (.val (.bool (!decide ((a, b) ∈ l)))) := notIn_pairs l (a, b)
theorem gd_ne {n a b : Nat} {T : Nat → Nat → Bool} {l : List (Nat × Nat)} (G : Gd n T l) (ha : a < n) (hb : b < n) (h : ¬ a = b) : decide ((a, b) ∈ l) = T a b := by
  have := G a b ha hb
  cases hT : T a b with
  | true => exact decide_eq_true ((this.mpr hT).resolve_left h)
  | false =>
    refine decide_eq_false fun m => ?_
    rw [this.mp (.inr m)] at hT
    cases hT
theorem turn11 {n r o : Nat} {T : Nat → Nat → Bool} {l : List (Nat × Nat)} (G : Gd n T l) {rs ys : List Nat} (hr : r < n) (ho : o < n) (acc : List D) (w4 : Option Sl) :
    Ev (turnM (setM 5) (andT (bnd (op2 neD (nameM 5) (nameM 3)) boolO) (bnd (op2 inD (tupM (consD (nameM 3) (consD (nameM 5) nilM))) (nameM 0)) boolO)) (valM (nameM 5)) (nD o) acc) (envE l rs ys (some (.d (.int (r : Nat)))) w4) fun acc' s3 => acc' = acc ++ (gT (p1 T r) (nD o)).toList ∧ wipeE s3.env [5] = (envE l rs ys (some (.d (.int (r : Nat)))) w4).env ∧ s3.dr = () := by
  refine Ev.run ?_
  by_cases h : o = r
  · subst h
    simp [envE, nD, gT, p1]
  · have h' : ¬ (o : Int) = (r : Int) := by omega
    have hg := gd_ne G hr ho (fun z => h z.symm)
    have hi := in_pairs2 l r o
    rw [hg] at hi
    cases hT : T r o <;> rw [hT] at hi <;> simp [envE, nD, gT, p1, h, h', hi, hT]
theorem turn12 {n r o : Nat} {T : Nat → Nat → Bool} {l : List (Nat × Nat)} (G : Gd n T l) {rs ys : List Nat} (hr : r < n) (ho : o < n) (hne : ¬ o = r) (acc : List D) (w4 : Option Sl) :
    Ev (turnM (setM 5) (orT (bnd (op2 ltD (nameM 5) (nameM 3)) boolO) (bnd (op2 notInD (tupM (consD (nameM 5) (consD (nameM 3) nilM))) (nameM 0)) boolO)) (valM (nameM 5)) (nD o) acc) (envE l rs ys (some (.d (.int (r : Nat)))) w4) fun acc' s3 => acc' = acc ++ (gT (p2 T r) (nD o)).toList ∧ wipeE s3.env [5] = (envE l rs ys (some (.d (.int (r : Nat)))) w4).env ∧ s3.dr = () := by
  refine Ev.run ?_
  by_cases h : o < r
  · have h' : (o : Int) < (r : Int) := by omega
    simp [envE, nD, gT, p2, h, h']
  · have h' : ¬ (o : Int) < (r : Int) := by omega
    have hi := notIn_pairs2 l o r
    rw [gd_ne G ho hr hne] at hi
    cases hT : T o r <;> rw [hT] at hi <;> simp [envE, nD, gT, p2, h, h', hi, hT]
theorem tests2_ok {n r : Nat} {T : Nat → Nat → Bool} {l : List (Nat × Nat)} (G : Gd n T l) {rs ys : List Nat} (hn : ∀ o ∈ rs, o < n) (hr : r < n) (hl : rs.length ≤ 1000) (w4 : Option Sl) :
    lcM [5] (iterM (nameM 1)) (setM 5) (andT (bnd (op2 neD (nameM 5) (nameM 3)) boolO) (bnd (op2 inD (tupM (consD (nameM 3) (consD (nameM 5) nilM))) (nameM 0)) boolO)) (nameM 5) (envE l rs ys (some (.d (.int (r : Nat)))) w4) = some (.new ((rs.filter (p1 T r)).map nD), envE l rs ys (some (.d (.int (r : Nat)))) w4) ∧
    lcM [5] (iterM (nameM 4)) (setM 5) (orT (bnd (op2 ltD (nameM 5) (nameM 3)) boolO) (bnd (op2 notInD (tupM (consD (nameM 5) (consD (nameM 3) nilM))) (nameM 0)) boolO)) (nameM 5) (envE l rs ys (some (.d (.int (r : Nat)))) (some (.own ((rs.filter (p1 T r)).map nD)))) =
      some (.new (((rs.filter (p1 T r)).filter (p2 T r)).map nD), envE l rs ys (some (.d (.int (r : Nat)))) (some (.d (.list ((rs.filter (p1 T r)).map nD))))) := by
  constructor
  · rw [← gT_map]
    refine lc_eq (s1 := envE l rs ys (some (.d (.int (r : Nat)))) w4) (xs := rs.map nD) _ ?_ (by rw [List.length_map]; omega) rfl ?_
    · simp [envE, resD]
    · intro x hx acc
      obtain ⟨o, ho, rfl⟩ := List.mem_map.mp hx
      exact turn11 G hr (hn o ho) acc w4
  · rw [← gT_map (p2 T r)]
    refine lc_eq (s1 := envE l rs ys (some (.d (.int (r : Nat)))) (some (.d (.list ((rs.filter (p1 T r)).map nD))))) (xs := (rs.filter (p1 T r)).map nD) _ ?_ ?_ rfl ?_
    · simp [envE]
    · rw [List.length_map]
      have := List.length_filter_le (p1 T r) rs
      omega
    · intro x hx acc
      obtain ⟨o, ho, rfl⟩ := List.mem_map.mp hx
      obtain ⟨h1, h2⟩ := List.mem_filter.mp ho
      refine turn12 G hr (hn o h1) ?_ acc _
      rintro rfl
      unfold p1 at h2
      simp at h2
def KE (l : List (Nat × Nat)) (T : Nat → Nat → Bool) (rs : List Nat) (k : Nat) (s : Stt Unit) : Prop := ∃ w3 w4, s = envE l rs ((rs.take k).filter fun r => !worseB T rs r) w3 w4
theorem entry_ok {n : Nat} {T : Nat → Nat → Bool} {l : List (Nat × Nat)} (G : Gd n T l) {rs : List Nat} (hn : ∀ o ∈ rs, o < n) (hl : rs.length ≤ 1000) : m__law_entry_due [lD l, resD rs] = some (resD (worst T rs)) := by
  refine runP2_of rfl ?_
  unfold F__law_entry_due
  refine Ev.seqN (Ev.run ?_)
  simp
  refine Ev.seqN (Ev.loop (Ev.run ?_))
  simp [resD]
  refine Ev.for_ (KE l T rs) ?_ ?_ ⟨_, _, rfl⟩
  · rintro k x s hx ⟨w3, w4, rfl⟩
    rw [List.getElem?_map] at hx
    obtain ⟨r, hr, rfl⟩ := Option.map_eq_some_iff.mp hx
    have hrn := hn r (List.mem_of_getElem? hr)
    obtain ⟨t1, t2⟩ := tests2_ok (ys := (rs.take k).filter fun r => !worseB T rs r) G hn hrn hl w4
    refine Ev.bnd (Ev.run ?_)
    simp [envE, nD]
    refine Ev.seqN (Ev.asg ⟨_, _, t1, Ev.run ?_⟩)
    simp [envE]
    simp only [envE] at t2
    generalize lcM [5] (iterM (nameM 4)) _ _ _ = F at t2 ⊢
    refine Ev.run ?_
    have wl := worse_list (T := T) (rs := rs) (r := r)
    have tk : rs.take (k + 1) = rs.take k ++ [r] := by
      rw [List.take_succ, hr]
      rfl
    have hsz : ((rs.take k).filter fun r => !worseB T rs r).length < 16777216 := by
      have h1 := List.length_filter_le (fun r => !worseB T rs r) (rs.take k)
      have h3 : (rs.take k).length ≤ rs.length := by rw [List.length_take]; omega
      omega
    generalize (rs.filter (p1 T r)).filter (p2 T r) = fl at t2 wl
    cases hw : worseB T rs r with
    | true =>
      rw [hw] at wl
      simp only [Bool.not_true] at wl
      have h0 : ¬ fl = [] := fun z => by rw [z] at wl; cases wl
      simp [t2, h0]
      have fk : ((rs.take (k + 1)).filter fun r => !worseB T rs r) = (rs.take k).filter fun r => !worseB T rs r := by
        rw [tk, List.filter_append]
        simp [hw]
      unfold KE
      rw [fk]
      exact ⟨_, _, rfl⟩
    | false =>
      rw [hw] at wl
      simp only [Bool.not_false] at wl
      have h0 : fl = [] := List.isEmpty_iff.mp wl
      subst h0
      simp [t2, hsz]
      have fk : ((rs.take (k + 1)).filter fun r => !worseB T rs r) = ((rs.take k).filter fun r => !worseB T rs r) ++ [r] := by
        rw [tk, List.filter_append]
        simp [hw]
      unfold KE
      rw [fk]
      unfold envE
      rw [List.map_append]
      exact ⟨_, _, rfl⟩
  · rintro s ⟨w3, w4, rfl⟩
    rw [List.length_map, List.take_length]
    refine ⟨rfl, Ev.run ?_⟩
    simp [envE, worst, resD]
end LW
end

section
set_option Elab.async false
set_option linter.all false
set_option maxRecDepth 100000
set_option maxHeartbeats 999999
open DL
open PySem (PyData Str)
namespace LW
noncomputable def oB (L : Lab) (T : Nat → Nat → Bool) (w o : Nat) : Bool := !decide (o ∈ needs L T) && stB L T o w
theorem turn13 {f : List D → Option D} {a b : D} {due : List Nat} {w o : Nat} {w4 : Option Sl} {v : Bool} (h : f [a, b, .int (o : Nat), .int (w : Nat)] = some (.bool v)) (p : Nat → Bool) (hp : p o = (!decide (o ∈ due) && v)) (acc : List D) :
    Ev (turnM (setM 5) (andT (bnd (op2 notInD (nameM 5) (nameM 2)) boolO) (bnd (callP f (consD (nameM 0) (consD (nameM 1) (consD (nameM 5) (consD (nameM 3) nilM))))) boolO)) (valM (nameM 5)) (nD o) acc) (⟨[some (.d a), some (.d b), some (.d (.tuple (due.map nD))), some (.d (.int (w : Nat))), w4, none, none, none, none, none], ()⟩ : Stt Unit)
      fun acc' s3 => acc' = acc ++ (gT p (nD o)).toList ∧ wipeE s3.env [5] = [some (.d a), some (.d b), some (.d (.tuple (due.map nD))), some (.d (.int (w : Nat))), w4, none, none, none, none, none] ∧ s3.dr = () := by
  refine Ev.run ?_
  by_cases hm : o ∈ due
  · simp [nD, gT, notIn_nats, hm, hp]
  · cases v <;> simp [nD, gT, notIn_nats, hm, hp, h]
def RK (L : Lab) (l : List (Nat × Nat)) (due : List Nat) (s : Stt Unit) : Prop := ∃ w3 w4, s = ⟨[some (.d L.D), some (.d (lD l)), some (.d (.tuple (due.map nD))), w3, w4, none, none, none, none, none], ()⟩
def RL (L : Lab) (l : List (Nat × Nat)) (due : List Nat) (s : Stt Unit) : Prop := ∃ w3 w4 w6 w7 w8 w9, s = ⟨[some (.d L.D), some (.d (lD l)), some (.d (.tuple (due.map nD))), w3, w4, none, w6, w7, w8, w9], ()⟩
theorem keptright_ok {L : Lab} (ok : LabOk L) {l : List (Nat × Nat)} (G : Gd L.n (gT_ L) l) (tr : Tr L.n (gT_ L)) : m__law_kept_right [L.D, lD l, .tuple ((needs L (gT_ L)).map nD)] = some (.bool true) := by
  have few := ok.few
  have n8 := ok.n8
  have hS := fun (i j : Nat) (hi : i < L.washes.length) (hj : j < L.washes.length) => lst_ok ok G hi hj
  have g2 : rgOk 0 (L.washes.length : Nat) = true := rgOk_small (by omega) (by omega) (by omega) (by omega)
  have eW := worstlab_ok ok
  have hne := fun (rs : List Nat) (h1 : ∀ r ∈ rs, r < L.n) (h2 : rs ≠ []) => worst_ne tr h1 h2
  have hK := fun (w : Nat) (hw : w < L.washes.length) (hn : Needless L (gT_ L) w) => kept ok tr hw hn
  generalize gT_ L = T at hS eW hne hK ⊢
  refine runP2_of rfl ?_
  unfold F__law_kept_right
  generalize m__law_stands = f at hS ⊢
  generalize m_lab_with_worst = f2 at eW ⊢
  refine Ev.seqN (Ev.loop (Ev.run ?_))
  simp
  refine Ev.for_ (fun _ => RK L l (needs L T)) ?_ ?_ ⟨_, _, rfl⟩
  · rintro k x s hx ⟨w3, w4, rfl⟩
    rw [List.getElem?_map] at hx
    obtain ⟨w, hw, rfl⟩ := Option.map_eq_some_iff.mp hx
    obtain ⟨hwl, hwn⟩ := mem_needs.mp (List.mem_of_getElem? hw)
    refine Ev.bnd (Ev.run ?_)
    simp [nD]
    refine Ev.seqN (Ev.asg (Ev.lcw (gT (oB L T w)) [some (.d L.D), some (.d (lD l)), some (.d (.tuple ((needs L T).map nD))), some (.d (.int (w : Nat))), w4, none, none, none, none, none] () (Ev.rangeM (lo := 0) (hi := (L.washes.length : Nat)) (by simp [Lab.D, Lab.ws]) g2 ?_)))
    rw [rgD_nat, rgN_map]
    refine ⟨by rw [List.length_map, List.length_range]; omega, rfl, rfl, rfl, ?_, ?_⟩
    · intro x hx acc
      obtain ⟨o, ho, rfl⟩ := List.mem_map.mp hx
      exact turn13 (hS o w (List.mem_range.mp ho) hwl) (oB L T w) rfl acc
    rw [gT_map]
    refine Ev.run ?_
    simp
    obtain ⟨o, o1, o2, o3⟩ := hK w hwl hwn
    have m : o ∈ (List.range L.washes.length).filter (oB L T w) := by
      refine List.mem_filter.mpr ⟨List.mem_range.mpr o1, ?_⟩
      unfold oB
      have : ¬ o ∈ needs L T := fun z => o2 (mem_needs.mp z).2
      simp [this, stB_iff.mpr o3]
    generalize (List.range L.washes.length).filter (oB L T w) = fl at m ⊢
    have he : fl.isEmpty = false := by cases fl with
      | nil => cases m
      | cons _ _ => rfl
    refine Ev.run ?_
    simp [nats_nil, he]
    exact ⟨_, _, rfl⟩
  · rintro s ⟨w3, w4, rfl⟩
    refine ⟨rfl, ?_⟩
    refine Ev.seqN (Ev.loop (Ev.run ?_))
    simp [eW]
    refine Ev.for_ (fun _ => RL L l (needs L T)) ?_ ?_ ⟨_, _, _, _, _, _, rfl⟩
    · rintro k x s hx ⟨w3, w4, w6, w7, w8, w9, rfl⟩
      rw [List.getElem?_map] at hx
      obtain ⟨W, hW, rfl⟩ := Option.map_eq_some_iff.mp hx
      have wok := ok.wash W (List.mem_of_getElem? hW)
      refine Ev.bnd (Ev.run ?_)
      simp [washD, worstW]
      refine Ev.loop (Ev.run ?_)
      simp
      refine Ev.for_ (fun _ => RL L l (needs L T)) ?_ ?_ ⟨_, _, _, _, _, _, rfl⟩
      · rintro st x s hx ⟨w3, w4, w6, w7, w8, w9, rfl⟩
        obtain ⟨hst, rfl⟩ := rowT_some hx
        have ne := hne (W.after st) (fun r hr => wok.lt st hst r hr) (wok.ne st hst)
        refine Ev.run ?_
        simp [resD, ne]
        exact ⟨_, _, _, _, _, _, rfl⟩
      · rintro s ⟨w3, w4, w6, w7, w8, w9, rfl⟩
        exact ⟨_, _, _, _, _, _, rfl⟩
    · rintro s ⟨w3, w4, w6, w7, w8, w9, rfl⟩
      refine ⟨rfl, Ev.run ?_⟩
      simp
end LW
end

section
set_option Elab.async false
set_option linter.all false
set_option maxRecDepth 100000
set_option maxHeartbeats 999999
set_option exponentiation.threshold 5001
open DL
open PySem (PyData Str)
namespace LW
/-! ### draws -/
theorem StOk.mono {k k' : Nat} {st : DrawSt} (h : StOk k st) (l : k ≤ k') : StOk k' st := ⟨h.len, h.small, h.lo, by have := h.hi; omega⟩
/-- f gives such a datum, with at most C draws -/
def Dw (B C : Nat) (f : List D → DrawSt → Option (D × DrawSt)) (ds : List D) (Q : D → Prop) : Prop := ∀ k st, StOk k st → k ≤ B → ∃ r st', f ds st = some (r, st') ∧ Q r ∧ StOk (k + C) st'
theorem draw_dw {L : Int} (hL : 0 < L) (hL2 : L < 2 ^ 4000) : Dw 900000 1 m__law_draw [.int L] fun d => ∃ r : Nat, (r : Int) < L ∧ d = .int (r : Nat) := fun k st h hk => by
  obtain ⟨r, st', e, h1, h2, h3⟩ := draw_ok h (by omega) hL hL2
  exact ⟨_, st', e, ⟨r.toNat, by omega, by rw [Int.toNat_of_nonneg h1]⟩, h3⟩
theorem draw_small {L : Int} (hL : 0 < L) (hL2 : L < 1000) : Dw 900000 1 m__law_draw [.int L] fun d => ∃ r : Nat, (r : Int) < L ∧ d = .int (r : Nat) :=
  draw_dw hL (Int.lt_trans hL2 (by decide))
@[simp] theorem callD_s {s : Stt DrawSt} (i : Nat) (f : List D → DrawSt → Option (D × DrawSt)) (G : M DrawSt (List D)) : DL.callD i f G s = (match bnd (hAt i) (fun _ => G) s with | none => none | some (ds, s') => (match f ds s'.dr with | some (d, st') => some (.val d, { s' with dr := st' }) | none => none)) := by
  show bnd (hAt i) (fun _ => bnd G fun ds => fun s => _) s = _
  unfold bnd
  cases hAt i s with
  | none => rfl
  | some p =>
    obtain ⟨u, s1⟩ := p
    dsimp only
    cases G s1 with
    | none => rfl
    | some q => rfl
theorem Ev.callD {i : Nat} {f : List D → DrawSt → Option (D × DrawSt)} {G : M DrawSt (List D)} {s : Stt DrawSt} {P : Opd → Stt DrawSt → Prop} {B C k : Nat} {Q : D → Prop} {ds : List D} {s1 : Stt DrawSt} (h : Dw B C f ds Q) (e : bnd (hAt i) (fun _ => G) s = some (ds, s1)) (hk : StOk k s1.dr) (hk2 : k ≤ B)
    (hp : ∀ d st', Q d → StOk (k + C) st' → P (.val d) { s1 with dr := st' }) : Ev (DL.callD i f G) s P := by
  obtain ⟨r, st', e1, q, o⟩ := h k s1.dr hk hk2
  exact ⟨.val r, { s1 with dr := st' }, by rw [callD_s, e]; dsimp only; rw [e1], hp r st' q o⟩
theorem runD2_dw {np n B C : Nat} {F : M DrawSt Out} {ds : List D} {Q : D → Prop} (hl : ds.length + 1 = np) (h : ∀ k st, StOk k st → k ≤ B → Ev F ⟨some .h :: (ds.map (fun d => some (.d d)) ++ List.replicate (n - (ds.length + 1)) none), st⟩ fun o s' => ∃ d, o = .rt d ∧ Q d ∧ StOk (k + C) s'.dr) : Dw B C (runD2 np n F) ds Q := fun k st hk hk2 => by
  obtain ⟨o, s', e, d, rfl, q, ok⟩ := h k st hk hk2
  refine ⟨d, s'.dr, ?_, q, ok⟩
  unfold runD2 runD
  rw [if_pos hl, e]
theorem Ev.lcDr {ws : List Nat} {Fi : M DrawSt (List D)} {G : D → M DrawSt Unit} {T : M DrawSt Bool} {E : M DrawSt Opd} {s : Stt DrawSt} {P : Opd → Stt DrawSt → Prop} (e0 : List (Option Sl)) (C k n : Nat) (Q : D → Prop)
    (h : Ev Fi s fun xs s1 => xs.length = n ∧ n ≤ 16777216 ∧ wipeE s1.env ws = e0 ∧ restE s1.env ws e0 = s1.env ∧ StOk k s1.dr ∧
      (∀ x ∈ xs, ∀ acc st k', StOk k' st → k' ≤ k + n * C → Ev (turnM G T (valM E) x acc) ⟨e0, st⟩ fun acc' s3 => (∃ y, acc' = acc ++ [y] ∧ Q y) ∧ wipeE s3.env ws = e0 ∧ StOk (k' + C) s3.dr) ∧
      ∀ ys st, ys.length = n → (∀ y ∈ ys, Q y) → StOk (k + n * C) st → P (.new ys) ⟨s1.env, st⟩) : Ev (lcM ws Fi G T E) s P := by
  refine Ev.lc (h.mono fun xs s1 q => ?_)
  obtain ⟨h1, h2, h3, h4, h5, h6, h7⟩ := q
  refine ⟨by omega, fun i acc s2 => s2.env = e0 ∧ StOk (k + i * C) s2.dr ∧ acc.length = i ∧ ∀ y ∈ acc, Q y, ⟨h3, by rw [Nat.zero_mul]; exact h5, rfl, fun y hy => by cases hy⟩, ?_, ?_⟩
  · rintro i x acc ⟨env, st⟩ hx ⟨rfl, o, hl, ha⟩
    have hi : i < n := by
      have := (List.getElem?_eq_some_iff.mp hx).1
      omega
    have hle : i * C ≤ n * C := Nat.mul_le_mul_right C (by omega)
    refine (h6 x (List.mem_of_getElem? hx) acc st (k + i * C) o (by omega)).mono fun acc' s3 q => ?_
    obtain ⟨⟨y, rfl, hy⟩, q2, q3⟩ := q
    refine ⟨q2, ?_, by rw [List.length_append]; show acc.length + 1 = _; omega, fun z hz => ?_⟩
    · rw [Nat.add_mul, Nat.one_mul, ← Nat.add_assoc]
      exact q3
    · rcases List.mem_append.mp hz with m | m
      · exact ha z m
      · have : z = y := by simpa using m
        rw [this]
        exact hy
  · rintro acc ⟨env, st⟩ ⟨rfl, o, hl, ha⟩
    rw [h1] at o hl
    have := h7 acc st hl ha o
    rw [h4]
    exact this
theorem Ev.popM {i : Nat} {F : M DrawSt Opd} {s : Stt DrawSt} {P : Opd → Stt DrawSt → Prop} {zs : List D} (h0 : s.env[i]? = some (some (.own zs)))
    (h : Ev F s fun o s1 => ∃ (r : Nat) (xs : List D) (y : D), o = .val (.int (r : Nat)) ∧ s1.env[i]? = some (some (.own xs)) ∧ xs[r]? = some y ∧ r < 1000000 ∧ P (.val y) { s1 with env := s1.env.set i (some (.own (xs.eraseIdx r))) }) : Ev (DL.popM i F) s P := by
  obtain ⟨o, s1, e, r, xs, y, rfl, h1, h2, h3, hp⟩ := h
  refine ⟨_, _, ?_, hp⟩
  have hr : r < xs.length := (List.getElem?_eq_some_iff.mp h2).1
  have sq : PySem.seqIndex? (r : Int) xs.length = some r := by
    unfold PySem.seqIndex?
    have h1 : ¬ ((r : Int) < 0) := by omega
    simp [h1, hr]
  have b : (decide (-(2 ^ 63) ≤ (r : Int)) && decide ((r : Int) < 2 ^ 63)) = true := by
    rw [Bool.and_eq_true, decide_eq_true_eq, decide_eq_true_eq]
    omega
  rw [popM_s]
  have e0 : (ownAt i : M DrawSt Unit) s = some ((), s) := by rw [ownAt_s, h0]
  unfold bnd
  rw [e0]
  dsimp only
  rw [e]
  dsimp only
  rw [getO_v]
  dsimp only
  unfold popIx
  rw [h1]
  dsimp only
  rw [if_pos b, sq]
  dsimp only
  rw [h2]
end LW
end

section
set_option Elab.async false
set_option linter.all false
set_option maxRecDepth 100000
set_option maxHeartbeats 999999
set_option exponentiation.threshold 5001
open DL
open PySem (PyData Str)
namespace LW
/-! ### orders, ascending draws -/
theorem erase_perm : ∀ (l : List Nat) (i : Nat) (x : Nat), l[i]? = some x → (x :: l.eraseIdx i).Perm l
  | [], i, x, h => by simp at h
  | a :: l, 0, x, h => by
    simp at h
    subst h
    exact .refl _
  | a :: l, i + 1, x, h => by
    have h' : l[i]? = some x := by simpa using h
    rw [List.eraseIdx_cons_succ]
    exact (List.Perm.swap a x _).trans ((erase_perm l i x h').cons a)
theorem erase_map (l : List Nat) (i : Nat) : (l.map nD).eraseIdx i = (l.eraseIdx i).map nD := by
  induction l generalizing i with
  | nil => rfl
  | cons a l ih =>
    cases i with
    | zero => rfl
    | succ i => simp [ih]
def OI (many k : Nat) (i : Nat) (acc : List D) (s : Stt DrawSt) : Prop := ∃ (tk left : List Nat) (st : DrawSt), s = ⟨[some .h, some (.d (.int (many : Nat))), some (.own (left.map nD)), none], st⟩ ∧ acc = tk.map nD ∧ (tk ++ left).Perm (List.range many) ∧ tk.length = i ∧ StOk (k + i) st
theorem seqIdx {r n : Nat} (h : r < n) : PySem.seqIndex? (r : Int) n = some r := by
  unfold PySem.seqIndex?
  have h1 : ¬ ((r : Int) < 0) := by omega
  simp [h1, h]
theorem order_ok {many : Nat} (hm : many ≤ 100) : Dw 800000 many m__law_order [.int (many : Nat)] fun d => ∃ l : List Nat, d = .list (l.map nD) ∧ l.Perm (List.range many) := by
  refine runD2_dw rfl fun k st o hk => ?_
  have g2 : rgOk 0 (many : Nat) = true := rgOk_small (by omega) (by omega) (by omega) (by omega)
  have hD := fun (L : Int) (h1 : 0 < L) (h2 : L < 1000) => draw_small h1 h2
  unfold F__law_order
  generalize m__law_draw = f at hD ⊢
  refine Ev.seqN (Ev.asg (LW.Ev.listRgM (lo := 0) (hi := (many : Nat)) (by simp) g2 ?_))
  rw [rgD_nat, rgN_map]
  refine Ev.run ?_
  simp
  refine Ev.retM (Ev.lc (Ev.rangeM (lo := 0) (hi := (many : Nat)) (by simp) g2 ?_))
  rw [rgD_nat]
  refine ⟨by rw [rgN_len]; omega, OI many k, ⟨[], List.range many, st, rfl, rfl, .refl _, rfl, o⟩, ?_, ?_⟩
  · rintro i x acc s hx ⟨tk, left, st', rfl, rfl, pm, tl, o'⟩
    obtain ⟨hi, rfl⟩ := rgN_some hx
    have hl : tk.length + left.length = many := by
      have := pm.length_eq
      rw [List.length_append, List.length_range] at this
      exact this
    have pos : (0 : Int) < (left.length : Nat) := by omega
    have E1 : Ev (popM 2 (DL.callD 0 f (consD (callM lenD (consO (nameM 2) nilM)) nilM))) (⟨[some .h, some (.d (.int (many : Nat))), some (.own (left.map nD)), some (.d (.int (i : Nat)))], st'⟩ : Stt DrawSt) fun o s => ∃ (r : Nat) (y : Nat) (st2 : DrawSt), left[r]? = some y ∧ StOk (k + i + 1) st2 ∧ o = .val (nD y) ∧ s = ⟨[some .h, some (.d (.int (many : Nat))), some (.own ((left.eraseIdx r).map nD)), some (.d (.int (i : Nat)))], st2⟩ := by
      refine LW.Ev.popM (zs := left.map nD) rfl (LW.Ev.callD (k := k + i) (hD (left.length : Nat) pos (by omega)) (by simp; rfl) o' (by omega) fun d st2 q o2 => ?_)
      obtain ⟨r, hr, rfl⟩ := q
      have hr' : r < left.length := by omega
      obtain ⟨y, hy⟩ : ∃ y, left[r]? = some y := ⟨_, List.getElem?_eq_getElem hr'⟩
      refine ⟨r, left.map nD, nD y, rfl, rfl, by rw [List.getElem?_map, hy]; rfl, by omega, r, y, st2, hy, o2, rfl, ?_⟩
      rw [erase_map]
      rfl
    obtain ⟨o1, s1, e1, r, y, st2, hy, o2, rfl, rfl⟩ := E1
    generalize DL.popM 2 (DL.callD 0 f (consD (callM lenD (consO (nameM 2) nilM)) nilM)) = F at e1 ⊢
    refine Ev.run ?_
    simp [e1]
    refine ⟨tk ++ [y], left.eraseIdx r, st2, rfl, by simp, ?_, by simp [tl], by rw [← Nat.add_assoc]; exact o2⟩
    rw [List.append_assoc]
    exact ((erase_perm left r y hy).append_left tk).trans pm
  · rintro acc s ⟨tk, left, st', rfl, rfl, pm, tl, o'⟩
    rw [rgN_len] at tl o'
    have hl : left = [] := by
      have := pm.length_eq
      rw [List.length_append, List.length_range] at this
      exact List.eq_nil_of_length_eq_zero (by omega)
    subst hl
    rw [List.append_nil] at pm
    exact Ev.toDn ⟨_, rfl, ⟨tk, rfl, pm⟩, o'⟩
theorem ints_nats (l : List Nat) : intsOf (l.map nD) = some (l.map fun (i : Nat) => (i : Int)) := by
  induction l with
  | nil => rfl
  | cons a l ih =>
    rw [List.map_cons]
    show (intsOf (l.map nD)).map _ = _
    rw [ih]
    rfl
/-- numbers that are sorted -/
theorem sort_nats (l : List Nat) (nd : l.Nodup) : ∃ m : List Nat, (sortI (l.map fun (i : Nat) => (i : Int))).map PyData.int = m.map nD ∧ m.Perm l ∧ m.Pairwise (· < ·) := by
  have pm := sortI_perm (l.map fun (i : Nat) => (i : Int))
  have so := sortI_sorted (l.map fun (i : Nat) => (i : Int))
  generalize sortI (l.map fun (i : Nat) => (i : Int)) = z at pm so
  have nn : ∀ x ∈ z, 0 ≤ x := fun x hx => by
    obtain ⟨i, _, rfl⟩ := List.mem_map.mp (pm.mem_iff.mp hx)
    omega
  have back : (z.map Int.toNat).map nD = z.map PyData.int := by
    rw [List.map_map]
    refine List.map_congr_left fun x hx => ?_
    show PyData.int ((x.toNat : Nat) : Int) = _
    rw [Int.toNat_of_nonneg (nn x hx)]
  have p2 : (z.map Int.toNat).Perm l := by
    have := pm.map Int.toNat
    rw [List.map_map] at this
    have e : (Int.toNat ∘ fun (i : Nat) => (i : Int)) = id := by funext i; simp
    rw [e, List.map_id] at this
    exact this
  refine ⟨z.map Int.toNat, back.symm, p2, ?_⟩
  have nd2 : (z.map Int.toNat).Nodup := p2.nodup_iff.mpr nd
  have le : (z.map Int.toNat).Pairwise (· ≤ ·) := by
    refine List.pairwise_map.mpr (so.imp_of_mem fun {a b} ha hb hab => ?_)
    have := nn a ha
    omega
  exact (le.and nd2).imp fun {a b} h => Nat.lt_of_le_of_ne h.1 h.2
theorem up_ok {many least top : Nat} (hm : many ≤ 100) (h1 : least ≤ top) (h2 : least ≤ many) (ht : top ≤ 100) : Dw 700000 (many + 1) m__law_up [.int (many : Nat), .int (least : Nat), .int (top : Nat)] fun d => ∃ l : List Nat, d = resD l ∧ l.Pairwise (· < ·) ∧ (∀ r ∈ l, r < many) ∧ least ≤ l.length ∧ l.length ≤ top := by
  refine runD2_dw rfl fun k st o hk => ?_
  have hD := fun (L : Int) (h1 : 0 < L) (h2 : L < 1000) => draw_small h1 h2
  have hO := order_ok hm
  unfold F__law_up
  generalize m__law_draw = f at hD ⊢
  generalize m__law_order = f2 at hO ⊢
  refine Ev.seqN (Ev.asg (LW.Ev.callD (k := k) hO (by simp; rfl) o (by omega) fun d st1 q o1 => Ev.run ?_))
  obtain ⟨l, rfl, pm⟩ := q
  simp
  refine Ev.seqN (Ev.run ?_)
  simp
  have tm : ∃ t : Nat, (if many < top then (many : Int) else (top : Int)) = (t : Nat) ∧ least ≤ t ∧ t ≤ top ∧ t ≤ many := by
    by_cases z : many < top
    · rw [if_pos z]; exact ⟨many, rfl, h2, by omega, Nat.le_refl _⟩
    · rw [if_neg z]; exact ⟨top, rfl, h1, Nat.le_refl _, by omega⟩
  obtain ⟨t, te, t1, t2, t3⟩ := tm
  rw [te]
  refine Ev.run ?_
  obtain ⟨d, st2, e, ⟨r, hr, rfl⟩, o2⟩ := hD ((t : Int) + 1 - (least : Int)) (by omega) (by omega) (k + many) st1 o1 (by omega)
  have hlen : l.length = many := by
    have := pm.length_eq
    rw [List.length_range] at this
    exact this
  obtain ⟨m, m1, m2, m3⟩ := sort_nats (l.take (least + r)) ((pm.nodup_iff.mpr List.nodup_range).sublist (List.take_sublist _ _))
  have cut : cutD (l.map nD) none (some ((least : Int) + (r : Int))) = (l.take (least + r)).map nD := by
    unfold cutD
    rw [show HT.sIx (l.map nD).length 0 none = 0 from rfl, ← Int.natCast_add, HT.sIx_nat, List.drop_zero, Nat.sub_zero, List.length_map, List.map_take]
    rw [Nat.min_eq_left (by omega)]
  simp [e, slD, cut, sortedD, ints_nats, -List.map_take]
  rw [m1]
  refine ⟨⟨m, rfl, m3, fun x hx => ?_, ?_, ?_⟩, by rw [← Nat.add_assoc]; exact o2⟩
  · have := List.mem_of_mem_take (m2.mem_iff.mp hx)
    exact List.mem_range.mp (pm.mem_iff.mp this)
  · have := m2.length_eq
    rw [List.length_take] at this
    omega
  · have := m2.length_eq
    rw [List.length_take] at this
    omega
end LW
end

section
set_option Elab.async false
set_option linter.all false
set_option maxRecDepth 100000
set_option maxHeartbeats 999999
set_option exponentiation.threshold 5001
open DL
open PySem (PyData Str)
namespace LW
/-! ### drawn washes, meets -/
theorem back_map {α : Type} {f : α → D} {R : α → Prop} : ∀ {ys : List D}, (∀ y ∈ ys, ∃ a, y = f a ∧ R a) → ∃ ls : List α, ys = ls.map f ∧ ∀ a ∈ ls, R a
  | [], _ => ⟨[], rfl, fun a h => by cases h⟩
  | y :: ys, h => by
    obtain ⟨ls, e, hl⟩ := back_map (ys := ys) fun y m => h y (List.mem_cons_of_mem _ m)
    obtain ⟨a, rfl, ha⟩ := h y List.mem_cons_self
    refine ⟨a :: ls, by rw [e]; rfl, fun b m => ?_⟩
    rcases List.mem_cons.mp m with rfl | m
    · exact ha
    · exact hl b m
theorem rowT_getD {α : Type} (f : α → D) (d : α) (ls : List α) : rowT ls.length (fun s => f (ls.getD s d)) = ls.map f := by
  apply List.ext_getElem?
  intro i
  by_cases hi : i < ls.length
  · rw [rowT_get hi, List.getElem?_map, List.getElem?_eq_getElem hi, List.getD_eq_getElem?_getD, List.getElem?_eq_getElem hi]
    rfl
  · rw [List.getElem?_eq_none (by rw [rowT_len]; omega), List.getElem?_eq_none (by rw [List.length_map]; omega)]
theorem getD_mem {α : Type} {ls : List α} {d : α} {i : Nat} (h : i < ls.length) : ls.getD i d ∈ ls := by
  rw [List.getD_eq_getElem?_getD, List.getElem?_eq_getElem h]
  exact List.getElem_mem h
theorem turn14 {f : List D → DrawSt → Option (D × DrawSt)} {a b x y : D} {st st2 : DrawSt} (acc : List D) (h : f [a, .int 1, .int 3] st = some (y, st2)) :
    Ev (turnM (setM 4) (ret true) (valM (DL.callD 0 f (consD (nameM 1) (consD (ret (.val (PyData.int 1))) (consD (ret (.val (PyData.int 3))) nilM))))) x acc) (⟨[some .h, some (.d a), some (.d b), none, none, none], st⟩ : Stt DrawSt)
      fun acc' s3 => acc' = acc ++ [y] ∧ wipeE s3.env [4] = [some .h, some (.d a), some (.d b), none, none, none] ∧ s3.dr = st2 := by
  refine Ev.run ?_
  simp [h]
theorem wash_dw {n : Nat} {top : Int} (n1 : 1 ≤ n) (n5 : n ≤ 5) (t1 : 1 ≤ top) (t6 : top ≤ 6) : Dw 600000 60 m__law_wash_drawn [.int (n : Nat), .int top] fun d => ∃ W, d = washD n W ∧ WashOk n W := by
  refine runD2_dw rfl fun k st o hk => ?_
  have hD := fun (L : Int) (h1 : 0 < L) (h2 : L < 1000) => draw_small h1 h2
  have hU : Dw 700000 (n + 1) m__law_up [.int (n : Nat), .int 1, .int 3] _ := up_ok (many := n) (least := 1) (top := 3) (by omega) (by omega) n1 (by omega)
  have g2 : rgOk 0 (n : Nat) = true := rgOk_small (by omega) (by omega) (by omega) (by omega)
  unfold F__law_wash_drawn
  generalize m__law_draw = f at hD ⊢
  generalize m__law_up = f2 at hU ⊢
  have nb : n * (n + 1) ≤ 5 * 6 := Nat.mul_le_mul n5 (by omega)
  refine Ev.seqN (Ev.asg (Ev.tuple (LW.Ev.lcDr [some .h, some (.d (.int (n : Nat))), some (.d (.int top)), none, none, none] (n + 1) k n (fun d => ∃ l : List Nat, d = resD l ∧ (l.Pairwise (· < ·) ∧ (∀ r ∈ l, r < n) ∧ 1 ≤ l.length ∧ l.length ≤ 3)) (Ev.rangeM (lo := 0) (hi := (n : Nat)) (by simp) g2 ?_))))
  rw [rgD_nat]
  refine ⟨rgN_len n, by omega, rfl, rfl, o, ?_, ?_⟩
  · intro x hx acc st' k' o' hk'
    obtain ⟨y, st2, e, q, o2⟩ := hU k' st' o' (by omega)
    exact (turn14 acc e).mono fun acc' s3 h => ⟨⟨y, h.1, q⟩, h.2.1, by rw [h.2.2]; exact o2⟩
  intro ys st1 hl hq o1
  refine ⟨ys, rfl, ?_⟩
  obtain ⟨ls, rfl, hls⟩ := back_map hq
  have ll : ls.length = n := by rw [List.length_map] at hl; exact hl
  refine Ev.run ?_
  simp
  obtain ⟨d, st2, e, ⟨r, hr, rfl⟩, o2⟩ := hD top (by omega) (by omega) _ st1 o1 (by omega)
  refine Ev.seqN (Ev.run ?_)
  simp [e]
  obtain ⟨d, st3, e3, ⟨r2, hr2, rfl⟩, o3⟩ := hD (top + 1 - (1 + (r : Int))) (by omega) (by omega) _ st2 o2 (by omega)
  refine Ev.run ?_
  simp [e3]
  refine ⟨⟨⟨fun s => ls.getD s [], 1 + (r : Int), 1 + (r : Int) + (r2 : Int)⟩, ?_, ?_⟩, o3.mono (by omega)⟩
  · unfold washD
    rw [← ll, rowT_getD resD [] ls]
  · have h := fun s (hs : s < n) => hls (ls.getD s []) (getD_mem (by omega))
    refine ⟨fun s hs z => ?_, fun s hs => (h s hs).2.2.2, fun s hs => (h s hs).1, fun s hs => (h s hs).2.1, ?_, ?_, ?_⟩
    · have := (h s hs).2.2.1
      dsimp only at z
      rw [z] at this
      simp at this
    · show (1 : Int) ≤ 1 + (r : Int); omega
    · show (1 + (r : Int)) ≤ 1 + (r : Int) + (r2 : Int); omega
    · show (1 + (r : Int) + (r2 : Int)) ≤ 6; omega
/-! meets -/
theorem Ev.lst1 {F : M DrawSt Opd} {s : Stt DrawSt} {P : Opd → Stt DrawSt → Prop} (h : Ev F s fun o s' => ∃ xs, o = .new xs ∧ P (.new [.list xs]) s') : Ev (lstM (consD F nilM)) s P := by
  obtain ⟨o, s', e, xs, rfl, hp⟩ := h
  exact ⟨_, s', by simp [e], hp⟩
theorem Ev.appN {i : Nat} {F : M DrawSt Opd} {s : Stt DrawSt} {P : Out → Stt DrawSt → Prop} {zs0 : List D} (h0 : s.env[i]? = some (some (.own zs0))) (h : Ev F s fun o s' => ∃ xs zs, o = .new xs ∧ s'.env[i]? = some (some (.own zs)) ∧ zs.length < 16777216 ∧ P .nx { s' with env := s'.env.set i (some (.own (zs ++ [.list xs]))) }) :
    Ev (bnd (ownAt i) fun _ => appM i F) s P := by
  obtain ⟨o, s', e, xs, zs, rfl, h1, h2, hp⟩ := h
  exact ⟨_, _, by simp [h0, e, h1, h2], hp⟩
theorem turn15 {f : List D → DrawSt → Option (D × DrawSt)} {a b x y : D} {s3 w5 w6 : Option Sl} {st st2 : DrawSt} (acc : List D) (h : f [a] st = some (y, st2)) :
    Ev (turnM (setM 4) (ret true) (valM (DL.callD 0 f (consD (nameM 1) nilM))) x acc) (⟨[some .h, some (.d a), some (.d b), s3, none, w5, w6], st⟩ : Stt DrawSt)
      fun acc' s4 => acc' = acc ++ [y] ∧ wipeE s4.env [4] = [some .h, some (.d a), some (.d b), s3, none, w5, w6] ∧ s4.dr = st2 := by
  refine Ev.run ?_
  simp [h]
theorem turn16 {f : List D → DrawSt → Option (D × DrawSt)} {a b x y : D} {s3 w5 w6 : Option Sl} {st st2 st3 : DrawSt} {r : Nat} (acc : List D) (h1 : f [.int 3] st = some (.int (r : Nat), st2)) (h2 : f [a] st2 = some (y, st3)) :
    Ev (turnM (setM 4) (ret true) (valM (iteM (bnd (op2 eqD (DL.callD 0 f (consD (ret (.val (PyData.int 3))) nilM)) (ret (.val (PyData.int 0)))) boolO) (ret (.val PyData.none)) (DL.callD 0 f (consD (nameM 1) nilM)))) x acc) (⟨[some .h, some (.d a), some (.d b), s3, none, w5, w6], st⟩ : Stt DrawSt)
      fun acc' s4 => acc' = acc ++ [if r = 0 then .none else y] ∧ wipeE s4.env [4] = [some .h, some (.d a), some (.d b), s3, none, w5, w6] ∧ s4.dr = (if r = 0 then st2 else st3) := by
  refine Ev.run ?_
  by_cases h : r = 0
  · subst h
    have h1' : f [.int 3] st = some (.int 0, st2) := h1
    simp [h1']
  · have h' : ¬ ((r : Nat) : Int) = 0 := by omega
    simp [h1, h, h2]
def rowO (l : List (Option Nat)) : D := .list (l.map oD)
def rowO2 (l : List (Option Nat)) : D := .tuple (l.map oD)
def gTup : D → Option D
  | .list xs => some (.tuple xs)
  | _ => none
theorem gTup_map (ls : List (List (Option Nat))) : (ls.map rowO).filterMap gTup = ls.map rowO2 := by
  induction ls with
  | nil => rfl
  | cons a l ih =>
    rw [List.map_cons, List.filterMap_cons, ih]
    rfl
def MI (n m k : Nat) (i : Nat) (s : Stt DrawSt) : Prop := ∃ (w5 : Option Sl) (ls : List (List (Option Nat))) (st : DrawSt), s = ⟨[some .h, some (.d (.int (n : Nat))), some (.d (.int (m : Nat))), some (.own (ls.map rowO)), none, w5, none], st⟩ ∧ ls.length = i + 1 ∧ (∀ l ∈ ls, l.length = m ∧ ∀ r, some r ∈ l → r < n) ∧ (∀ o ∈ ls.getD 0 [], o ≠ none) ∧ StOk (k + m + i * (2 * m)) st
theorem meets_dw {n m : Nat} (n1 : 1 ≤ n) (n5 : n ≤ 5) (m1 : 1 ≤ m) (m3 : m ≤ 3) : Dw 600000 40 m__law_meets_drawn [.int (n : Nat), .int (m : Nat)] fun d => ∃ ls : List (List (Option Nat)), d = .tuple (ls.map rowO2) ∧ ls.length = n ∧ (∀ l ∈ ls, l.length = m ∧ ∀ r, some r ∈ l → r < n) ∧ (∀ o ∈ ls.getD 0 [], o ≠ none) := by
  refine runD2_dw rfl fun k st o hk => ?_
  have hD := fun (L : Int) (h1 : 0 < L) (h2 : L < 1000) => draw_small h1 h2
  have g2 : rgOk 0 (m : Nat) = true := rgOk_small (by omega) (by omega) (by omega) (by omega)
  have g3 : rgOk 1 (n : Nat) = true := rgOk_small (by omega) (by omega) (by omega) (by omega)
  unfold F__law_meets_drawn
  generalize m__law_draw = f at hD ⊢
  refine Ev.seqN (Ev.asg (LW.Ev.lst1 (LW.Ev.lcDr [some .h, some (.d (.int (n : Nat))), some (.d (.int (m : Nat))), none, none, none, none] 1 k m (fun d => ∃ a : Option Nat, d = oD a ∧ (a ≠ none ∧ ∀ r, a = some r → r < n)) (Ev.rangeM (lo := 0) (hi := (m : Nat)) (by simp) g2 ?_))))
  rw [rgD_nat]
  refine ⟨rgN_len m, by omega, rfl, rfl, o, ?_, ?_⟩
  · intro x hx acc st' k' o' hk'
    obtain ⟨y, st2, e, ⟨r, hr, rfl⟩, o2⟩ := hD (n : Nat) (by omega) (by omega) k' st' o' (by omega)
    exact (turn15 acc e).mono fun acc' s3 h => ⟨⟨_, h.1, some r, rfl, (fun z => nomatch z), fun r' z => by cases z; omega⟩, h.2.1, by rw [h.2.2]; exact o2⟩
  intro ys st1 hl hq o1
  refine ⟨ys, rfl, Ev.run ?_⟩
  obtain ⟨l0, rfl, hl0⟩ := back_map hq
  rw [List.length_map] at hl
  have hlm := hl
  simp
  have hlen : (rgD 1 (n : Nat)).length = n - 1 := by
    unfold rgD
    rw [List.length_map, List.length_range]
    omega
  refine Ev.seqN (Ev.loop (Ev.rangeM (lo := 1) (hi := (n : Nat)) (by simp) g3 ?_))
  refine Ev.for_ (MI n m k) ?_ ?_ ⟨none, [l0], st1, rfl, rfl, ?_, ?_, by rw [Nat.zero_mul]; exact o1.mono (by omega)⟩
  · rintro i x s hx ⟨w5, ls, st', rfl, h1, h2, h3, h4⟩
    have hi : i < n - 1 := by
      have := (List.getElem?_eq_some_iff.mp hx).1
      rw [hlen] at this
      exact this
    have ib : i * (2 * m) ≤ 4 * 6 := Nat.mul_le_mul (by omega) (by omega)
    refine Ev.bnd (Ev.run ?_)
    simp
    refine LW.Ev.appN (zs0 := ls.map rowO) rfl (LW.Ev.lcDr [some .h, some (.d (.int (n : Nat))), some (.d (.int (m : Nat))), some (.own (ls.map rowO)), none, some (.d x), none] 2 (k + m + i * (2 * m)) m (fun d => ∃ a : Option Nat, d = oD a ∧ (∀ r, a = some r → r < n)) (Ev.rangeM (lo := 0) (hi := (m : Nat)) (by simp) g2 ?_))
    rw [rgD_nat]
    refine ⟨rgN_len m, by omega, rfl, rfl, h4, ?_, ?_⟩
    · intro x hx acc st' k' o' hk'
      obtain ⟨y, st2, e, ⟨r, hr, rfl⟩, o2⟩ := hD 3 (by omega) (by omega) k' st' o' (by omega)
      obtain ⟨y, st3, e3, ⟨r2, hr2, rfl⟩, o3⟩ := hD (n : Nat) (by omega) (by omega) (k' + 1) st2 o2 (by omega)
      refine (turn16 acc e e3).mono fun acc' s3 h => ⟨⟨_, h.1, ?_⟩, h.2.1, ?_⟩
      · by_cases z : r = 0
        · rw [if_pos z]
          exact ⟨none, rfl, fun r' y => nomatch y⟩
        · rw [if_neg z]
          exact ⟨some r2, rfl, fun r' y => by cases y; omega⟩
      · rw [h.2.2]
        split
        · exact o2.mono (by omega)
        · exact o3
    · intro ys st2 hl2 hq2 o2
      obtain ⟨l1, rfl, hl1⟩ := back_map hq2
      rw [List.length_map] at hl2
      refine ⟨_, ls.map rowO, rfl, rfl, by rw [List.length_map]; omega, ?_⟩
      refine ⟨some (.d x), ls ++ [l1], st2, ?_, by rw [List.length_append]; show ls.length + 1 = _; omega, fun l hl => ?_, ?_, ?_⟩
      · rw [List.map_append]
        rfl
      · rcases List.mem_append.mp hl with z | z
        · exact h2 l z
        · have : l = l1 := by simpa using z
          subst this
          exact ⟨hl2, fun r hr => hl1 _ hr r rfl⟩
      · cases ls with
        | nil => simp at h1
        | cons a ls => exact h3
      · rw [Nat.add_mul, Nat.one_mul, ← Nat.add_assoc]
        exact o2.mono (by omega)
  · rintro s ⟨w5, ls, st', rfl, h1, h2, h3, h4⟩
    rw [hlen] at h1 h4
    have hn : ls.length = n := by omega
    have ib : (n - 1) * (2 * m) ≤ 4 * 6 := Nat.mul_le_mul (by omega) (by omega)
    refine ⟨rfl, Ev.retM (Ev.tuple (Ev.lcw gTup [some .h, some (.d (.int (n : Nat))), some (.d (.int (m : Nat))), some (.d (.list (ls.map rowO))), none, w5, none] st' ⟨ls.map rowO, ⟨[some .h, some (.d (.int (n : Nat))), some (.d (.int (m : Nat))), some (.d (.list (ls.map rowO))), none, w5, none], st'⟩, by simp, by rw [List.length_map]; omega, rfl, rfl, rfl, ?_, ?_⟩))⟩
    · intro x hx acc
      obtain ⟨l, hl, rfl⟩ := List.mem_map.mp hx
      refine Ev.run ?_
      simp [rowO, gTup]
    · rw [gTup_map]
      exact ⟨_, rfl, Ev.toDv ⟨_, rfl, ⟨ls, rfl, hn, h2, h3⟩, h4.mono (by omega)⟩⟩
  · intro l hl
    have : l = l0 := by simpa using hl
    subst this
    exact ⟨hlm, fun r hr => (hl0 _ hr).2 r rfl⟩
  · intro a ha
    exact (hl0 a ha).1
end LW
end

section
set_option Elab.async false
set_option linter.all false
set_option maxRecDepth 100000
set_option maxHeartbeats 999999
set_option exponentiation.threshold 5001
open DL
open PySem (PyData Str)
namespace LW
/-! ### drawn laboratories -/
theorem Ev.rangeM2 {τ : Type} {G : M τ (List Opd)} {s : Stt τ} {P : List D → Stt τ → Prop} (h : Ev (intsM G) s fun ds s' => ∃ lo hi, rng2 ds = some (lo, hi) ∧ rgOk lo hi = true ∧ P (rgD lo hi) s') : Ev (DL.rangeM G) s P := by
  obtain ⟨ds, s', e, lo, hi, e2, ok, hp⟩ := h
  refine ⟨rgD lo hi, s', ?_, hp⟩
  rw [rangeM_s]
  unfold bnd
  rw [e]
  dsimp only
  rw [e2]
  dsimp only [lift]
  rw [if_pos ok]
def mkLab (ls : List (List (Option Nat))) (m : Nat) (Ws : List Wash) (c d e : Int) : Lab := ⟨ls.length, m, fun s t => (ls.getD s []).getD t none, Ws, c, d, e⟩
theorem mk_meets {ls : List (List (Option Nat))} {m : Nat} {Ws : List Wash} {c d e : Int} (h : ∀ l ∈ ls, l.length = m) : (mkLab ls m Ws c d e).meets = .tuple (ls.map rowO2) := by
  unfold Lab.meets
  congr 1
  rw [← rowT_getD rowO2 [] ls]
  unfold rowT
  refine List.map_congr_left fun s hs => ?_
  have hs := List.mem_range.mp hs
  have hl := h (ls.getD s []) (getD_mem hs)
  unfold Lab.mrow rowO2
  congr 1
  rw [← rowT_getD oD none (ls.getD s []), hl]
  rfl
theorem mk_ok {ls : List (List (Option Nat))} {m : Nat} {Ws : List Wash} {c d e : Int} (n1 : 1 ≤ ls.length) (n8 : ls.length ≤ 8) (m1 : 1 ≤ m) (m8 : m ≤ 8) (h : ∀ l ∈ ls, l.length = m ∧ ∀ r, some r ∈ l → r < ls.length) (h0 : ∀ o ∈ ls.getD 0 [], o ≠ none)
    (few : Ws.length ≤ 3) (hw : ∀ W ∈ Ws, WashOk ls.length W) (c1 : 1 ≤ c) (c3 : c ≤ 3) (d1 : 1 ≤ d) (d3 : d ≤ 3) (e0 : 0 ≤ e) (e4 : e ≤ 4) : LabOk (mkLab ls m Ws c d e) := by
  refine ⟨n1, n8, m1, m8, fun s t r hs ht e => ?_, fun t ht z => ?_, few, hw, c1, c3, d1, d3, e0, e4⟩
  · have hl := h (ls.getD s []) (getD_mem hs)
    refine hl.2 r ?_
    rw [← e]
    exact getD_mem (by rw [hl.1]; exact ht)
  · have hl := h (ls.getD 0 []) (getD_mem (by omega))
    exact h0 _ (getD_mem (d := none) (by rw [hl.1]; exact ht)) z
theorem turn17 {f : List D → DrawSt → Option (D × DrawSt)} {a b c t n x y : D} {w6 : Option Sl} {st st2 : DrawSt} (acc : List D) (h : f [n, t] st = some (y, st2)) :
    Ev (turnM (setM 8) (ret true) (valM (DL.callD 0 f (consD (nameM 5) (consD (nameM 4) nilM)))) x acc) (⟨[some .h, some (.d a), some (.d b), some (.d c), some (.d t), some (.d n), w6, none, none], st⟩ : Stt DrawSt)
      fun acc' s4 => acc' = acc ++ [y] ∧ wipeE s4.env [8] = [some .h, some (.d a), some (.d b), some (.d c), some (.d t), some (.d n), w6, none, none] ∧ s4.dr = st2 := by
  refine Ev.run ?_
  simp [h]
theorem step6 {f fm : List D → DrawSt → Option (D × DrawSt)} {a b c d y : D} {n x : Int} {st1 st2 st3 : DrawSt} (e2 : f [b] st1 = some (.int x, st2)) (e3 : fm [.int n, .int (1 + x)] st2 = some (y, st3)) :
    asgM 6 (DL.callD 0 fm (consD (nameM 5) (consD (op2 addD (ret (.val (PyData.int 1))) (DL.callD 0 f (consD (nameM 2) nilM))) nilM))) (⟨[some .h, some (.d a), some (.d b), some (.d c), some (.d d), some (.d (.int n)), none, none, none], st1⟩ : Stt DrawSt) =
      some (.nx, ⟨[some .h, some (.d a), some (.d b), some (.d c), some (.d d), some (.d (.int n)), some (.d y), none, none], st3⟩) := by
  simp [e2, e3]
theorem lab_dw : Dw 500000 300 m__law_lab_drawn [.int 5, .int 3, .int 3, .int 4] fun d => ∃ L : Lab, d = L.D ∧ LabOk L := by
  refine runD2_dw rfl fun k st o hk => ?_
  have hD := fun (L : Int) (h1 : 0 < L) (h2 : L < 1000) => draw_small h1 h2
  have hM := fun (n m : Nat) (a : 1 ≤ n) (b : n ≤ 5) (c : 1 ≤ m) (d : m ≤ 3) => meets_dw a b c d
  have hW := fun (n : Nat) (a : 1 ≤ n) (b : n ≤ 5) => wash_dw (n := n) (top := 4) a b (by omega) (by omega)
  unfold F__law_lab_drawn
  generalize m__law_draw = f at hD ⊢
  generalize m__law_meets_drawn = fm at hM ⊢
  generalize m__law_wash_drawn = fw at hW ⊢
  obtain ⟨d, st1, e1, ⟨r1, hr1, rfl⟩, o1⟩ := hD 5 (by omega) (by omega) k st o (by omega)
  refine Ev.seqN (Ev.run ?_)
  simp [e1]
  obtain ⟨d, st2, e2, ⟨r2, hr2, rfl⟩, o2⟩ := hD 3 (by omega) (by omega) _ st1 o1 (by omega)
  obtain ⟨d, st3, e3, ⟨ls, rfl, h1, h2, h3⟩, o3⟩ := hM (1 + r1) (1 + r2) (by omega) (by omega) (by omega) (by omega) _ st2 o2 (by omega)
  have z1 : (1 : Int) + (r1 : Int) = ((1 + r1 : Nat) : Int) := by omega
  have z2 : (1 : Int) + (r2 : Int) = ((1 + r2 : Nat) : Int) := by omega
  rw [z1]
  rw [← z2] at e3
  refine Ev.seqN ⟨.nx, ⟨[some .h, some (.d (.int 5)), some (.d (.int 3)), some (.d (.int 3)), some (.d (.int 4)), some (.d (.int ((1 + r1 : Nat) : Int))), some (.d (.tuple (ls.map rowO2))), none, none], st3⟩, step6 e2 e3, rfl, ?_⟩
  obtain ⟨d, st4, e4, ⟨r4, hr4, rfl⟩, o4⟩ := hD (3 + 1) (by omega) (by omega) _ st3 o3 (by omega)
  have g2 : rgOk 0 (r4 : Nat) = true := rgOk_small (by omega) (by omega) (by omega) (by omega)
  refine Ev.seqN (Ev.asg (Ev.tuple (LW.Ev.lcDr [some .h, some (.d (.int 5)), some (.d (.int 3)), some (.d (.int 3)), some (.d (.int 4)), some (.d (.int ((1 + r1 : Nat) : Int))), some (.d (.tuple (ls.map rowO2))), none, none] 60 (k + 1 + 1 + 40 + 1) r4 (fun d => ∃ W, d = washD (1 + r1) W ∧ WashOk (1 + r1) W)
    (LW.Ev.rangeM2 ⟨[.int (r4 : Nat)], ⟨[some .h, some (.d (.int 5)), some (.d (.int 3)), some (.d (.int 3)), some (.d (.int 4)), some (.d (.int ((1 + r1 : Nat) : Int))), some (.d (.tuple (ls.map rowO2))), none, none], st4⟩, by simp at e4; simp [e4], 0, (r4 : Nat), rfl, g2, ?_⟩))))
  rw [rgD_nat]
  refine ⟨rgN_len r4, by omega, rfl, rfl, o4, ?_, ?_⟩
  · intro x hx acc st' k' o' hk'
    have : r4 * 60 ≤ 3 * 60 := Nat.mul_le_mul_right 60 (by omega)
    obtain ⟨y, st2, e, q, o2⟩ := hW (1 + r1) (by omega) (by omega) k' st' o' (by omega)
    exact (turn17 acc e).mono fun acc' s3 h => ⟨⟨y, h.1, q⟩, h.2.1, by rw [h.2.2]; exact o2⟩
  intro ys st5 hl hq o5
  have b5 : r4 * 60 ≤ 3 * 60 := Nat.mul_le_mul_right 60 (by omega)
  obtain ⟨Ws, rfl, hWs⟩ := back_map hq
  rw [List.length_map] at hl
  refine ⟨_, rfl, Ev.run ?_⟩
  simp only [putM_v, Res_some, List.set_cons_succ, List.set_cons_zero, true_and]
  obtain ⟨d, st6, e6, ⟨r6, hr6, rfl⟩, o6⟩ := hD 3 (by omega) (by omega) _ st5 o5 (by omega)
  obtain ⟨d, st7, e7, ⟨r7, hr7, rfl⟩, o7⟩ := hD 3 (by omega) (by omega) _ st6 o6 (by omega)
  obtain ⟨d, st8, e8, ⟨r8, hr8, rfl⟩, o8⟩ := hD 5 (by omega) (by omega) _ st7 o7 (by omega)
  refine Ev.run ?_
  simp [e6, e7, e8, -List.map_map]
  refine ⟨⟨mkLab ls (1 + r2) Ws (1 + (r6 : Int)) (1 + (r7 : Int)) (r8 : Int), ?_, mk_ok (by omega) (by omega) (by omega) (by omega) (fun l hl => ⟨(h2 l hl).1, fun r hr => by rw [h1]; exact (h2 l hl).2 r hr⟩) h3 (by omega) (fun W hW => by rw [h1]; exact hWs W hW) (by omega) (by omega) (by omega) (by omega) (by omega) (by omega)⟩, o8.mono (by omega)⟩
  unfold Lab.D
  rw [mk_meets fun l hl => (h2 l hl).1]
  show _ = PyData.tuple [_, .tuple (Ws.map (washD ls.length)), _, _, _]
  rw [h1]
  rfl
end LW
end

section
set_option Elab.async false
set_option linter.all false
set_option maxRecDepth 100000
set_option maxHeartbeats 999999
set_option exponentiation.threshold 5001
open DL
open PySem (PyData Str)
namespace LW
/-! ### a wash near another one -/
theorem dd_len : ∀ l : List Int, (dd l).length ≤ l.length
  | [] => Nat.le_refl _
  | x :: r => by
    unfold dd
    split
    · exact Nat.le_trans (dd_len r) (Nat.le_succ _)
    · exact Nat.succ_le_succ (dd_len r)
theorem setT_nats (zs : List Nat) (h : zs.length < 64) : ∃ m : List Nat, setT (.tuple (zs.map nD)) = some (.new (m.map nD)) ∧ m.Pairwise (· < ·) ∧ (∀ x, x ∈ m ↔ x ∈ zs) ∧ m.length ≤ zs.length := by
  have pm := sortI_perm (dd (zs.map fun (i : Nat) => (i : Int)))
  have so := sortI_sorted (dd (zs.map fun (i : Nat) => (i : Int)))
  have nd := pm.nodup_iff.mpr (dd_nodup (zs.map fun (i : Nat) => (i : Int)))
  have le : (sortI (dd (zs.map fun (i : Nat) => (i : Int)))).length ≤ zs.length := by
    rw [pm.length_eq]
    have := dd_len (zs.map fun (i : Nat) => (i : Int))
    rw [List.length_map] at this
    exact this
  have mem : ∀ x : Int, x ∈ sortI (dd (zs.map fun (i : Nat) => (i : Int))) ↔ x ∈ zs.map fun (i : Nat) => (i : Int) := fun x => by rw [pm.mem_iff, dd_mem]
  have e : setT (.tuple (zs.map nD)) = some (.new ((sortI (dd (zs.map fun (i : Nat) => (i : Int)))).map PyData.int)) := by
    unfold setT
    dsimp only
    rw [ints_nats]
    dsimp only [Option.bind]
    rw [if_pos (by rw [List.length_map]; exact decide_eq_true h)]
  generalize sortI (dd (zs.map fun (i : Nat) => (i : Int))) = z at pm so nd le mem e
  have nn : ∀ x ∈ z, 0 ≤ x := fun x hx => by
    obtain ⟨i, _, rfl⟩ := List.mem_map.mp ((mem x).mp hx)
    omega
  have back : (z.map Int.toNat).map nD = z.map PyData.int := by
    rw [List.map_map]
    refine List.map_congr_left fun x hx => ?_
    show PyData.int ((x.toNat : Nat) : Int) = _
    rw [Int.toNat_of_nonneg (nn x hx)]
  refine ⟨z.map Int.toNat, by rw [e, back], ?_, fun x => ?_, by rw [List.length_map]; exact le⟩
  · refine List.pairwise_map.mpr ((so.and nd).imp_of_mem fun {a b} ha hb hab => ?_)
    have h1 := nn a ha
    have h2 := nn b hb
    obtain ⟨q1, q2⟩ := hab
    omega
  · rw [List.mem_map]
    constructor
    · rintro ⟨y, hy, rfl⟩
      obtain ⟨i, hi, rfl⟩ := List.mem_map.mp ((mem y).mp hy)
      simpa using hi
    · intro hx
      exact ⟨(x : Int), (mem x).mpr (List.mem_map.mpr ⟨x, hx, rfl⟩), by simp⟩
theorem cut_1 (xs : List D) : cutD xs (some 1) none = xs.drop 1 := by
  unfold cutD
  rw [show (1 : Int) = ((1 : Nat) : Int) from rfl, HT.sIx_nat, HT.sIx_none]
  cases xs with
  | nil => rfl
  | cons x xs =>
    have : min 1 (x :: xs).length = 1 := by simp
    rw [this]
    simp
theorem cut_3 (xs : List D) : cutD xs none (some 3) = xs.take 3 := by
  unfold cutD
  rw [show (3 : Int) = ((3 : Nat) : Int) from rfl, HT.sIx_nat, HT.sIx_none, List.drop_zero, Nat.sub_zero]
  by_cases h : 3 ≤ xs.length
  · rw [Nat.min_eq_left h]
  · rw [Nat.min_eq_right (by omega), List.take_of_length_le (Nat.le_refl _), List.take_of_length_le (by omega)]
structure RO (n : Nat) (l : List Nat) : Prop where
  up : l.Pairwise (· < ·)
  lt : ∀ r ∈ l, r < n
  ne : l ≠ []
  few : l.length ≤ 3
@[simp] theorem sortSetM_s {τ : Type} {s : Stt τ} (F : M τ Opd) : sortSetM F s = bnd (lateM F) (fun o => bnd (getO o) fun x => lift (setT x)) s := rfl
section
variable {a b c d e g : D} {w8 : Option Sl} {w6 : Option Sl} {n q : Nat} {l : List Nat} {st : DrawSt}
def envN (a b c : D) (d e : D) (w6 : Option Sl) (l : List Nat) (w8 : Option Sl) (q : Nat) (st : DrawSt) : Stt DrawSt := ⟨[some .h, some (.d a), some (.d b), some (.d c), some (.d d), some (.d e), w6, some (.d (resD l)), w8, some (.d (.int (q : Nat)))], st⟩
theorem kind0 (h : RO n l) : ∃ l', asgM 7 (iteM (bnd (op2 gtD (callM lenD (consO (nameM 7) nilM)) (ret (.val (PyData.int 1)))) boolO) (sliceM slD (nameM 7) (bnd (ret (.val (PyData.int 1))) intO) (ret none)) (nameM 7)) (envN a b c d e w6 l w8 q st) = some (.nx, envN a b c d e w6 l' w8 q st) ∧ RO n l' := by
  by_cases hl : 1 < l.length
  · refine ⟨l.drop 1, ?_, ?_⟩
    · have hl' : (1 : Int) < (l.length : Nat) := by omega
      simp [envN, resD, hl', slD, cut_1, -List.drop_one, List.map_drop]
    · refine ⟨h.up.sublist (List.drop_sublist _ _), fun r hr => h.lt r (List.mem_of_mem_drop hr), fun z => ?_, ?_⟩
      · have := congrArg List.length z
        rw [List.length_drop] at this
        simp at this
        omega
      · rw [List.length_drop]
        have := h.few
        omega
  · refine ⟨l, ?_, h⟩
    have hl' : ¬ (1 : Int) < (l.length : Nat) := by omega
    simp [envN, resD, hl']
theorem kind1 (h : RO n l) (hq : q < n) : ∃ l', asgM 7 (sliceM slD (callM tupleD (consO (sortSetM (op2 addD (nameM 7) (tupM (consD (nameM 9) nilM)))) nilM)) (ret none) (bnd (ret (.val (PyData.int 3))) intO)) (envN a b c d e w6 l w8 q st) = some (.nx, envN a b c d e w6 l' w8 q st) ∧ RO n l' := by
  have few := h.few
  obtain ⟨m, m1, m2, m3, m4⟩ := setT_nats (l ++ [q]) (by rw [List.length_append]; show l.length + 1 < 64; omega)
  rw [List.map_append] at m1
  have m1' : setT (.tuple (l.map nD ++ [.int (q : Nat)])) = some (.new (m.map nD)) := m1
  have z : l.length + 1 ≤ 16777216 := by omega
  refine ⟨m.take 3, ?_, ?_⟩
  · simp [envN, resD, z, m1', slD, cut_3, List.map_take]
  · have qm : q ∈ m := (m3 q).mpr (by simp)
    refine ⟨m2.sublist (List.take_sublist _ _), fun r hr => ?_, fun z => ?_, by rw [List.length_take]; omega⟩
    · have := (m3 r).mp (List.mem_of_mem_take hr)
      rcases List.mem_append.mp this with x | x
      · exact h.lt r x
      · have : r = q := by simpa using x
        omega
    · cases m with
      | nil => cases qm
      | cons x m => cases z
theorem kind2 (h : RO n l) (hq : q < n) : ∃ l', asgM 7 (callM tupleD (consO (sortSetM (op2 addD (sliceM slD (nameM 7) (bnd (ret (.val (PyData.int 1))) intO) (ret none)) (tupM (consD (nameM 9) nilM)))) nilM)) (envN a b c d e w6 l w8 q st) = some (.nx, envN a b c d e w6 l' w8 q st) ∧ RO n l' := by
  have few := h.few
  have dl : (l.drop 1).length ≤ 2 := by rw [List.length_drop]; omega
  obtain ⟨m, m1, m2, m3, m4⟩ := setT_nats (l.drop 1 ++ [q]) (by rw [List.length_append]; show (l.drop 1).length + 1 < 64; omega)
  rw [List.length_append] at m4
  have m4' : m.length ≤ (l.drop 1).length + 1 := m4
  have m1' : setT (.tuple ((l.map nD).drop 1 ++ [.int (q : Nat)])) = some (.new (m.map nD)) := by
    rw [List.map_append, List.map_drop] at m1
    exact m1
  have z : ((l.map nD).drop 1).length + 1 ≤ 16777216 := by rw [List.length_drop, List.length_map]; omega
  refine ⟨m, ?_, ?_⟩
  · generalize hx : (l.map nD).drop 1 = xs at m1' z
    simp [envN, resD, slD, cut_1, hx, z, m1', -List.drop_one]
  · have qm : q ∈ m := (m3 q).mpr (by simp)
    refine ⟨m2, fun r hr => ?_, fun z => ?_, by omega⟩
    · rcases List.mem_append.mp ((m3 r).mp hr) with x | x
      · exact h.lt r (List.mem_of_mem_drop x)
      · have : r = q := by simpa using x
        omega
    · rw [z] at qm
      cases qm
end
def NI (n k : Nat) (lab : D) (W : Wash) (i : Nat) (s : Stt DrawSt) : Prop := ∃ (w7 w8 w9 : Option Sl) (ls : List (List Nat)) (st : DrawSt), s = ⟨[some .h, some (.d lab), some (.d (washD n W)), some (.d (.tuple (rowT n fun s => resD (W.after s)))), some (.d (.int W.low)), some (.d (.int W.high)), some (.own (ls.map resD)), w7, w8, w9], st⟩ ∧ ls.length = i ∧ (∀ l ∈ ls, RO n l) ∧ StOk (k + i * 2) st
def mn (i j : Int) : Int := if j < i then j else i
def mx (i j : Int) : Int := if j > i then j else i
theorem mxmn1 (x : Int) : 1 ≤ mx 1 (mn 6 x) ∧ mx 1 (mn 6 x) ≤ 6 := by
  unfold mx mn
  constructor <;> split <;> split at * <;> omega
theorem mxmn2 {l : Int} (x : Int) (h : l ≤ 6) : l ≤ mx l (mn 6 x) ∧ mx l (mn 6 x) ≤ 6 := by
  unfold mx mn
  constructor <;> split <;> split at * <;> omega
theorem step4 {f : List D → DrawSt → Option (D × DrawSt)} {a b c e : D} {low : Int} {r : Nat} {w6 w7 w8 w9 : Option Sl} {st st2 : DrawSt} (h : f [.int 4] st = some (.int (r : Nat), st2)) :
    asgM 4 (callM maxD (consO (ret (.val (PyData.int 1))) (consO (callM minD (consO (ret (.val (PyData.int 6))) (consO (op2 subD (op2 addD (nameM 4) (DL.callD 0 f (consD (ret (.val (PyData.int 4))) nilM))) (ret (.val (PyData.int 1)))) nilM))) nilM)))
      (⟨[some .h, some (.d a), some (.d b), some (.d c), some (.d (.int low)), some (.d e), w6, w7, w8, w9], st⟩ : Stt DrawSt) = some (.nx, ⟨[some .h, some (.d a), some (.d b), some (.d c), some (.d (.int (mx 1 (mn 6 (low + (r : Int) - 1))))), some (.d e), w6, w7, w8, w9], st2⟩) := by
  simp [h, mx, mn]
theorem step5 {f : List D → DrawSt → Option (D × DrawSt)} {a b c : D} {low high : Int} {r : Nat} {ls : List (List Nat)} {w7 w8 w9 : Option Sl} {st st2 : DrawSt} (hl : ls.length ≤ 1000) (h : f [.int 4] st = some (.int (r : Nat), st2)) :
    retM (tupM (consD (callM tupleD (consO (nameM 6) nilM)) (consD (nameM 4) (consD (callM maxD (consO (nameM 4) (consO (callM minD (consO (ret (.val (PyData.int 6))) (consO (op2 subD (op2 addD (nameM 5) (DL.callD 0 f (consD (ret (.val (PyData.int 4))) nilM))) (ret (.val (PyData.int 2)))) nilM))) nilM))) nilM))))
      (⟨[some .h, some (.d a), some (.d b), some (.d c), some (.d (.int low)), some (.d (.int high)), some (.own (ls.map resD)), w7, w8, w9], st⟩ : Stt DrawSt) = some (.rt (.tuple [.tuple (ls.map resD), .int low, .int (mx low (mn 6 (high + (r : Int) - 2)))]), ⟨[some .h, some (.d a), some (.d b), some (.d c), some (.d (.int low)), some (.d (.int high)), some (.own (ls.map resD)), w7, w8, w9], st2⟩) := by
  simp [h, mx, mn]
theorem near_dw {n : Nat} {lab : D} {W : Wash} (n1 : 1 ≤ n) (n5 : n ≤ 8) (ok : WashOk n W) : Dw 500000 30 m__law_near_wash [lab, washD n W] fun d => ∃ W', d = washD n W' ∧ WashOk n W' := by
  refine runD2_dw rfl fun k st o hk => ?_
  have hD := fun (L : Int) (h1 : 0 < L) (h2 : L < 1000) => draw_small h1 h2
  unfold F__law_near_wash
  generalize m__law_draw = f at hD ⊢
  refine Ev.seqN (Ev.run ?_)
  simp [washD]
  refine Ev.seqN (Ev.run ?_)
  simp
  refine Ev.seqN (Ev.loop (Ev.run ?_))
  simp
  refine Ev.for_ (NI n k lab W) ?_ ?_ ⟨none, none, none, [], st, rfl, rfl, (fun l hl => by cases hl), by simpa using o⟩
  · rintro i x s hx ⟨w7, w8, w9, ls, st1, rfl, h1, h2, h3⟩
    obtain ⟨hi, rfl⟩ := rowT_some hx
    have ro : RO n (W.after i) := ⟨ok.up i hi, ok.lt i hi, ok.ne i hi, ok.few i hi⟩
    obtain ⟨d, st2, e2, ⟨r2, hr2, rfl⟩, o2⟩ := hD 4 (by omega) (by omega) _ st1 h3 (by omega)
    obtain ⟨d, st3, e3, ⟨q, hq, rfl⟩, o3⟩ := hD (n : Nat) (by omega) (by omega) _ st2 o2 (by omega)
    have hq' : q < n := by omega
    have fin : ∀ l', RO n l' → NI n k lab W (i + 1) ⟨[some .h, some (.d lab), some (.d (washD n W)), some (.d (.tuple (rowT n fun s => resD (W.after s)))), some (.d (.int W.low)), some (.d (.int W.high)), some (.own (ls.map resD ++ [resD l'])), some (.d (resD l')), some (.d (.int (r2 : Nat))), some (.d (.int (q : Nat)))], st3⟩ := fun l' hl' => by
      refine ⟨_, _, _, ls ++ [l'], st3, by rw [List.map_append]; rfl, by rw [List.length_append]; show ls.length + 1 = _; omega, fun l hl => ?_, by rw [Nat.add_mul]; exact o3⟩
      rcases List.mem_append.mp hl with z | z
      · exact h2 l z
      · have : l = l' := by simpa using z
        subst this
        exact hl'
    have sz : ls.length < 16777216 := by omega
    have app : ∀ l', RO n l' → Ev (bnd (ownAt 6) fun _ => appM 6 (nameM 7)) (envN lab (washD n W) (.tuple (rowT n fun s => resD (W.after s))) (.int W.low) (.int W.high) (some (.own (ls.map resD))) l' (some (.d (.int (r2 : Nat)))) q st3) (turnP (NI n k lab W (i + 1)) fun o s' => False) := fun l' hl' => by
      refine Ev.run ?_
      simp [envN, sz]
      exact fin l' hl'
    refine Ev.bnd (Ev.run ?_)
    simp
    refine Ev.seqN (Ev.run ?_)
    simp [e2]
    refine Ev.seqN (Ev.run ?_)
    simp [e3]
    show Ev _ (envN lab (washD n W) (.tuple (rowT n fun s => resD (W.after s))) (.int W.low) (.int W.high) (some (.own (ls.map resD))) (W.after i) (some (.d (.int (r2 : Nat)))) q st3) _
    obtain ⟨l0, k0, q0⟩ := kind0 (a := lab) (b := washD n W) (c := .tuple (rowT n fun s => resD (W.after s))) (d := .int W.low) (e := .int W.high) (w6 := some (.own (ls.map resD))) (w8 := some (.d (.int (r2 : Nat)))) (q := q) (st := st3) ro
    obtain ⟨l1, k1, q1⟩ := kind1 (a := lab) (b := washD n W) (c := .tuple (rowT n fun s => resD (W.after s))) (d := .int W.low) (e := .int W.high) (w6 := some (.own (ls.map resD))) (w8 := some (.d (.int (r2 : Nat)))) (q := q) (st := st3) ro hq'
    obtain ⟨l2, k2, q2⟩ := kind2 (a := lab) (b := washD n W) (c := .tuple (rowT n fun s => resD (W.after s))) (d := .int W.low) (e := .int W.high) (w6 := some (.own (ls.map resD))) (w8 := some (.d (.int (r2 : Nat)))) (q := q) (st := st3) ro hq'
    generalize asgM 7 (iteM _ _ _) = F0 at k0 ⊢
    generalize asgM 7 (sliceM _ _ _ _) = F1 at k1 ⊢
    generalize asgM 7 (callM _ _) = F2 at k2 ⊢
    have tst : ∀ j : Int, (bnd (op2 eqD (nameM 8) (ret (.val (PyData.int j)))) boolO) (envN lab (washD n W) (.tuple (rowT n fun s => resD (W.after s))) (.int W.low) (.int W.high) (some (.own (ls.map resD))) (W.after i) (some (.d (.int (r2 : Nat)))) q st3) = some (decide ((r2 : Int) = j), envN lab (washD n W) (.tuple (rowT n fun s => resD (W.after s))) (.int W.low) (.int W.high) (some (.own (ls.map resD))) (W.after i) (some (.d (.int (r2 : Nat)))) q st3) := fun j => by
      simp [envN]
    have pick : ∃ l', RO n l' ∧ (ifM (bnd (op2 eqD (nameM 8) (ret (.val (PyData.int 0)))) boolO) F0 (ifM (bnd (op2 eqD (nameM 8) (ret (.val (PyData.int 1)))) boolO) F1 (ifM (bnd (op2 eqD (nameM 8) (ret (.val (PyData.int 2)))) boolO) F2 (ret .nx)))) (envN lab (washD n W) (.tuple (rowT n fun s => resD (W.after s))) (.int W.low) (.int W.high) (some (.own (ls.map resD))) (W.after i) (some (.d (.int (r2 : Nat)))) q st3) = some (.nx, envN lab (washD n W) (.tuple (rowT n fun s => resD (W.after s))) (.int W.low) (.int W.high) (some (.own (ls.map resD))) l' (some (.d (.int (r2 : Nat)))) q st3) := by
      by_cases c0 : (r2 : Int) = 0
      · exact ⟨l0, q0, by rw [ifM_s, tst]; simp only [c0, decide_true, if_true]; rw [← c0]; exact k0⟩
      · by_cases c1 : (r2 : Int) = 1
        · exact ⟨l1, q1, by rw [ifM_s, tst]; simp only [c0, decide_false, Bool.false_eq_true, if_false]; rw [ifM_s, tst]; simp only [c1, decide_true, if_true]; rw [← c1]; exact k1⟩
        · by_cases c2 : (r2 : Int) = 2
          · exact ⟨l2, q2, by rw [ifM_s, tst]; simp only [c0, decide_false, Bool.false_eq_true, if_false]; rw [ifM_s, tst]; simp only [c1, decide_false, Bool.false_eq_true, if_false]; rw [ifM_s, tst]; simp only [c2, decide_true, if_true]; rw [← c2]; exact k2⟩
          · exact ⟨W.after i, ro, by rw [ifM_s, tst]; simp only [c0, decide_false, Bool.false_eq_true, if_false]; rw [ifM_s, tst]; simp only [c1, decide_false, Bool.false_eq_true, if_false]; rw [ifM_s, tst]; simp only [c2, decide_false, Bool.false_eq_true, if_false]; rfl⟩
    obtain ⟨l', hl', ep⟩ := pick
    refine Ev.seqN ⟨.nx, _, ep, rfl, (app l' hl').mono fun o s' z => ?_⟩
    cases o with
    | nx => exact z
    | ct => exact z
    | _ => exact z.elim
  · rintro s ⟨w7, w8, w9, ls, st1, rfl, h1, h2, h3⟩
    rw [rowT_len] at h1 h3
    refine ⟨rfl, ?_⟩
    obtain ⟨d, st2, e2, ⟨r2, hr2, rfl⟩, o2⟩ := hD 4 (by omega) (by omega) _ st1 h3 (by omega)
    obtain ⟨d, st3, e3, ⟨r3, hr3, rfl⟩, o3⟩ := hD 4 (by omega) (by omega) _ st2 o2 (by omega)
    refine Ev.seqN ⟨.nx, _, step4 e2, rfl, ?_⟩
    have b1 := mxmn1 (W.low + (r2 : Int) - 1)
    refine ⟨_, _, step5 (ls := ls) (by omega) e3, _, rfl, ⟨⟨fun s => ls.getD s [], mx 1 (mn 6 (W.low + (r2 : Int) - 1)), mx (mx 1 (mn 6 (W.low + (r2 : Int) - 1))) (mn 6 (W.high + (r3 : Int) - 2))⟩, ?_, ?_⟩, o3.mono (by omega)⟩
    · have hh := rowT_getD resD [] ls
      rw [h1] at hh
      rw [← hh]
    · have h := fun s (hs : s < n) => h2 (ls.getD s []) (getD_mem (by omega))
      have b2 := mxmn2 (W.high + (r3 : Int) - 2) b1.2
      exact ⟨fun s hs => (h s hs).ne, fun s hs => (h s hs).few, fun s hs => (h s hs).up, fun s hs => (h s hs).lt, b1.1, b2.1, b2.2⟩
end LW
end

section
set_option Elab.async false
set_option linter.all false
set_option maxRecDepth 100000
set_option maxHeartbeats 999999
set_option exponentiation.threshold 5001
open DL
open PySem (PyData Str)
namespace LW
/-! ### small data -/
def sm : Nat → D → Bool
  | _, .none => true
  | _, .bool _ => true
  | _, .int i => decide (0 ≤ i) && decide (i ≤ 1000)
  | n + 1, .list xs => decide (xs.length ≤ 8) && xs.all (sm n)
  | n + 1, .tuple xs => decide (xs.length ≤ 8) && xs.all (sm n)
  | _, _ => false
def bb : Nat → Nat
  | 0 => 150
  | n + 1 => 8 * (bb n + 2) + 6
theorem bb_ge : ∀ n, 150 ≤ bb n
  | 0 => Nat.le_refl _
  | n + 1 => by have := bb_ge n; show 150 ≤ 8 * (bb n + 2) + 6; omega
theorem plains_of : ∀ {xs : List D}, (∀ x ∈ xs, plainB x = true) → plainB.plains xs = true
  | [], _ => by unfold plainB.plains; rfl
  | x :: xs, h => by
    unfold plainB.plains
    rw [h x List.mem_cons_self, plains_of fun y m => h y (List.mem_cons_of_mem _ m)]
    rfl
theorem bigs_of {b : Nat} : ∀ {xs : List D}, (∀ x ∈ xs, big x ≤ b) → big.bigs xs ≤ xs.length * (b + 2)
  | [], _ => by unfold big.bigs; omega
  | x :: xs, h => by
    unfold big.bigs
    have h1 := h x List.mem_cons_self
    have h2 := bigs_of fun y m => h y (List.mem_cons_of_mem _ m)
    rw [List.length_cons, Nat.add_mul]
    omega
theorem sm_ok : ∀ (n : Nat) (d : D), sm n d = true → plainB d = true ∧ PyData.depth d ≤ n ∧ big d ≤ bb n
  | n, .none, _ => ⟨rfl, by simp [PyData.depth], by have := bb_ge n; show 6 ≤ _; omega⟩
  | n, .bool _, _ => ⟨rfl, by simp [PyData.depth], by have := bb_ge n; show 6 ≤ _; omega⟩
  | n, .int i, h => by
    unfold sm at h
    rw [Bool.and_eq_true, decide_eq_true_eq, decide_eq_true_eq] at h
    refine ⟨?_, by simp [PyData.depth], bb_ge n⟩
    unfold plainB
    rw [decide_eq_true h.1, decide_eq_true (by omega)]
    rfl
  | 0, .list xs, h => by simp [sm] at h
  | 0, .tuple xs, h => by simp [sm] at h
  | n + 1, .list xs, h => by
    unfold sm at h
    rw [Bool.and_eq_true, decide_eq_true_eq, List.all_eq_true] at h
    have q := fun x hx => sm_ok n x (h.2 x hx)
    refine ⟨?_, ?_, ?_⟩
    · unfold plainB
      exact plains_of fun x hx => (q x hx).1
    · unfold PyData.depth
      have := depthAll_le (n := n) xs fun x m => (q x m).2.1
      omega
    · unfold big
      have h1 := bigs_of fun x m => (q x m).2.2
      have h2 : xs.length * (bb n + 2) ≤ 8 * (bb n + 2) := Nat.mul_le_mul_right _ h.1
      show _ ≤ 8 * (bb n + 2) + 6
      omega
  | n + 1, .tuple xs, h => by
    unfold sm at h
    rw [Bool.and_eq_true, decide_eq_true_eq, List.all_eq_true] at h
    have q := fun x hx => sm_ok n x (h.2 x hx)
    refine ⟨?_, ?_, ?_⟩
    · unfold plainB
      exact plains_of fun x hx => (q x hx).1
    · unfold PyData.depth
      have := depthAll_le (n := n) xs fun x m => (q x m).2.1
      omega
    · unfold big
      have h1 := bigs_of fun x m => (q x m).2.2
      have h2 : xs.length * (bb n + 2) ≤ 8 * (bb n + 2) := Nat.mul_le_mul_right _ h.1
      show _ ≤ 8 * (bb n + 2) + 6
      omega
  | 0, .str _, h => by simp [sm] at h
  | n + 1, .str _, h => by simp [sm] at h
  | 0, .dict _, h => by simp [sm] at h
  | n + 1, .dict _, h => by simp [sm] at h
theorem like_sm {d : D} (h : sm 5 d = true) : m__law_like [d, d] = some (.bool true) := by
  obtain ⟨h1, h2, h3⟩ := sm_ok 5 d h
  have : bb 5 ≤ 16777216 := by decide
  exact like_ok h1 (by omega) (by omega)
theorem sm_tuple {n : Nat} {xs : List D} (hl : xs.length ≤ 8) (h : ∀ x ∈ xs, sm n x = true) : sm (n + 1) (.tuple xs) = true := by
  unfold sm
  rw [Bool.and_eq_true, decide_eq_true_eq, List.all_eq_true]
  exact ⟨hl, h⟩
theorem sm_int {n : Nat} {i : Int} (h0 : 0 ≤ i) (h1 : i ≤ 1000) : sm n (.int i) = true := by
  unfold sm
  rw [decide_eq_true h0, decide_eq_true h1]
  rfl
theorem sm_res {n : Nat} {l : List Nat} (hl : l.length ≤ 8) (h : ∀ r ∈ l, r ≤ 1000) : sm (n + 1) (resD l) = true := by
  refine sm_tuple (by rw [List.length_map]; exact hl) fun x hx => ?_
  obtain ⟨i, hi, rfl⟩ := List.mem_map.mp hx
  have := h i hi
  exact sm_int (by omega) (by omega)
theorem sm_wash {n : Nat} {W : Wash} {g : Nat → List Nat} (n8 : n ≤ 8) (ok : WashOk n W) (hg : ∀ s, s < n → (g s).length ≤ 3 ∧ ∀ r ∈ g s, r < n) : sm 3 (washD n { W with after := g }) = true := by
  have h1 := ok.low
  have h2 := ok.lowhi
  have h3 := ok.high
  refine sm_tuple (by simp) fun x hx => ?_
  rcases List.mem_cons.mp hx with rfl | hx
  · refine sm_tuple (by rw [rowT_len]; exact n8) fun x hx => ?_
    obtain ⟨i, hi, rfl⟩ := rowT_mem hx
    exact sm_res (by have := (hg i hi).1; show (g i).length ≤ 8; omega) fun r hr => by have := (hg i hi).2 r hr; omega
  · rcases List.mem_cons.mp hx with rfl | hx
    · exact sm_int (by show 0 ≤ W.low; omega) (by show W.low ≤ 1000; omega)
    · have : x = .int W.high := by simpa using hx
      subst this
      exact sm_int (by omega) (by omega)
theorem sm_meets {n : Nat} {L : Lab} (ok : LabOk L) : sm (n + 2) L.meets = true := by
  have n8 := ok.n8
  refine sm_tuple (by rw [rowT_len]; exact ok.n8) fun x hx => ?_
  obtain ⟨s, hs, rfl⟩ := rowT_mem hx
  refine sm_tuple (by rw [rowT_len]; exact ok.k8) fun x hx => ?_
  obtain ⟨t, ht, rfl⟩ := rowT_mem hx
  cases h : L.meet s t with
  | none => exact (by unfold oD sm; rfl)
  | some r =>
    have := ok.meet s t r hs ht h
    exact sm_int (by omega) (by omega)
theorem sm_lab {L : Lab} (ok : LabOk L) {ws : List D} (hl : ws.length ≤ 3) (hw : ∀ w ∈ ws, sm 3 w = true) : sm 5 (.tuple [L.meets, .tuple ws, .int L.tools, .int L.arms, .int L.zones]) = true := by
  have t1 := ok.t1
  have t3 := ok.t3
  have a1 := ok.a1
  have a3 := ok.a3
  have z0 := ok.z0
  have z4 := ok.z4
  refine sm_tuple (by simp) fun x hx => ?_
  rcases List.mem_cons.mp hx with rfl | hx
  · exact sm_meets (n := 2) ok
  rcases List.mem_cons.mp hx with rfl | hx
  · exact sm_tuple (by omega) fun w hw' => hw w hw'
  rcases List.mem_cons.mp hx with rfl | hx
  · exact sm_int (by omega) (by omega)
  rcases List.mem_cons.mp hx with rfl | hx
  · exact sm_int (by omega) (by omega)
  · have : x = .int L.zones := by simpa using hx
    subst this
    exact sm_int (by omega) (by omega)
/-! ### the lab that is asked -/
theorem pd_wash (n : Nat) (W : Wash) : pd 3 (washD n W) = true := by
  unfold washD
  simp only [pd, List.all_cons, List.all_nil, Bool.and_true]
  refine pd_row (m := 1) fun i _ => ?_
  show (List.map nD (W.after i)).all (pd 0) = true
  refine List.all_eq_true.mpr fun x hx => ?_
  obtain ⟨i, _, rfl⟩ := List.mem_map.mp hx
  rfl
theorem pd_ws (n : Nat) (Ws : List Wash) : pd 4 (.list (Ws.map (washD n))) = true := by
  show (Ws.map (washD n)).all (pd 3) = true
  refine List.all_eq_true.mpr fun x hx => ?_
  obtain ⟨W, _, rfl⟩ := List.mem_map.mp hx
  exact pd_wash n W
def envL (lab : D) (n : Nat) (Ws : List Wash) (st : DrawSt) : Stt DrawSt := ⟨[some .h, some (.d lab), some (.own (Ws.map (washD n)))], st⟩
def FX (lab : D) (n k c : Nat) (o : Out) (s : Stt DrawSt) : Prop := o = .nx ∧ ∃ Ws st, s = envL lab n Ws st ∧ Ws.length ≤ 3 ∧ (∀ W ∈ Ws, WashOk n W) ∧ StOk (k + c) st
theorem fixA {lab : D} {n k : Nat} {W0 : Wash} {Ws : List Wash} {st : DrawSt} (n1 : 1 ≤ n) (n8 : n ≤ 8) (hl : Ws.length ≤ 2) (hw : ∀ W ∈ W0 :: Ws, WashOk n W) (o : StOk k st) (hk : k ≤ 400000) :
    Ev (bnd (valM (DL.callD 0 m__law_near_wash (consD (nameM 1) (consD (op2 ixD (nameM 2) (ret (.val (PyData.int 0)))) nilM)))) fun d => bnd (ownAt 2) fun _ => setIxM 2 (DL.ret (Opd.val d)) (negM (ret (.val (PyData.int 1))))) (envL lab n (W0 :: Ws) st) (FX lab n k 30) := by
  obtain ⟨d, st2, e, ⟨W', rfl, ok'⟩, o2⟩ := near_dw (lab := lab) n1 n8 (hw W0 List.mem_cons_self) k st o (by omega)
  generalize m__law_near_wash = f at e ⊢
  have ix : L2.ixN (Ws.length + 1) (-1) = some Ws.length := by
    unfold L2.ixN
    rw [if_neg (by decide), if_pos (by omega)]
    congr 1
    omega
  refine ⟨.nx, envL lab n ((W0 :: Ws).set Ws.length W') st2, ?_, rfl, _, st2, rfl, by rw [List.length_set, List.length_cons]; omega, fun W hW => ?_, o2⟩
  · simp [envL, e, setIxM, ix, List.map_set]
  · rcases List.mem_or_eq_of_mem_set hW with z | z
    · exact hw W z
    · rw [z]; exact ok'
theorem fixB {lab : D} {n k : Nat} {W0 : Wash} {Ws : List Wash} {st : DrawSt} (n1 : 1 ≤ n) (n8 : n ≤ 8) (hl : Ws.length ≤ 1) (hw : ∀ W ∈ W0 :: Ws, WashOk n W) (o : StOk k st) (hk : k ≤ 400000) :
    Ev (bnd (ownAt 2) fun _ => appM 2 (DL.callD 0 m__law_near_wash (consD (nameM 1) (consD (op2 ixD (nameM 2) (ret (.val (PyData.int 0)))) nilM)))) (envL lab n (W0 :: Ws) st) (FX lab n k 30) := by
  obtain ⟨d, st2, e, ⟨W', rfl, ok'⟩, o2⟩ := near_dw (lab := lab) n1 n8 (hw W0 List.mem_cons_self) k st o (by omega)
  generalize m__law_near_wash = f at e ⊢
  have sz : Ws.length + 1 < 16777216 := by omega
  refine ⟨.nx, envL lab n ((W0 :: Ws) ++ [W']) st2, ?_, rfl, _, st2, rfl, by rw [List.length_append, List.length_cons]; show Ws.length + 1 + 1 ≤ 3; omega, fun W hW => ?_, o2⟩
  · simp [envL, e, sz]
  · rcases List.mem_append.mp hW with z | z
    · exact hw W z
    · have : W = W' := by simpa using z
      rw [this]; exact ok'
theorem ne_ws (n : Nat) (Ws : List Wash) : neD (.list (Ws.map (washD n))) (.list []) = some (.val (.bool (!Ws.isEmpty))) := by
  rw [neD_nil (shaped_pd (pd_ws n Ws))]
  cases Ws <;> rfl
theorem washed_dw : Dw 300000 400 m__law_washed_lab [] fun d => ∃ L : Lab, d = L.D ∧ LabOk L := by
  refine runD2_dw rfl fun k st o hk => ?_
  have hD := fun (L : Int) (h1 : 0 < L) (h2 : L < 1000) => draw_small h1 h2
  obtain ⟨d, st1, e1, ⟨L, rfl, ok⟩, o1⟩ := lab_dw k st o (by omega)
  unfold F__law_washed_lab
  generalize m__law_lab_drawn = f1 at e1 ⊢
  refine Ev.seqN ⟨.nx, ⟨[some .h, some (.d L.D), none], st1⟩, by simp [e1], rfl, ?_⟩
  refine Ev.seqN ⟨.nx, envL L.D L.n L.washes st1, by simp [Lab.D, Lab.ws, envL], rfl, ?_⟩
  have n1 := ok.n1
  have n8 := ok.n8
  refine Ev.seqN ((?_ : Ev _ _ (FX L.D L.n (k + 300) 31)).mono ?_)
  · generalize hws : L.washes = Ws
    have few := ok.few
    have hw := ok.wash
    rw [hws] at few hw
    cases Ws with
    | nil =>
      refine ⟨.nx, envL L.D L.n [] st1, ?_, rfl, [], st1, rfl, by decide, fun W h => (by cases h), o1.mono (by omega)⟩
      have e0 : neD (.list []) (.list []) = some (.val (.bool false)) := ne_ws L.n []
      simp [envL, e0]
    | cons W0 Ws =>
      obtain ⟨d, st2, e2, ⟨r, hr, rfl⟩, o2⟩ := hD 5 (by omega) (by omega) _ st1 o1 (by omega)
      have e0 : neD (.list (washD L.n W0 :: Ws.map (washD L.n))) (.list []) = some (.val (.bool true)) := ne_ws L.n (W0 :: Ws)
      have A := fixA (lab := L.D) (k := k + 300 + 1) n1 n8 (by simpa using few) hw o2 (by omega)
      generalize m__law_draw = f2 at e2 ⊢
      generalize bnd (valM (DL.callD 0 m__law_near_wash _)) _ = FA at A ⊢
      by_cases h0 : 0 < r
      · obtain ⟨oo, s', ea, q1, Ws', st', q2, q3, q4, q5⟩ := A
        have h0' : (0 : Int) < (r : Int) := by omega
        refine ⟨oo, s', ?_, q1, Ws', st', q2, q3, q4, q5⟩
        simp only [envL] at ea
        simp only [List.map_cons] at ea
        simp [envL, e0, e2, h0, ea]
      · have h0' : ¬ (0 : Int) < (r : Int) := by omega
        refine ⟨.nx, envL L.D L.n (W0 :: Ws) st2, ?_, rfl, _, st2, rfl, few, hw, o2.mono (by omega)⟩
        simp [envL, e0, e2, h0]
  rintro oo s ⟨rfl, Ws, st2, rfl, few, hw, o2⟩
  refine ⟨rfl, ?_⟩
  refine Ev.seqN ((?_ : Ev _ _ (FX L.D L.n (k + 331) 30)).mono ?_)
  · by_cases h1 : Ws.length = 1
    · obtain ⟨W0, Ws', rfl⟩ : ∃ W0 Ws', Ws = W0 :: Ws' := by
        cases Ws with
        | nil => cases h1
        | cons a l => exact ⟨a, l, rfl⟩
      have B := fixB (lab := L.D) (k := k + 331) n1 n8 (by simp at h1; simp [h1]) hw o2 (by omega)
      generalize (bnd (ownAt 2) fun _ => appM 2 (DL.callD 0 m__law_near_wash _)) = FB at B ⊢
      obtain ⟨oo, s', eb, q⟩ := B
      refine ⟨oo, s', ?_, q⟩
      have h1' : Ws' = [] := by simpa using h1
      subst h1'
      simp only [envL] at eb
      simp only [List.map_cons, List.map_nil] at eb
      simp [envL, eb]
    · refine ⟨.nx, envL L.D L.n Ws st2, ?_, rfl, _, st2, rfl, few, hw, o2.mono (by omega)⟩
      have h1' : ¬ ((Ws.length : Nat) : Int) = 1 := by omega
      simp [envL, h1']
  rintro oo s ⟨rfl, Ws2, st3, rfl, few2, hw2, o3⟩
  refine ⟨rfl, ⟨_, envL L.D L.n Ws2 st3, ?_, _, rfl, ⟨{ L with washes := Ws2 }, rfl, ?_⟩, o3.mono (by omega)⟩⟩
  · simp [envL, Lab.D]
    exact ⟨rfl, rfl⟩
  · exact ⟨ok.n1, ok.n8, ok.k1, ok.k8, ok.meet, ok.meet0, few2, hw2, ok.t1, ok.t3, ok.a1, ok.a3, ok.z0, ok.z4⟩
end LW
end

section
set_option Elab.async false
set_option linter.all false
set_option maxRecDepth 100000
set_option maxHeartbeats 999999
set_option exponentiation.threshold 5001
open DL
open PySem (PyData Str)
namespace LW
/-! ### the law's turns -/
def lE (ns : List Int) (w2 w3 w4 w5 w6 w7 w10 w11 w12 w13 : Option Sl) (st : DrawSt) : Stt DrawSt := ⟨[some (.s ns), some .h, w2, w3, w4, w5, w6, w7, none, none, w10, w11, w12, w13, none], st⟩
section
variable {ns : List Int} {w2 w3 w4 w5 w6 w7 w10 w11 w12 w13 : Option Sl} {st st1 st2 : DrawSt} {fPairs fDue fNeed fLike fKept fWithout fEntry fWorst : List D → Option D} {fWash fDraw fUp : List D → DrawSt → Option (D × DrawSt)} {lab good due some_ mts a b c x y : D} {r : Nat}
theorem q0 (h : fWash [] st = some (lab, st1)) : (asgM 3 (DL.callD 1 fWash nilM)) (lE ns w2 w3 w4 w5 w6 w7 w10 w11 w12 w13 st) = some (.nx, lE ns w2 (some (.d lab)) w4 w5 w6 w7 w10 w11 w12 w13 st1) := by
  simp [lE, h]
theorem q1 (h : fPairs [lab] = some good) : (asgM 4 (callP fPairs (consD (nameM 3) nilM))) (lE ns w2 (some (.d lab)) w4 w5 w6 w7 w10 w11 w12 w13 st) = some (.nx, lE ns w2 (some (.d lab)) (some (.d good)) w5 w6 w7 w10 w11 w12 w13 st) := by
  simp [lE, h]
theorem q2 (h : fDue [lab, good] = some due) : (asgM 5 (callP fDue (consD (nameM 3) (consD (nameM 4) nilM)))) (lE ns w2 (some (.d lab)) (some (.d good)) w5 w6 w7 w10 w11 w12 w13 st) = some (.nx, lE ns w2 (some (.d lab)) (some (.d good)) (some (.d due)) w6 w7 w10 w11 w12 w13 st) := by
  simp [lE, h]
theorem q3 (h1 : fNeed [lab] = some due) (h2 : fLike [due, due] = some (.bool true)) (h3 : fKept [lab, good, due] = some (.bool true)) : (ifM (orT (notT (bnd (callP fLike (consD (callP fNeed (consD (nameM 3) nilM)) (consD (nameM 5) nilM))) boolO)) (notT (bnd (callP fKept (consD (nameM 3) (consD (nameM 4) (consD (nameM 5) nilM)))) boolO))) (retM (ret (.val (PyData.bool false)))) (ret .nx)) (lE ns w2 (some (.d lab)) (some (.d good)) (some (.d due)) w6 w7 w10 w11 w12 w13 st) = some (.nx, lE ns w2 (some (.d lab)) (some (.d good)) (some (.d due)) w6 w7 w10 w11 w12 w13 st) := by
  simp [lE, h1, h2, h3]
theorem q4 {L : Lab} (h : fDraw [.int 2] st = some (.int (r : Nat), st1)) (h2 : fUp [.int (L.washes.length : Nat), .int 0, .int 3] st1 = some (x, st2)) : (asgM 6 (iteM (bnd (op2 eqD (DL.callD 1 fDraw (consD (ret (.val (PyData.int 2))) nilM)) (ret (.val (PyData.int 0)))) boolO) (nameM 5) (DL.callD 1 fUp (consD (callM lenD (consO (op2 ixD (nameM 3) (ret (.val (PyData.int 1)))) nilM)) (consD (ret (.val (PyData.int 0))) (consD (ret (.val (PyData.int 3))) nilM)))))) (lE ns w2 (some (.d L.D)) (some (.d good)) (some (.d due)) w6 w7 w10 w11 w12 w13 st) = some (.nx, lE ns w2 (some (.d L.D)) (some (.d good)) (some (.d due)) (some (.d (if r = 0 then due else x))) w7 w10 w11 w12 w13 (if r = 0 then st1 else st2)) := by
  by_cases hr : r = 0
  · subst hr
    have h' : fDraw [.int 2] st = some (.int 0, st1) := h
    simp [lE, h']
  · simp [lE, h, hr, Lab.D, Lab.ws, h2]
theorem turn18 {l : List Nat} {i : Nat} {w : D} (acc : List D) :
    Ev (turnM (tupG 2 (gsCons (setM 8) (gsCons (setM 9) gsNil))) (bnd (op2 notInD (nameM 8) (nameM 6)) boolO) (valM (nameM 9)) (.tuple [.int (i : Nat), w]) acc) (lE ns w2 w3 w4 w5 (some (.d (resD l))) w7 w10 w11 w12 w13 st)
      fun acc' s3 => acc' = acc ++ (gOut l (.tuple [.int (i : Nat), w])).toList ∧ wipeE s3.env [8, 9] = (lE ns w2 w3 w4 w5 (some (.d (resD l))) w7 w10 w11 w12 w13 st).env ∧ s3.dr = st := by
  refine Ev.run ?_
  by_cases h : i ∈ l <;> simp [lE, resD, notIn_nats, h, gOut]
theorem q5 {L : Lab} {l : List Nat} (few : L.washes.length ≤ 3) : (asgM 7 (lcM [8, 9] (enumM (op2 ixD (nameM 3) (ret (.val (PyData.int 1))))) (tupG 2 (gsCons (setM 8) (gsCons (setM 9) gsNil))) (bnd (op2 notInD (nameM 8) (nameM 6)) boolO) (nameM 9))) (lE ns w2 (some (.d L.D)) (some (.d good)) (some (.d due)) (some (.d (resD l))) w7 w10 w11 w12 w13 st) = some (.nx, lE ns w2 (some (.d L.D)) (some (.d good)) (some (.d due)) (some (.d (resD l))) (some (.own (leftD L l))) w10 w11 w12 w13 st) := by
  generalize hF : lcM [8, 9] _ _ _ _ = F
  have e : F (lE ns w2 (some (.d L.D)) (some (.d good)) (some (.d due)) (some (.d (resD l))) w7 w10 w11 w12 w13 st) = some (.new (leftD L l), lE ns w2 (some (.d L.D)) (some (.d good)) (some (.d due)) (some (.d (resD l))) w7 w10 w11 w12 w13 st) := by
    subst hF
    refine lc_eq (s1 := lE ns w2 (some (.d L.D)) (some (.d good)) (some (.d due)) (some (.d (resD l))) w7 w10 w11 w12 w13 st) (xs := enumL 0 (L.washes.map (washD L.n))) (gOut l) ?_ (by rw [enumL_len, List.length_map]; omega) rfl ?_
    · simp [lE, Lab.D, Lab.ws]
    · intro x hx acc
      obtain ⟨i, y, hy, rfl⟩ := enumT_mem hx
      exact turn18 acc
  simp only [lE] at e
  simp [lE, e]
theorem q6 {L : Lab} {sm' : D} {ls : List D} (h1 : fWithout [L.D, sm'] = some (.tuple [L.meets, .tuple ls, .int L.tools, .int L.arms, .int L.zones])) (h2 : fLike [.tuple [L.meets, .tuple ls, .int L.tools, .int L.arms, .int L.zones], .tuple [L.meets, .tuple ls, .int L.tools, .int L.arms, .int L.zones]] = some (.bool true)) :
    (ifM (notT (bnd (callP fLike (consD (callP fWithout (consD (nameM 3) (consD (nameM 6) nilM))) (consD (tupM (consD (op2 ixD (nameM 3) (ret (.val (PyData.int 0)))) (consD (callM tupleD (consO (nameM 7) nilM)) (consD (op2 ixD (nameM 3) (ret (.val (PyData.int 2)))) (consD (op2 ixD (nameM 3) (ret (.val (PyData.int 3)))) (consD (op2 ixD (nameM 3) (ret (.val (PyData.int 4)))) nilM)))))) nilM))) boolO)) (retM (ret (.val (PyData.bool false)))) (ret .nx)) (lE ns w2 (some (.d L.D)) (some (.d good)) (some (.d due)) (some (.d sm')) (some (.own ls)) w10 w11 w12 w13 st) = some (.nx, lE ns w2 (some (.d L.D)) (some (.d good)) (some (.d due)) (some (.d sm')) (some (.own ls)) w10 w11 w12 w13 st) := by
  unfold Lab.D at h1
  simp [lE, Lab.D, h1, h2]
theorem q7 : (asgM 10 (lstM nilM)) (lE ns w2 w3 w4 w5 w6 w7 w10 w11 w12 w13 st) = some (.nx, lE ns w2 w3 w4 w5 w6 w7 (some (.own [])) w11 w12 w13 st) := by
  simp [lE]
theorem q9 {L : Lab} {ls : List D} (h1 : fWorst [L.D] = some (.tuple [L.meets, .tuple ls, .int L.tools, .int L.arms, .int L.zones])) (h2 : fLike [.tuple [L.meets, .tuple ls, .int L.tools, .int L.arms, .int L.zones], .tuple [L.meets, .tuple ls, .int L.tools, .int L.arms, .int L.zones]] = some (.bool true)) :
    (ifM (notT (bnd (callP fLike (consD (callP fWorst (consD (nameM 3) nilM)) (consD (tupM (consD (op2 ixD (nameM 3) (ret (.val (PyData.int 0)))) (consD (callM tupleD (consO (nameM 10) nilM)) (consD (op2 ixD (nameM 3) (ret (.val (PyData.int 2)))) (consD (op2 ixD (nameM 3) (ret (.val (PyData.int 3)))) (consD (op2 ixD (nameM 3) (ret (.val (PyData.int 4)))) nilM)))))) nilM))) boolO)) (retM (ret (.val (PyData.bool false)))) (ret .nx)) (lE ns w2 (some (.d L.D)) w4 w5 w6 w7 (some (.own ls)) w11 w12 w13 st) = some (.nx, lE ns w2 (some (.d L.D)) w4 w5 w6 w7 (some (.own ls)) w11 w12 w13 st) := by
  unfold Lab.D at h1
  simp [lE, Lab.D, h1, h2]
theorem turn19 {g x y : D} (e : fEntry [g, x] = some y) (acc : List D) :
    Ev (turnM (setM 14) (ret true) (valM (callP fEntry (consD (nameM 4) (consD (nameM 14) nilM)))) x acc) (lE ns w2 w3 (some (.d g)) w5 w6 w7 w10 w11 w12 w13 st)
      fun acc' s3 => acc' = acc ++ (fEntry [g, x]).toList ∧ wipeE s3.env [14] = (lE ns w2 w3 (some (.d g)) w5 w6 w7 w10 w11 w12 w13 st).env ∧ s3.dr = st := by
  refine Ev.run ?_
  simp [lE, e]
def QL (ns : List Int) (L : Lab) (T : Nat → Nat → Bool) (w2 w3 w4 w5 w6 w7 : Option Sl) (st : DrawSt) (k : Nat) (s : Stt DrawSt) : Prop := ∃ w11 w12 w13, s = lE ns w2 w3 w4 w5 w6 w7 (some (.own (ysV L T k))) w11 w12 w13 st
theorem q8 {L : Lab} {T : Nat → Nat → Bool} (ok : LabOk L) (hE : ∀ rs : List Nat, (∀ o ∈ rs, o < L.n) → rs.length ≤ 1000 → fEntry [good, resD rs] = some (resD (worst T rs))) :
    Ev (loopM (iterM (op2 ixD (nameM 3) (ret (.val (PyData.int 1))))) (tupG 3 (gsCons (setM 11) (gsCons (setM 12) (gsCons (setM 13) gsNil)))) (bnd (ownAt 10) fun _ => appM 10 (tupM (consD (callM tupleD (consO (lcM [14] (iterM (nameM 11)) (setM 14) (ret true) (callP fEntry (consD (nameM 4) (consD (nameM 14) nilM)))) nilM)) (consD (nameM 12) (consD (nameM 13) nilM)))))) (lE ns w2 (some (.d L.D)) (some (.d good)) w5 w6 w7 (some (.own [])) w11 w12 w13 st) fun o s => o = .nx ∧ QL ns L T w2 (some (.d L.D)) (some (.d good)) w5 w6 w7 st L.washes.length s := by
  have few := ok.few
  refine Ev.loop ⟨L.washes.map (washD L.n), lE ns w2 (some (.d L.D)) (some (.d good)) w5 w6 w7 (some (.own [])) w11 w12 w13 st, by simp [lE, Lab.D, Lab.ws], ?_⟩
  refine Ev.for_ (QL ns L T w2 (some (.d L.D)) (some (.d good)) w5 w6 w7 st) ?_ ?_ ⟨_, _, _, rfl⟩
  · rintro k x s hx ⟨w11, w12, w13, rfl⟩
    rw [List.getElem?_map] at hx
    obtain ⟨W, hk, rfl⟩ := Option.map_eq_some_iff.mp hx
    have wok := ok.wash W (List.mem_of_getElem? hk)
    generalize hF : lcM [14] _ _ _ _ = F
    have e : F (lE ns w2 (some (.d L.D)) (some (.d good)) w5 w6 w7 (some (.own (ysV L T k))) (some (.d (.tuple (rowT L.n fun s => resD (W.after s))))) (some (.d (.int W.low))) (some (.d (.int W.high))) st) =
        some (.new (rowT L.n fun s => resD (worst T (W.after s))), lE ns w2 (some (.d L.D)) (some (.d good)) w5 w6 w7 (some (.own (ysV L T k))) (some (.d (.tuple (rowT L.n fun s => resD (W.after s))))) (some (.d (.int W.low))) (some (.d (.int W.high))) st) := by
      subst hF
      have hf : ∀ i, i < L.n → fEntry [good, resD (W.after i)] = some (resD (worst T (W.after i))) := fun i hi => hE _ (fun o ho => wok.lt i hi o ho) (by have := wok.few i hi; omega)
      rw [← filterMap_row (g := fun x => fEntry [good, x]) hf]
      refine lc_eq (s1 := lE ns w2 (some (.d L.D)) (some (.d good)) w5 w6 w7 (some (.own (ysV L T k))) (some (.d (.tuple (rowT L.n fun s => resD (W.after s))))) (some (.d (.int W.low))) (some (.d (.int W.high))) st) (xs := rowT L.n fun s => resD (W.after s)) _ ?_ (by rw [rowT_len]; have := ok.n8; omega) rfl ?_
      · simp [lE]
      · intro x hx acc
        obtain ⟨i, hi, rfl⟩ := rowT_mem hx
        exact turn19 (hf i hi) acc
    have hsz : (ysV L T k).length < 16777216 := by have := ysV_len L T k; omega
    refine ⟨.nx, lE ns w2 (some (.d L.D)) (some (.d good)) w5 w6 w7 (some (.own (ysV L T (k + 1)))) (some (.d (.tuple (rowT L.n fun s => resD (W.after s))))) (some (.d (.int W.low))) (some (.d (.int W.high))) st, ?_, ?_⟩
    · rw [ysV_succ hk]
      simp only [lE] at e
      simp [lE, washD, e, hsz, worstW]
    · exact ⟨_, _, _, rfl⟩
  · rintro s ⟨w11, w12, w13, rfl⟩
    rw [List.length_map]
    exact ⟨rfl, _, _, _, rfl⟩
end
def lawB : M DrawSt Out := (seqM (asgM 3 (callD 1 m__law_washed_lab nilM)) (seqM (asgM 4 (callP m__law_pairs_due (consD (nameM 3) nilM))) (seqM (asgM 5 (callP m__law_needless_due (consD (nameM 3) (consD (nameM 4) nilM)))) (seqM (ifM (orT (notT (bnd (callP m__law_like (consD (callP m_needless_washes (consD (nameM 3) nilM)) (consD (nameM 5) nilM))) boolO)) (notT (bnd (callP m__law_kept_right (consD (nameM 3) (consD (nameM 4) (consD (nameM 5) nilM)))) boolO))) (retM (ret (.val (PyData.bool false)))) (ret .nx)) (seqM (asgM 6 (iteM (bnd (op2 eqD (callD 1 m__law_draw (consD (ret (.val (PyData.int 2))) nilM)) (ret (.val (PyData.int 0)))) boolO) (nameM 5) (callD 1 m__law_up (consD (callM lenD (consO (op2 ixD (nameM 3) (ret (.val (PyData.int 1)))) nilM)) (consD (ret (.val (PyData.int 0))) (consD (ret (.val (PyData.int 3))) nilM)))))) (seqM (asgM 7 (lcM [8, 9] (enumM (op2 ixD (nameM 3) (ret (.val (PyData.int 1))))) (tupG 2 (gsCons (setM 8) (gsCons (setM 9) gsNil))) (bnd (op2 notInD (nameM 8) (nameM 6)) boolO) (nameM 9))) (seqM (ifM (notT (bnd (callP m__law_like (consD (callP m_lab_without (consD (nameM 3) (consD (nameM 6) nilM))) (consD (tupM (consD (op2 ixD (nameM 3) (ret (.val (PyData.int 0)))) (consD (callM tupleD (consO (nameM 7) nilM)) (consD (op2 ixD (nameM 3) (ret (.val (PyData.int 2)))) (consD (op2 ixD (nameM 3) (ret (.val (PyData.int 3)))) (consD (op2 ixD (nameM 3) (ret (.val (PyData.int 4)))) nilM)))))) nilM))) boolO)) (retM (ret (.val (PyData.bool false)))) (ret .nx)) (seqM (asgM 10 (lstM nilM)) (seqM (loopM (iterM (op2 ixD (nameM 3) (ret (.val (PyData.int 1))))) (tupG 3 (gsCons (setM 11) (gsCons (setM 12) (gsCons (setM 13) gsNil)))) (bnd (ownAt 10) fun _ => appM 10 (tupM (consD (callM tupleD (consO (lcM [14] (iterM (nameM 11)) (setM 14) (ret true) (callP m__law_entry_due (consD (nameM 4) (consD (nameM 14) nilM)))) nilM)) (consD (nameM 12) (consD (nameM 13) nilM)))))) (ifM (notT (bnd (callP m__law_like (consD (callP m_lab_with_worst (consD (nameM 3) nilM)) (consD (tupM (consD (op2 ixD (nameM 3) (ret (.val (PyData.int 0)))) (consD (callM tupleD (consO (nameM 10) nilM)) (consD (op2 ixD (nameM 3) (ret (.val (PyData.int 2)))) (consD (op2 ixD (nameM 3) (ret (.val (PyData.int 3)))) (consD (op2 ixD (nameM 3) (ret (.val (PyData.int 4)))) nilM)))))) nilM))) boolO)) (retM (ret (.val (PyData.bool false)))) (ret .nx)))))))))))
theorem lawF : F_law = seqM (loopM (rangeM (consO (ret (.val (PyData.int 4))) nilM)) (setM 2) lawB) (retM (ret (.val (PyData.bool true)))) := rfl
end LW
end

section
set_option Elab.async false
set_option linter.all false
set_option maxRecDepth 100000
set_option maxHeartbeats 999999
set_option exponentiation.threshold 5001
open DL
open PySem (PyData Str)
namespace LW
/-! ### one turn of the law, and the law -/
theorem gOut_some {l : List Nat} {i : Nat} {w x : D} (h : gOut l (.tuple [.int (i : Nat), w]) = some x) : x = w := by
  have e : gOut l (.tuple [.int (i : Nat), w]) = if decide (i ∈ l) then none else some w := by simp [gOut]
  rw [e] at h
  by_cases m : i ∈ l
  · rw [if_pos (decide_eq_true m)] at h
    exact absurd h (by simp)
  · rw [if_neg (by simpa using m)] at h
    exact (Option.some.inj h).symm
theorem leftD_mem {L : Lab} {l : List Nat} {x : D} (h : x ∈ leftD L l) : ∃ W ∈ L.washes, x = washD L.n W := by
  unfold leftD at h
  obtain ⟨y, hy, e⟩ := List.mem_filterMap.mp h
  obtain ⟨i, z, hz, rfl⟩ := enumT_mem hy
  have := gOut_some e
  subst this
  obtain ⟨W, hW, rfl⟩ := List.mem_map.mp (List.mem_of_getElem? hz)
  exact ⟨W, hW, rfl⟩
theorem leftD_len (L : Lab) (l : List Nat) : (leftD L l).length ≤ L.washes.length := by
  unfold leftD
  have := List.length_filterMap_le (gOut l) (enumL 0 (L.washes.map (washD L.n)))
  rw [enumL_len, List.length_map] at this
  exact this
theorem worst_sub {T : Nat → Nat → Bool} {rs : List Nat} {r : Nat} (h : r ∈ worst T rs) : r ∈ rs := (List.mem_filter.mp h).1
theorem worst_few (T : Nat → Nat → Bool) (rs : List Nat) : (worst T rs).length ≤ rs.length := List.length_filter_le _ _
theorem like_needs {L : Lab} (ok : LabOk L) (T : Nat → Nat → Bool) : m__law_like [resD (needs L T), resD (needs L T)] = some (.bool true) := by
  have few := ok.few
  refine like_sm (sm_res ?_ fun r hr => ?_)
  · have : (needs L T).length ≤ (List.range L.washes.length).length := List.length_filter_le _ _
    rw [List.length_range] at this
    omega
  · have := (mem_needs.mp hr).1
    omega
theorem like_left {L : Lab} (ok : LabOk L) (l : List Nat) : m__law_like [.tuple [L.meets, .tuple (leftD L l), .int L.tools, .int L.arms, .int L.zones], .tuple [L.meets, .tuple (leftD L l), .int L.tools, .int L.arms, .int L.zones]] = some (.bool true) := by
  have few := ok.few
  refine like_sm (sm_lab ok (by have := leftD_len L l; omega) fun w hw => ?_)
  obtain ⟨W, hW, rfl⟩ := leftD_mem hw
  have wok := ok.wash W hW
  exact sm_wash (W := W) (g := W.after) ok.n8 wok fun s hs => ⟨wok.few s hs, wok.lt s hs⟩
theorem ysV_full (L : Lab) (T : Nat → Nat → Bool) : ysV L T L.washes.length = L.washes.map fun W => washD L.n (worstW T W) := by
  unfold ysV
  rw [List.take_length]
theorem like_worst {L : Lab} (ok : LabOk L) (T : Nat → Nat → Bool) : m__law_like [.tuple [L.meets, .tuple (ysV L T L.washes.length), .int L.tools, .int L.arms, .int L.zones], .tuple [L.meets, .tuple (ysV L T L.washes.length), .int L.tools, .int L.arms, .int L.zones]] = some (.bool true) := by
  have few := ok.few
  refine like_sm (sm_lab ok (by have := ysV_len L T L.washes.length; omega) fun w hw => ?_)
  rw [ysV_full] at hw
  obtain ⟨W, hW, rfl⟩ := List.mem_map.mp hw
  have wok := ok.wash W hW
  exact sm_wash (W := W) (g := fun s => worst T (W.after s)) ok.n8 wok fun s hs => ⟨Nat.le_trans (worst_few T _) (wok.few s hs), fun r hr => wok.lt s hs r (worst_sub hr)⟩
def LE (ns : List Int) (k : Nat) (s : Stt DrawSt) : Prop := ∃ w2 w3 w4 w5 w6 w7 w10 w11 w12 w13 st, s = lE ns w2 w3 w4 w5 w6 w7 w10 w11 w12 w13 st ∧ StOk k st
def lawBG (fLab fDraw fUp : List D → DrawSt → Option (D × DrawSt)) (fPairs fDue fNeed fLike fKept fWithout fEntry fWorst : List D → Option D) : M DrawSt Out := (seqM (asgM 3 (callD 1 fLab nilM)) (seqM (asgM 4 (callP fPairs (consD (nameM 3) nilM))) (seqM (asgM 5 (callP fDue (consD (nameM 3) (consD (nameM 4) nilM)))) (seqM (ifM (orT (notT (bnd (callP fLike (consD (callP fNeed (consD (nameM 3) nilM)) (consD (nameM 5) nilM))) boolO)) (notT (bnd (callP fKept (consD (nameM 3) (consD (nameM 4) (consD (nameM 5) nilM)))) boolO))) (retM (ret (.val (PyData.bool false)))) (ret .nx)) (seqM (asgM 6 (iteM (bnd (op2 eqD (callD 1 fDraw (consD (ret (.val (PyData.int 2))) nilM)) (ret (.val (PyData.int 0)))) boolO) (nameM 5) (callD 1 fUp (consD (callM lenD (consO (op2 ixD (nameM 3) (ret (.val (PyData.int 1)))) nilM)) (consD (ret (.val (PyData.int 0))) (consD (ret (.val (PyData.int 3))) nilM)))))) (seqM (asgM 7 (lcM [8, 9] (enumM (op2 ixD (nameM 3) (ret (.val (PyData.int 1))))) (tupG 2 (gsCons (setM 8) (gsCons (setM 9) gsNil))) (bnd (op2 notInD (nameM 8) (nameM 6)) boolO) (nameM 9))) (seqM (ifM (notT (bnd (callP fLike (consD (callP fWithout (consD (nameM 3) (consD (nameM 6) nilM))) (consD (tupM (consD (op2 ixD (nameM 3) (ret (.val (PyData.int 0)))) (consD (callM tupleD (consO (nameM 7) nilM)) (consD (op2 ixD (nameM 3) (ret (.val (PyData.int 2)))) (consD (op2 ixD (nameM 3) (ret (.val (PyData.int 3)))) (consD (op2 ixD (nameM 3) (ret (.val (PyData.int 4)))) nilM)))))) nilM))) boolO)) (retM (ret (.val (PyData.bool false)))) (ret .nx)) (seqM (asgM 10 (lstM nilM)) (seqM (loopM (iterM (op2 ixD (nameM 3) (ret (.val (PyData.int 1))))) (tupG 3 (gsCons (setM 11) (gsCons (setM 12) (gsCons (setM 13) gsNil)))) (bnd (ownAt 10) fun _ => appM 10 (tupM (consD (callM tupleD (consO (lcM [14] (iterM (nameM 11)) (setM 14) (ret true) (callP fEntry (consD (nameM 4) (consD (nameM 14) nilM)))) nilM)) (consD (nameM 12) (consD (nameM 13) nilM)))))) (ifM (notT (bnd (callP fLike (consD (callP fWorst (consD (nameM 3) nilM)) (consD (tupM (consD (op2 ixD (nameM 3) (ret (.val (PyData.int 0)))) (consD (callM tupleD (consO (nameM 10) nilM)) (consD (op2 ixD (nameM 3) (ret (.val (PyData.int 2)))) (consD (op2 ixD (nameM 3) (ret (.val (PyData.int 3)))) (consD (op2 ixD (nameM 3) (ret (.val (PyData.int 4)))) nilM)))))) nilM))) boolO)) (retM (ret (.val (PyData.bool false)))) (ret .nx)))))))))))
theorem lawBGe : lawB = lawBG m__law_washed_lab m__law_draw m__law_up m__law_pairs_due m__law_needless_due m_needless_washes m__law_like m__law_kept_right m_lab_without m__law_entry_due m_lab_with_worst := rfl
/-- all that one turn asks of the functions that it calls -/
structure Due (fLab fDraw fUp : List D → DrawSt → Option (D × DrawSt)) (fPairs fDue fNeed fLike fKept fWithout fEntry fWorst : List D → Option D) (k : Nat) (st : DrawSt) : Prop where
  go : ∃ (L : Lab) (T : Nat → Nat → Bool) (good : D) (st1 st2 : DrawSt) (r : Nat), LabOk L ∧ fLab [] st = some (L.D, st1) ∧ fPairs [L.D] = some good ∧ fDue [L.D, good] = some (resD (needs L T)) ∧ fNeed [L.D] = some (resD (needs L T)) ∧
    fLike [resD (needs L T), resD (needs L T)] = some (.bool true) ∧ fKept [L.D, good, resD (needs L T)] = some (.bool true) ∧
    fDraw [.int 2] st1 = some (.int (r : Nat), st2) ∧ StOk (k + 401) st2 ∧
    (∃ (l : List Nat) (st3 : DrawSt), fUp [.int (L.washes.length : Nat), .int 0, .int 3] st2 = some (resD l, st3) ∧ StOk (k + 500) st3 ∧ l.Pairwise (· < ·) ∧ (∀ i ∈ l, i < L.washes.length)) ∧
    (∀ l : List Nat, l.Pairwise (· < ·) → (∀ i ∈ l, i < L.washes.length) → fWithout [L.D, resD l] = some (.tuple [L.meets, .tuple (leftD L l), .int L.tools, .int L.arms, .int L.zones])) ∧
    (∀ l : List Nat, fLike [.tuple [L.meets, .tuple (leftD L l), .int L.tools, .int L.arms, .int L.zones], .tuple [L.meets, .tuple (leftD L l), .int L.tools, .int L.arms, .int L.zones]] = some (.bool true)) ∧
    (∀ rs : List Nat, (∀ o ∈ rs, o < L.n) → rs.length ≤ 1000 → fEntry [good, resD rs] = some (resD (worst T rs))) ∧
    fWorst [L.D] = some (.tuple [L.meets, .tuple (ysV L T L.washes.length), .int L.tools, .int L.arms, .int L.zones]) ∧
    fLike [.tuple [L.meets, .tuple (ysV L T L.washes.length), .int L.tools, .int L.arms, .int L.zones], .tuple [L.meets, .tuple (ysV L T L.washes.length), .int L.tools, .int L.arms, .int L.zones]] = some (.bool true)
theorem due_has {k : Nat} {st : DrawSt} (o : StOk k st) (hk : k ≤ 100000) : Due m__law_washed_lab m__law_draw m__law_up m__law_pairs_due m__law_needless_due m_needless_washes m__law_like m__law_kept_right m_lab_without m__law_entry_due m_lab_with_worst k st := by
  obtain ⟨d, st1, e0, ⟨L, rfl, ok⟩, o1⟩ := washed_dw k st o (by omega)
  have few := ok.few
  obtain ⟨d, st2, e1, ⟨r, hr, rfl⟩, o2⟩ := draw_small (L := 2) (by omega) (by omega) (k + 400) st1 o1 (by omega)
  obtain ⟨d, st3, e2, ⟨l, rfl, p1, p2, p3, p4⟩, o3⟩ := up_ok (many := L.washes.length) (least := 0) (top := 3) (by omega) (by omega) (by omega) (by omega) (k + 400 + 1) st2 o2 (by omega)
  have G : Gd L.n (gT_ L) (plist L.n (gT_ L)) := gd_plist fun b => round_refl L b _
  have tr : Tr L.n (gT_ L) := round_trans ok _
  have e3 := worstlab_ok ok
  rw [← ysV_full] at e3
  exact ⟨L, gT_ L, _, st1, st2, r, ok, e0, pairs_ok ok, due_ok ok G, washes_ok ok, like_needs ok _, keptright_ok ok G tr, e1, o2, ⟨l, st3, e2, o3.mono (by omega), p1, p2⟩, fun l h1 h2 => without_ok ok h1 h2, fun l => like_left ok l, fun rs h1 h2 => entry_ok G h1 h2, e3, like_worst ok _⟩
theorem turn_ok {fLab fDraw fUp : List D → DrawSt → Option (D × DrawSt)} {fPairs fDue fNeed fLike fKept fWithout fEntry fWorst : List D → Option D} {ns : List Int} {k : Nat} {w2 w3 w4 w5 w6 w7 w10 w11 w12 w13 : Option Sl} {st : DrawSt} (H : Due fLab fDraw fUp fPairs fDue fNeed fLike fKept fWithout fEntry fWorst k st) :
    Ev (lawBG fLab fDraw fUp fPairs fDue fNeed fLike fKept fWithout fEntry fWorst) (lE ns w2 w3 w4 w5 w6 w7 w10 w11 w12 w13 st) fun o s => o = .nx ∧ LE ns (k + 500) s := by
  obtain ⟨L, T, good, st1, st2, r, ok, e0, e1, e2, e3, e4, e5, e6, o2, ⟨l, st3, e7, o3, p1, p2⟩, e8, e9, e10, e11, e12⟩ := H.go
  have few := ok.few
  unfold lawBG
  refine Ev.seqN ⟨.nx, _, q0 e0, rfl, ?_⟩
  refine Ev.seqN ⟨.nx, _, q1 e1, rfl, ?_⟩
  refine Ev.seqN ⟨.nx, _, q2 e2, rfl, ?_⟩
  refine Ev.seqN ⟨.nx, _, q3 e3 e4 e5, rfl, ?_⟩
  refine Ev.seqN ⟨.nx, _, q4 e6 e7, rfl, ?_⟩
  have hl : ∃ l', (if r = 0 then resD (needs L T) else resD l) = resD l' ∧ l'.Pairwise (· < ·) ∧ ∀ i ∈ l', i < L.washes.length := by
    split
    · exact ⟨_, rfl, needs_up L T, fun i hi => (mem_needs.mp hi).1⟩
    · exact ⟨l, rfl, p1, p2⟩
  have hs : StOk (k + 500) (if r = 0 then st2 else st3) := by
    split
    · exact o2.mono (by omega)
    · exact o3
  obtain ⟨l', el, p1, p2⟩ := hl
  rw [el]
  generalize (if r = 0 then st2 else st3) = st4 at hs ⊢
  refine Ev.seqN ⟨.nx, _, q5 few, rfl, ?_⟩
  refine Ev.seqN ⟨.nx, _, q6 (e8 l' p1 p2) (e9 l'), rfl, ?_⟩
  refine Ev.seqN ⟨.nx, _, q7, rfl, ?_⟩
  refine Ev.seqN ((q8 (T := T) ok e10).mono ?_)
  rintro oo s ⟨rfl, w11, w12, w13, rfl⟩
  refine ⟨rfl, .nx, _, q9 e11 e12, rfl, ?_⟩
  exact ⟨_, _, _, _, _, _, _, _, _, _, st4, rfl, hs⟩
theorem set2 {ns : List Int} {w2 w3 w4 w5 w6 w7 w10 w11 w12 w13 : Option Sl} {st : DrawSt} (x : D) : (setM 2 x) (lE ns w2 w3 w4 w5 w6 w7 w10 w11 w12 w13 st) = some ((), lE ns (some (.d x)) w3 w4 w5 w6 w7 w10 w11 w12 w13 st) := by
  simp [lE]
theorem lawB_turn {ns : List Int} {k : Nat} {x : D} {s : Stt DrawSt} (h : LE ns k s) (hk : k ≤ 100000) : Ev (DL.bnd (setM 2 x) fun _ => lawB) s fun o s => o = .nx ∧ LE ns (k + 500) s := by
  obtain ⟨w2, w3, w4, w5, w6, w7, w10, w11, w12, w13, st, rfl, o⟩ := h
  have D := due_has o hk
  rw [lawBGe]
  exact Ev.bnd ⟨(), _, set2 x, turn_ok D⟩
theorem four {ns : List Int} {st : DrawSt} {w2 w3 w4 w5 w6 w7 w10 w11 w12 w13 : Option Sl} : DL.bnd (intsM (consO (ret (.val (PyData.int 4))) nilM)) (fun ds => lift (rng2 ds)) (lE ns w2 w3 w4 w5 w6 w7 w10 w11 w12 w13 st) = some (((0 : Int), (4 : Int)), lE ns w2 w3 w4 w5 w6 w7 w10 w11 w12 w13 st) := by
  simp [lE]
def LI (ns : List Int) (i : Nat) (s : Stt DrawSt) : Prop := LE ns (500 * i) s ∧ i ≤ 4
theorem law_ev {ns : List Int} {st : DrawSt} (o0 : StOk 0 st) : Ev (seqM (loopM (rangeM (consO (ret (.val (PyData.int 4))) nilM)) (setM 2) lawB) (retM (ret (.val (PyData.bool true))))) (lE ns none none none none none none none none none none st) fun o _ => o = .rt (.bool true) := by
  have hT := fun (k : Nat) (x : D) (s : Stt DrawSt) (h : LE ns k s) (hk : k ≤ 100000) => lawB_turn (x := x) h hk
  generalize lawB = B at hT ⊢
  refine Ev.seqN (Ev.loop (Ev.rangeM (lo := 0) (hi := 4) four (by decide) ?_))
  have h4 : (rgD 0 4).length = 4 := by decide
  refine Ev.for_ (LI ns) ?_ ?_ ⟨⟨_, _, _, _, _, _, _, _, _, _, st, rfl, o0⟩, by omega⟩
  · rintro i x s hx ⟨h, hi⟩
    have hi' : i < 4 := by
      have := (List.getElem?_eq_some_iff.mp hx).1
      omega
    refine (hT (500 * i) x s h (by omega)).mono ?_
    rintro o s' ⟨rfl, h'⟩
    exact ⟨h', by omega⟩
  · rintro s ⟨h, _⟩
    exact ⟨rfl, _, _, rfl, rfl⟩
theorem law_math : RunsTrue 13 m__law_folded F_law := by
  intro ns hl
  obtain ⟨cs, e1, hc⟩ := folded_ok ns
  refine ⟨cs, ?_⟩
  have o0 : StOk 0 ⟨cs, greatOf ns, 0⟩ := ⟨hc.1, hc.2, Int.le_refl _, Int.le_refl _⟩
  obtain ⟨o, s', e, rfl⟩ := law_ev (ns := ns) o0
  refine ⟨s', e1, ?_⟩
  rw [lawF]
  exact e
end LW
end

section
set_option Elab.async false
set_option linter.all false
set_option maxRecDepth 100000
set_option maxHeartbeats 3999999
/-! WEng14: the head: what the top has left, and the law's own call -/
namespace DL
open L2 PySem PyProof.Rows PySem.Spec
/-- a constant of the module, by its datum -/
def datB (K : Frag) : D → Value → Bool
  | .none, u => (match u with
    | .none => true
    | _ => false)
  | .bool b, u => (match u with
    | .bool c => b == c
    | _ => false)
  | .int i, u => (match u with
    | .int j _ => decide (i = j)
    | _ => false)
  | .str x, u => (match u with
    | .str y _ => decide (x = y)
    | _ => false)
  | .tuple ds, u => (match u with
    | .ref a => (match K.lookup a with
      | some ⟨.type c, _, .seq its _, _⟩ => decide (c = "tuple") && (decide (its.size ≤ sizeLine) && datAll K ds its.toList)
      | _ => false)
    | _ => false)
  | _, _ => false
where datAll (K : Frag) : List D → List Value → Bool
  | [], [] => true
  | d :: ds, u :: us => datB K d u && datAll K ds us
  | _, _ => false
mutual
theorem datB_ok {K : Frag} : ∀ (d : D) (u : Value), datB K d u = true → ∃ v, RelV v u ∧ ∀ S, Dq K S v d
  | .none, u, h => by
    unfold datB at h
    cases u with
    | none => exact ⟨.non, rfl, fun S => .non⟩
    | _ => cases h
  | .bool b, u, h => by
    unfold datB at h
    cases u with
    | bool c =>
      have e : b = c := eq_of_beq h
      subst e
      exact ⟨.bl b, rfl, fun S => .bl b⟩
    | _ => cases h
  | .int i, u, h => by
    unfold datB at h
    cases u with
    | int j t =>
      have e : i = j := of_decide_eq_true h
      subst e
      exact ⟨.int i, ⟨t, rfl⟩, fun S => .int i⟩
    | _ => cases h
  | .str x, u, h => by
    unfold datB at h
    cases u with
    | str y t =>
      have e : x = y := of_decide_eq_true h
      subst e
      exact ⟨.str x, ⟨t, rfl⟩, fun S => .str x⟩
    | _ => cases h
  | .tuple ds, u, h => by
    unfold datB at h
    cases u with
    | ref a =>
      dsimp only at h
      cases q : K.lookup a with
      | none =>
        rw [q] at h
        cases h
      | some o =>
        obtain ⟨oc, od, dt, osl⟩ := o
        rw [q] at h
        cases oc with
        | type c =>
          cases dt with
          | seq its n =>
            obtain ⟨h1, h2⟩ := Bool.and_eq_true_iff.mp h
            obtain ⟨h3, h4⟩ := Bool.and_eq_true_iff.mp h2
            obtain ⟨vs, r, hd⟩ := datAll_ok ds its.toList h4
            exact ⟨.ref a, rfl, fun S => .tup (.inr ⟨_, its, n, q, congrArg Value.type (of_decide_eq_true h1), rfl, of_decide_eq_true h3, r⟩) (hd S)⟩
          | _ => cases h
        | _ => cases dt <;> cases h
    | _ => cases h
  | .list _, u, h => by
    unfold datB at h
    cases h
  | .dict _, u, h => by
    unfold datB at h
    cases h
theorem datAll_ok {K : Frag} : ∀ (ds : List D) (us : List Value), datB.datAll K ds us = true → ∃ vs, Vals vs us ∧ ∀ S, DqAll K S vs ds
  | [], [], _ => ⟨[], .nil, fun S => .nil⟩
  | d :: ds, u :: us, h => by
    unfold datB.datAll at h
    obtain ⟨h1, h2⟩ := Bool.and_eq_true_iff.mp h
    obtain ⟨v, r, hd⟩ := datB_ok d u h1
    obtain ⟨vs, rs, hds⟩ := datAll_ok ds us h2
    exact ⟨v :: vs, .cons r rs, fun S => .cons (hd S) (hds S)⟩
  | [], _ :: _, h => by cases h
  | _ :: _, [], h => by cases h
end
/-- the module's name x stands for that tuple -/
def conB (K : Frag) (p : Str × D) : Bool := match PySem.W.nsIn K mainGlobals p.1 with
  | some (some (.ref a)) => datB K p.2 (.ref a)
  | _ => false
def obsX (fa : List He.Fa) (cs : List (Str × D)) (fn : List He.DefD) (K : Frag) : He.AlD := (((fa.all fun f => f.ok K) && fn.all fun d => d.ok K) && cs.all (conB K), fn.map fun d => He.fnW K d.at_)
def SaysX (fa : List He.Fa) (cs : List (Str × D)) (fn : List He.DefD) (K : Frag) : Prop := obsX fa cs fn K = He.valD fn
def obsXG (n : Nat) (fa : List He.Fa) (cs : List (Str × D)) (fn : List He.DefD) (g : Addr → Option Obj) : He.AlD := obsX fa cs fn (He.frG g (He.asD g n))
def hookX (n : Nat) (fa : List He.Fa) (cs : List (Str × D)) (fn : List He.DefD) : PySem.W.Hook where
  α := He.AlD
  obs := fun s => obsXG n fa cs fn s.heap.get?
  val := fun _ => He.valD fn
  says := fun _ h => ∃ K : Frag, K.In h ∧ SaysX fa cs fn K
  of := fun _ _ e => ⟨_, He.frG_in, e⟩
  keeps := fun _ _ _ ⟨K, hK, c⟩ k => ⟨K, PySem.W.Frag.In.keeps hK k, c⟩
theorem obsXG_eq {n : Nat} {fa : List He.Fa} {cs : List (Str × D)} {fn : List He.DefD} {g : Addr → Option Obj} {s : Shared} (h : ∀ a, g a = s.heap.get? a) : obsXG n fa cs fn g = (hookX n fa cs fn).obs s := by
  obtain rfl : g = s.heap.get? := funext h
  rfl
section
variable {fa : List He.Fa} {cs : List (Str × D)} {fn : List He.DefD} {K : Frag} {h : Heap} {mg : Str → Option Value}
theorem SaysX.both (c : SaysX fa cs fn K) : He.SaysD fa fn K ∧ cs.all (conB K) = true := by
  have c1 : ((((fa.all fun f => f.ok K) && fn.all fun d => d.ok K) && cs.all (conB K))) = true := congrArg (fun z : He.AlD => z.1) c
  have c2 : (fn.map fun d => He.fnW K d.at_) = fn.map He.DefD.val := congrArg (fun z : He.AlD => z.2) c
  obtain ⟨h1, h2⟩ := Bool.and_eq_true_iff.mp c1
  refine ⟨?_, h2⟩
  show ((fa.all fun f => f.ok K) && fn.all fun d => d.ok K, fn.map fun d => He.fnW K d.at_) = (true, fn.map He.DefD.val)
  rw [h1, c2]
/-- a def, found by its place in the list -/
theorem SaysX.has (c : SaysX fa cs fn K) (X : K.In h) (G : h.Ns mainGlobals mg) (i j : Nat) {x : Str} {st : Stmt} {ps : List Str} (hf : fn[i]? = some ⟨(x, none), x, x, defArgs st, defBody st, defScope st, [], []⟩) (hg : fa[j]? = some (.glo x))
    (hb : ∀ (kV doc pm : Value) (an : Option Addr) (cdv ct : Value) (us : List Value), us.length = ps.length → bindArgs (PySem.W.fnOf x x (defArgs st) (defBody st) (defScope st) .none kV doc pm an cdv ct) ⟨us, []⟩ = pure (ps.zip us)) : Has K mg x st ps := by
  obtain ⟨fd, F⟩ := c.both.1.def_ i hf
  have g := He.glo_ok X G (c.both.1.fact j hg)
  have kp : PySem.W.keepIn K (.ref (He.ga K x)) = true := F.kp
  obtain ⟨oc, od, dV, kV, doc, pm, an, cdv, ct, osl, rfl, lk, hcd, hD, hK⟩ := F.ex
  rcases hD with ⟨_, rfl⟩ | ⟨e, _⟩
  · have FF : Fun K x x st (He.ga K x) (PySem.W.fnOf x x (defArgs st) (defBody st) (defScope st) .none kV doc pm an cdv ct) := ⟨⟨oc, od, kV, doc, pm, an, cdv, ct, osl, rfl, lk, hcd⟩, kp⟩
    exact ⟨_, _, FF, g, kp, FF.binds hb⟩
  · exact absurd rfl e
theorem SaysX.free (c : SaysX fa cs fn K) (X : K.In h) (G : h.Ns mainGlobals mg) (j : Nat) {x : Str} (hg : fa[j]? = some (.free x)) : mg x = none := He.free_ok X G (c.both.1.fact j hg)
theorem SaysX.int (c : SaysX fa cs fn K) (X : K.In h) (G : h.Ns mainGlobals mg) (j : Nat) {x : Str} {i : Int} (hg : fa[j]? = some (.int x i)) : ∃ t, mg x = some (.int i t) := He.int_ok X G (c.both.1.fact j hg)
theorem SaysX.con (c : SaysX fa cs fn K) (X : K.In h) (G : h.Ns mainGlobals mg) (j : Nat) {x : Str} {d : D} (hg : cs[j]? = some (x, d)) : ∃ a, mg x = some (.ref a) ∧ ∀ S, Dq K S (.ref a) d := by
  have h1 := List.all_eq_true.mp c.both.2 (x, d) (List.mem_of_getElem? hg)
  unfold conB at h1
  dsimp only at h1
  split at h1
  · rename_i a e
    obtain ⟨v, r, hd⟩ := datB_ok _ _ h1
    have e2 := PySem.W.mg_of X G e
    cases v with
    | ref b =>
      obtain rfl : a = b := by
        have r' : Value.ref a = Value.ref b := r
        cases r'
        rfl
      exact ⟨a, e2, hd⟩
    | _ =>
      have := hd (fun _ => none)
      first
        | (obtain ⟨t, r'⟩ := r; cases r')
        | cases r
  · cases h1
end
/-! ### the law called by its caller -/
theorem law_callG {P : Program} {w : World} {K : PySem.W.Frag} {mg mb : Str → Option Value} {k : Nat} {fa a : Addr} {x0 x : Str} {sp : Sp} {s₁ : Shared} {vs : List Value} {ns : List Int}
    (KX : K.In s₁.heap) (hns : s₁.heap.Ns mainGlobals mg) (hb : s₁.heap.Ns builtinsNs mb) (hbb : ∀ x : Str, x ≠ "__name__" → mb x = bootBuiltins x)
    (hlim : s₁.heap.NoLimit) (hg : s₁.gens = #[]) (ha : s₁.heap.get? a = some { cls := .type "list", data := .seq vs.toArray }) (hi : IntsAre vs ns)
    (hl : ns.length ≤ sizeLine) (hr : Room k callerA) (hgd : callerA.guards = some []) (hfa : mg x0 = some (.ref fa))
    (F : ∀ base : Heap, K.In base → base.Ns mainGlobals mg → LawQ P w K mg base k x0 [x] sp)
    (hsp : ∀ H : Hp, Only H → SqL K H a (ns.map V.int) → sp [.ref a] H (fun v _ => v = .bl true) fun _ _ _ => False) :
    codeAny (model P w) callerA (.call (.ref fa) ⟨[.ref a], []⟩) (fun r s' => r = .ok (.ret (.bool true)) ∧ OldK s₁.heap s'.heap ∧ s'.os = s₁.os ∧ AllBare s'.gens) s₁ := by
  have rv := vals_ints hi
  have lenV := hi.length
  have core : ∀ H : Hp, Only H → SqL K H a (ns.map V.int) → HOk P w H s₁.heap → (∀ b, H b ≠ none → b = a) → (H a ≠ none → K.lookup a = none) →
      codeAny (model P w) callerA (.call (.ref fa) ⟨[.ref a], []⟩) (fun r s' => r = .ok (.ret (.bool true)) ∧ OldK s₁.heap s'.heap ∧ s'.os = s₁.os ∧ AllBare s'.gens) s₁ := by
    intro H hO hS hok hA hK
    have noA : ∀ {b : Addr} {o : Obj} {es : Array DictEntry} {ep : Nat}, s₁.heap.get? b = some o → o.data = .dict es ep → H b = none := by
      intro b o es ep e d
      cases q : H b with
      | none => rfl
      | some u =>
        have e' : b = a := hA b (by simp [q])
        subst e'
        rw [ha] at e
        cases e
        have d' : Data.seq vs.toArray _ = Data.dict es ep := d
        cases d'
    have nsK : ∀ {b : Addr} {m : Str → Option Value}, s₁.heap.Ns b m → (hidT s₁.heap H).Ns b m := by
      rintro b m ⟨o, es, ep, e, d, r⟩
      exact ⟨o, es, ep, hidT_get e (noA e d), d, r⟩
    have hKb : K.In (hidT s₁.heap H) := by
      intro b o e
      refine hidT_get (KX b o e) ?_
      cases q : H b with
      | none => rfl
      | some u =>
        have e' : b = a := hA b (by simp [q])
        subst e'
        rw [hK (by simp [q])] at e
        cases e
    have hM : Mod K mg (hidT s₁.heap H) := by
      obtain ⟨mc, h1, h2⟩ := hlim
      exact ⟨hKb, nsK hns, ⟨mb, nsK hb, hbb⟩, ⟨mc, nsK h1, h2⟩⟩
    have e0 : Env0 P w K mg (hidT s₁.heap H) callerA [] s₁ H :=
      ⟨rfl, hM, fun b o e => of_hidT e, Nat.le_of_eq (hidT_size _ _), trivial, fun b hb => absurd (show b ∈ ([] : List Addr) from hb) (by simp), hok, .of_eq hg⟩
    obtain ⟨fa', fd, Fn, hm, _, hb⟩ := F _ hKb (nsK hns)
    obtain rfl : fa = fa' := by
      have q := hfa.symm.trans hm
      cases q
      rfl
    have run := Fn.run callerA [] s₁ H ⟨[.ref a], []⟩ [.ref a] [.ref a] _ _ hr hgd e0 (hb s₁ [.ref a] KX rfl) (.cons rfl .nil) (hsp H hO hS)
    refine codeAny_mono run ?_
    intro r s' h
    match r, h with
    | .error e, h => exact h.elim
    | .ok .next, h => exact False.elim h
    | .ok .brk, h => exact False.elim h
    | .ok .cont, h => exact False.elim h
    | .ok (.ret u), h =>
      obtain ⟨v, H', os, bare, un, hok', r', q⟩ := h
      have q' : v = .bl true := q
      subst q'
      obtain rfl : u = Value.bool true := r'
      refine ⟨rfl, OldK.of_keep ?_, os, bare⟩
      intro b o e
      cases q : H b with
      | none => exact un.keep b o e q (by intro z; exact absurd (show b ∈ ([] : List Addr) from z) (by simp)) (by simp)
      | some u =>
        rcases hO b with z | ⟨ob, xs, z⟩
        · rw [q] at z
          cases z
        · have z2 := un.frzs b ob _ z
          obtain ⟨e1, _⟩ := hok b _ z
          obtain ⟨e2, _⟩ := hok' b _ z2
          rw [e] at e1
          cases e1
          exact e2
  cases hk : K.lookup a with
  | some o =>
    have e := KX a o hk
    rw [ha] at e
    cases e
    have sq : SqL K (fun _ => none) a (ns.map V.int) := .inr ⟨_, vs.toArray, _, hk, rfl, rfl, rfl, by rw [List.size_toArray, lenV]; exact hl, by simpa using rv⟩
    refine core (fun _ => none) (fun _ => .inl rfl) sq (fun b u z => ?_) (fun b z => absurd rfl z) fun z => absurd rfl z
    have z' : (none : Option HO) = some u := z
    cases z'
  | none =>
    have here : (fun b => if b = a then some (HO.frz { cls := .type "list", data := .seq vs.toArray } (.lst (ns.map V.int))) else none) a = some (HO.frz { cls := .type "list", data := .seq vs.toArray } (.lst (ns.map V.int))) := if_pos rfl
    refine core (fun b => if b = a then some (.frz { cls := .type "list", data := .seq vs.toArray } (.lst (ns.map V.int))) else none) (fun b => ?_) (.inl (.inr ⟨{ cls := .type "list", data := .seq vs.toArray }, here⟩)) (fun b u z => ?_) (fun b z => ?_) fun _ => hk
    · by_cases hb : b = a
      · exact .inr ⟨_, _, if_pos hb⟩
      · exact .inl (if_neg hb)
    · by_cases hb : b = a
      · have z' := (if_pos hb).symm.trans z
        cases z'
        subst hb
        exact ⟨ha, by simpa using hl, vs, _, rv, ha⟩
      · have z' := (if_neg hb).symm.trans z
        cases z'
    · by_cases hb : b = a
      · exact hb
      · exact absurd (if_neg hb) z
/-- the head's last goal, from the law's promise over every base -/
theorem walkX {l : PySem.W.OpenLaw} {k : Nat} {q : Program} {loose : List Str} {XP : (Str → Option Value) → Heap → Prop} {fa : List He.Fa} {cs : List (Str × D)} {fn : List He.DefD} {d : DefRec} {m : Nat}
    (hn : l.most = some 63) (hdf : d.params.defaults = []) (hr : Room k callerA) (hname : d.name = ("law" : Str))
    (F : ∀ (P : Program) (w : World) (K : Frag) (mg : Str → Option Value) (h : Heap), K.In h → h.Ns mainGlobals mg → SaysX fa cs fn K → ∀ base : Heap, LawQ P w K mg base k "law" ["script"] (spLaw K)) :
    PySem.W.WalkO q loose XP (hookX m fa cs fn).says l.row.toRowW d [] (fun f vs => PySem.call f vs) := by
  refine Att.attach_call hn hdf ?_
  intro w s₀ s₁ mg mb fa o pm cd doc a vs ns G Y ho hd hcd hmg hobj hints hlen hg
  obtain ⟨K, KX, c⟩ := Y
  rw [hname] at hmg
  refine law_callG (x0 := "law") (x := "script") (sp := spLaw K) KX G.T.g G.T.b G.T.builtins G.T.nolimit hg hobj hints ?_ hr rfl hmg (fun base _ _ => F l.prog w K mg _ KX G.T.g c base) fun H hO hS => ⟨a, ns, rfl, hO, hS, hlen, fun _ => rfl⟩
  rw [sizeLine_eq]
  omega
end DL
end

section
set_option Elab.async false
set_option linter.all false
set_option maxRecDepth 100000
set_option maxHeartbeats 3999999
open DL L2 PySem PyProof.Rows PySem.Spec
namespace LW
def fns : List He.DefD := [⟨("is_whole", none), "is_whole", "is_whole", defArgs s_is_whole, defBody s_is_whole, defScope s_is_whole, [], []⟩, ⟨("is_within", none), "is_within", "is_within", defArgs s_is_within, defBody s_is_within, defScope s_is_within, [], []⟩, ⟨("is_tuple_of", none), "is_tuple_of", "is_tuple_of", defArgs s_is_tuple_of, defBody s_is_tuple_of, defScope s_is_tuple_of, [], []⟩, ⟨("is_tuple_to", none), "is_tuple_to", "is_tuple_to", defArgs s_is_tuple_to, defBody s_is_tuple_to, defScope s_is_tuple_to, [], []⟩, ⟨("first_descent", none), "first_descent", "first_descent", defArgs s_first_descent, defBody s_first_descent, defScope s_first_descent, [], []⟩, ⟨("meets_fault", none), "meets_fault", "meets_fault", defArgs s_meets_fault, defBody s_meets_fault, defScope s_meets_fault, [], []⟩, ⟨("wash_fault", none), "wash_fault", "wash_fault", defArgs s_wash_fault, defBody s_wash_fault, defScope s_wash_fault, [], []⟩, ⟨("lab_fault", none), "lab_fault", "lab_fault", defArgs s_lab_fault, defBody s_lab_fault, defScope s_lab_fault, [], []⟩, ⟨("need_lab", none), "need_lab", "need_lab", defArgs s_need_lab, defBody s_need_lab, defScope s_need_lab, [], []⟩, ⟨("first_reason", none), "first_reason", "first_reason", defArgs s_first_reason, defBody s_first_reason, defScope s_first_reason, [], []⟩, ⟨("falls", none), "falls", "falls", defArgs s_falls, defBody s_falls, defScope s_falls, [], []⟩, ⟨("as_good_table", none), "as_good_table", "as_good_table", defArgs s_as_good_table, defBody s_as_good_table, defScope s_as_good_table, [], []⟩, ⟨("stands_for", none), "stands_for", "stands_for", defArgs s_stands_for, defBody s_stands_for, defScope s_stands_for, [], []⟩, ⟨("is_needless", none), "is_needless", "is_needless", defArgs s_is_needless, defBody s_is_needless, defScope s_is_needless, [], []⟩, ⟨("needless_washes", none), "needless_washes", "needless_washes", defArgs s_needless_washes, defBody s_needless_washes, defScope s_needless_washes, [], []⟩, ⟨("lab_without", none), "lab_without", "lab_without", defArgs s_lab_without, defBody s_lab_without, defScope s_lab_without, [], []⟩, ⟨("worst_results", none), "worst_results", "worst_results", defArgs s_worst_results, defBody s_worst_results, defScope s_worst_results, [], []⟩, ⟨("lab_with_worst", none), "lab_with_worst", "lab_with_worst", defArgs s_lab_with_worst, defBody s_lab_with_worst, defScope s_lab_with_worst, [], []⟩, ⟨("_law_mixed", none), "_law_mixed", "_law_mixed", defArgs s__law_mixed, defBody s__law_mixed, defScope s__law_mixed, [], []⟩, ⟨("_law_folded", none), "_law_folded", "_law_folded", defArgs s__law_folded, defBody s__law_folded, defScope s__law_folded, [], []⟩, ⟨("_law_draw", none), "_law_draw", "_law_draw", defArgs s__law_draw, defBody s__law_draw, defScope s__law_draw, [], []⟩, ⟨("_law_begun", none), "_law_begun", "_law_begun", defArgs s__law_begun, defBody s__law_begun, defScope s__law_begun, [], []⟩, ⟨("_law_like", none), "_law_like", "_law_like", defArgs s__law_like, defBody s__law_like, defScope s__law_like, [], []⟩, ⟨("_law_order", none), "_law_order", "_law_order", defArgs s__law_order, defBody s__law_order, defScope s__law_order, [], []⟩, ⟨("_law_up", none), "_law_up", "_law_up", defArgs s__law_up, defBody s__law_up, defScope s__law_up, [], []⟩, ⟨("_law_wash_drawn", none), "_law_wash_drawn", "_law_wash_drawn", defArgs s__law_wash_drawn, defBody s__law_wash_drawn, defScope s__law_wash_drawn, [], []⟩, ⟨("_law_meets_drawn", none), "_law_meets_drawn", "_law_meets_drawn", defArgs s__law_meets_drawn, defBody s__law_meets_drawn, defScope s__law_meets_drawn, [], []⟩, ⟨("_law_lab_drawn", none), "_law_lab_drawn", "_law_lab_drawn", defArgs s__law_lab_drawn, defBody s__law_lab_drawn, defScope s__law_lab_drawn, [], []⟩, ⟨("_law_is_good", none), "_law_is_good", "_law_is_good", defArgs s__law_is_good, defBody s__law_is_good, defScope s__law_is_good, [], []⟩, ⟨("_law_pairs_due", none), "_law_pairs_due", "_law_pairs_due", defArgs s__law_pairs_due, defBody s__law_pairs_due, defScope s__law_pairs_due, [], []⟩, ⟨("_law_near_wash", none), "_law_near_wash", "_law_near_wash", defArgs s__law_near_wash, defBody s__law_near_wash, defScope s__law_near_wash, [], []⟩, ⟨("_law_washed_lab", none), "_law_washed_lab", "_law_washed_lab", defArgs s__law_washed_lab, defBody s__law_washed_lab, defScope s__law_washed_lab, [], []⟩, ⟨("_law_stands", none), "_law_stands", "_law_stands", defArgs s__law_stands, defBody s__law_stands, defScope s__law_stands, [], []⟩, ⟨("_law_needless_due", none), "_law_needless_due", "_law_needless_due", defArgs s__law_needless_due, defBody s__law_needless_due, defScope s__law_needless_due, [], []⟩, ⟨("_law_entry_due", none), "_law_entry_due", "_law_entry_due", defArgs s__law_entry_due, defBody s__law_entry_due, defScope s__law_entry_due, [], []⟩, ⟨("_law_kept_right", none), "_law_kept_right", "_law_kept_right", defArgs s__law_kept_right, defBody s__law_kept_right, defScope s__law_kept_right, [], []⟩, ⟨("law", none), "law", "law", defArgs s_law, defBody s_law, defScope s_law, [], []⟩]
def fas : List He.Fa := [.glo "is_whole", .glo "is_within", .glo "is_tuple_of", .glo "is_tuple_to", .glo "first_descent", .glo "meets_fault", .glo "wash_fault", .glo "lab_fault", .glo "need_lab", .glo "first_reason", .glo "falls", .glo "as_good_table", .glo "stands_for", .glo "is_needless", .glo "needless_washes", .glo "lab_without", .glo "worst_results", .glo "lab_with_worst", .glo "_law_mixed", .glo "_law_folded", .glo "_law_draw", .glo "_law_begun", .glo "_law_like", .glo "_law_order", .glo "_law_up", .glo "_law_wash_drawn", .glo "_law_meets_drawn", .glo "_law_lab_drawn", .glo "_law_is_good", .glo "_law_pairs_due", .glo "_law_near_wash", .glo "_law_washed_lab", .glo "_law_stands", .glo "_law_needless_due", .glo "_law_entry_due", .glo "_law_kept_right", .glo "law", .free "bool", .free "enumerate", .free "int", .free "isinstance", .free "len", .free "list", .free "max", .free "min", .free "range", .free "repr", .free "set", .free "sorted", .free "tuple", .int "MOST_ARMS" (3), .int "MOST_RESULTS" (3), .int "MOST_STATES" (8), .int "MOST_STUFFS" (8), .int "MOST_TICKS" (6), .int "MOST_TOOLS" (3), .int "MOST_WASHES" (3), .int "MOST_ZONES" (4)]
def css : List (Str × D) := []
theorem top_ok {K : Frag} {h : Heap} {mg : Str → Option Value} (X : K.In h) (G : h.Ns mainGlobals mg) (c : SaysX fas css fns K) : Top K mg where
  h_is_whole := c.has X G 0 0 rfl rfl fun _ _ _ _ _ _ us hl => match us, hl with | [_], _ => rfl
  h_is_within := c.has X G 1 1 rfl rfl fun _ _ _ _ _ _ us hl => match us, hl with | [_, _, _], _ => rfl
  h_is_tuple_of := c.has X G 2 2 rfl rfl fun _ _ _ _ _ _ us hl => match us, hl with | [_, _], _ => rfl
  h_is_tuple_to := c.has X G 3 3 rfl rfl fun _ _ _ _ _ _ us hl => match us, hl with | [_, _, _], _ => rfl
  h_first_descent := c.has X G 4 4 rfl rfl fun _ _ _ _ _ _ us hl => match us, hl with | [_, _], _ => rfl
  h_meets_fault := c.has X G 5 5 rfl rfl fun _ _ _ _ _ _ us hl => match us, hl with | [_], _ => rfl
  h_wash_fault := c.has X G 6 6 rfl rfl fun _ _ _ _ _ _ us hl => match us, hl with | [_, _], _ => rfl
  h_lab_fault := c.has X G 7 7 rfl rfl fun _ _ _ _ _ _ us hl => match us, hl with | [_], _ => rfl
  h_need_lab := c.has X G 8 8 rfl rfl fun _ _ _ _ _ _ us hl => match us, hl with | [_], _ => rfl
  h_first_reason := c.has X G 9 9 rfl rfl fun _ _ _ _ _ _ us hl => match us, hl with | [_, _, _, _], _ => rfl
  h_falls := c.has X G 10 10 rfl rfl fun _ _ _ _ _ _ us hl => match us, hl with | [_], _ => rfl
  h_as_good_table := c.has X G 11 11 rfl rfl fun _ _ _ _ _ _ us hl => match us, hl with | [_], _ => rfl
  h_stands_for := c.has X G 12 12 rfl rfl fun _ _ _ _ _ _ us hl => match us, hl with | [_, _, _, _], _ => rfl
  h_is_needless := c.has X G 13 13 rfl rfl fun _ _ _ _ _ _ us hl => match us, hl with | [_, _, _], _ => rfl
  h_needless_washes := c.has X G 14 14 rfl rfl fun _ _ _ _ _ _ us hl => match us, hl with | [_], _ => rfl
  h_lab_without := c.has X G 15 15 rfl rfl fun _ _ _ _ _ _ us hl => match us, hl with | [_, _], _ => rfl
  h_worst_results := c.has X G 16 16 rfl rfl fun _ _ _ _ _ _ us hl => match us, hl with | [_, _], _ => rfl
  h_lab_with_worst := c.has X G 17 17 rfl rfl fun _ _ _ _ _ _ us hl => match us, hl with | [_], _ => rfl
  h__law_mixed := c.has X G 18 18 rfl rfl fun _ _ _ _ _ _ us hl => match us, hl with | [_, _], _ => rfl
  h__law_folded := c.has X G 19 19 rfl rfl fun _ _ _ _ _ _ us hl => match us, hl with | [_], _ => rfl
  h__law_draw := c.has X G 20 20 rfl rfl fun _ _ _ _ _ _ us hl => match us, hl with | [_, _], _ => rfl
  h__law_begun := c.has X G 21 21 rfl rfl fun _ _ _ _ _ _ us hl => match us, hl with | [_], _ => rfl
  h__law_like := c.has X G 22 22 rfl rfl fun _ _ _ _ _ _ us hl => match us, hl with | [_, _], _ => rfl
  h__law_order := c.has X G 23 23 rfl rfl fun _ _ _ _ _ _ us hl => match us, hl with | [_, _], _ => rfl
  h__law_up := c.has X G 24 24 rfl rfl fun _ _ _ _ _ _ us hl => match us, hl with | [_, _, _, _], _ => rfl
  h__law_wash_drawn := c.has X G 25 25 rfl rfl fun _ _ _ _ _ _ us hl => match us, hl with | [_, _, _], _ => rfl
  h__law_meets_drawn := c.has X G 26 26 rfl rfl fun _ _ _ _ _ _ us hl => match us, hl with | [_, _, _], _ => rfl
  h__law_lab_drawn := c.has X G 27 27 rfl rfl fun _ _ _ _ _ _ us hl => match us, hl with | [_, _, _, _, _], _ => rfl
  h__law_is_good := c.has X G 28 28 rfl rfl fun _ _ _ _ _ _ us hl => match us, hl with | [_, _, _, _], _ => rfl
  h__law_pairs_due := c.has X G 29 29 rfl rfl fun _ _ _ _ _ _ us hl => match us, hl with | [_], _ => rfl
  h__law_near_wash := c.has X G 30 30 rfl rfl fun _ _ _ _ _ _ us hl => match us, hl with | [_, _, _], _ => rfl
  h__law_washed_lab := c.has X G 31 31 rfl rfl fun _ _ _ _ _ _ us hl => match us, hl with | [_], _ => rfl
  h__law_stands := c.has X G 32 32 rfl rfl fun _ _ _ _ _ _ us hl => match us, hl with | [_, _, _, _], _ => rfl
  h__law_needless_due := c.has X G 33 33 rfl rfl fun _ _ _ _ _ _ us hl => match us, hl with | [_, _], _ => rfl
  h__law_entry_due := c.has X G 34 34 rfl rfl fun _ _ _ _ _ _ us hl => match us, hl with | [_, _], _ => rfl
  h__law_kept_right := c.has X G 35 35 rfl rfl fun _ _ _ _ _ _ us hl => match us, hl with | [_, _, _], _ => rfl
  h_law := c.has X G 36 36 rfl rfl fun _ _ _ _ _ _ us hl => match us, hl with | [_], _ => rfl
  n_bool := c.free X G 37 rfl
  n_enumerate := c.free X G 38 rfl
  n_int := c.free X G 39 rfl
  n_isinstance := c.free X G 40 rfl
  n_len := c.free X G 41 rfl
  n_list := c.free X G 42 rfl
  n_max := c.free X G 43 rfl
  n_min := c.free X G 44 rfl
  n_range := c.free X G 45 rfl
  n_repr := c.free X G 46 rfl
  n_set := c.free X G 47 rfl
  n_sorted := c.free X G 48 rfl
  n_tuple := c.free X G 49 rfl
  g_MOST_ARMS := c.int X G 50 rfl
  g_MOST_RESULTS := c.int X G 51 rfl
  g_MOST_STATES := c.int X G 52 rfl
  g_MOST_STUFFS := c.int X G 53 rfl
  g_MOST_TICKS := c.int X G 54 rfl
  g_MOST_TOOLS := c.int X G 55 rfl
  g_MOST_WASHES := c.int X G 56 rfl
  g_MOST_ZONES := c.int X G 57 rfl
def names0 : List Str := ["__name__", "LabError", "BadNumber", "BadLab", "is_whole", "is_within", "is_tuple_of", "MOST_STATES", "MOST_STUFFS", "MOST_WASHES", "MOST_RESULTS", "MOST_TICKS", "MOST_TOOLS", "MOST_ARMS", "MOST_ZONES", "is_tuple_to", "first_descent", "meets_fault", "wash_fault", "lab_fault", "need_lab", "first_reason", "falls", "as_good_table"]
def names1 : List Str := ["stands_for", "is_needless", "needless_washes", "lab_without", "worst_results", "lab_with_worst", "_law_mixed", "_law_folded", "_law_draw", "_law_begun", "_law_like", "_law_order", "_law_up", "_law_wash_drawn", "_law_meets_drawn", "_law_lab_drawn", "_law_is_good", "_law_pairs_due", "_law_near_wash", "_law_washed_lab", "_law_stands", "_law_needless_due", "_law_entry_due", "_law_kept_right"]
def names : List Str := names0 ++ names1
abbrev RR : PySem.W.OpenRow := PySem.W.OpenLaw.row PySem.Challenge.rw_washedarms_k04_whole_needless_washes_and
abbrev hkx : PySem.W.Hook := hookX 4 fas css fns
def obx (s : PySem.W.SharedT) : He.AlD := obsXG 4 fas css fns (HandSHeadRun.getT s)
theorem obx_eq (s : PySem.W.SharedT) : obx s = hkx.obs s.abs := obsXG_eq (HandSHeadRun.getT_eq s)
set_option maxHeartbeats 0 in
theorem run_top (w : World) : HandSHeadRun.RunEq RR (PySem.W.view RR.prog [53]) hkx obx 20000 names w := by
  intro os
  kernel_rfl
end LW
open PyProof.Rows PySem PySem.Calls PySem.W
set_option maxHeartbeats 0 in
theorem PySem.Challenge.cw_washedarms_k04_whole_needless_washes_and_holds : PySem.Challenge.rw_washedarms_k04_whole_needless_washes_and.Holds := by
  w_on; o_law
  refine HandSHeadRun.head_any (r := LW.RR) (q := view LW.RR.prog [53]) (H := LW.hkx) (ob := LW.obx) (M := 20000) (loose := LW.names) (d := HandSHeadRun.topDef LW.RR.prog 53) (kwd := []) LW.obx_eq (by kernel_rfl) (fun s => by kernel_rfl) LW.run_top (by kernel_rfl) (by kernel_rfl) (by kernel_rfl) (by rfl) (by first | assumption | decide +kernel) (by decide +kernel) ⟨rfl, rfl, rfl, rfl, rfl, by decide +kernel⟩ ?hw ?hc
  case hw => w_witness2
  case hc =>
    exact DL.walkX (l := PySem.Challenge.rw_washedarms_k04_whole_needless_washes_and) (k := 9) rfl (by kernel_rfl) ⟨rfl, by decide, by decide⟩ (by kernel_rfl) fun P w K mg h X G c base => LW.d_law (LW.top_ok X G c) LW.law_math
#print axioms PySem.Challenge.cw_washedarms_k04_whole_needless_washes_and_holds
end
