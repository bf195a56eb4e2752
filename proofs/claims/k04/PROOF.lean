import PyProof.Rows.All
import Wide.All
import OpenK.AllK
import Wide.FinOn
import HandS.ForMost
import HandS.Exc
import HandS.ExcOwn
import HandS.WordsExc
import HandS.Flow
import HandS.IsInst
import HandS.Strs
import HandS.Conv
import HandS.Zip
import HandS.Deep
import HandS.Wide
import HandS.WideBits
import HandS.TupAny
import HandS.TryOnly
import HandS.TryMany
import HandS.Style
import HandS.OwnEq
import HandS.Defaults
import HandS.More
import KE.GoesEnum
import HandS.ExcInit
import HandS.ExcField
import HandS.ExcIs
import HandS.ForSpec
import HandS.Text
import HandS.SlotsOwn
import KE.KBits
import KE.IntBitsLaws
import KE.BitLaws
import KE.OsArith
import PySem.Challenge.RW_stayskept_k04_questions_put_together
set_option Elab.async false
set_option linter.all false
set_option maxRecDepth 100000
set_option maxHeartbeats 8000000
/-! Ky1: data, what represents it, the state of a def at the level of data. -/
namespace Ky
open PySem PySem.Spec PyProof.Rows L2

/-- plain data: as Python's values, objects of own classes by a class's number and their attributes in order -/
inductive D where
  | non | bl (b : Bool) | int (i : Int) | str (s : Str) | lst (ds : List D) | tup (ds : List D) | ins (c : Nat) (ds : List D) | cel (k : Nat) | dic
/-- the classes: where they stand, their attributes -/
structure Tbl where
  cls : Nat → Addr
  att : Nat → List Str

theorem Same.sqt {K : PySem.W.Frag} {H H' : Hp} {a : Addr} {xs : List V} (e : Same H H') (h : SqT K H a xs) : SqT K H' a xs := by
  rcases h with (h | ⟨o, h⟩) | h
  · exact .inl (.inl (e _ _ h))
  · exact .inl (.inr ⟨o, e _ _ h⟩)
  · exact .inr h
/-- how a cell's place is marked among what is known -/
abbrev mk0 (k : Nat) : HO := .met k 0
def Sb (x : Option HO) : HO → Prop
  | .met _ _ => ∃ xs, x = some (.lst xs)
  | u => x = some u
/-- what is known stands so; a cell is a list -/
def Sub (G H : Hp) : Prop := ∀ a u, G a = some u → Sb (H a) u
theorem Sb.ex {x : Option HO} {u : HO} (h : Sb x u) : ∃ o, x = some o := by
  cases u <;> first | exact ⟨_, h⟩ | (obtain ⟨xs, e⟩ := h; exact ⟨_, e⟩)
theorem Sub.free {G H : Hp} (e : Sub G H) {a : Addr} (h : H a = none) : G a = none := by
  cases q : G a with
  | none => rfl
  | some u =>
    obtain ⟨o, z⟩ := (e a u q).ex
    rw [h] at z
    cases z
theorem Sub.of {G H : Hp} (e : Same G H) (h : ∀ a k j, G a ≠ some (.met k j)) : Sub G H := fun a u q => by
  have z := e a u q
  cases u <;> first | exact z | exact absurd q (h _ _ _)
theorem _root_.L2.Same.sub {G G' H : Hp} (g : Same G G') (e : Sub G' H) : Sub G H := fun a u q => e a u (g a u q)
theorem Sub.trans {G H H' : Hp} (e : Sub G H) (h : Same H H') : Sub G H' := fun a u q => by
  have z := e a u q
  cases u <;> first | exact h _ _ z | (obtain ⟨xs, w⟩ := z; exact ⟨xs, h _ _ w⟩)
theorem Sub.new {G H : Hp} (e : Sub G H) {p : Addr} {o : HO} (h : H p = none) (ho : Sb (some o) o) : Sub (upd G p o) (upd H p o) := fun a u q => by
  by_cases ha : a = p
  · subst ha
    rw [upd_same] at q ⊢
    cases q
    exact ho
  · rw [upd_ne ha] at q ⊢
    exact e a u q
theorem Sub.seq {K : PySem.W.Frag} {G H : Hp} {a : Addr} {xs : List V} (e : Sub G H) (h : SqL K G a xs) : SqL K H a xs := by
  rcases h with (h | ⟨o, h⟩) | h
  · exact .inl (.inl (e _ _ h))
  · exact .inl (.inr ⟨o, e _ _ h⟩)
  · exact .inr h
theorem Sub.sqt {K : PySem.W.Frag} {G H : Hp} {a : Addr} {xs : List V} (e : Sub G H) (h : SqT K G a xs) : SqT K H a xs := by
  rcases h with (h | ⟨o, h⟩) | h
  · exact .inl (.inl (e _ _ h))
  · exact .inl (.inr ⟨o, e _ _ h⟩)
  · exact .inr h
theorem Same.new {H : Hp} {p : Addr} {o : HO} (h : H p = none) : Same H (upd H p o) := fun a u e => by
  rw [upd_ne (ne_of_none e h)]
  exact e

section
variable (K : PySem.W.Frag) (T : Tbl)
mutual
inductive Rp (H : Hp) : V → D → Prop
  | non : Rp H .non .non
  | bl (b : Bool) : Rp H (.bl b) (.bl b)
  | int (i : Int) : Rp H (.int i) (.int i)
  | str (s : Str) : Rp H (.str s) (.str s)
  | lst {a : Addr} {xs : List V} {ds : List D} : SqL K H a xs → RpA H xs ds → Rp H (.ref a) (.lst ds)
  | tup {a : Addr} {xs : List V} {ds : List D} : SqT K H a xs → RpA H xs ds → Rp H (.ref a) (.tup ds)
  | cel {a : Addr} {k : Nat} : H a = some (mk0 k) → Rp H (.ref a) (.cel k)
  | dic {a : Addr} : H a = some (.dK []) → Rp H (.ref a) .dic
  | ins {a dx : Addr} {c : Nat} {vs : List V} {ds : List D} : H a = some (.ins (T.cls c) dx ((T.att c).zip vs)) → vs.length = (T.att c).length → RpA H vs ds → Rp H (.ref a) (.ins c ds)
inductive RpA (H : Hp) : List V → List D → Prop
  | nil : RpA H [] []
  | cons {v : V} {vs : List V} {d : D} {ds : List D} : Rp H v d → RpA H vs ds → RpA H (v :: vs) (d :: ds)
end
end
section
variable {K : PySem.W.Frag} {T : Tbl} {H H' : Hp}
mutual
theorem Rp.mono (e : Same H H') : ∀ (d : D) (v : V), Rp K T H v d → Rp K T H' v d
  | .non, v, h => by cases h; exact .non
  | .bl b, v, h => by cases h; exact .bl b
  | .int i, v, h => by cases h; exact .int i
  | .str s, v, h => by cases h; exact .str s
  | .lst ds, v, h => by cases h with | lst s r => exact .lst (e.seq s) (RpA.mono e ds _ r)
  | .tup ds, v, h => by cases h with | tup s r => exact .tup (Same.sqt e s) (RpA.mono e ds _ r)
  | .ins c ds, v, h => by cases h with | ins s l r => exact .ins (e _ _ s) l (RpA.mono e ds _ r)
  | .cel k, v, h => by cases h with | cel q => exact .cel (e _ _ q)
  | .dic, v, h => by cases h with | dic q => exact .dic (e _ _ q)
theorem RpA.mono (e : Same H H') : ∀ (ds : List D) (vs : List V), RpA K T H vs ds → RpA K T H' vs ds
  | [], vs, h => by cases h; exact .nil
  | d :: ds, vs, h => by cases h with | cons a b => exact .cons (Rp.mono e d _ a) (RpA.mono e ds _ b)
end
theorem Rp.to {d : D} {v : V} (h : Rp K T H v d) (e : Same H H') : Rp K T H' v d := Rp.mono e d v h
theorem RpA.to {ds : List D} {vs : List V} (h : RpA K T H vs ds) (e : Same H H') : RpA K T H' vs ds := RpA.mono e ds vs h
theorem RpA.length : ∀ {vs : List V} {ds : List D}, RpA K T H vs ds → vs.length = ds.length
  | _, [], h => by cases h; rfl
  | _, d :: ds, h => by cases h with | cons a b => simp [RpA.length b]
theorem RpA.get : ∀ {ds : List D} {vs : List V} {i : Nat} {d : D}, RpA K T H vs ds → ds[i]? = some d → ∃ v, vs[i]? = some v ∧ Rp K T H v d
  | [], _, _, _, _, e => by simp at e
  | d :: ds, _, 0, _, h, e => by cases h with | cons a b => simp at e; subst e; exact ⟨_, rfl, a⟩
  | d :: ds, _, i + 1, _, h, e => by
    cases h with
    | cons a b =>
      obtain ⟨v, h1, h2⟩ := RpA.get (i := i) b (by simpa using e)
      exact ⟨v, by simpa using h1, h2⟩
theorem RpA.getV : ∀ {ds : List D} {vs : List V} {i : Nat} {v : V}, RpA K T H vs ds → vs[i]? = some v → ∃ d, ds[i]? = some d ∧ Rp K T H v d
  | [], _, _, _, h, e => by cases h; simp at e
  | d :: ds, _, 0, _, h, e => by cases h with | cons a b => simp at e; subst e; exact ⟨_, rfl, a⟩
  | d :: ds, _, i + 1, _, h, e => by
    cases h with
    | cons a b =>
      obtain ⟨v, h1, h2⟩ := RpA.getV (i := i) b (by simpa using e)
      exact ⟨v, by simpa using h1, h2⟩
theorem RpA.append : ∀ {ds es : List D} {vs ws : List V}, RpA K T H vs ds → RpA K T H ws es → RpA K T H (vs ++ ws) (ds ++ es)
  | [], _, _, _, h, q => by cases h; exact q
  | d :: ds, _, _, _, h, q => by cases h with | cons a b => exact .cons a (RpA.append b q)
theorem RpA.one {d : D} {v : V} (h : Rp K T H v d) : RpA K T H [v] [d] := .cons h .nil
theorem RpA.set : ∀ {ds : List D} {vs : List V} (i : Nat) {d : D} {v : V}, RpA K T H vs ds → Rp K T H v d → RpA K T H (vs.set i v) (ds.set i d)
  | [], _, _, _, _, h, _ => by cases h; exact .nil
  | e :: ds, _, 0, _, _, h, q => by cases h with | cons a b => exact .cons q b
  | e :: ds, _, i + 1, _, _, h, q => by cases h with | cons a b => exact .cons a (RpA.set i b q)
theorem RpA.take : ∀ {ds : List D} {vs : List V} (i : Nat), RpA K T H vs ds → RpA K T H (vs.take i) (ds.take i)
  | [], _, _, h => by cases h; simp; exact .nil
  | e :: ds, _, 0, h => by cases h with | cons a b => exact .nil
  | e :: ds, _, i + 1, h => by cases h with | cons a b => exact .cons a (RpA.take i b)
theorem RpA.drop : ∀ {ds : List D} {vs : List V} (i : Nat), RpA K T H vs ds → RpA K T H (vs.drop i) (ds.drop i)
  | [], _, _, h => by cases h; simp; exact .nil
  | e :: ds, _, 0, h => by cases h with | cons a b => exact .cons a b
  | e :: ds, _, i + 1, h => by cases h with | cons a b => exact RpA.drop i b
theorem RpA.eraseIdx : ∀ {ds : List D} {vs : List V} (i : Nat), RpA K T H vs ds → RpA K T H (vs.eraseIdx i) (ds.eraseIdx i)
  | [], _, _, h => by cases h; simp; exact .nil
  | e :: ds, _, 0, h => by cases h with | cons a b => exact b
  | e :: ds, _, i + 1, h => by cases h with | cons a b => exact .cons a (RpA.eraseIdx i b)
end

/-! ### the state of a def -/
/-- what a name holds: nothing known; data that never changes; a list of the def's own (io: its caller's), nobody else's -/
inductive SC where
  | un | dat (d : D) | own (io : Bool) (ds : List D)
/-- the names; the lists that are changed through data, by their numbers -/
structure Ev where
  v : List SC
  c : List (List D) := []
def Ev.set (Γ : Ev) (i : Nat) (x : SC) : Ev := ⟨Γ.v.set i x, Γ.c⟩
def Ev.length (Γ : Ev) : Nat := Γ.v.length
instance : GetElem? Ev Nat SC (fun Γ i => i < Γ.v.length) where
  getElem Γ i h := Γ.v[i]
  getElem? Γ i := Γ.v[i]?
theorem Ev.get_def (Γ : Ev) (i : Nat) : Γ[i]? = Γ.v[i]? := rfl
theorem Ev.get_mk (l : List SC) (c : List (List D)) (i : Nat) : (⟨l, c⟩ : Ev)[i]? = l[i]? := rfl
theorem Ev.set_mk (l : List SC) (c : List (List D)) (i : Nat) (x : SC) : (⟨l, c⟩ : Ev).set i x = ⟨l.set i x, c⟩ := rfl
theorem Ev.length_mk (l : List SC) (c : List (List D)) : (⟨l, c⟩ : Ev).length = l.length := rfl
theorem Ev.length_set (Γ : Ev) (i : Nat) (x : SC) : (Γ.set i x).length = Γ.length := List.length_set ..
theorem Ev.lt {Γ : Ev} {i : Nat} {x : SC} (h : Γ[i]? = some x) : i < Γ.length := (List.getElem?_eq_some_iff.mp (show Γ.v[i]? = some x from h)).1
/-- how it was at the entry: what was known, what was there, what is the caller's own, the names -/
structure Bg where
  G0 : Hp
  H0 : Hp
  M : Addr → Prop
  σ0 : L2.St
/-- the cells: where they stand, what they hold -/
structure Cel (K : PySem.W.Frag) (T : Tbl) (B : Bg) (S : List (List D)) (G H : Hp) : Prop where
  ce : ∀ k ds, S[k]? = some ds → ∃ p xs, G p = some (mk0 k) ∧ H p = some (.lst xs) ∧ RpA K T G xs ds ∧ (B.M p ∨ B.H0 p = none)
  gi : ∀ a b k, G a = some (mk0 k) → G b = some (mk0 k) → a = b
  gn : ∀ a k, G a = some (mk0 k) → k < S.length
structure Sat (K : PySem.W.Frag) (T : Tbl) (B : Bg) (Γ : Ev) (σ : L2.St) (G H : Hp) : Prop where
  g0 : Same B.G0 G
  gh : Sub G H
  fr : ∀ a o, B.H0 a = some o → ¬ B.M a → H a = some o
  al : ∀ a o, B.H0 a = some o → ∃ u, H a = some u
  nw : ∀ a o, G a = some o → B.G0 a = some o ∨ B.H0 a = none
  len : σ.length = Γ.length
  dt : ∀ (i : Nat) d, Γ[i]? = some (SC.dat d) → ∃ v, σ[i]? = some (some v) ∧ Rp K T G v d
  ow : ∀ (i : Nat) io ds, Γ[i]? = some (SC.own io ds) → ∃ p xs, σ[i]? = some (some (V.ref p)) ∧ G p = none ∧ H p = some (.lst xs) ∧ RpA K T G xs ds ∧ (io = true → B.M p) ∧ (io = false → B.H0 p = none)
  pr : ∀ (i : Nat) ds, Γ[i]? = some (SC.own true ds) → σ[i]? = B.σ0[i]?
  cl : Cel K T B Γ.c G H
  dj : ∀ (i j : Nat) io jo ds es p, Γ[i]? = some (SC.own io ds) → Γ[j]? = some (SC.own jo es) → σ[i]? = some (some (V.ref p)) → σ[j]? = some (some (V.ref p)) → i = j
section
variable {K : PySem.W.Frag} {T : Tbl} {B : Bg} {Γ : Ev} {σ : L2.St} {G H : Hp}
theorem Sat.gnone (s : Sat K T B Γ σ G H) {p : Addr} (h : H p = none) : G p = none := s.gh.free h
theorem Sat.hnone (s : Sat K T B Γ σ G H) {p : Addr} (h : H p = none) : B.H0 p = none := by
  cases e : B.H0 p with
  | none => rfl
  | some o =>
    obtain ⟨u, q⟩ := s.al p o e
    rw [h] at q
    cases q
theorem Cel.go {S : List (List D)} {G' H' : Hp} (c : Cel K T B S G H) (g : Same G G') (h : ∀ p xs k, G p = some (mk0 k) → H p = some (.lst xs) → H' p = some (.lst xs)) (n : ∀ a k, G' a = some (mk0 k) → G a = some (mk0 k)) : Cel K T B S G' H' :=
  ⟨fun k ds e => by
    obtain ⟨p, xs, h1, h2, h3, h4⟩ := c.ce k ds e
    exact ⟨p, xs, g _ _ h1, h p xs k h1 h2, h3.to g, h4⟩, fun a b k h1 h2 => c.gi a b k (n _ _ h1) (n _ _ h2), fun a k h1 => c.gn a k (n _ _ h1)⟩
theorem upd_mark {G : Hp} {p a : Addr} {o : HO} {k : Nat} (ho : ∀ j i, o ≠ .met j i) (h : upd G p o a = some (mk0 k)) : G a = some (mk0 k) := by
  by_cases ha : a = p
  · subst ha
    rw [upd_same] at h
    cases h
    exact absurd rfl (ho _ _)
  · rwa [upd_ne ha] at h
theorem Sb.plain {o : HO} (ho : ∀ j i, o ≠ .met j i) : Sb (some o) o := by
  cases o <;> first | rfl | exact absurd rfl (ho _ _)
/-- new data that never changes -/
theorem Sat.new (s : Sat K T B Γ σ G H) {p : Addr} {o : HO} (h : H p = none) (ho : ∀ j i, o ≠ .met j i := by intro _ _ z; cases z) : Sat K T B Γ σ (upd G p o) (upd H p o) := by
  have hg := s.gnone h
  have h0 := s.hnone h
  have sg : Same G (upd G p o) := Same.new hg
  have sh : Same H (upd H p o) := Same.new h
  refine ⟨s.g0.trans sg, fun a u e => ?_, fun a u e m => sh _ _ (s.fr a u e m), fun a u e => ?_, fun a u e => ?_, s.len, fun i d e => ?_, fun i io ds e => ?_, s.pr, s.cl.go sg (fun p xs k _ e => sh _ _ e) (fun a k e => upd_mark ho e), s.dj⟩
  · exact s.gh.new h (.plain ho) a u e
  · obtain ⟨w, q⟩ := s.al a u e
    exact ⟨w, sh _ _ q⟩
  · by_cases ha : a = p
    · subst ha
      exact .inr h0
    · rw [upd_ne ha] at e
      exact s.nw a u e
  · obtain ⟨v, h1, h2⟩ := s.dt i d e
    exact ⟨v, h1, h2.to sg⟩
  · obtain ⟨q, xs, h1, h2, h3, h4, h5⟩ := s.ow i io ds e
    have hq : q ≠ p := ne_of_none h3 h
    exact ⟨q, xs, h1, by rw [upd_ne hq]; exact h2, by rw [upd_ne hq]; exact h3, h4.to sg, h5⟩
/-- new, not yet known -/
theorem Sat.newH (s : Sat K T B Γ σ G H) {p : Addr} {o : HO} (h : H p = none) : Sat K T B Γ σ G (upd H p o) := by
  have sh : Same H (upd H p o) := Same.new h
  refine ⟨s.g0, s.gh.trans sh, fun a u e m => sh _ _ (s.fr a u e m), fun a u e => ?_, s.nw, s.len, s.dt, fun i io ds e => ?_, s.pr, s.cl.go (Same.refl G) (fun p xs k _ e => sh _ _ e) (fun a k e => e), s.dj⟩
  · obtain ⟨w, q⟩ := s.al a u e
    exact ⟨w, sh _ _ q⟩
  · obtain ⟨q, xs, h1, h2, h3, h4, h5⟩ := s.ow i io ds e
    have hq : q ≠ p := ne_of_none h3 h
    exact ⟨q, xs, h1, h2, by rw [upd_ne hq]; exact h3, h4, h5⟩
/-- a name that may be stored over -/
def free (Γ : Ev) (i : Nat) : Bool := match Γ[i]? with
  | some (SC.own true _) => false
  | _ => true
theorem free_io {Γ : Ev} {i : Nat} {ds : List D} (h : free Γ i = true) (e : Γ[i]? = some (SC.own true ds)) : False := by
  unfold free at h
  rw [e] at h
  cases h
theorem getl_set {α : Type} {l : List α} {i j : Nat} {x y : α} (h : (l.set i x)[j]? = some y) : (i = j ∧ y = x ∧ j < l.length) ∨ (i ≠ j ∧ l[j]? = some y) := by
  by_cases e : i = j
  · subst e
    by_cases hl : i < l.length
    · rw [List.getElem?_set_self hl] at h
      exact .inl ⟨rfl, (Option.some.inj h).symm, hl⟩
    · rw [List.getElem?_eq_none (by simpa using hl)] at h
      cases h
  · rw [List.getElem?_set_ne e] at h
    exact .inr ⟨e, h⟩
theorem get_set {Γ : Ev} {i j : Nat} {x y : SC} (h : (Γ.set i x)[j]? = some y) : (i = j ∧ y = x ∧ j < Γ.length) ∨ (i ≠ j ∧ Γ[j]? = some y) := getl_set (l := Γ.v) h
theorem Ev.set_here {Γ : Ev} {i : Nat} {x : SC} (h : i < Γ.length) : (Γ.set i x)[i]? = some x := List.getElem?_set_self h
theorem Ev.set_past {Γ : Ev} {i j : Nat} {x : SC} (h : i ≠ j) : (Γ.set i x)[j]? = Γ[j]? := List.getElem?_set_ne h
theorem set_here {α : Type} {l : List α} {i : Nat} {x : α} (h : i < l.length) : (l.set i x)[i]? = some x := List.getElem?_set_self h
theorem set_past {α : Type} {l : List α} {i j : Nat} {x : α} (h : i ≠ j) : (l.set i x)[j]? = l[j]? := List.getElem?_set_ne h
/-- a store of data -/
theorem Sat.set (s : Sat K T B Γ σ G H) {i : Nat} {d : D} {v : V} (hf : free Γ i = true) (r : Rp K T G v d) : Sat K T B (Γ.set i (.dat d)) (σ.set i (some v)) G H := by
  refine ⟨s.g0, s.gh, s.fr, s.al, s.nw, by rw [List.length_set, Ev.length_set]; exact s.len, fun j e h => ?_, fun j io ds h => ?_, fun j ds h => ?_, s.cl, fun j k io jo ds es p h1 h2 h3 h4 => ?_⟩
  · rcases get_set h with ⟨rfl, e1, hl⟩ | ⟨hn, h⟩
    · cases e1
      exact ⟨v, set_here (by rw [s.len]; exact hl), r⟩
    · obtain ⟨w, q1, q2⟩ := s.dt j e h
      exact ⟨w, by rw [set_past hn]; exact q1, q2⟩
  · rcases get_set h with ⟨rfl, e1, hl⟩ | ⟨hn, h⟩
    · cases e1
    · obtain ⟨p, xs, q1, q2⟩ := s.ow j io ds h
      exact ⟨p, xs, by rw [set_past hn]; exact q1, q2⟩
  · rcases get_set h with ⟨rfl, e1, hl⟩ | ⟨hn, h⟩
    · cases e1
    · rw [set_past hn]
      exact s.pr j ds h
  · rcases get_set h1 with ⟨rfl, e1, hl⟩ | ⟨hn, h1⟩
    · cases e1
    · rcases get_set h2 with ⟨rfl, e2, hl⟩ | ⟨hn2, h2⟩
      · cases e2
      · rw [set_past hn] at h3
        rw [set_past hn2] at h4
        exact s.dj j k io jo ds es p h1 h2 h3 h4
/-- a name is forgotten -/
theorem Sat.forget (s : Sat K T B Γ σ G H) {i : Nat} (x : Option V) : Sat K T B (Γ.set i .un) (σ.set i x) G H := by
  refine ⟨s.g0, s.gh, s.fr, s.al, s.nw, by rw [List.length_set, Ev.length_set]; exact s.len, fun j e h => ?_, fun j io ds h => ?_, fun j ds h => ?_, s.cl, fun j k io jo ds es p h1 h2 h3 h4 => ?_⟩
  · rcases get_set h with ⟨rfl, e1, hl⟩ | ⟨hn, h⟩
    · cases e1
    · obtain ⟨w, q1, q2⟩ := s.dt j e h
      exact ⟨w, by rw [set_past hn]; exact q1, q2⟩
  · rcases get_set h with ⟨rfl, e1, hl⟩ | ⟨hn, h⟩
    · cases e1
    · obtain ⟨p, xs, q1, q2⟩ := s.ow j io ds h
      exact ⟨p, xs, by rw [set_past hn]; exact q1, q2⟩
  · rcases get_set h with ⟨rfl, e1, hl⟩ | ⟨hn, h⟩
    · cases e1
    · rw [set_past hn]
      exact s.pr j ds h
  · rcases get_set h1 with ⟨rfl, e1, hl⟩ | ⟨hn, h1⟩
    · cases e1
    · rcases get_set h2 with ⟨rfl, e2, hl⟩ | ⟨hn2, h2⟩
      · cases e2
      · rw [set_past hn] at h3
        rw [set_past hn2] at h4
        exact s.dj j k io jo ds es p h1 h2 h3 h4
/-- a store of a list of one's own: p is no other name's -/
theorem Sat.setOwn (s : Sat K T B Γ σ G H) {i : Nat} {p : Addr} {xs : List V} {ds : List D} (hf : free Γ i = true) (hg : G p = none) (hp : H p = some (.lst xs)) (r : RpA K T G xs ds) (h0 : B.H0 p = none)
    (hn : ∀ (j : Nat) io es, Γ[j]? = some (SC.own io es) → σ[j]? ≠ some (some (V.ref p))) : Sat K T B (Γ.set i (.own false ds)) (σ.set i (some (V.ref p))) G H := by
  refine ⟨s.g0, s.gh, s.fr, s.al, s.nw, by rw [List.length_set, Ev.length_set]; exact s.len, fun j e h => ?_, fun j io es h => ?_, fun j es h => ?_, s.cl, fun j k io jo es fs q h1 h2 h3 h4 => ?_⟩
  · rcases get_set h with ⟨rfl, e1, hl⟩ | ⟨hn, h⟩
    · cases e1
    · obtain ⟨w, q1, q2⟩ := s.dt j e h
      exact ⟨w, by rw [set_past hn]; exact q1, q2⟩
  · rcases get_set h with ⟨rfl, e1, hl⟩ | ⟨hn, h⟩
    · cases e1
      exact ⟨p, xs, set_here (by rw [s.len]; exact hl), hg, hp, r, (fun z => by cases z), fun _ => h0⟩
    · obtain ⟨q, ys, q1, q2⟩ := s.ow j io es h
      exact ⟨q, ys, by rw [set_past hn]; exact q1, q2⟩
  · rcases get_set h with ⟨rfl, e1, hl⟩ | ⟨hn, h⟩
    · cases e1
    · rw [set_past hn]
      exact s.pr j es h
  · rcases get_set h1 with ⟨rfl, e1, hl⟩ | ⟨hn1, h1⟩
    · rcases get_set h2 with ⟨rfl, e2, hl2⟩ | ⟨hn2, h2⟩
      · rfl
      · rw [set_here (by rw [s.len]; exact hl)] at h3
        rw [set_past hn2] at h4
        cases h3
        exact absurd h4 (hn k jo fs h2)
    · rcases get_set h2 with ⟨rfl, e2, hl2⟩ | ⟨hn2, h2⟩
      · rw [set_here (by rw [s.len]; exact hl2)] at h4
        rw [set_past hn1] at h3
        cases h4
        exact absurd h3 (hn j io es h1)
      · rw [set_past hn1] at h3
        rw [set_past hn2] at h4
        exact s.dj j k io jo es fs q h1 h2 h3 h4
/-- one's own list is changed -/
theorem Sat.mut (s : Sat K T B Γ σ G H) {i : Nat} {io : Bool} {p : Addr} {ys : List V} {ds es : List D} (hi : Γ[i]? = some (SC.own io ds)) (hp : σ[i]? = some (some (V.ref p))) (r : RpA K T G ys es) :
    Sat K T B (Γ.set i (.own io es)) σ G (upd H p (.lst ys)) := by
  obtain ⟨q, xs, h1, hg, hh, h4, h5, h6⟩ := s.ow i io ds hi
  rw [hp] at h1
  cases h1
  have hl : i < Γ.length := Ev.lt hi
  have oth : ∀ (j : Nat) jo fs, Γ[j]? = some (SC.own jo fs) → i ≠ j → σ[j]? ≠ some (some (V.ref p)) := fun j jo fs h hn z => hn (s.dj i j io jo ds fs p hi h hp z)
  refine ⟨s.g0, fun a u e => ?_, fun a u e m => ?_, fun a u e => ?_, s.nw, by rw [Ev.length_set]; exact s.len, fun j e h => ?_, fun j jo fs h => ?_, fun j fs h => ?_, s.cl.go (Same.refl G) (fun p' xs k e1 e2 => by rw [upd_ne (ne_of_none e1 hg)]; exact e2) (fun a k e => e), fun j k jo ko fs gs q h1 h2 h3 h4 => ?_⟩
  · rw [upd_ne (ne_of_none e hg)]
    exact s.gh _ _ e
  · have hne : a ≠ p := by
      rintro rfl
      cases io with
      | true => exact m (h5 rfl)
      | false => rw [h6 rfl] at e; cases e
    rw [upd_ne hne]
    exact s.fr a u e m
  · by_cases ha : a = p
    · subst ha
      exact ⟨_, upd_same⟩
    · rw [upd_ne ha]
      exact s.al a u e
  · rcases get_set h with ⟨rfl, e1, hl⟩ | ⟨hn, h⟩
    · cases e1
    · exact s.dt j e h
  · rcases get_set h with ⟨rfl, e1, hl⟩ | ⟨hn, h⟩
    · cases e1
      exact ⟨p, ys, hp, hg, upd_same, r, h5, h6⟩
    · obtain ⟨q, zs, q1, q2, q3, q4⟩ := s.ow j jo fs h
      have hq : q ≠ p := by
        rintro rfl
        exact oth j jo fs h hn q1
      exact ⟨q, zs, q1, q2, by rw [upd_ne hq]; exact q3, q4⟩
  · rcases get_set h with ⟨rfl, e1, hl⟩ | ⟨hn, h⟩
    · cases e1
      exact s.pr i ds hi
    · exact s.pr j fs h
  · have w1 : ∃ io fs, Γ[j]? = some (SC.own io fs) := by
      rcases get_set h1 with ⟨rfl, e1, hl⟩ | ⟨hn, h1⟩
      · exact ⟨_, _, hi⟩
      · exact ⟨_, _, h1⟩
    have w2 : ∃ io fs, Γ[k]? = some (SC.own io fs) := by
      rcases get_set h2 with ⟨rfl, e1, hl⟩ | ⟨hn, h2⟩
      · exact ⟨_, _, hi⟩
      · exact ⟨_, _, h2⟩
    obtain ⟨_, _, w1⟩ := w1
    obtain ⟨_, _, w2⟩ := w2
    exact s.dj j k _ _ _ _ q w1 w2 h3 h4
/-- one's own list is given away: from now on it never changes -/
theorem Sat.frz (s : Sat K T B Γ σ G H) {i : Nat} {p : Addr} {xs : List V} {ds : List D} (hi : Γ[i]? = some (SC.own false ds)) (hp : σ[i]? = some (some (V.ref p))) (hx : H p = some (.lst xs)) (r : RpA K T G xs ds) :
    Sat K T B (Γ.set i (.dat (.lst ds))) σ (upd G p (.lst xs)) H ∧ Same G (upd G p (.lst xs)) := by
  obtain ⟨q, zs, h1, hg, hh, h4, h5, h6⟩ := s.ow i false ds hi
  rw [hp] at h1
  cases h1
  have sg : Same G (upd G p (.lst xs)) := Same.new hg
  refine ⟨⟨s.g0.trans sg, fun a u e => ?_, s.fr, s.al, fun a u e => ?_, by rw [Ev.length_set]; exact s.len, fun j e h => ?_, fun j jo fs h => ?_, fun j fs h => ?_, s.cl.go sg (fun _ _ _ _ e => e) (fun a k e => upd_mark (by intro _ _ z; cases z) e), fun j k jo ko fs gs q h1 h2 h3 h4 => ?_⟩, sg⟩
  · by_cases ha : a = p
    · subst ha
      rw [upd_same] at e
      cases e
      exact hx
    · rw [upd_ne ha] at e
      exact s.gh _ _ e
  · by_cases ha : a = p
    · subst ha
      exact .inr (h6 rfl)
    · rw [upd_ne ha] at e
      exact s.nw a u e
  · rcases get_set h with ⟨rfl, e1, hl⟩ | ⟨hn, h⟩
    · cases e1
      exact ⟨.ref p, hp, .lst (.of upd_same) (r.to sg)⟩
    · obtain ⟨w, q1, q2⟩ := s.dt j e h
      exact ⟨w, q1, q2.to sg⟩
  · rcases get_set h with ⟨rfl, e1, hl⟩ | ⟨hn, h⟩
    · cases e1
    · obtain ⟨q, zs, q1, q2, q3, q4, q5⟩ := s.ow j jo fs h
      have hq : q ≠ p := by
        rintro rfl
        exact hn (s.dj i j false jo ds fs q hi h hp q1)
      exact ⟨q, zs, q1, by rw [upd_ne hq]; exact q2, q3, q4.to sg, q5⟩
  · rcases get_set h with ⟨rfl, e1, hl⟩ | ⟨hn, h⟩
    · cases e1
    · exact s.pr j fs h
  · rcases get_set h1 with ⟨rfl, e1, hl⟩ | ⟨hn, h1⟩
    · cases e1
    · rcases get_set h2 with ⟨rfl, e2, hl⟩ | ⟨hn2, h2⟩
      · cases e2
      · exact s.dj j k jo ko fs gs q h1 h2 h3 h4
end
end Ky
/-! Ky2: what an expression gives, at the level of data; operators, displays, tests. -/
namespace Ky
open PySem PySem.Spec PyProof.Rows L2

/-- how an expression ends: a datum and the state behind it; an error of an own class with its one value -/
inductive Out where
  | ok (d : D) (Γ : Ev) | exc (c : Nat) (d : D) (Γ : Ev)
/-- .. that gives a new list, nobody's so far -/
inductive OutL where
  | ok (ds : List D) (Γ : Ev) | exc (c : Nat) (d : D) (Γ : Ev)
/-- .. a truth -/
inductive OutB where
  | ok (b : Bool) (Γ : Ev) | exc (c : Nat) (d : D) (Γ : Ev)
/-- an operand: a datum; what a name holds when all operands are there -/
inductive Ag where
  | now (d : D) | pk (i : Nat) | io (i : Nat)
inductive OutA where
  | ok (l : List Ag) (Γ : Ev) | exc (c : Nat) (d : D) (Γ : Ev)
/-- one operand -/
inductive OutG where
  | ok (a : Ag) (Γ : Ev) | exc (c : Nat) (d : D) (Γ : Ev)
abbrev MG := Ev → Option OutG
abbrev ME := Ev → Option Out
abbrev ML := Ev → Option OutL
abbrev MB := Ev → Option OutB
abbrev MA := Ev → Option OutA

section
variable (K : PySem.W.Frag) (T : Tbl) (W : WX)
/-- what is wanted when an error leaves -/
def ExcP (B : Bg) (σ : L2.St) (G : Hp) (c : Nat) (d : D) (Γ' : Ev) : Prop :=
  ∀ dx v G' H', Sat K T B Γ' σ G' H' → Same G G' → G' dx = some (.xd [(((T.att c).getD 0 Str.empty), v)]) → Rp K T G' v d → W (.ref (T.cls c)) (some dx) σ H'
def rd (f : ME) : TE := fun σ H Q => ∃ B Γ G o, f Γ = some o ∧ Sat K T B Γ σ G H ∧ match o with
  | .ok d Γ' => ∀ v G' H', Sat K T B Γ' σ G' H' → Same G G' → Rp K T G' v d → Q v H'
  | .exc c d Γ' => ExcP K T W B σ G c d Γ'
def rdL (f : ML) : TE := fun σ H Q => ∃ B Γ G o, f Γ = some o ∧ Sat K T B Γ σ G H ∧ match o with
  | .ok ds Γ' => ∀ p xs G' H', Sat K T B Γ' σ G' H' → Same G G' → G' p = none → H' p = some (.lst xs) → RpA K T G' xs ds → B.H0 p = none →
      (∀ (j : Nat) io es, Γ'[j]? = some (SC.own io es) → σ[j]? ≠ some (some (V.ref p))) → Q (.ref p) H'
  | .exc c d Γ' => ExcP K T W B σ G c d Γ'
def rdT (f : MB) : TT := fun σ H Q => ∃ B Γ G o, f Γ = some o ∧ Sat K T B Γ σ G H ∧ match o with
  | .ok b Γ' => ∀ G' H', Sat K T B Γ' σ G' H' → Same G G' → Q b H'
  | .exc c d Γ' => ExcP K T W B σ G c d Γ'
/-- an operand stands for a value -/
def AgOk (G : Hp) (σ : L2.St) (v : V) : Ag → Prop
  | .now d => Rp K T G v d
  | .pk i => σ[i]? = some (some v)
  | .io i => σ[i]? = some (some v)
inductive AgsOk (G : Hp) (σ : L2.St) : List V → List Ag → Prop
  | nil : AgsOk G σ [] []
  | cons {v : V} {vs : List V} {a : Ag} {l : List Ag} : AgOk K T G σ v a → AgsOk G σ vs l → AgsOk G σ (v :: vs) (a :: l)
def rdG (f : MG) : TE := fun σ H Q => ∃ B Γ G o, f Γ = some o ∧ Sat K T B Γ σ G H ∧ match o with
  | .ok a Γ' => ∀ v G' H', Sat K T B Γ' σ G' H' → Same G G' → AgOk K T G' σ v a → Q v H'
  | .exc c d Γ' => ExcP K T W B σ G c d Γ'
def rdA (f : MA) : TA := fun σ H Q => ∃ B Γ G o, f Γ = some o ∧ Sat K T B Γ σ G H ∧ match o with
  | .ok l Γ' => ∀ vs G' H', Sat K T B Γ' σ G' H' → Same G G' → AgsOk K T G' σ vs l → Q vs H'
  | .exc c d Γ' => ExcP K T W B σ G c d Γ'
end
/-! ### weaker readings -/
theorem PE.imp {X : Cx} {e : Expr} {t t' : TE} (h : PE X e t) (i : ∀ σ H Q, t' σ H Q → t σ H Q) : PE X e t' := ⟨fun pins s σ H Q I q => h.run pins s σ H Q I (i σ H Q q)⟩
theorem PT.imp {X : Cx} {e : Expr} {t t' : TT} (h : PT X e t) (i : ∀ σ H Q, t' σ H Q → t σ H Q) : PT X e t' := ⟨fun pins s σ H Q I q => h.run pins s σ H Q I (i σ H Q q)⟩
theorem PW.imp {X : Cx} {e : Expr} {t t' : TT} (h : PW X e t) (i : ∀ σ H Q, t' σ H Q → t σ H Q) : PW X e t' := ⟨fun wh pins s σ H Q I q => h.run wh pins s σ H Q I (i σ H Q q)⟩
theorem PA.imp {X : Cx} {es : List Expr} {t t' : TA} (h : PA X es t) (i : ∀ σ H Q, t' σ H Q → t σ H Q) : PA X es t' := ⟨fun pos pins s σ H Q I q => h.run pos pins s σ H Q I (i σ H Q q)⟩

section
variable {K : PySem.W.Frag} {T : Tbl} {W : WX} {B : Bg} {Γ : Ev} {σ : L2.St} {G H : Hp}
theorem ExcP.to {c : Nat} {d : D} {Γ' : Ev} {G1 : Hp} (h : ExcP K T W B σ G c d Γ') (e : Same G G1) : ExcP K T W B σ G1 c d Γ' := fun dx v G' H' s g x r => h dx v G' H' s (e.trans g) x r
theorem AgOk.to {G' : Hp} {v : V} : ∀ {a : Ag}, AgOk K T G σ v a → Same G G' → AgOk K T G' σ v a
  | .now d, h, e => Rp.to (show Rp K T G v d from h) e
  | .pk i, h, e => h
  | .io i, h, e => h
theorem AgsOk.to {G' : Hp} : ∀ {l : List Ag} {vs : List V}, AgsOk K T G σ vs l → Same G G' → AgsOk K T G' σ vs l
  | [], _, h, e => by cases h; exact .nil
  | a :: l, _, h, e => by cases h with | cons x y => exact .cons (AgOk.to x e) (AgsOk.to y e)
theorem AgsOk.length : ∀ {l : List Ag} {vs : List V}, AgsOk K T G σ vs l → vs.length = l.length
  | [], _, h => by cases h; rfl
  | a :: l, _, h => by cases h with | cons x y => simp [AgsOk.length y]

/-! ### what an operand is worth: to be read, not to be kept -/
inductive RpS (K : PySem.W.Frag) (T : Tbl) (G H : Hp) : V → D → Prop
  | rp {v : V} {d : D} : Rp K T G v d → RpS K T G H v d
  | own {p : Addr} {xs : List V} {ds : List D} : H p = some (.lst xs) → RpA K T G xs ds → RpS K T G H (.ref p) (.lst ds)
inductive RpSA (K : PySem.W.Frag) (T : Tbl) (G H : Hp) : List V → List D → Prop
  | nil : RpSA K T G H [] []
  | cons {v : V} {vs : List V} {d : D} {ds : List D} : RpS K T G H v d → RpSA K T G H vs ds → RpSA K T G H (v :: vs) (d :: ds)
/-- a list, a tuple that is read -/
theorem RpS.lst (e : Sub G H) {v : V} {ds : List D} (h : RpS K T G H v (.lst ds)) : ∃ p xs, v = .ref p ∧ SqL K H p xs ∧ RpA K T G xs ds := by
  cases h with
  | rp r => cases r with | lst s r => exact ⟨_, _, rfl, e.seq s, r⟩
  | own hp r => exact ⟨_, _, rfl, .of hp, r⟩
theorem RpS.tup (e : Sub G H) {v : V} {ds : List D} (h : RpS K T G H v (.tup ds)) : ∃ p xs, v = .ref p ∧ SqT K H p xs ∧ RpA K T G xs ds := by
  cases h with
  | rp r => cases r with | tup s r => exact ⟨_, _, rfl, Sub.sqt e s, r⟩
theorem RpS.int {v : V} {i : Int} (h : RpS K T G H v (.int i)) : v = .int i := by
  cases h with | rp r => cases r; rfl
theorem RpS.bl {v : V} {b : Bool} (h : RpS K T G H v (.bl b)) : v = .bl b := by
  cases h with | rp r => cases r; rfl
theorem RpS.str {v : V} {z : Str} (h : RpS K T G H v (.str z)) : v = .str z := by
  cases h with | rp r => cases r; rfl
theorem RpS.non {v : V} (h : RpS K T G H v .non) : v = .non := by
  cases h with | rp r => cases r; rfl
/-- a cell is read as the list that it is -/
def res (Γ : Ev) : D → D
  | .cel k => (match Γ.c[k]? with
    | some ds => .lst ds
    | none => .cel k)
  | d => d
theorem res_nil (l : List SC) (d : D) : res ⟨l, []⟩ d = d := by cases d <;> rfl
theorem Sat.res (s : Sat K T B Γ σ G H) {v : V} {d : D} (r : Rp K T G v d) : RpS K T G H v (Ky.res Γ d) := by
  cases d with
  | cel k =>
    unfold Ky.res
    dsimp only
    split
    · rename_i ds q
      obtain ⟨p, xs, h1, h2, h3, h4⟩ := s.cl.ce k ds q
      cases r with
      | cel h =>
        have e := s.cl.gi _ _ _ h h1
        subst e
        exact .own h2 h3
    · exact .rp r
  | _ => exact .rp r
/-- what a name holds, to be read -/
def look (Γ : Ev) (i : Nat) : Option D := match Γ[i]? with
  | some (.dat d) => some (res Γ d)
  | some (.own _ ds) => some (.lst ds)
  | _ => none
/-- the operands' data -/
def worth (Γ : Ev) : Ag → Option D
  | .now d => some (res Γ d)
  | .pk i => look Γ i
  | .io _ => none
def worths (Γ : Ev) : List Ag → Option (List D)
  | [] => some []
  | a :: l => match worth Γ a, worths Γ l with
    | some d, some ds => some (d :: ds)
    | _, _ => none
theorem Sat.look (s : Sat K T B Γ σ G H) {i : Nat} {v : V} {d : D} (h : σ[i]? = some (some v)) (w : Ky.look Γ i = some d) : RpS K T G H v d := by
  unfold Ky.look at w
  split at w
  · rename_i e q
    cases w
    obtain ⟨u, h1, h2⟩ := s.dt i _ q
    rw [h] at h1
    cases h1
    exact s.res h2
  · rename_i io es q
    cases w
    obtain ⟨p, xs, h1, h2, h3, h4, _⟩ := s.ow i _ _ q
    rw [h] at h1
    cases h1
    exact .own h3 h4
  · cases w
theorem Sat.worth (s : Sat K T B Γ σ G H) {v : V} {d : D} : ∀ {a : Ag}, AgOk K T G σ v a → Ky.worth Γ a = some d → RpS K T G H v d
  | .now e, h, w => by
    cases (Option.some.inj w)
    exact s.res h
  | .pk i, h, w => s.look h w
  | .io i, h, w => nomatch w
theorem Sat.worths (s : Sat K T B Γ σ G H) : ∀ {l : List Ag} {vs : List V} {ds : List D}, AgsOk K T G σ vs l → Ky.worths Γ l = some ds → RpSA K T G H vs ds
  | [], _, _, h, w => by cases h; cases w; exact .nil
  | a :: l, _, ds, h, w => by
    cases h with
    | cons x y =>
      unfold Ky.worths at w
      split at w
      · rename_i d es q1 q2
        cases w
        exact .cons (s.worth x q1) (s.worths y q2)
      · cases w

/-! ### names, constants -/
def mVar (i : Nat) : ME := fun Γ => match Γ[i]? with
  | some (.dat d) => some (.ok d Γ)
  | some (.own false ds) => some (.ok (.lst ds) (Γ.set i (.dat (.lst ds))))
  | _ => none
theorem rd_var {i : Nat} {Q : VK} (h : rd K T W (mVar i) σ H Q) : tVar i σ H Q := by
  obtain ⟨B, Γ, G, o, hf, s, k⟩ := h
  unfold mVar at hf
  split at hf
  · rename_i d q
    cases hf
    obtain ⟨v, h1, h2⟩ := s.dt i d q
    exact ⟨v, h1, k v G H s (Same.refl G) h2⟩
  · rename_i ds q
    cases hf
    obtain ⟨p, xs, h1, h2, h3, h4, h5, h6⟩ := s.ow i false ds q
    obtain ⟨s', sg⟩ := s.frz q h1 h3 h4
    exact ⟨.ref p, h1, k _ _ _ s' sg (.lst (.of upd_same) (h4.to sg))⟩
  · cases hf
def mCon (d : D) : ME := fun Γ => some (.ok d Γ)
theorem rd_con {v : V} {d : D} {Q : VK} (r : ∀ G, Rp K T G v d) (h : rd K T W (mCon d) σ H Q) : tC v σ H Q := by
  obtain ⟨B, Γ, G, o, hf, s, k⟩ := h
  cases hf
  exact k v G H s (Same.refl G) (r G)
/-! ### operands -/
def mNow (f : ME) : MG := fun Γ => match f Γ with
  | some (.ok d Γ') => some (.ok (.now d) Γ')
  | some (.exc c d Γ') => some (.exc c d Γ')
  | none => none
/-- a name: it must hold something -/
def mPk (i : Nat) : MG := fun Γ => match look Γ i with
  | some _ => some (.ok (.pk i) Γ)
  | none => none
/-- a name whose list is handed on to be changed -/
def mIo (i : Nat) : MG := fun Γ => match Γ[i]? with
  | some (.own _ _) => some (.ok (.io i) Γ)
  | _ => none
def mNil : MA := fun Γ => some (.ok [] Γ)
def mCons (a : MG) (b : MA) : MA := fun Γ => match a Γ with
  | some (.ok x Γ1) => (match b Γ1 with
    | some (.ok r Γ2) => some (.ok (x :: r) Γ2)
    | some (.exc c d Γ2) => some (.exc c d Γ2)
    | none => none)
  | some (.exc c d Γ1) => some (.exc c d Γ1)
  | none => none
theorem Sat.slot (s : Sat K T B Γ σ G H) {i : Nat} {d : D} (w : Ky.look Γ i = some d) : ∃ v, σ[i]? = some (some v) := by
  unfold Ky.look at w
  split at w
  · rename_i e q
    obtain ⟨u, h1, h2⟩ := s.dt i _ q
    exact ⟨u, h1⟩
  · rename_i io es q
    obtain ⟨p, xs, h1, h2⟩ := s.ow i _ _ q
    exact ⟨_, h1⟩
  · cases w
theorem rdG_now {f : ME} {Q : VK} (h : rdG K T W (mNow f) σ H Q) : rd K T W f σ H Q := by
  obtain ⟨B, Γ, G, o, hf, s, k⟩ := h
  unfold mNow at hf
  split at hf
  · rename_i d Γ' q
    cases hf
    exact ⟨B, Γ, G, _, q, s, fun v G' H' s' g r => k v G' H' s' g r⟩
  · rename_i c d Γ' q
    cases hf
    exact ⟨B, Γ, G, _, q, s, k⟩
  · cases hf
theorem rdG_pk {i : Nat} {Q : VK} (h : rdG K T W (mPk i) σ H Q) : tVar i σ H Q := by
  obtain ⟨B, Γ, G, o, hf, s, k⟩ := h
  unfold mPk at hf
  split at hf
  · rename_i d q
    cases hf
    obtain ⟨v, hv⟩ := s.slot q
    exact ⟨v, hv, k v G H s (Same.refl G) hv⟩
  · cases hf
theorem rdG_io {i : Nat} {Q : VK} (h : rdG K T W (mIo i) σ H Q) : tVar i σ H Q := by
  obtain ⟨B, Γ, G, o, hf, s, k⟩ := h
  unfold mIo at hf
  split at hf
  · rename_i io ds q
    cases hf
    obtain ⟨p, xs, h1, h2⟩ := s.ow i _ _ q
    exact ⟨_, h1, k _ G H s (Same.refl G) h1⟩
  · cases hf
theorem rdA_nil {Q : List V → Hp → Prop} (h : rdA K T W mNil σ H Q) : tNil σ H Q := by
  obtain ⟨B, Γ, G, o, hf, s, k⟩ := h
  cases hf
  exact k [] G H s (Same.refl G) .nil
theorem rdA_cons {f : MG} {g : MA} {Q : List V → Hp → Prop} (h : rdA K T W (mCons f g) σ H Q) : tCons (rdG K T W f) (rdA K T W g) σ H Q := by
  obtain ⟨B, Γ, G, o, hf, s, k⟩ := h
  unfold mCons at hf
  split at hf
  · rename_i x Γ1 q1
    refine ⟨B, Γ, G, _, q1, s, fun v G1 H1 s1 g1 r1 => ?_⟩
    split at hf
    · rename_i r Γ2 q2
      cases hf
      exact ⟨B, Γ1, G1, _, q2, s1, fun vs G2 H2 s2 g2 r2 => k (v :: vs) G2 H2 s2 (g1.trans g2) (.cons (r1.to g2) r2)⟩
    · rename_i c d Γ2 q2
      cases hf
      exact ⟨B, Γ1, G1, _, q2, s1, ExcP.to k g1⟩
    · cases hf
  · rename_i c d Γ1 q1
    cases hf
    exact ⟨B, Γ, G, _, q1, s, k⟩
  · cases hf
/-! ### from operands to a datum -/
/-- nothing new, or one new thing that never changes -/
def New (G H G' H' : Hp) : Prop := (G' = G ∧ H' = H) ∨ ∃ p o, H p = none ∧ (∀ j i, o ≠ .met j i) ∧ G' = upd G p o ∧ H' = upd H p o
theorem Sat.news {G' H' : Hp} (s : Sat K T B Γ σ G H) (n : New G H G' H') : Sat K T B Γ σ G' H' ∧ Same G G' := by
  rcases n with ⟨rfl, rfl⟩ | ⟨p, o, hp, ho, rfl, rfl⟩
  · exact ⟨s, Same.refl _⟩
  · exact ⟨s.new hp ho, Same.new (s.gnone hp)⟩
abbrev R1 := V → Hp → VK → Prop
abbrev RN := List V → Hp → VK → Prop
def Ok2 (K : PySem.W.Frag) (T : Tbl) (r : R2) (p : D → D → Option D) : Prop := ∀ {d1 d2 d : D} {x y : V} {G H : Hp}, p d1 d2 = some d → Sub G H → RpS K T G H x d1 → RpS K T G H y d2 → ∀ Q : VK, (∀ v G' H', New G H G' H' → Rp K T G' v d → Q v H') → r x y H Q
def Ok1 (K : PySem.W.Frag) (T : Tbl) (r : R1) (p : D → Option D) : Prop := ∀ {d1 d : D} {x : V} {G H : Hp}, p d1 = some d → Sub G H → RpS K T G H x d1 → ∀ Q : VK, (∀ v G' H', New G H G' H' → Rp K T G' v d → Q v H') → r x H Q
def OkN (K : PySem.W.Frag) (T : Tbl) (r : RN) (p : List D → Option D) : Prop := ∀ {ds : List D} {d : D} {vs : List V} {G H : Hp}, p ds = some d → Sub G H → RpSA K T G H vs ds → ∀ Q : VK, (∀ v G' H', New G H G' H' → Rp K T G' v d → Q v H') → r vs H Q
/-- .. to a new list -/
def Ok2L (K : PySem.W.Frag) (T : Tbl) (r : R2) (p : D → D → Option (List D)) : Prop := ∀ {d1 d2 : D} {ds : List D} {x y : V} {G H : Hp}, p d1 d2 = some ds → Sub G H → RpS K T G H x d1 → RpS K T G H y d2 → ∀ Q : VK, (∀ p xs, H p = none → RpA K T G xs ds → Q (.ref p) (upd H p (.lst xs))) → r x y H Q
def OkNL (K : PySem.W.Frag) (T : Tbl) (r : RN) (p : List D → Option (List D)) : Prop := ∀ {ds : List D} {es : List D} {vs : List V} {G H : Hp}, p ds = some es → Sub G H → RpSA K T G H vs ds → ∀ Q : VK, (∀ p xs, H p = none → RpA K T G xs es → Q (.ref p) (upd H p (.lst xs))) → r vs H Q
/-- operands, then the operation -/
def mOp (p : List D → Option D) (as : MA) : ME := fun Γ => match as Γ with
  | some (.ok l Γ') => (match worths Γ' l with
    | some ds => (match p ds with
      | some d => some (.ok d Γ')
      | none => none)
    | none => none)
  | some (.exc c d Γ') => some (.exc c d Γ')
  | none => none
def mOpL (p : List D → Option (List D)) (as : MA) : ML := fun Γ => match as Γ with
  | some (.ok l Γ') => (match worths Γ' l with
    | some ds => (match p ds with
      | some d => some (.ok d Γ')
      | none => none)
    | none => none)
  | some (.exc c d Γ') => some (.exc c d Γ')
  | none => none
def p2 {α : Type} (p : D → D → Option α) : List D → Option α
  | [a, b] => p a b
  | _ => none
def p1 {α : Type} (p : D → Option α) : List D → Option α
  | [a] => p a
  | _ => none
theorem rd_op {p : List D → Option D} {as : MA} {ta : TA} {r : RN} {Q : VK} (hr : OkN K T r p) (ha : ∀ Q, rdA K T W as σ H Q → ta σ H Q) (h : rd K T W (mOp p as) σ H Q) : ta σ H fun vs H1 => r vs H1 Q := by
  obtain ⟨B, Γ, G, o, hf, s, k⟩ := h
  refine ha _ ?_
  unfold mOp at hf
  split at hf
  · rename_i l Γ' q
    refine ⟨B, Γ, G, _, q, s, fun vs G' H' s' g a => ?_⟩
    split at hf
    · rename_i ds q2
      split at hf
      · rename_i d q3
        cases hf
        refine hr q3 s'.gh (s'.worths a q2) Q fun v G2 H2 n rv => ?_
        obtain ⟨s2, g2⟩ := s'.news n
        exact k v G2 H2 s2 (g.trans g2) rv
      · cases hf
    · cases hf
  · rename_i c d Γ' q
    cases hf
    exact ⟨B, Γ, G, _, q, s, k⟩
  · cases hf
theorem rd_opL {p : List D → Option (List D)} {as : MA} {ta : TA} {r : RN} {Q : VK} (hr : OkNL K T r p) (ha : ∀ Q, rdA K T W as σ H Q → ta σ H Q) (h : rdL K T W (mOpL p as) σ H Q) : ta σ H fun vs H1 => r vs H1 Q := by
  obtain ⟨B, Γ, G, o, hf, s, k⟩ := h
  refine ha _ ?_
  unfold mOpL at hf
  split at hf
  · rename_i l Γ' q
    refine ⟨B, Γ, G, _, q, s, fun vs G' H' s' g a => ?_⟩
    split at hf
    · rename_i ds q2
      split at hf
      · rename_i d q3
        cases hf
        refine hr q3 s'.gh (s'.worths a q2) Q fun p xs hp rx => ?_
        exact k p xs G' _ (s'.newH hp) g (s'.gnone hp) upd_same rx (s'.hnone hp) fun j io es hj z => by
          obtain ⟨w, ys, h1, h2, h3, h4⟩ := s'.ow j io es hj
          rw [z] at h1
          cases h1
          rw [hp] at h3
          cases h3
      · cases hf
    · cases hf
  · rename_i c d Γ' q
    cases hf
    exact ⟨B, Γ, G, _, q, s, k⟩
  · cases hf
theorem Ok2.n {r : R2} {p : D → D → Option D} (h : Ok2 K T r p) : OkN K T (fun vs H Q => ∃ x y, vs = [x, y] ∧ r x y H Q) (p2 p) := by
  intro ds d vs G H q e a Q k
  match ds, q with
  | [d1, d2], q =>
    cases a with
    | cons a1 a =>
      cases a with
      | cons a2 a =>
        cases a
        exact ⟨_, _, rfl, h q e a1 a2 Q k⟩
theorem Ok2L.n {r : R2} {p : D → D → Option (List D)} (h : Ok2L K T r p) : OkNL K T (fun vs H Q => ∃ x y, vs = [x, y] ∧ r x y H Q) (p2 p) := by
  intro ds d vs G H q e a Q k
  match ds, q with
  | [d1, d2], q =>
    cases a with
    | cons a1 a =>
      cases a with
      | cons a2 a =>
        cases a
        exact ⟨_, _, rfl, h q e a1 a2 Q k⟩
theorem Ok1.n {r : R1} {p : D → Option D} (h : Ok1 K T r p) : OkN K T (fun vs H Q => ∃ x, vs = [x] ∧ r x H Q) (p1 p) := by
  intro ds d vs G H q e a Q k
  match ds, q with
  | [d1], q =>
    cases a with
    | cons a1 a =>
      cases a
      exact ⟨_, rfl, h q e a1 Q k⟩
/-- two operands -/
def mA2 (f g : MG) : MA := mCons f (mCons g mNil)
def mA1 (f : MG) : MA := mCons f mNil
theorem rdA_2 {f g : MG} {Q : List V → Hp → Prop} (h : rdA K T W (mA2 f g) σ H Q) : rdG K T W f σ H fun x H1 => rdG K T W g σ H1 fun y H2 => Q [x, y] H2 := by
  obtain ⟨B, Γ, G, o, hf, s, k⟩ := rdA_cons h
  refine ⟨B, Γ, G, o, hf, s, ?_⟩
  cases o with
  | exc c d Γ' => exact k
  | ok a Γ' =>
    intro v G' H' s' g' r'
    obtain ⟨B2, Γ2, G2, o2, hf2, s2, k2⟩ := rdA_cons (k v G' H' s' g' r')
    refine ⟨B2, Γ2, G2, o2, hf2, s2, ?_⟩
    cases o2 with
    | exc c d Γ' => exact k2
    | ok a Γ' =>
      intro v2 G3 H3 s3 g3 r3
      exact rdA_nil (k2 v2 G3 H3 s3 g3 r3)
theorem rdA_1 {f : MG} {Q : List V → Hp → Prop} (h : rdA K T W (mA1 f) σ H Q) : rdG K T W f σ H fun x H1 => Q [x] H1 := by
  obtain ⟨B, Γ, G, o, hf, s, k⟩ := rdA_cons h
  refine ⟨B, Γ, G, o, hf, s, ?_⟩
  cases o with
  | exc c d Γ' => exact k
  | ok a Γ' =>
    intro v G' H' s' g' r'
    exact rdA_nil (k v G' H' s' g' r')
theorem rdG.imp {f : MG} {Q Q' : VK} (h : rdG K T W f σ H Q) (i : ∀ v H', Q v H' → Q' v H') : rdG K T W f σ H Q' := by
  obtain ⟨B, Γ, G, o, hf, s, k⟩ := h
  refine ⟨B, Γ, G, o, hf, s, ?_⟩
  cases o with
  | exc c d Γ' => exact k
  | ok a Γ' => exact fun v G' H' s' g' r' => i v H' (k v G' H' s' g' r')
end
section
variable {X : Cx} {T : Tbl} {W : WX} {e a b : Expr} {es : List Expr} {pos : Pos}
theorem jg_now {f : ME} (h : PE X e (rd X.K T W f)) : PE X e (rdG X.K T W (mNow f)) := PE.imp h fun σ H Q q => rdG_now q
theorem jg_pk {i : Nat} {x : Str} {p : Pos} (h : PE X (.Name x p) (tVar i)) : PE X (.Name x p) (rdG X.K T W (mPk i)) := PE.imp h fun σ H Q q => rdG_pk q
theorem jg_io {i : Nat} {x : Str} {p : Pos} (h : PE X (.Name x p) (tVar i)) : PE X (.Name x p) (rdG X.K T W (mIo i)) := PE.imp h fun σ H Q q => rdG_io q
theorem je_var {i : Nat} {x : Str} {p : Pos} (h : PE X (.Name x p) (tVar i)) : PE X (.Name x p) (rd X.K T W (mVar i)) := PE.imp h fun σ H Q q => rd_var q
theorem je_con {v : V} {d : D} (h : PE X e (tC v)) (r : ∀ G, Rp X.K T G v d) : PE X e (rd X.K T W (mCon d)) := PE.imp h fun σ H Q q => rd_con r q
theorem je_int {i : Int} {j} : PE X (.Constant (.int i) j pos) (rd X.K T W (mCon (.int i))) := je_con pe_int fun _ => .int i
theorem je_bl {i : Bool} {j} : PE X (.Constant (.bool i) j pos) (rd X.K T W (mCon (.bl i))) := je_con pe_bl fun _ => .bl i
theorem je_non {j} : PE X (.Constant .none j pos) (rd X.K T W (mCon .non)) := je_con pe_non fun _ => .non
theorem je_str {z : Str} {j} : PE X (.Constant (.str z) j pos) (rd X.K T W (mCon (.str z))) := je_con pe_str fun _ => .str z
theorem ja_nil : PA X [] (rdA X.K T W mNil) := PA.imp pa_nil fun σ H Q q => rdA_nil q
theorem ja_cons {f : MG} {g : MA} (h1 : PE X e (rdG X.K T W f)) (h2 : PA X es (rdA X.K T W g)) (hs : starEach (e :: es) X.env = (false, eval e X.env) :: starEach es X.env := by rfl) : PA X (e :: es) (rdA X.K T W (mCons f g)) :=
  PA.imp (pa_cons h1 h2 hs) fun σ H Q q => rdA_cons q
theorem ja_1 {f : MG} (h1 : PE X e (rdG X.K T W f)) (hs : starEach [e] X.env = (false, eval e X.env) :: starEach [] X.env := by rfl) : PA X [e] (rdA X.K T W (mA1 f)) := ja_cons h1 ja_nil hs
/-- a op b -/
theorem je_op2 {op : Operator} {r : R2} {p : D → D → Option D} {f g : MG} (ho : OpR X (binaryOp op) r) (hr : Ok2 X.K T r p) (h1 : PE X a (rdG X.K T W f)) (h2 : PE X b (rdG X.K T W g)) : PE X (.BinOp a op b pos) (rd X.K T W (mOp (p2 p) (mA2 f g))) :=
  PE.imp (pe_op ho h1 h2) fun σ H Q q => by
    have z := rdA_2 (rd_op (ta := rdA X.K T W (mA2 f g)) hr.n (fun _ z => z) q)
    exact z.imp fun x H1 z1 => z1.imp fun y H2 ⟨x', y', e, z2⟩ => by
      cases e
      exact z2
theorem jl_op2 {op : Operator} {r : R2} {p : D → D → Option (List D)} {f g : MG} (ho : OpR X (binaryOp op) r) (hr : Ok2L X.K T r p) (h1 : PE X a (rdG X.K T W f)) (h2 : PE X b (rdG X.K T W g)) : PE X (.BinOp a op b pos) (rdL X.K T W (mOpL (p2 p) (mA2 f g))) :=
  PE.imp (pe_op ho h1 h2) fun σ H Q q => by
    have z := rdA_2 (rd_opL (ta := rdA X.K T W (mA2 f g)) hr.n (fun _ z => z) q)
    exact z.imp fun x H1 z1 => z1.imp fun y H2 ⟨x', y', e, z2⟩ => by
      cases e
      exact z2
/-- a op b, a comparison -/
theorem je_cmp {op : CmpOp} {r : R2} {p : D → D → Option D} {f g : MG} (ho : OpR X (compareOp op) r) (hr : Ok2 X.K T r p) (h1 : PE X a (rdG X.K T W f)) (h2 : PE X b (rdG X.K T W g)) (hm : behindInMarks op b = false) : PE X (.Compare a [op] [b] pos) (rd X.K T W (mOp (p2 p) (mA2 f g))) :=
  PE.imp (pe_cmpR ho h1 h2 hm) fun σ H Q q => by
    have z := rdA_2 (rd_op (ta := rdA X.K T W (mA2 f g)) hr.n (fun _ z => z) q)
    exact z.imp fun x H1 z1 => z1.imp fun y H2 ⟨x', y', e, z2⟩ => by
      cases e
      exact z2
/-- op a -/
theorem je_op1 {op : UnaryOp} {r : R1} {p : D → Option D} {f : MG} (ho : UnR X (unaryOp op) r) (hr : Ok1 X.K T r p) (h1 : PE X a (rdG X.K T W f)) (ht : ∀ (x1 : PE X a (rdG X.K T W f)), PE X (.UnaryOp op a pos) (tUn r (rdG X.K T W f))) : PE X (.UnaryOp op a pos) (rd X.K T W (mOp (p1 p) (mA1 f))) :=
  PE.imp (ht h1) fun σ H Q q => by
    have z := rdA_1 (rd_op (ta := rdA X.K T W (mA1 f)) hr.n (fun _ z => z) q)
    exact z.imp fun x H1 ⟨x', e, z2⟩ => by
      cases e
      exact z2
/-- a[b] -/
theorem je_ix {r : R2} {p : D → D → Option D} {f g : MG} (ho : IxR X r) (hr : Ok2 X.K T r p) (h1 : PE X a (rdG X.K T W f)) (h2 : PE X b (rdG X.K T W g)) (hs : PlainIx b) : PE X (.Subscript a b pos) (rd X.K T W (mOp (p2 p) (mA2 f g))) :=
  PE.imp (pe_ix ho h1 h2 hs) fun σ H Q q => by
    have z := rdA_2 (rd_op (ta := rdA X.K T W (mA2 f g)) hr.n (fun _ z => z) q)
    exact z.imp fun x H1 z1 => z1.imp fun y H2 ⟨x', y', e, z2⟩ => by
      cases e
      exact z2
end
end Ky
/-! Ky3: displays, new lists as data, tests, and, or, not, a if c else b, chains, built-ins, attributes. -/
namespace Ky
open PySem PySem.Spec PyProof.Rows L2

def nows : List Ag → Option (List D)
  | [] => some []
  | .now d :: l => (match nows l with
    | some ds => some (d :: ds)
    | none => none)
  | _ :: _ => none
section
variable {K : PySem.W.Frag} {T : Tbl} {W : WX} {B : Bg} {Γ : Ev} {σ : L2.St} {G H : Hp}
theorem nows_ok : ∀ {l : List Ag} {vs : List V} {ds : List D}, AgsOk K T G σ vs l → nows l = some ds → RpA K T G vs ds
  | [], _, _, h, e => by cases h; cases e; exact .nil
  | .now d :: l, _, ds, h, e => by
    cases h with
    | cons x y =>
      unfold nows at e
      split at e
      · rename_i es q
        cases e
        exact .cons x (nows_ok y q)
      · cases e
  | .pk i :: l, _, _, h, e => nomatch e
  | .io i :: l, _, _, h, e => nomatch e
/-! ### displays -/
def mTup (as : MA) : ME := fun Γ => match as Γ with
  | some (.ok l Γ') => (match nows l with
    | some ds => if ds.length ≤ 1000 then some (.ok (.tup ds) Γ') else none
    | none => none)
  | some (.exc c d Γ') => some (.exc c d Γ')
  | none => none
def mLst (as : MA) : ML := fun Γ => match as Γ with
  | some (.ok l Γ') => (match nows l with
    | some ds => if ds.length ≤ 1000 then some (.ok ds Γ') else none
    | none => none)
  | some (.exc c d Γ') => some (.exc c d Γ')
  | none => none
theorem small_len {vs : List V} {ds : List D} (r : RpA K T G vs ds) (h : ds.length ≤ 1000) : vs.length ≤ sizeLine := by
  rw [r.length]
  exact Nat.le_trans h (by decide)
theorem rd_tup {as : MA} {Q : VK} (h : rd K T W (mTup as) σ H Q) : tTup (rdA K T W as) σ H Q := by
  obtain ⟨B, Γ, G, o, hf, s, k⟩ := h
  unfold mTup at hf
  split at hf
  · rename_i l Γ' q
    refine ⟨B, Γ, G, _, q, s, fun vs G' H' s' g a => ?_⟩
    split at hf
    · rename_i ds q2
      split at hf
      · rename_i hl
        cases hf
        have r := nows_ok a q2
        refine ⟨small_len r hl, fun p hp => ?_⟩
        have sg : Same G' (upd G' p (.tup vs)) := Same.new (s'.gnone hp)
        exact k _ _ _ (s'.new hp) (g.trans sg) (.tup (.of upd_same) (r.to sg))
      · cases hf
    · cases hf
  · rename_i c d Γ' q
    cases hf
    exact ⟨B, Γ, G, _, q, s, k⟩
  · cases hf
theorem rdL_lst {as : MA} {Q : VK} (h : rdL K T W (mLst as) σ H Q) : tLst (rdA K T W as) σ H Q := by
  obtain ⟨B, Γ, G, o, hf, s, k⟩ := h
  unfold mLst at hf
  split at hf
  · rename_i l Γ' q
    refine ⟨B, Γ, G, _, q, s, fun vs G' H' s' g a => ?_⟩
    split at hf
    · rename_i ds q2
      split at hf
      · rename_i hl
        cases hf
        have r := nows_ok a q2
        refine ⟨small_len r hl, fun p hp => ?_⟩
        exact k p vs G' _ (s'.newH hp) g (s'.gnone hp) upd_same r (s'.hnone hp) fun j io es hj z => by
          obtain ⟨w, ys, h1, h2, h3, h4⟩ := s'.ow j io es hj
          rw [z] at h1
          cases h1
          rw [hp] at h3
          cases h3
      · cases hf
    · cases hf
  · rename_i c d Γ' q
    cases hf
    exact ⟨B, Γ, G, _, q, s, k⟩
  · cases hf
/-! ### a new list that is not changed any more -/
theorem Sat.know (s : Sat K T B Γ σ G H) {p : Addr} {o : HO} (hg : G p = none) (hp : H p = some o) (h0 : B.H0 p = none) (hn : ∀ (j : Nat) io es, Γ[j]? = some (SC.own io es) → σ[j]? ≠ some (some (V.ref p))) (ho : ∀ j i, o ≠ .met j i := by intro _ _ z; cases z) : Sat K T B Γ σ (upd G p o) H := by
  have sg : Same G (upd G p o) := Same.new hg
  refine ⟨s.g0.trans sg, fun a u e => ?_, s.fr, s.al, fun a u e => ?_, s.len, fun j d h => ?_, fun j io es h => ?_, s.pr, s.cl.go sg (fun _ _ _ _ e => e) (fun a k e => upd_mark ho e), s.dj⟩
  · by_cases ha : a = p
    · subst ha
      rw [upd_same] at e
      cases e
      rw [hp]
      exact .plain ho
    · rw [upd_ne ha] at e
      exact s.gh _ _ e
  · by_cases ha : a = p
    · subst ha
      exact .inr h0
    · rw [upd_ne ha] at e
      exact s.nw a u e
  · obtain ⟨v, h1, h2⟩ := s.dt j d h
    exact ⟨v, h1, h2.to sg⟩
  · obtain ⟨q, xs, h1, h2, h3, h4, h5⟩ := s.ow j io es h
    have hq : q ≠ p := by
      rintro rfl
      exact hn j io es h h1
    exact ⟨q, xs, h1, by rw [upd_ne hq]; exact h2, h3, h4.to sg, h5⟩
def mFz (f : ML) : ME := fun Γ => match f Γ with
  | some (.ok ds Γ') => some (.ok (.lst ds) Γ')
  | some (.exc c d Γ') => some (.exc c d Γ')
  | none => none
theorem rd_fz {f : ML} {Q : VK} (h : rd K T W (mFz f) σ H Q) : rdL K T W f σ H Q := by
  obtain ⟨B, Γ, G, o, hf, s, k⟩ := h
  unfold mFz at hf
  split at hf
  · rename_i ds Γ' q
    cases hf
    refine ⟨B, Γ, G, _, q, s, fun p xs G' H' s' g hg hp r h0 hn => ?_⟩
    have sg : Same G' (upd G' p (.lst xs)) := Same.new hg
    exact k _ _ _ (s'.know hg hp h0 hn) (g.trans sg) (.lst (.of upd_same) (r.to sg))
  · rename_i c d Γ' q
    cases hf
    exact ⟨B, Γ, G, _, q, s, k⟩
  · cases hf
/-! ### tests -/
def truth : D → Option Bool
  | .non => some false
  | .bl b => some b
  | .int i => some (i != 0)
  | .str z => if z.length ≤ 100000 then some ((z.length : Int) != 0) else none
  | .lst ds => some (!ds.isEmpty)
  | .tup ds => some (!ds.isEmpty)
  | .ins _ _ => none
  | .cel _ => none
  | .dic => none
theorem RpA.emp {vs : List V} {ds : List D} (r : RpA K T G vs ds) : vs.isEmpty = ds.isEmpty := by
  cases r <;> rfl
theorem truth_ok {v : V} {d : D} {b : Bool} (e : Sub G H) (r : RpS K T G H v d) (h : truth d = some b) : TruV K v H b := by
  cases d with
  | non => rw [r.non]; cases h; rfl
  | bl c => rw [r.bl]; cases h; rfl
  | int i => rw [r.int]; cases h; rfl
  | str z =>
    rw [r.str]
    have h' : (if z.length ≤ 100000 then some ((z.length : Int) != 0) else none) = some b := h
    by_cases hz : z.length ≤ 100000
    · rw [if_pos hz] at h'
      cases h'
      exact ⟨Nat.le_trans hz (show (100000 : Nat) ≤ sizeLine by decide), rfl⟩
    · rw [if_neg hz] at h'
      cases h'
  | lst ds =>
    obtain ⟨p, xs, rfl, hq, ra⟩ := r.lst e
    cases h
    exact .inl ⟨xs, hq, by rw [ra.emp]⟩
  | tup ds =>
    obtain ⟨p, xs, rfl, hq, ra⟩ := r.tup e
    cases h
    exact .inr (.inl ⟨xs, hq, by rw [ra.emp]⟩)
  | ins c ds => cases h
  | cel k => cases h
  | dic => cases h
/-- a value's truth -/
def mTru (g : MG) : MB := fun Γ => match g Γ with
  | some (.ok a Γ') => (match worth Γ' a with
    | some d => (match truth d with
      | some b => some (.ok b Γ')
      | none => none)
    | none => none)
  | some (.exc c d Γ') => some (.exc c d Γ')
  | none => none
theorem rdT_tru {g : MG} {Q : Bool → Hp → Prop} (h : rdT K T W (mTru g) σ H Q) : rdG K T W g σ H fun x H' => ∃ k, TruV K x H' k ∧ Q k H' := by
  obtain ⟨B, Γ, G, o, hf, s, k⟩ := h
  unfold mTru at hf
  split at hf
  · rename_i a Γ' q
    refine ⟨B, Γ, G, _, q, s, fun v G' H' s' g' r => ?_⟩
    split at hf
    · rename_i d q2
      split at hf
      · rename_i b q3
        cases hf
        exact ⟨b, truth_ok s'.gh (s'.worth r q2) q3, k G' H' s' g'⟩
      · cases hf
    · cases hf
  · rename_i c d Γ' q
    cases hf
    exact ⟨B, Γ, G, _, q, s, k⟩
  · cases hf
/-- an expression that gives a truth -/
def mB (f : ME) : MB := fun Γ => match f Γ with
  | some (.ok d Γ') => (match d with
    | .bl b => some (.ok b Γ')
    | _ => none)
  | some (.exc c d Γ') => some (.exc c d Γ')
  | none => none
theorem rdT_B {f : ME} {Q : Bool → Hp → Prop} (h : rdT K T W (mB f) σ H Q) : rd K T W f σ H fun x H' => ∃ k, x = .bl k ∧ Q k H' := by
  obtain ⟨B, Γ, G, o, hf, s, k⟩ := h
  unfold mB at hf
  split at hf
  · rename_i d Γ' q
    refine ⟨B, Γ, G, _, q, s, fun v G' H' s' g' r => ?_⟩
    split at hf
    · rename_i b
      cases hf
      cases r
      exact ⟨b, rfl, k G' H' s' g'⟩
    · cases hf
  · rename_i c d Γ' q
    cases hf
    exact ⟨B, Γ, G, _, q, s, k⟩
  · cases hf
def mAnd (f g : MB) : MB := fun Γ => match f Γ with
  | some (.ok b Γ') => if b then g Γ' else some (.ok false Γ')
  | some (.exc c d Γ') => some (.exc c d Γ')
  | none => none
def mOr (f g : MB) : MB := fun Γ => match f Γ with
  | some (.ok b Γ') => if b then some (.ok true Γ') else g Γ'
  | some (.exc c d Γ') => some (.exc c d Γ')
  | none => none
def mNot (f : MB) : MB := fun Γ => match f Γ with
  | some (.ok b Γ') => some (.ok (!b) Γ')
  | some (.exc c d Γ') => some (.exc c d Γ')
  | none => none
theorem rdT_and {f g : MB} {Q : Bool → Hp → Prop} (h : rdT K T W (mAnd f g) σ H Q) : tAnd (rdT K T W f) (rdT K T W g) σ H Q := by
  obtain ⟨B, Γ, G, o, hf, s, k⟩ := h
  unfold mAnd at hf
  split at hf
  · rename_i b Γ' q
    refine ⟨B, Γ, G, _, q, s, fun G' H' s' g' => ?_⟩
    cases b with
    | true =>
      rw [if_pos rfl] at hf
      show rdT K T W g σ H' Q
      refine ⟨B, Γ', G', _, hf, s', ?_⟩
      cases o with
      | ok b Γ2 => exact fun G2 H2 s2 g2 => k G2 H2 s2 (g'.trans g2)
      | exc c d Γ2 => exact ExcP.to k g'
    | false =>
      cases hf
      exact k G' H' s' g'
  · rename_i c d Γ' q
    cases hf
    exact ⟨B, Γ, G, _, q, s, k⟩
  · cases hf
theorem rdT_or {f g : MB} {Q : Bool → Hp → Prop} (h : rdT K T W (mOr f g) σ H Q) : tOr (rdT K T W f) (rdT K T W g) σ H Q := by
  obtain ⟨B, Γ, G, o, hf, s, k⟩ := h
  unfold mOr at hf
  split at hf
  · rename_i b Γ' q
    refine ⟨B, Γ, G, _, q, s, fun G' H' s' g' => ?_⟩
    cases b with
    | false =>
      have hf : g Γ' = some o := hf
      show rdT K T W g σ H' Q
      refine ⟨B, Γ', G', _, hf, s', ?_⟩
      cases o with
      | ok b Γ2 => exact fun G2 H2 s2 g2 => k G2 H2 s2 (g'.trans g2)
      | exc c d Γ2 => exact ExcP.to k g'
    | true =>
      cases hf
      exact k G' H' s' g'
  · rename_i c d Γ' q
    cases hf
    exact ⟨B, Γ, G, _, q, s, k⟩
  · cases hf
theorem rdT_not {f : MB} {Q : Bool → Hp → Prop} (h : rdT K T W (mNot f) σ H Q) : tNot (rdT K T W f) σ H Q := by
  obtain ⟨B, Γ, G, o, hf, s, k⟩ := h
  unfold mNot at hf
  split at hf
  · rename_i b Γ' q
    cases hf
    exact ⟨B, Γ, G, _, q, s, fun G' H' s' g' => k G' H' s' g'⟩
  · rename_i c d Γ' q
    cases hf
    exact ⟨B, Γ, G, _, q, s, k⟩
  · cases hf
/-- a if c else b -/
def mIf (c : MB) (f g : ME) : ME := fun Γ => match c Γ with
  | some (.ok b Γ') => if b then f Γ' else g Γ'
  | some (.exc c d Γ') => some (.exc c d Γ')
  | none => none
theorem rd_if {c : MB} {f g : ME} {Q : VK} (h : rd K T W (mIf c f g) σ H Q) : tIf (rdT K T W c) (rd K T W f) (rd K T W g) σ H Q := by
  obtain ⟨B, Γ, G, o, hf, s, k⟩ := h
  unfold mIf at hf
  split at hf
  · rename_i b Γ' q
    refine ⟨B, Γ, G, _, q, s, fun G' H' s' g' => ?_⟩
    have fin : ∀ {z : ME}, z Γ' = some o → rd K T W z σ H' Q := fun {z} hz => ⟨B, Γ', G', _, hz, s', by
      cases o with
      | ok d Γ2 => exact fun v G2 H2 s2 g2 r => k v G2 H2 s2 (g'.trans g2) r
      | exc c d Γ2 => exact ExcP.to k g'⟩
    cases b with
    | true => exact fin hf
    | false => exact fin hf
  · rename_i c d Γ' q
    cases hf
    exact ⟨B, Γ, G, _, q, s, k⟩
  · cases hf
/-- x and y, x or y, not x as values -/
def mAndV (f g : ME) : ME := fun Γ => match f Γ with
  | some (.ok d Γ') => (match truth d with
    | some true => g Γ'
    | some false => some (.ok d Γ')
    | none => none)
  | some (.exc c d Γ') => some (.exc c d Γ')
  | none => none
def mOrV (f g : ME) : ME := fun Γ => match f Γ with
  | some (.ok d Γ') => (match truth d with
    | some true => some (.ok d Γ')
    | some false => g Γ'
    | none => none)
  | some (.exc c d Γ') => some (.exc c d Γ')
  | none => none
def mNotV (g : MG) : ME := fun Γ => match mTru g Γ with
  | some (.ok b Γ') => some (.ok (.bl (!b)) Γ')
  | some (.exc c d Γ') => some (.exc c d Γ')
  | none => none
theorem rd_andV {f g : ME} {Q : VK} (h : rd K T W (mAndV f g) σ H Q) : tAndT K (rd K T W f) (rd K T W g) σ H Q := by
  obtain ⟨B, Γ, G, o, hf, s, k⟩ := h
  unfold mAndV at hf
  split at hf
  · rename_i d Γ' q
    refine ⟨B, Γ, G, _, q, s, fun v G' H' s' g' r => ?_⟩
    split at hf
    · rename_i q2
      refine ⟨true, truth_ok s'.gh (.rp r) q2, ?_⟩
      rw [if_pos rfl]
      refine ⟨B, Γ', G', _, hf, s', ?_⟩
      cases o with
      | ok d Γ2 => exact fun v G2 H2 s2 g2 r => k v G2 H2 s2 (g'.trans g2) r
      | exc c d Γ2 => exact ExcP.to k g'
    · rename_i q2
      cases hf
      refine ⟨false, truth_ok s'.gh (.rp r) q2, ?_⟩
      rw [if_neg Bool.false_ne_true]
      exact k v G' H' s' g' r
    · cases hf
  · rename_i c d Γ' q
    cases hf
    exact ⟨B, Γ, G, _, q, s, k⟩
  · cases hf
theorem rd_orV {f g : ME} {Q : VK} (h : rd K T W (mOrV f g) σ H Q) : tOrT K (rd K T W f) (rd K T W g) σ H Q := by
  obtain ⟨B, Γ, G, o, hf, s, k⟩ := h
  unfold mOrV at hf
  split at hf
  · rename_i d Γ' q
    refine ⟨B, Γ, G, _, q, s, fun v G' H' s' g' r => ?_⟩
    split at hf
    · rename_i q2
      cases hf
      refine ⟨true, truth_ok s'.gh (.rp r) q2, ?_⟩
      rw [if_pos rfl]
      exact k v G' H' s' g' r
    · rename_i q2
      refine ⟨false, truth_ok s'.gh (.rp r) q2, ?_⟩
      rw [if_neg Bool.false_ne_true]
      refine ⟨B, Γ', G', _, hf, s', ?_⟩
      cases o with
      | ok d Γ2 => exact fun v G2 H2 s2 g2 r => k v G2 H2 s2 (g'.trans g2) r
      | exc c d Γ2 => exact ExcP.to k g'
    · cases hf
  · rename_i c d Γ' q
    cases hf
    exact ⟨B, Γ, G, _, q, s, k⟩
  · cases hf
theorem rd_notV {g : MG} {Q : VK} (h : rd K T W (mNotV g) σ H Q) : tNotT K (rdG K T W g) σ H Q := by
  obtain ⟨B, Γ, G, o, hf, s, k⟩ := h
  unfold mNotV at hf
  split at hf
  · rename_i b Γ' q
    cases hf
    exact rdT_tru (Q := fun k H' => Q (.bl (!k)) H') ⟨B, Γ, G, _, q, s, fun G' H' s' g' => k _ G' H' s' g' (.bl _)⟩
  · rename_i c d Γ' q
    cases hf
    exact rdT_tru (Q := fun k H' => Q (.bl (!k)) H') ⟨B, Γ, G, _, q, s, k⟩
  · cases hf
/-- a op b op' c -/
def mChain (p p' : D → D → Option D) (f g h : MG) : ME := fun Γ => match mA2 f g Γ with
  | some (.ok [x, y] Γ1) => (match worth Γ1 x, worth Γ1 y with
    | some d1, some d2 => (match p d1 d2 with
      | some (.bl true) => (match h Γ1 with
        | some (.ok z Γ2) => (match worth Γ2 y, worth Γ2 z with
          | some e1, some e2 => (match p' e1 e2 with
            | some d => some (.ok d Γ2)
            | none => none)
          | _, _ => none)
        | some (.exc c d Γ') => some (.exc c d Γ')
        | none => none)
      | some (.bl false) => some (.ok (.bl false) Γ1)
      | _ => none)
    | _, _ => none)
  | some (.exc c d Γ') => some (.exc c d Γ')
  | _ => none
theorem rd_chain {p p' : D → D → Option D} {r r' : R2} {f g h : MG} {Q : VK} (hr : Ok2 K T r p) (hr' : Ok2 K T r' p') (q : rd K T W (mChain p p' f g h) σ H Q) : tChain r r' (rdG K T W f) (rdG K T W g) (rdG K T W h) σ H Q := by
  obtain ⟨B, Γ, G, o, hf, s, k⟩ := q
  unfold mChain at hf
  have fin : rdA K T W (mA2 f g) σ H fun vs H2 => ∃ x y, vs = [x, y] ∧ r x y H2 fun z H3 => ∃ kk, z = .bl kk ∧ (if kk = true then rdG K T W h σ H3 fun w' H4 => r' y w' H4 Q else Q (.bl false) H3) := by
    split at hf
    · rename_i x y Γ1 q1
      refine ⟨B, Γ, G, _, q1, s, fun vs G1 H1 s1 g1 a1 => ?_⟩
      cases a1 with
      | cons ax a1 =>
        cases a1 with
        | cons ay a1 =>
          cases a1
          rename_i vx vy
          refine ⟨vx, vy, rfl, ?_⟩
          split at hf
          · rename_i d1 d2 w1 w2
            split at hf
            · rename_i q2
              refine hr q2 s1.gh (s1.worth ax w1) (s1.worth ay w2) _ fun v G2 H2 n rv => ?_
              obtain ⟨s2, g2⟩ := s1.news n
              cases rv
              refine ⟨true, rfl, ?_⟩
              rw [if_pos rfl]
              split at hf
              · rename_i z Γ2 q3
                refine ⟨B, Γ1, G2, _, q3, s2, fun vz G3 H3 s3 g3 az => ?_⟩
                split at hf
                · rename_i e1 e2 w3 w4
                  split at hf
                  · rename_i d q4
                    cases hf
                    refine hr' q4 s3.gh (s3.worth (ay.to (g2.trans g3)) w3) (s3.worth az w4) Q fun v G4 H4 n rv => ?_
                    obtain ⟨s4, g4⟩ := s3.news n
                    exact k v G4 H4 s4 (((g1.trans g2).trans g3).trans g4) rv
                  · cases hf
                · cases hf
              · rename_i c d Γ' q3
                cases hf
                exact ⟨B, Γ1, G2, _, q3, s2, ExcP.to k (g1.trans g2)⟩
              · cases hf
            · rename_i q2
              cases hf
              refine hr q2 s1.gh (s1.worth ax w1) (s1.worth ay w2) _ fun v G2 H2 n rv => ?_
              obtain ⟨s2, g2⟩ := s1.news n
              cases rv
              refine ⟨false, rfl, ?_⟩
              rw [if_neg Bool.false_ne_true]
              exact k _ G2 H2 s2 (g1.trans g2) (.bl _)
            · cases hf
          · cases hf
    · rename_i c d Γ' q1
      cases hf
      exact ⟨B, Γ, G, _, q1, s, k⟩
    · cases hf
  exact (rdA_2 fin).imp fun x H1 z1 => z1.imp fun y H2 ⟨x', y', e, z2⟩ => by
    cases e
    exact z2
end
section
variable {X : Cx} {T : Tbl} {W : WX} {e a b c : Expr} {es rest : List Expr} {pos : Pos}
theorem je_tup {as : MA} {k} (h : PA X es (rdA X.K T W as)) : PE X (.Tuple es k pos) (rd X.K T W (mTup as)) := PE.imp (pe_tup h) fun σ H Q q => rd_tup q
theorem jl_lst {as : MA} (h : PA X es (rdA X.K T W as)) : PE X (.List es pos) (rdL X.K T W (mLst as)) := PE.imp (pe_lst h) fun σ H Q q => rdL_lst q
theorem je_fz {f : ML} (h : PE X e (rdL X.K T W f)) : PE X e (rd X.K T W (mFz f)) := PE.imp h fun σ H Q q => rd_fz q
theorem jt_tru {g : MG} (h : PE X e (rdG X.K T W g)) (he : ∀ whole, isTrue e X.env whole = (do let v ← whole; standAt e.pos; holding [v] (truthy v)) := by intro _; rfl) : PT X e (rdT X.K T W (mTru g)) := PT.imp (pt_truth h he) fun σ H Q q => rdT_tru q
theorem jt_cmp {op : CmpOp} {r : R2} {p : D → D → Option D} {f g : MG} (ho : OpR X (compareOp op) r) (hr : Ok2 X.K T r p) (h1 : PE X a (rdG X.K T W f)) (h2 : PE X b (rdG X.K T W g)) (hm : behindInMarks op b = false) : PT X (.Compare a [op] [b] pos) (rdT X.K T W (mB (mOp (p2 p) (mA2 f g)))) :=
  PT.imp (pt_cmpR ho h1 h2 hm) fun σ H Q q => by
    have z := rdA_2 (rd_op (ta := rdA X.K T W (mA2 f g)) hr.n (fun _ z => z) (rdT_B q))
    exact z.imp fun x H1 z1 => z1.imp fun y H2 ⟨x', y', e, z2⟩ => by
      cases e
      exact z2
theorem je_chain {op op' : CmpOp} {r r' : R2} {p p' : D → D → Option D} {f g h : MG} (ho : OpR X (compareOp op) r) (ho' : OpR X (compareOp op') r') (hr : Ok2 X.K T r p) (hr' : Ok2 X.K T r' p') (h1 : PE X a (rdG X.K T W f)) (h2 : PE X b (rdG X.K T W g)) (h3 : PE X c (rdG X.K T W h))
    (hm : lastMarks [op, op'] [b, c] = false := by with_unfolding_all rfl) : PE X (.Compare a [op, op'] [b, c] pos) (rd X.K T W (mChain p p' f g h)) := PE.imp (pe_chain ho ho' h1 h2 h3 hm) fun σ H Q q => rd_chain hr hr' q
theorem jt_chain {op op' : CmpOp} {r r' : R2} {p p' : D → D → Option D} {f g h : MG} (ho : OpR X (compareOp op) r) (ho' : OpR X (compareOp op') r') (hr : Ok2 X.K T r p) (hr' : Ok2 X.K T r' p') (h1 : PE X a (rdG X.K T W f)) (h2 : PE X b (rdG X.K T W g)) (h3 : PE X c (rdG X.K T W h))
    (hm : lastMarks [op, op'] [b, c] = false := by with_unfolding_all rfl) : PT X (.Compare a [op, op'] [b, c] pos) (rdT X.K T W (mB (mChain p p' f g h))) := PT.imp (pt_chain ho ho' h1 h2 h3 hm) fun σ H Q q => rd_chain hr hr' (rdT_B q)
theorem jw_and1 {f : MB} (h : PT X a (rdT X.K T W f)) : PW X (.BoolOp .And [a] pos) (rdT X.K T W f) := pw_and1 h
theorem jw_or1 {f : MB} (h : PT X a (rdT X.K T W f)) : PW X (.BoolOp .Or [a] pos) (rdT X.K T W f) := pw_or1 h
theorem jw_and {f g : MB} (h1 : PT X a (rdT X.K T W f)) (h2 : PW X (.BoolOp .And (b :: rest) pos) (rdT X.K T W g)) : PW X (.BoolOp .And (a :: b :: rest) pos) (rdT X.K T W (mAnd f g)) := PW.imp (pw_and h1 h2) fun σ H Q q => rdT_and q
theorem jw_or {f g : MB} (h1 : PT X a (rdT X.K T W f)) (h2 : PW X (.BoolOp .Or (b :: rest) pos) (rdT X.K T W g)) : PW X (.BoolOp .Or (a :: b :: rest) pos) (rdT X.K T W (mOr f g)) := PW.imp (pw_or h1 h2) fun σ H Q q => rdT_or q
theorem jt_w {f : MB} (h : PW X e (rdT X.K T W f)) : PT X e (rdT X.K T W f) := PW.pt h
theorem jt_not {f : MB} (h : PT X a (rdT X.K T W f)) : PT X (.UnaryOp .Not a pos) (rdT X.K T W (mNot f)) := PT.imp (pt_not h) fun σ H Q q => rdT_not q
theorem je_if {cc : MB} {f g : ME} (h : PT X c (rdT X.K T W cc)) (h1 : PE X a (rd X.K T W f)) (h2 : PE X b (rd X.K T W g)) : PE X (.IfExp c a b pos) (rd X.K T W (mIf cc f g)) := PE.imp (pe_ifExp h h1 h2) fun σ H Q q => rd_if q
theorem je_and {f g : ME} (h1 : PE X a (rd X.K T W f)) (h2 : PE X (.BoolOp .And (b :: rest) pos) (rd X.K T W g)) : PE X (.BoolOp .And (a :: b :: rest) pos) (rd X.K T W (mAndV f g)) := PE.imp (pe_andT h1 h2) fun σ H Q q => rd_andV q
theorem je_or {f g : ME} (h1 : PE X a (rd X.K T W f)) (h2 : PE X (.BoolOp .Or (b :: rest) pos) (rd X.K T W g)) : PE X (.BoolOp .Or (a :: b :: rest) pos) (rd X.K T W (mOrV f g)) := PE.imp (pe_orT h1 h2) fun σ H Q q => rd_orV q
theorem je_one {op} {f : ME} (h : PE X a (rd X.K T W f)) : PE X (.BoolOp op [a] pos) (rd X.K T W f) := pe_one h
theorem je_not {g : MG} (h : PE X a (rdG X.K T W g)) : PE X (.UnaryOp .Not a pos) (rd X.K T W (mNotV g)) := PE.imp (pe_notT h) fun σ H Q q => rd_notV q
/-- a built-in function by its name -/
theorem je_cb {x id : String} {p : Pos} {r : RN} {f : List D → Option D} {as : MA} (hc : CallR X (.builtin id) r) (hr : OkN X.K T r f) (hg : Gl X x) (hm : X.mg x = none) (hv : bootBuiltins x = some (.builtin id)) (ha : PA X (e :: es) (rdA X.K T W as)) (hn : (x : Str) ≠ "__name__" := by decide) (hdb : ((x : Str) == ("__debug__" : Str)) = false := by decide)
    (he : starEach (e :: es) X.env = (false, eval e X.env) :: starEach es X.env := by rfl) (hpl : (backTo pos (starEach es X.env)).any (·.1) = false := by rfl) : PE X (.Call (.Name x p) (e :: es) [] pos) (rd X.K T W (mOp f as)) :=
  PE.imp (pe_callB hc hg hm hv ha hn hdb he hpl) fun σ H Q q => rd_op hr (fun _ z => z) q
theorem jl_cb {x id : String} {p : Pos} {r : RN} {f : List D → Option (List D)} {as : MA} (hc : CallR X (.builtin id) r) (hr : OkNL X.K T r f) (hg : Gl X x) (hm : X.mg x = none) (hv : bootBuiltins x = some (.builtin id)) (ha : PA X (e :: es) (rdA X.K T W as)) (hn : (x : Str) ≠ "__name__" := by decide) (hdb : ((x : Str) == ("__debug__" : Str)) = false := by decide)
    (he : starEach (e :: es) X.env = (false, eval e X.env) :: starEach es X.env := by rfl) (hpl : (backTo pos (starEach es X.env)).any (·.1) = false := by rfl) : PE X (.Call (.Name x p) (e :: es) [] pos) (rdL X.K T W (mOpL f as)) :=
  PE.imp (pe_callB hc hg hm hv ha hn hdb he hpl) fun σ H Q q => rd_opL hr (fun _ z => z) q
theorem je_cty {x id : String} {p : Pos} {r : RN} {f : List D → Option D} {as : MA} (hc : CallR X (.type id) r) (hr : OkN X.K T r f) (hg : Gl X x) (hm : X.mg x = none) (hv : bootBuiltins x = some (.type id)) (ha : PA X (e :: es) (rdA X.K T W as)) (hn : (x : Str) ≠ "__name__" := by decide) (hdb : ((x : Str) == ("__debug__" : Str)) = false := by decide)
    (he : starEach (e :: es) X.env = (false, eval e X.env) :: starEach es X.env := by rfl) (hpl : (backTo pos (starEach es X.env)).any (·.1) = false := by rfl) : PE X (.Call (.Name x p) (e :: es) [] pos) (rd X.K T W (mOp f as)) :=
  PE.imp (pe_callTy hc hg hm hv ha hn hdb he hpl) fun σ H Q q => rd_op hr (fun _ z => z) q
theorem jl_cty {x id : String} {p : Pos} {r : RN} {f : List D → Option (List D)} {as : MA} (hc : CallR X (.type id) r) (hr : OkNL X.K T r f) (hg : Gl X x) (hm : X.mg x = none) (hv : bootBuiltins x = some (.type id)) (ha : PA X (e :: es) (rdA X.K T W as)) (hn : (x : Str) ≠ "__name__" := by decide) (hdb : ((x : Str) == ("__debug__" : Str)) = false := by decide)
    (he : starEach (e :: es) X.env = (false, eval e X.env) :: starEach es X.env := by rfl) (hpl : (backTo pos (starEach es X.env)).any (·.1) = false := by rfl) : PE X (.Call (.Name x p) (e :: es) [] pos) (rdL X.K T W (mOpL f as)) :=
  PE.imp (pe_callTy hc hg hm hv ha hn hdb he hpl) fun σ H Q q => rd_opL hr (fun _ z => z) q
end
end Ky
/-! Ky4: targets, statements, what a def is worth, calls. -/
namespace Ky
open PySem PySem.Spec PyProof.Rows L2

/-! ### from one heap to a later one: what M does not name stays -/
structure Stp (M : Addr → Prop) (G H G' H' : Hp) : Prop where
  gg : Same G G'
  fr : ∀ a o, H a = some o → ¬ M a → H' a = some o
  al : ∀ a o, H a = some o → ∃ u, H' a = some u
  nw : ∀ a o, G' a = some o → G a = some o ∨ H a = none
theorem Stp.trans {M : Addr → Prop} {G H G1 H1 G2 H2 : Hp} (a : Stp M G H G1 H1) (b : Stp M G1 H1 G2 H2) : Stp M G H G2 H2 := by
  refine ⟨a.gg.trans b.gg, fun x o e m => b.fr x o (a.fr x o e m) m, fun x o e => ?_, fun x o e => ?_⟩
  · obtain ⟨u, q⟩ := a.al x o e
    exact b.al x u q
  · rcases b.nw x o e with h | h
    · exact a.nw x o h
    · refine .inr ?_
      cases q : H x with
      | none => rfl
      | some u =>
        obtain ⟨w, q2⟩ := a.al x u q
        rw [h] at q2
        cases q2
theorem Stp.refl (M : Addr → Prop) (G H : Hp) : Stp M G H G H := ⟨Same.refl G, fun _ _ e _ => e, fun _ o e => ⟨o, e⟩, fun _ _ e => .inl e⟩
theorem Stp.wide {M N : Addr → Prop} {G H G' H' : Hp} (a : Stp M G H G' H') (h : ∀ x o, H x = some o → M x → N x) : Stp N G H G' H' := ⟨a.gg, fun x o e n => a.fr x o e fun m => n (h x o e m), a.al, a.nw⟩
section
variable {K : PySem.W.Frag} {T : Tbl} {B : Bg} {Γ : Ev} {σ : L2.St} {G H : Hp}
theorem Sat.stp (s : Sat K T B Γ σ G H) : Stp B.M B.G0 B.H0 G H := ⟨s.g0, s.fr, s.al, s.nw⟩
end

/-! ### targets -/
structure MT where
  sl : List Nat
  go : D → Ev → Option Ev
def tgName (i : Nat) : MT := ⟨[i], fun d Γ => if free Γ i then some (Γ.set i (.dat d)) else none⟩
def tgGo : List MT → List D → Ev → Option Ev
  | [], [], Γ => some Γ
  | t :: ts, d :: ds, Γ => (match t.go d Γ with
    | some Γ' => tgGo ts ds Γ'
    | none => none)
  | _, _, _ => none
def tgTup (ts : List MT) : MT := ⟨ts.flatMap (·.sl), fun d Γ => match d with
  | .tup ds => tgGo ts ds Γ
  | _ => none⟩
section
variable (K : PySem.W.Frag) (T : Tbl)
def rdTg (t : MT) : TG := fun v σ H Q => ∃ B Γ G d Γ', t.go d Γ = some Γ' ∧ Sat K T B Γ σ G H ∧ Rp K T G v d ∧
  ∀ σ', Sat K T B Γ' σ' G H → σ'.length = σ.length → (∀ j, j ∉ t.sl → σ'[j]? = σ[j]?) → Q σ' H
def rdTgs (ts : List MT) : TGs := fun vs σ H Q => ∃ B Γ G ds Γ', tgGo ts ds Γ = some Γ' ∧ Sat K T B Γ σ G H ∧ RpA K T G vs ds ∧
  ∀ σ', Sat K T B Γ' σ' G H → σ'.length = σ.length → (∀ j, j ∉ ts.flatMap (·.sl) → σ'[j]? = σ[j]?) → Q σ' H
end
theorem PG.imp {X : Cx} {e : Expr} {t t' : TG} (h : PG X e t) (i : ∀ v σ H Q, t' v σ H Q → t v σ H Q) : PG X e t' := ⟨fun pins s σ H v u Q I r q => h.run pins s σ H v u Q I r (i v σ H Q q)⟩
theorem PGs.imp {X : Cx} {e : List Expr} {t t' : TGs} (h : PGs X e t) (i : ∀ v σ H Q, t' v σ H Q → t v σ H Q) : PGs X e t' := ⟨fun pins s σ H v u Q I r q => h.run pins s σ H v u Q I r (i v σ H Q q)⟩
section
variable {X : Cx} {T : Tbl} {e : Expr} {es : List Expr} {pos : Pos}
theorem jg_name {i : Nat} {x : Str} (h : PG X (.Name x pos) (gName i)) : PG X (.Name x pos) (rdTg X.K T (tgName i)) := PG.imp h fun v σ H Q q => by
  obtain ⟨B, Γ, G, d, Γ', hf, s, r, k⟩ := q
  have hf : (if free Γ i = true then some (Γ.set i (SC.dat d)) else none) = some Γ' := hf
  split at hf
  · rename_i hi
    cases hf
    exact k _ (s.set hi r) (List.length_set ..) fun j hj => set_past (fun z => hj (by rw [z]; exact List.mem_singleton_self _))
  · cases hf
theorem jgs_nil : PGs X [] (rdTgs X.K T []) := PGs.imp pgs_nil fun v σ H Q q => by
  obtain ⟨B, Γ, G, ds, Γ', hf, s, r, k⟩ := q
  match ds, hf with
  | [], hf =>
    cases hf
    cases r
    exact ⟨rfl, k σ s rfl fun _ _ => rfl⟩
theorem jgs_cons {t : MT} {ts : List MT} (h1 : PG X e (rdTg X.K T t)) (h2 : PGs X es (rdTgs X.K T ts)) (hs : (assignEach (e :: es) X.env).map (·.2) = assign e X.env :: (assignEach es X.env).map (·.2) := by rfl) : PGs X (e :: es) (rdTgs X.K T (t :: ts)) :=
  PGs.imp (pgs_cons h1 h2 hs) fun v σ H Q q => by
    obtain ⟨B, Γ, G, ds, Γ', hf, s, r, k⟩ := q
    match ds, hf with
    | d :: ds, hf =>
      unfold tgGo at hf
      split at hf
      · rename_i Γ1 q1
        cases r with
        | cons r1 r2 =>
          refine ⟨_, _, rfl, B, Γ, G, d, Γ1, q1, s, r1, fun σ1 s1 l1 f1 => ?_⟩
          refine ⟨B, Γ1, G, ds, Γ', hf, s1, r2, fun σ2 s2 l2 f2 => k σ2 s2 (l2.trans l1) fun j hj => ?_⟩
          rw [List.flatMap_cons, List.mem_append] at hj
          rw [f2 j (fun z => hj (.inr z)), f1 j (fun z => hj (.inl z))]
      · cases hf
theorem jg_tup {ts : List MT} {k : Nat} (hc : X.calm = true) (h : PGs X es (rdTgs X.K T ts)) (hn : (assignEach es X.env).length = ts.length := by rfl) (hst : (assignEach es X.env).findIdx? (·.1) = none := by rfl) : PG X (.Tuple es k pos) (rdTg X.K T (tgTup ts)) :=
  PG.imp (pg_tup hc h hn hst) fun v σ H Q q => by
    obtain ⟨B, Γ, G, d, Γ', hf, s, r, k⟩ := q
    match d, hf with
    | .tup ds, hf =>
      have hf : tgGo ts ds Γ = some Γ' := hf
      cases r with
      | tup sq ra =>
        have len : ∀ (ts : List MT) (ds : List D) (Γ Γ' : Ev), tgGo ts ds Γ = some Γ' → ds.length = ts.length := by
          intro ts
          induction ts with
          | nil =>
            intro ds Γ Γ' h
            cases ds with
            | nil => rfl
            | cons d ds => cases h
          | cons t ts ih =>
            intro ds Γ Γ' h
            cases ds with
            | nil => cases h
            | cons d ds =>
              unfold tgGo at h
              split at h
              · rw [List.length_cons, List.length_cons, ih _ _ _ h]
              · cases h
        exact ⟨_, _, rfl, Sub.sqt s.gh sq, ra.length.trans (len _ _ _ _ hf), B, Γ, G, ds, Γ', hf, s, ra, k⟩
end

/-! ### statements -/
/-- what is handed back: data; a new list, nobody's -/
inductive Rt where
  | dat (d : D) | own (ds : List D)
inductive Fl where
  | nx (Γ : Ev) | rt (r : Rt) (Γ : Ev) | bk (Γ : Ev) | ct (Γ : Ev) | exc (c : Nat) (d : D) (Γ : Ev)
abbrev MS := Ev → Option Fl
section
variable (K : PySem.W.Frag) (T : Tbl) (W : WX)
def RtP (B : Bg) (Γ' : Ev) (P : V → Hp → Prop) : Rt → Prop
  | .dat d => ∀ v σ' G' H', Sat K T B Γ' σ' G' H' → Rp K T G' v d → P v H'
  | .own ds => ∀ p xs σ' G' H', Sat K T B Γ' σ' G' H' → G' p = none → H' p = some (.lst xs) → RpA K T G' xs ds → B.H0 p = none → (∀ (j : Nat) io es, Γ'[j]? = some (SC.own io es) → σ'[j]? ≠ some (some (V.ref p))) → P (.ref p) H'
def ExcS (B : Bg) (c : Nat) (d : D) (Γ' : Ev) : Prop := ∀ dx v σ' G' H', Sat K T B Γ' σ' G' H' → G' dx = some (.xd [(((T.att c).getD 0 Str.empty), v)]) → Rp K T G' v d → W (.ref (T.cls c)) (some dx) σ' H'
def FlP (B : Bg) (G : Hp) (D : Ends) : Fl → Prop
  | .nx Γ' => ∀ σ' G' H', Sat K T B Γ' σ' G' H' → Same G G' → D.nx σ' H'
  | .bk Γ' => ∀ σ' G' H', Sat K T B Γ' σ' G' H' → Same G G' → D.bk σ' H'
  | .ct Γ' => ∀ σ' G' H', Sat K T B Γ' σ' G' H' → Same G G' → D.ct σ' H'
  | .rt r Γ' => RtP K T B Γ' D.rt r
  | .exc c d Γ' => ExcS K T W B c d Γ'
def rdS (f : MS) : TS := fun D σ H => ∃ B Γ G o, f Γ = some o ∧ Sat K T B Γ σ G H ∧ FlP K T W B G D o
end
theorem PS.imp {X : Cx} {e : Stmt} {t t' : TS} (h : PS X e t) (i : ∀ D σ H, t' D σ H → t D σ H) : PS X e t' := ⟨fun pins s σ H D I q => h.run pins s σ H D I (i D σ H q)⟩
theorem PSs.imp {X : Cx} {e : List Stmt} {t t' : TS} (h : PSs X e t) (i : ∀ D σ H, t' D σ H → t D σ H) : PSs X e t' := ⟨fun pins s σ H D I q => h.run pins s σ H D I (i D σ H q)⟩
section
variable {K : PySem.W.Frag} {T : Tbl} {W : WX} {B : Bg} {Γ : Ev} {σ : L2.St} {G H : Hp} {De : Ends}
theorem FlP.to {G1 : Hp} : ∀ {o : Fl}, FlP K T W B G De o → Same G G1 → FlP K T W B G1 De o
  | .nx Γ', h, e => fun σ' G' H' s g => h σ' G' H' s (e.trans g)
  | .bk Γ', h, e => fun σ' G' H' s g => h σ' G' H' s (e.trans g)
  | .ct Γ', h, e => fun σ' G' H' s g => h σ' G' H' s (e.trans g)
  | .rt r Γ', h, e => h
  | .exc c d Γ', h, e => h
theorem ExcS.p {c : Nat} {d : D} {Γ' : Ev} (h : ExcS K T W B c d Γ') : ExcP K T W B σ G c d Γ' := fun dx v G' H' s g x r => h dx v σ G' H' s x r
def mSkip : MS := fun Γ => some (.nx Γ)
def mSeq (f g : MS) : MS := fun Γ => match f Γ with
  | some (.nx Γ') => g Γ'
  | o => o
def mAsg (t : MT) (f : ME) : MS := fun Γ => match f Γ with
  | some (.ok d Γ') => (match t.go d Γ' with
    | some Γ2 => some (.nx Γ2)
    | none => none)
  | some (.exc c d Γ') => some (.exc c d Γ')
  | none => none
/-- a new list, one's own -/
def mAsgL (i : Nat) (f : ML) : MS := fun Γ => match f Γ with
  | some (.ok ds Γ') => if free Γ' i then some (.nx (Γ'.set i (.own false ds))) else none
  | some (.exc c d Γ') => some (.exc c d Γ')
  | none => none
def mExpr (f : ME) : MS := fun Γ => match f Γ with
  | some (.ok _ Γ') => some (.nx Γ')
  | some (.exc c d Γ') => some (.exc c d Γ')
  | none => none
def mIfS (c : MB) (f g : MS) : MS := fun Γ => match c Γ with
  | some (.ok b Γ') => if b then f Γ' else g Γ'
  | some (.exc c d Γ') => some (.exc c d Γ')
  | none => none
def mRet (f : ME) : MS := fun Γ => match f Γ with
  | some (.ok d Γ') => some (.rt (.dat d) Γ')
  | some (.exc c d Γ') => some (.exc c d Γ')
  | none => none
def mRetL (f : ML) : MS := fun Γ => match f Γ with
  | some (.ok d Γ') => some (.rt (.own d) Γ')
  | some (.exc c d Γ') => some (.exc c d Γ')
  | none => none
def mRetN : MS := fun Γ => some (.rt (.dat .non) Γ)
def mBrk : MS := fun Γ => some (.bk Γ)
def mCnt : MS := fun Γ => some (.ct Γ)
def mNev : MS := fun _ => none
/-- return x, x a list of one's own -/
def mRetO (i : Nat) : MS := fun Γ => match Γ[i]? with
  | some (.own false ds) => some (.rt (.own ds) (Γ.set i .un))
  | _ => none
/-- x.append(e) -/
def mApp (i : Nat) (f : ME) : MS := fun Γ => match Γ[i]? with
  | some (.own _ _) => (match f Γ with
    | some (.ok d Γ') => (match Γ'[i]? with
      | some (.own io ds) => if ds.length < 100000 then some (.nx (Γ'.set i (.own io (ds ++ [d])))) else none
      | _ => none)
    | some (.exc c d Γ') => some (.exc c d Γ')
    | none => none)
  | _ => none
/-- x.pop(e), a datum -/
def mPopAt (i : Nat) (f : ME) : ME := fun Γ => match Γ[i]? with
  | some (.own _ _) => (match f Γ with
    | some (.ok (.int k) Γ') => (match Γ'[i]? with
      | some (.own io ds) => (match ixN ds.length k with
        | some j => (match ds[j]? with
          | some d => if ds.length < 100000 then some (.ok d (Γ'.set i (.own io (ds.eraseIdx j)))) else none
          | none => none)
        | none => none)
      | _ => none)
    | some (.exc c d Γ') => some (.exc c d Γ')
    | _ => none)
  | _ => none
/-- x[k] = e -/
def mSet (i : Nat) (fk fe : ME) : MS := fun Γ => match fe Γ with
  | some (.ok d Γ1) => (match Γ1[i]? with
    | some (.own _ _) => (match fk Γ1 with
      | some (.ok (.int k) Γ2) => (match Γ2[i]? with
        | some (.own io ds) => (match ixN ds.length k with
          | some j => some (.nx (Γ2.set i (.own io (ds.set j d))))
          | none => none)
        | _ => none)
      | some (.exc c d Γ') => some (.exc c d Γ')
      | _ => none)
    | _ => none)
  | some (.exc c d Γ') => some (.exc c d Γ')
  | none => none
/-- x op= e, a datum -/
def mAug (i : Nat) (p : D → D → Option D) (f : ME) : MS := fun Γ => match Γ[i]? with
  | some (.dat d1) => (match f Γ with
    | some (.ok d2 Γ') => (match p d1 d2 with
      | some d => if free Γ' i then some (.nx (Γ'.set i (.dat d))) else none
      | none => none)
    | some (.exc c d Γ') => some (.exc c d Γ')
    | none => none)
  | _ => none
def mPar (i j : Nat) (f g : ME) : MS := fun Γ => match f Γ with
  | some (.ok d Γ1) => (match g Γ1 with
    | some (.ok e Γ2) => if free Γ2 i && free Γ2 j && i != j then some (.nx ((Γ2.set i (.dat d)).set j (.dat e))) else none
    | some (.exc c d Γ') => some (.exc c d Γ')
    | none => none)
  | some (.exc c d Γ') => some (.exc c d Γ')
  | none => none
end
section
variable {X : Cx} {T : Tbl} {W : WX} {st : Stmt} {rest sts sts2 : List Stmt} {e c : Expr} {pos : Pos}
theorem jss_nil : PSs X [] (rdS X.K T W mSkip) := PSs.imp pss_nil fun D σ H ⟨B, Γ, G, o, hf, s, k⟩ => by
  cases hf
  exact k σ G H s (Same.refl G)
theorem jss_one {f : MS} (h : PS X st (rdS X.K T W f)) : PSs X [st] (rdS X.K T W f) := pss_one h
theorem jss_cons {f g : MS} (h1 : PS X st (rdS X.K T W f)) (h2 : PSs X rest (rdS X.K T W g)) : PSs X (st :: rest) (rdS X.K T W (mSeq f g)) := PSs.imp (pss_cons h1 h2) fun D σ H ⟨B, Γ, G, o, hf, s, k⟩ => by
  unfold mSeq at hf
  split at hf
  · rename_i Γ' q
    exact ⟨B, Γ, G, _, q, s, fun σ' G' H' s' g' => ⟨B, Γ', G', _, hf, s', k.to g'⟩⟩
  · rename_i x q
    refine ⟨B, Γ, G, _, hf, s, ?_⟩
    cases o with
    | nx Γ' => exact absurd hf (q Γ')
    | bk Γ' => exact k
    | ct Γ' => exact k
    | rt r Γ' => cases r <;> exact k
    | exc c d Γ' => exact k
theorem js_pass : PS X (.Pass pos) (rdS X.K T W mSkip) := PS.imp ps_pass fun D σ H ⟨B, Γ, G, o, hf, s, k⟩ => by
  cases hf
  exact k σ G H s (Same.refl G)
theorem js_brk : PS X (.Break pos) (rdS X.K T W mBrk) := PS.imp ps_break fun D σ H ⟨B, Γ, G, o, hf, s, k⟩ => by
  cases hf
  exact k σ G H s (Same.refl G)
theorem js_cnt : PS X (.Continue pos) (rdS X.K T W mCnt) := PS.imp ps_continue fun D σ H ⟨B, Γ, G, o, hf, s, k⟩ => by
  cases hf
  exact k σ G H s (Same.refl G)
theorem js_nev : PS X st (rdS X.K T W mNev) := PS.imp ps_never fun D σ H ⟨B, Γ, G, o, hf, s, k⟩ => nomatch hf
theorem js_asg {tg : Expr} {t : MT} {f : ME} (he : PE X e (rd X.K T W f)) (hg : PG X tg (rdTg X.K T t)) (hs : swapsWithSole [tg] e pos.line X.env = pure false := by rfl) (hw : swappedStores [tg] e X.env = pure none := by rfl)
    (h1 : (assignEach [tg] X.env).map (·.2) = [assign tg X.env] := by rfl) : PS X (.Assign [tg] e pos) (rdS X.K T W (mAsg t f)) := PS.imp (ps_asg he hg hs hw h1) fun D σ H ⟨B, Γ, G, o, hf, s, k⟩ => by
  unfold mAsg at hf
  split at hf
  · rename_i d Γ' q
    refine ⟨B, Γ, G, _, q, s, fun v G' H' s' g r => ?_⟩
    split at hf
    · rename_i Γ2 q2
      cases hf
      exact ⟨B, Γ', G', d, Γ2, q2, s', r, fun σ' s2 _ _ => k σ' G' H' s2 g⟩
    · cases hf
  · rename_i c d Γ' q
    cases hf
    exact ⟨B, Γ, G, _, q, s, ExcS.p k⟩
  · cases hf
theorem js_set {i : Nat} {x : Str} {pos' : Pos} {f : ME} (hN : X.N.Nodup) (hi : X.N[i]? = some x) (hx : Loc X.env.scope x) (he : PE X e (rd X.K T W f)) (hs : swapsWith e (some (.Name x pos')) pos.line X.env = pure false := by rfl) (hf : X.fn x = true ∨ X.env.scope.names.lookup x = some .local := by first | exact .inl rfl | exact .inr rfl | assumption) :
    PS X (.Assign [.Name x pos'] e pos) (rdS X.K T W (mAsg (tgName i) f)) := PS.imp (ps_set hN hi hx he hs hf) fun D σ H ⟨B, Γ, G, o, hf, s, k⟩ => by
  unfold mAsg at hf
  split at hf
  · rename_i d Γ' q
    refine ⟨B, Γ, G, _, q, s, fun v G' H' s' g r => ?_⟩
    split at hf
    · rename_i Γ2 q2
      cases hf
      have q2 : (if free Γ' i = true then some (Γ'.set i (SC.dat d)) else none) = some Γ2 := q2
      split at q2
      · rename_i hi
        cases q2
        exact k _ G' H' (s'.set hi r) g
      · cases q2
    · cases hf
  · rename_i c d Γ' q
    cases hf
    exact ⟨B, Γ, G, _, q, s, ExcS.p k⟩
  · cases hf
theorem js_setL {i : Nat} {x : Str} {pos' : Pos} {f : ML} (hN : X.N.Nodup) (hi : X.N[i]? = some x) (hx : Loc X.env.scope x) (he : PE X e (rdL X.K T W f)) (hs : swapsWith e (some (.Name x pos')) pos.line X.env = pure false := by rfl) (hf : X.fn x = true ∨ X.env.scope.names.lookup x = some .local := by first | exact .inl rfl | exact .inr rfl | assumption) :
    PS X (.Assign [.Name x pos'] e pos) (rdS X.K T W (mAsgL i f)) := PS.imp (ps_set hN hi hx he hs hf) fun D σ H ⟨B, Γ, G, o, hf, s, k⟩ => by
  unfold mAsgL at hf
  split at hf
  · rename_i d Γ' q
    refine ⟨B, Γ, G, _, q, s, fun p xs G' H' s' g hg hp r h0 hn => ?_⟩
    split at hf
    · rename_i hi
      cases hf
      exact k _ G' H' (s'.setOwn hi hg hp r h0 hn) g
    · cases hf
  · rename_i c d Γ' q
    cases hf
    exact ⟨B, Γ, G, _, q, s, ExcS.p k⟩
  · cases hf
/-- y = [.. for ..] on one line, from the form that ps_setLc gives -/
theorem js_setLw {i : Nat} {f : ML} {te : TE} (h : PS X st (tAsg te (gName i))) (ht : ∀ σ H Q, rdL X.K T W f σ H Q → te σ H Q) : PS X st (rdS X.K T W (mAsgL i f)) := PS.imp h fun D σ H ⟨B, Γ, G, o, hf, s, k⟩ => by
  refine ht σ H _ ?_
  unfold mAsgL at hf
  split at hf
  · rename_i d Γ' q
    refine ⟨B, Γ, G, _, q, s, fun p xs G' H' s' g hg hp r h0 hn => ?_⟩
    split at hf
    · rename_i hi
      cases hf
      exact k _ G' H' (s'.setOwn hi hg hp r h0 hn) g
    · cases hf
  · rename_i c d Γ' q
    cases hf
    exact ⟨B, Γ, G, _, q, s, ExcS.p k⟩
  · cases hf
theorem js_setw {i : Nat} {f : ME} {te : TE} (h : PS X st (tAsg te (gName i))) (ht : ∀ σ H Q, rd X.K T W f σ H Q → te σ H Q) : PS X st (rdS X.K T W (mAsg (tgName i) f)) := PS.imp h fun D σ H ⟨B, Γ, G, o, hf, s, k⟩ => by
  refine ht σ H _ ?_
  unfold mAsg at hf
  split at hf
  · rename_i d Γ' q
    refine ⟨B, Γ, G, _, q, s, fun v G' H' s' g r => ?_⟩
    split at hf
    · rename_i Γ2 q2
      cases hf
      have q2 : (if free Γ' i = true then some (Γ'.set i (SC.dat d)) else none) = some Γ2 := q2
      split at q2
      · rename_i hi
        cases q2
        exact k _ G' H' (s'.set hi r) g
      · cases q2
    · cases hf
  · rename_i c d Γ' q
    cases hf
    exact ⟨B, Γ, G, _, q, s, ExcS.p k⟩
  · cases hf
theorem js_expr {f : ME} (he : PE X e (rd X.K T W f)) (hs : swapsWith e none pos.line X.env = pure false := by rfl) : PS X (.Expr e pos) (rdS X.K T W (mExpr f)) := PS.imp (ps_expr he hs) fun D σ H ⟨B, Γ, G, o, hf, s, k⟩ => by
  unfold mExpr at hf
  split at hf
  · rename_i d Γ' q
    cases hf
    exact ⟨B, Γ, G, _, q, s, fun v G' H' s' g r => k σ G' H' s' g⟩
  · rename_i c d Γ' q
    cases hf
    exact ⟨B, Γ, G, _, q, s, ExcS.p k⟩
  · cases hf
theorem js_if {b : MB} {f g : MS} (hc : PT X c (rdT X.K T W b)) (h1 : PSs X sts (rdS X.K T W f)) (h2 : PSs X sts2 (rdS X.K T W g)) : PS X (.If c sts sts2 pos) (rdS X.K T W (mIfS b f g)) := PS.imp (ps_if hc h1 h2) fun D σ H ⟨B, Γ, G, o, hf, s, k⟩ => by
  unfold mIfS at hf
  split at hf
  · rename_i b Γ' q
    refine ⟨B, Γ, G, _, q, s, fun G' H' s' g' => ?_⟩
    cases b with
    | true => exact ⟨B, Γ', G', _, hf, s', k.to g'⟩
    | false => exact ⟨B, Γ', G', _, hf, s', k.to g'⟩
  · rename_i c d Γ' q
    cases hf
    exact ⟨B, Γ, G, _, q, s, ExcS.p k⟩
  · cases hf
theorem js_ret {f : ME} (he : PE X e (rd X.K T W f)) : PS X (.Return (some e) pos) (rdS X.K T W (mRet f)) := PS.imp (ps_ret he) fun D σ H ⟨B, Γ, G, o, hf, s, k⟩ => by
  unfold mRet at hf
  split at hf
  · rename_i d Γ' q
    cases hf
    exact ⟨B, Γ, G, _, q, s, fun v G' H' s' g r => k v σ G' H' s' r⟩
  · rename_i c d Γ' q
    cases hf
    exact ⟨B, Γ, G, _, q, s, ExcS.p k⟩
  · cases hf
theorem js_retL {f : ML} (he : PE X e (rdL X.K T W f)) : PS X (.Return (some e) pos) (rdS X.K T W (mRetL f)) := PS.imp (ps_ret he) fun D σ H ⟨B, Γ, G, o, hf, s, k⟩ => by
  unfold mRetL at hf
  split at hf
  · rename_i d Γ' q
    cases hf
    exact ⟨B, Γ, G, _, q, s, fun p xs G' H' s' g hg hp r h0 hn => k p xs σ G' H' s' hg hp r h0 hn⟩
  · rename_i c d Γ' q
    cases hf
    exact ⟨B, Γ, G, _, q, s, ExcS.p k⟩
  · cases hf
theorem js_retN : PS X (.Return none pos) (rdS X.K T W mRetN) := PS.imp ps_retN fun D σ H ⟨B, Γ, G, o, hf, s, k⟩ => by
  cases hf
  exact k .non σ G H s .non
theorem js_retO {i : Nat} (he : PE X e (tVar i)) : PS X (.Return (some e) pos) (rdS X.K T W (mRetO i)) := PS.imp (ps_ret he) fun D σ H ⟨B, Γ, G, o, hf, s, k⟩ => by
  unfold mRetO at hf
  split at hf
  · rename_i ds q
    cases hf
    obtain ⟨p, xs, h1, h2, h3, h4, h5, h6⟩ := s.ow i false ds q
    have hl : i < Γ.length := (List.getElem?_eq_some_iff.mp q).1
    have s2 : Sat X.K T B (Γ.set i .un) σ G H := by
      have z := s.forget (i := i) (some (V.ref p))
      have e : σ.set i (some (V.ref p)) = σ := by
        apply List.ext_getElem?
        intro j
        by_cases hj : i = j
        · subst hj
          rw [set_here (by rw [s.len]; exact hl), h1]
        · rw [set_past hj]
      rw [e] at z
      exact z
    refine ⟨_, h1, k p xs σ G H s2 h2 h3 h4 (h6 rfl) fun j io es hj z => ?_⟩
    rcases get_set hj with ⟨rfl, e1, _⟩ | ⟨hn, hj⟩
    · cases e1
    · exact hn (s.dj i j false io ds es p q hj h1 z)
  · cases hf
end
end Ky
/-! Ky5: lists of one's own, loops. -/
namespace Ky
open PySem PySem.Spec PyProof.Rows L2

section
variable {K : PySem.W.Frag} {T : Tbl} {W : WX} {B : Bg} {Γ : Ev} {σ : L2.St} {G H : Hp} {De : Ends}
theorem len_lt {vs : List V} {ds : List D} (r : RpA K T G vs ds) (h : ds.length < 100000) : vs.length < sizeLine := by
  rw [r.length]
  exact Nat.lt_of_lt_of_le h (show (100000 : Nat) ≤ sizeLine by decide)
theorem rdS_app {i : Nat} {f : ME} (h : rdS K T W (mApp i f) De σ H) : tDrop (tBM K "list" rAppend (tVar i) (tCons (rd K T W f) tNil)) De σ H := by
  obtain ⟨B, Γ, G, o, hf, s, k⟩ := h
  unfold mApp at hf
  split at hf
  · rename_i io0 ds0 q0
    obtain ⟨p, xs, h1, h2, h3, h4, h5, h6⟩ := s.ow i _ _ q0
    refine ⟨_, h1, .inl ⟨rfl, _, SqL.of h3⟩, ?_⟩
    split at hf
    · rename_i d Γ' q
      refine ⟨B, Γ, G, _, q, s, fun v G' H' s' g r => ?_⟩
      split at hf
      · rename_i io ds q2
        split at hf
        · rename_i hl
          cases hf
          obtain ⟨p', xs', e1, e2, e3, e4, e5, e6⟩ := s'.ow i _ _ q2
          rw [h1] at e1
          cases e1
          exact ⟨p, xs', v, rfl, rfl, e3, len_lt e4 hl, k σ G' _ (s'.mut q2 h1 (e4.append (.one r))) g⟩
        · cases hf
      · cases hf
    · rename_i c d Γ' q
      cases hf
      exact ⟨B, Γ, G, _, q, s, ExcS.p k⟩
    · cases hf
  · cases hf
theorem ixN_seq {n : Nat} {i : Int} {j : Nat} (h : ixN n i = some j) : seqIndex? i n = some j := by
  unfold ixN at h
  unfold seqIndex?
  split at h
  · rename_i h0
    split at h
    · rename_i h1
      cases h
      simp [h0, h1]
      omega
    · cases h
  · rename_i h0
    split at h
    · rename_i h1
      cases h
      have : ¬ (0 ≤ i) := h0
      simp [h0, this]
      omega
    · cases h
theorem ixN_lt {n : Nat} {i : Int} {j : Nat} (h : ixN n i = some j) : j < n ∧ -(n : Int) ≤ i ∧ i < n := by
  unfold ixN at h
  split at h
  · split at h
    · cases h
      omega
    · cases h
  · split at h
    · cases h
      omega
    · cases h
theorem rd_popAt {i : Nat} {f : ME} {Q : VK} (h : rd K T W (mPopAt i f) σ H Q) : tBM K "list" rPopAt (tVar i) (tCons (rd K T W f) tNil) σ H Q := by
  obtain ⟨B, Γ, G, o, hf, s, k⟩ := h
  unfold mPopAt at hf
  split at hf
  · rename_i io0 ds0 q0
    obtain ⟨p, xs, h1, h2, h3, h4, h5, h6⟩ := s.ow i _ _ q0
    refine ⟨_, h1, .inl ⟨rfl, _, SqL.of h3⟩, ?_⟩
    split at hf
    · rename_i kk Γ' q
      refine ⟨B, Γ, G, _, q, s, fun v G' H' s' g r => ?_⟩
      cases r
      split at hf
      · rename_i io ds q2
        split at hf
        · rename_i j q3
          split at hf
          · rename_i d q4
            split at hf
            · rename_i hl
              cases hf
              obtain ⟨p', xs', e1, e2, e3, e4, e5, e6⟩ := s'.ow i _ _ q2
              rw [h1] at e1
              cases e1
              obtain ⟨y, y1, y2⟩ := e4.get q4
              obtain ⟨l1, l2, l3⟩ := ixN_lt q3
              have lx : xs'.length = ds.length := e4.length
              exact ⟨p, xs', kk, j, y, rfl, rfl, e3, by omega, by omega, by rw [lx]; exact ixN_seq q3, y1, k y G' _ (s'.mut q2 h1 (e4.eraseIdx j)) g y2⟩
            · cases hf
          · cases hf
        · cases hf
      · cases hf
    · rename_i c d Γ' q
      cases hf
      exact ⟨B, Γ, G, _, q, s, k⟩
    · cases hf
  · cases hf
theorem rdS_set {i : Nat} {fk fe : ME} (h : rdS K T W (mSet i fk fe) De σ H) : tAsg (rd K T W fe) (gSub (tVar i) (rd K T W fk) rSetL) De σ H := by
  obtain ⟨B, Γ, G, o, hf, s, k⟩ := h
  unfold mSet at hf
  split at hf
  · rename_i d Γ1 q1
    refine ⟨B, Γ, G, _, q1, s, fun v G1 H1 s1 g1 r1 => ?_⟩
    split at hf
    · rename_i io0 ds0 q0
      obtain ⟨p, xs, hp, _⟩ := s1.ow i _ _ q0
      split at hf
      · rename_i kk Γ2 q2
        refine ⟨_, hp, B, Γ1, G1, _, q2, s1, fun v2 G2 H2 s2 g2 r2 => ?_⟩
        cases r2
        split at hf
        · rename_i io ds q3
          split at hf
          · rename_i j q4
            cases hf
            obtain ⟨p', xs', e1, e2, e3, e4, e5, e6⟩ := s2.ow i _ _ q3
            rw [hp] at e1
            cases e1
            exact ⟨p, xs', kk, j, rfl, rfl, e3, by rw [e4.length]; exact q4, k σ G2 _ (s2.mut q3 hp (e4.set j (r1.to g2))) (g1.trans g2)⟩
          · cases hf
        · cases hf
      · rename_i c d Γ' q2
        cases hf
        exact ⟨_, hp, B, Γ1, G1, _, q2, s1, ExcS.p k⟩
      · cases hf
    · cases hf
  · rename_i c d Γ' q1
    cases hf
    exact ⟨B, Γ, G, _, q1, s, ExcS.p k⟩
  · cases hf
theorem rdS_aug {i : Nat} {p : D → D → Option D} {f : ME} {r : TIp} (hr : Ok2 K T r p) (h : rdS K T W (mAug i p f) De σ H) : tAug i (rd K T W f) r De σ H := by
  obtain ⟨B, Γ, G, o, hf, s, k⟩ := h
  unfold mAug at hf
  split at hf
  · rename_i d1 q0
    obtain ⟨v1, h1, r1⟩ := s.dt i _ q0
    refine ⟨v1, h1, ?_⟩
    split at hf
    · rename_i d2 Γ' q
      refine ⟨B, Γ, G, _, q, s, fun v G' H' s' g r2 => ?_⟩
      split at hf
      · rename_i d q3
        split at hf
        · rename_i hi
          cases hf
          refine hr q3 s'.gh (.rp (r1.to g)) (.rp r2) _ fun v3 G3 H3 n rv => ?_
          obtain ⟨s3, g3⟩ := s'.news n
          exact k _ G3 H3 (s3.set hi rv) (g.trans g3)
        · cases hf
      · cases hf
    · rename_i c d Γ' q
      cases hf
      exact ⟨B, Γ, G, _, q, s, ExcS.p k⟩
    · cases hf
  · cases hf
theorem free_set {Γ : Ev} {i j : Nat} {d : D} (h : free Γ j = true) : free (Γ.set i (.dat d)) j = true := by
  unfold free at h ⊢
  by_cases e : i = j
  · subst e
    by_cases hl : i < Γ.length
    · rw [Ev.set_here hl]
    · rw [show (Γ.set i (.dat d))[i]? = none from List.getElem?_eq_none (Nat.le_trans (Nat.le_of_eq (Ev.length_set Γ i _)) (Nat.le_of_not_lt hl))]
  · rw [Ev.set_past e]
    exact h
theorem rdS_par {i j : Nat} {f g : ME} (h : rdS K T W (mPar i j f g) De σ H) : tPar i j (tCons (rd K T W f) (tCons (rd K T W g) tNil)) De σ H := by
  obtain ⟨B, Γ, G, o, hf, s, k⟩ := h
  unfold mPar at hf
  split at hf
  · rename_i d Γ1 q1
    refine ⟨B, Γ, G, _, q1, s, fun v G1 H1 s1 g1 r1 => ?_⟩
    split at hf
    · rename_i e Γ2 q2
      refine ⟨B, Γ1, G1, _, q2, s1, fun v2 G2 H2 s2 g2 r2 => ⟨v, v2, rfl, ?_⟩⟩
      split at hf
      · rename_i hc
        cases hf
        rw [Bool.and_eq_true, Bool.and_eq_true] at hc
        obtain ⟨⟨c1, c2⟩, c3⟩ := hc
        exact k _ G2 H2 ((s2.set c1 (r1.to g2)).set (free_set c2) r2) (g1.trans g2)
      · cases hf
    · rename_i c d Γ' q2
      cases hf
      exact ⟨B, Γ1, G1, _, q2, s1, ExcS.p k⟩
    · cases hf
  · rename_i c d Γ' q1
    cases hf
    exact ⟨B, Γ, G, _, q1, s, ExcS.p k⟩
  · cases hf

/-! ### one's own lists lent out -/
/-- the lists that are one's own, and the cells, as addresses -/
def Mine (Γ : Ev) (σ : L2.St) (G : Hp) (a : Addr) : Prop := (∃ (j : Nat) (io : Bool) (ds : List D), Γ[j]? = some (SC.own io ds) ∧ σ[j]? = some (some (V.ref a))) ∨ ∃ k, G a = some (mk0 k)
theorem Sat.mine (s : Sat K T B Γ σ G H) {a : Addr} (m : Mine Γ σ G a) : B.M a ∨ B.H0 a = none := by
  rcases m with ⟨j, io, ds, h1, h2⟩ | ⟨k, h⟩
  · obtain ⟨p, xs, e1, e2, e3, e4, e5, e6⟩ := s.ow j io ds h1
    rw [h2] at e1
    cases e1
    cases io with
    | true => exact .inl (e5 rfl)
    | false => exact .inr (e6 rfl)
  · have hk := s.cl.gn _ _ h
    obtain ⟨p, xs, e1, e2, e3, e4⟩ := s.cl.ce k _ (List.getElem?_eq_getElem hk)
    have e := s.cl.gi _ _ _ h e1
    subst e
    exact e4
theorem Cel.out {Bx : Bg} {S : List (List D)} {G' H' : Hp} (c : Cel K T Bx S G' H') (s : Sat K T B Γ σ G H) (h : ∀ p, Bx.M p → B.M p ∨ B.H0 p = none) (h0 : ∀ p, Bx.H0 p = none → H p = none) : Cel K T B S G' H' :=
  ⟨fun k ds e => by
    obtain ⟨p, xs, h1, h2, h3, h4⟩ := c.ce k ds e
    refine ⟨p, xs, h1, h2, h3, ?_⟩
    rcases h4 with q | q
    · exact h p q
    · exact .inr (s.hnone (h0 p q)), c.gi, c.gn⟩
/-- back from a part of the run in which one's own lists may have been changed -/
theorem Sat.back {M : Addr → Prop} {G' H' : Hp} {Γ' : Ev} (s : Sat K T B Γ σ G H) (st : Stp M G H G' H') (gh : Sub G' H') (hM : ∀ a, M a → Mine Γ σ G a) (len : Γ'.length = Γ.length)
    (hd : ∀ (j : Nat) d, Γ'[j]? = some (SC.dat d) → Γ[j]? = some (SC.dat d)) (hc : Cel K T B Γ'.c G' H')
    (ho : ∀ (j : Nat) io es, Γ'[j]? = some (SC.own io es) → ∃ ds, Γ[j]? = some (SC.own io ds) ∧ ∀ p, σ[j]? = some (some (V.ref p)) → ∃ xs, H' p = some (.lst xs) ∧ RpA K T G' xs es) : Sat K T B Γ' σ G' H' := by
  have own0 : ∀ a, M a → B.M a ∨ B.H0 a = none := fun a m => s.mine (hM a m)
  refine ⟨s.g0.trans st.gg, gh, fun a o e n => ?_, fun a o e => ?_, fun a o e => ?_, s.len.trans len.symm, fun j d h => ?_, fun j io es h => ?_, fun j es h => ?_, hc, fun j k io jo es fs p h1 h2 h3 h4 => ?_⟩
  · refine st.fr a o (s.fr a o e n) fun m => ?_
    rcases own0 a m with q | q
    · exact n q
    · rw [q] at e
      cases e
  · obtain ⟨u, q⟩ := s.al a o e
    exact st.al a u q
  · rcases st.nw a o e with q | q
    · exact s.nw a o q
    · exact .inr (s.hnone q)
  · obtain ⟨v, h1, h2⟩ := s.dt j d (hd j d h)
    exact ⟨v, h1, h2.to st.gg⟩
  · obtain ⟨ds, h1, h2⟩ := ho j io es h
    obtain ⟨p, xs, e1, e2, e3, e4, e5⟩ := s.ow j io ds h1
    obtain ⟨ys, q1, q2⟩ := h2 p e1
    refine ⟨p, ys, e1, ?_, q1, q2, e5⟩
    cases q : G' p with
    | none => rfl
    | some o =>
      rcases st.nw p o q with z | z
      · rw [e2] at z
        cases z
      · rw [e3] at z
        cases z
  · obtain ⟨ds, h1, h2⟩ := ho j true es h
    exact s.pr j ds h1
  · obtain ⟨_, q1, _⟩ := ho j io es h1
    obtain ⟨_, q2, _⟩ := ho k jo fs h2
    exact s.dj j k io jo _ _ p q1 q2 h3 h4
/-- one's own lists are lent: within, nobody gives them away -/
def lendL : List SC → List SC
  | [] => []
  | .own _ ds :: r => .own true ds :: lendL r
  | c :: r => c :: lendL r
theorem lendL_length : ∀ Γ : List SC, (lendL Γ).length = Γ.length
  | [] => rfl
  | .own _ ds :: r => by simp [lendL, lendL_length r]
  | .dat d :: r => by simp [lendL, lendL_length r]
  | .un :: r => by simp [lendL, lendL_length r]
theorem lendL_get : ∀ (Γ : List SC) (i : Nat), (lendL Γ)[i]? = (Γ[i]?).map fun c => match c with | .own _ ds => SC.own true ds | c => c
  | [], i => by simp [lendL]
  | .own _ ds :: r, 0 => by simp [lendL]
  | .dat d :: r, 0 => by simp [lendL]
  | .un :: r, 0 => by simp [lendL]
  | .own _ ds :: r, i + 1 => by simp [lendL, lendL_get r i]
  | .dat d :: r, i + 1 => by simp [lendL, lendL_get r i]
  | .un :: r, i + 1 => by simp [lendL, lendL_get r i]
def lend (Γ : Ev) : Ev := ⟨lendL Γ.v, Γ.c⟩
theorem lend_length (Γ : Ev) : (lend Γ).length = Γ.length := lendL_length Γ.v
theorem lend_get (Γ : Ev) (i : Nat) : (lend Γ)[i]? = (Γ[i]?).map fun c => match c with | .own _ ds => SC.own true ds | c => c := lendL_get Γ.v i
theorem lend_dat {Γ : Ev} {i : Nat} {d : D} (h : (lend Γ)[i]? = some (.dat d)) : Γ[i]? = some (.dat d) := by
  rw [lend_get] at h
  cases e : Γ[i]? with
  | none => rw [e] at h; cases h
  | some c =>
    rw [e] at h
    cases c with
    | dat x => exact h
    | own io ds => cases h
    | un => cases h
theorem lend_own {Γ : Ev} {i : Nat} {io : Bool} {ds : List D} (h : (lend Γ)[i]? = some (.own io ds)) : io = true ∧ ∃ jo, Γ[i]? = some (.own jo ds) := by
  rw [lend_get] at h
  cases e : Γ[i]? with
  | none => rw [e] at h; cases h
  | some c =>
    rw [e] at h
    cases c with
    | dat x => cases h
    | own jo ds => cases h; exact ⟨rfl, jo, rfl⟩
    | un => cases h
def lent (Γ : Ev) (σ : L2.St) (G H : Hp) : Bg := ⟨G, H, Mine Γ σ G, σ⟩
theorem Sat.lend (s : Sat K T B Γ σ G H) : Sat K T (lent Γ σ G H) (Ky.lend Γ) σ G H := by
  refine ⟨Same.refl G, s.gh, fun _ _ e _ => e, fun _ o e => ⟨o, e⟩, fun _ _ e => .inl e, s.len.trans (lend_length Γ).symm, fun i d h => s.dt i d (lend_dat h), fun i io ds h => ?_, fun _ _ _ => rfl, ⟨fun k ds e => ?_, s.cl.gi, s.cl.gn⟩, fun i j io jo ds es p h1 h2 h3 h4 => ?_⟩
  · obtain ⟨rfl, jo, h⟩ := lend_own h
    obtain ⟨p, xs, h1, h2, h3, h4, h5⟩ := s.ow i jo ds h
    exact ⟨p, xs, h1, h2, h3, h4, fun _ => .inl ⟨i, jo, ds, h, h1⟩, fun z => by cases z⟩
  · obtain ⟨p, xs, h1, h2, h3, h4⟩ := s.cl.ce k ds e
    exact ⟨p, xs, h1, h2, h3, .inl (.inr ⟨k, h1⟩)⟩
  · obtain ⟨_, _, h1⟩ := lend_own h1
    obtain ⟨_, _, h2⟩ := lend_own h2
    exact s.dj i j _ _ ds es p h1 h2 h3 h4
/-- .. and come back: what names hold is as it was, but for the lists' items -/
def unlendL : List SC → List SC → List SC
  | .own io _ :: r, .own _ es :: r' => .own io es :: unlendL r r'
  | .own _ _ :: r, _ :: r' => .un :: unlendL r r'
  | c :: r, _ :: r' => c :: unlendL r r'
  | _, _ => []
theorem unlendL_get : ∀ (Γ Γ' : List SC) (i : Nat), Γ.length = Γ'.length → (unlendL Γ Γ')[i]? = match Γ[i]?, Γ'[i]? with
    | some (.own io _), some (.own _ es) => some (SC.own io es)
    | some (.own _ _), some _ => some .un
    | some c, some _ => some c
    | _, _ => none
  | [], [], i, _ => by simp [unlendL]
  | c :: r, c' :: r', 0, _ => by cases c <;> cases c' <;> simp [unlendL]
  | c :: r, c' :: r', i + 1, h => by
    have ih := unlendL_get r r' i (by simpa using h)
    cases c <;> cases c' <;> simp [unlendL, ih]
theorem unlendL_length : ∀ (Γ Γ' : List SC), Γ.length = Γ'.length → (unlendL Γ Γ').length = Γ.length
  | [], [], _ => rfl
  | c :: r, c' :: r', h => by
    have ih := unlendL_length r r' (by simpa using h)
    cases c <;> cases c' <;> simp [unlendL, ih]
def unlend (Γ Γ' : Ev) : Ev := ⟨unlendL Γ.v Γ'.v, Γ'.c⟩
theorem unlend_length (Γ Γ' : Ev) (h : Γ.length = Γ'.length) : (unlend Γ Γ').length = Γ.length := unlendL_length Γ.v Γ'.v h
end
end Ky
/-! Ky6: what is walked; for, while, comprehensions. -/
namespace Ky
open PySem PySem.Spec PyProof.Rows L2

abbrev MI := Ev → Option OutL
section
variable (K : PySem.W.Frag) (T : Tbl) (W : WX)
/-- J walks the items ds, which are known -/
def WalksD (J : It) (ds : List D) (G : Hp) : Prop := ∀ Hc, Sub G Hc → (∀ i, i < ds.length → J.go i Hc) ∧ (∀ i, ds.length ≤ i → J.stop i Hc) ∧
  ∀ i x H', J.yld i Hc x H' → i < ds.length → ∃ d, ds[i]? = some d ∧ ∀ Gc, Same G Gc → Sub Gc Hc → ∃ G', New Gc Hc G' H' ∧ Rp K T G' x d
def rdI (f : MI) : TI := fun σ H R => ∃ B Γ G o, f Γ = some o ∧ Sat K T B Γ σ G H ∧ match o with
  | .ok ds Γ' => ∀ J G' H', Sat K T B Γ' σ G' H' → Same G G' → WalksD K T J ds G' → R J H'
  | .exc c d Γ' => ExcP K T W B σ G c d Γ'
end
theorem PI.imp {X : Cx} {tg e : Expr} {t t' : TI} (h : PI X tg e t) (i : ∀ σ H R, t' σ H R → t σ H R) : PI X tg e t' := ⟨fun pins s σ H R I q => h.run pins s σ H R I (i σ H R q)⟩
section
variable {K : PySem.W.Frag} {T : Tbl} {W : WX} {B : Bg} {Γ : Ev} {σ : L2.St} {G H : Hp} {De : Ends}
theorem walks_list {a : Addr} {xs : List V} {ds : List D} (hq : SqL K G a xs) (hf : ∀ Hc ys, Sub G Hc → SqL K Hc a ys → ys = xs) (r : RpA K T G xs ds) : WalksD K T (Itl K a) ds G := by
  intro Hc e
  refine ⟨fun i hi => ?_, fun i hi => ⟨xs, e.seq hq, by rw [r.length]; exact hi⟩, fun i x H' y hi => ?_⟩
  · obtain ⟨v, hv, _⟩ := r.get (List.getElem?_eq_getElem hi)
    exact ⟨xs, v, e.seq hq, hv⟩
  · obtain ⟨rfl, y⟩ := y
    obtain ⟨d, h1, h2⟩ := r.getV (y xs (e.seq hq))
    exact ⟨d, h1, fun Gc g1 g2 => ⟨Gc, .inl ⟨rfl, rfl⟩, h2.to g1⟩⟩
theorem walks_tup {a : Addr} {xs : List V} {ds : List D} (hq : SqT K G a xs) (r : RpA K T G xs ds) : WalksD K T (Itt K a) ds G := by
  intro Hc e
  refine ⟨fun i hi => ?_, fun i hi => ⟨xs, Sub.sqt e hq, by rw [r.length]; exact hi⟩, fun i x H' y hi => ?_⟩
  · obtain ⟨v, hv, _⟩ := r.get (List.getElem?_eq_getElem hi)
    exact ⟨xs, v, Sub.sqt e hq, hv⟩
  · obtain ⟨rfl, y⟩ := y
    obtain ⟨d, h1, h2⟩ := r.getV (y xs (Sub.sqt e hq))
    exact ⟨d, h1, fun Gc g1 g2 => ⟨Gc, .inl ⟨rfl, rfl⟩, h2.to g1⟩⟩
/-- lo, lo + 1, .. -/
def upTo (lo : Int) (n : Nat) : List D := (List.range n).map fun k => D.int (lo + (k : Nat))
theorem walks_rng {lo : Int} {n : Nat} : WalksD K T (Itr lo n) (upTo lo n) G := by
  intro Hc e
  have hl : (upTo lo n).length = n := by simp [upTo]
  refine ⟨fun i hi => by rw [hl] at hi; exact hi, fun i hi => by rw [hl] at hi; exact hi, fun i x H' y hi => ?_⟩
  obtain ⟨rfl, rfl⟩ := y
  rw [hl] at hi
  refine ⟨.int (lo + (i : Nat)), by simp [upTo, hi], fun Gc g1 g2 => ⟨Gc, .inl ⟨rfl, rfl⟩, .int _⟩⟩
def numD (k : Nat) : List D → List D
  | [] => []
  | d :: ds => .tup [.int (k : Nat), d] :: numD (k + 1) ds
theorem numD_length : ∀ (ds : List D) (k : Nat), (numD k ds).length = ds.length
  | [], _ => rfl
  | d :: ds, k => by simp [numD, numD_length ds]
theorem numD_get : ∀ (ds : List D) (k i : Nat) (d : D), ds[i]? = some d → (numD k ds)[i]? = some (.tup [.int ((k + i : Nat) : Int), d])
  | [], _, _, _, h => by simp at h
  | e :: ds, k, 0, d, h => by simp at h; subst h; rfl
  | e :: ds, k, i + 1, d, h => by
    have q := numD_get ds (k + 1) i d (by simpa using h)
    rw [numD, List.getElem?_cons_succ, q]
    have e : k + 1 + i = k + (i + 1) := by omega
    rw [e]
theorem walks_enum {a : Addr} {xs : List V} {ds : List D} (hq : SqL K G a xs) (r : RpA K T G xs ds) : WalksD K T (Ite K a) (numD 0 ds) G := by
  intro Hc e
  refine ⟨fun i hi => ?_, fun i hi => ⟨xs, e.seq hq, by rw [r.length]; rw [numD_length] at hi; exact hi⟩, fun i x H' y hi => ?_⟩
  · rw [numD_length] at hi
    obtain ⟨v, hv, _⟩ := r.get (List.getElem?_eq_getElem hi)
    exact ⟨xs, v, e.seq hq, hv⟩
  · obtain ⟨p, v, rfl, hp, rfl, y⟩ := y
    obtain ⟨d, h1, h2⟩ := r.getV (y xs (e.seq hq))
    refine ⟨_, numD_get ds 0 i d h1, fun Gc g1 g2 => ⟨upd Gc p (.tup [.int (i : Nat), v]), .inr ⟨p, _, hp, (by intro _ _ z; cases z), rfl, rfl⟩, ?_⟩⟩
    have sg : Same Gc (upd Gc p (.tup [.int (i : Nat), v])) := Same.new (g2.free hp)
    have e0 : 0 + i = i := Nat.zero_add i
    rw [e0]
    exact .tup (.of upd_same) (.cons (.int _) (.one ((h2.to g1).to sg)))

/-! ### sources -/
def miSeq (f : ME) : MI := fun Γ => match f Γ with
  | some (.ok d Γ') => (match d with
    | .lst ds => some (.ok ds Γ')
    | .tup ds => some (.ok ds Γ')
    | _ => none)
  | some (.exc c d Γ') => some (.exc c d Γ')
  | none => none
def small62 (i : Int) : Bool := decide (-(2 ^ 62) ≤ i) && decide (i < 2 ^ 62)
theorem small62_of {i : Int} (h : small62 i = true) : -(2 ^ 62) ≤ i ∧ i < 2 ^ 62 := by
  unfold small62 at h
  rw [Bool.and_eq_true, decide_eq_true_eq, decide_eq_true_eq] at h
  exact h
def miRng1 (g : MG) : MI := fun Γ => match g Γ with
  | some (.ok a Γ') => (match worth Γ' a with
    | some (.int n) => if small62 n then some (.ok (upTo 0 n.toNat) Γ') else none
    | _ => none)
  | some (.exc c d Γ') => some (.exc c d Γ')
  | none => none
def miRng2 (f g : MG) : MI := fun Γ => match mA2 f g Γ with
  | some (.ok l Γ') => (match worths Γ' l with
    | some [.int lo, .int hi] => if small62 lo && small62 hi then some (.ok (upTo lo (hi - lo).toNat) Γ') else none
    | _ => none)
  | some (.exc c d Γ') => some (.exc c d Γ')
  | none => none
def miEnum (f : ME) : MI := fun Γ => match f Γ with
  | some (.ok d Γ') => (match d with
    | .lst ds => some (.ok (numD 0 ds) Γ')
    | _ => none)
  | some (.exc c d Γ') => some (.exc c d Γ')
  | none => none
/-- a list or a tuple, whichever comes -/
def iSeq (K : PySem.W.Frag) (tl : TE) : TI := fun σ H R => tl σ H fun x H1 => ∃ a, x = .ref a ∧ ((∃ xs, SqL K H1 a xs ∧ R (Itl K a) H1) ∨ ∃ xs, SqT K H1 a xs ∧ R (Itt K a) H1)
theorem pi_seq {X : Cx} {tg l : Expr} {tl : TE} (hl : PE X l tl) : PI X tg l (iSeq X.K tl) := by
  refine ⟨fun pins s σ H R I h => ?_⟩
  refine thn (hl.run pins s σ H _ I h) fun v s1 ⟨x, H1, I1, r1, q1⟩ => ?_
  obtain ⟨a, e, q⟩ := q1
  subst e
  cases r1
  rcases q with ⟨xs, hq, q⟩ | ⟨xs, hq, q⟩
  · obtain ⟨its, rv, p, hz⟩ := I1.list hq
    refine wpAny_pyIter_list p.isList ?_
    refine ⟨s1.heap.objs.size, [s1.heap.objs.size], _, _, H1, rfl, I1.kept (t' := s1.toks) fun b o e => Heap.get?_push_of_some _ e, turn_list a _, ⟨_, Heap.get?_push_size _ rfl, rfl, rfl⟩, fun b hb => ?_, q⟩
    have e : b = s1.heap.objs.size := by simpa using hb
    subst e
    exact I1.fpOk (Nat.le_refl _) (I1.hok.fresh (Nat.le_refl _))
  · obtain ⟨its, rv, p, hz⟩ := I1.tuple hq
    refine wpAny_pyIter_tuple (show s1.heap.IsTuple a its.toArray from p) ?_
    refine ⟨s1.heap.objs.size, [s1.heap.objs.size], _, _, H1, rfl, I1.kept (t' := s1.toks) fun b o e => Heap.get?_push_of_some _ e, turn_tuple a _, ⟨_, Heap.get?_push_size _ rfl, rfl, rfl⟩, fun b hb => ?_, q⟩
    have e : b = s1.heap.objs.size := by simpa using hb
    subst e
    exact I1.fpOk (Nat.le_refl _) (I1.hok.fresh (Nat.le_refl _))
theorem rdI_seq {f : ME} {R : It → Hp → Prop} (h : rdI K T W (miSeq f) σ H R) : iSeq K (rd K T W f) σ H R := by
  obtain ⟨B, Γ, G, o, hf, s, k⟩ := h
  unfold miSeq at hf
  split at hf
  · rename_i d Γ' q
    refine ⟨B, Γ, G, _, q, s, fun v G' H' s' g r => ?_⟩
    split at hf
    · rename_i ds
      cases hf
      cases r with
      | lst sq ra =>
        exact ⟨_, rfl, .inl ⟨_, s'.gh.seq sq, k _ G' H' s' g (by
          intro Hc e
          refine ⟨fun i hi => ?_, fun i hi => ⟨_, e.seq sq, by rw [ra.length]; exact hi⟩, fun i x H'' y hi => ?_⟩
          · obtain ⟨v, hv, _⟩ := ra.get (List.getElem?_eq_getElem hi)
            exact ⟨_, v, e.seq sq, hv⟩
          · obtain ⟨rfl, y⟩ := y
            obtain ⟨d, h1, h2⟩ := ra.getV (y _ (e.seq sq))
            exact ⟨d, h1, fun Gc g1 g2 => ⟨Gc, .inl ⟨rfl, rfl⟩, h2.to g1⟩⟩)⟩⟩
    · rename_i ds
      cases hf
      cases r with
      | tup sq ra => exact ⟨_, rfl, .inr ⟨_, Sub.sqt s'.gh sq, k _ G' H' s' g (walks_tup sq ra)⟩⟩
    · cases hf
  · rename_i c d Γ' q
    cases hf
    exact ⟨B, Γ, G, _, q, s, k⟩
  · cases hf
theorem rdI_rng1 {g : MG} {R : It → Hp → Prop} (h : rdI K T W (miRng1 g) σ H R) : iRng1 (tCons (rdG K T W g) tNil) σ H R := by
  obtain ⟨B, Γ, G, o, hf, s, k⟩ := h
  unfold miRng1 at hf
  split at hf
  · rename_i a Γ' q
    refine ⟨B, Γ, G, _, q, s, fun v G' H' s' g' r => ?_⟩
    split at hf
    · rename_i n w
      split at hf
      · rename_i hn
        cases hf
        have e := (s'.worth r w).int
        subst e
        obtain ⟨h1, h2⟩ := small62_of hn
        exact ⟨n, rfl, h1, h2, k _ G' H' s' g' walks_rng⟩
      · cases hf
    · cases hf
  · rename_i c d Γ' q
    cases hf
    exact ⟨B, Γ, G, _, q, s, k⟩
  · cases hf
theorem rdI_rng2 {f g : MG} {R : It → Hp → Prop} (h : rdI K T W (miRng2 f g) σ H R) : iRng2 (tCons (rdG K T W f) (tCons (rdG K T W g) tNil)) σ H R := by
  obtain ⟨B, Γ, G, o, hf, s, k⟩ := h
  unfold miRng2 at hf
  have fin : rdA K T W (mA2 f g) σ H fun vs H1 => ∃ i j : Int, vs = [.int i, .int j] ∧ (-(2 ^ 62) ≤ i ∧ i < 2 ^ 62 ∧ -(2 ^ 62) ≤ j ∧ j < 2 ^ 62) ∧ R (Itr i (j - i).toNat) H1 := by
    split at hf
    · rename_i l Γ' q
      refine ⟨B, Γ, G, _, q, s, fun vs G' H' s' g' r => ?_⟩
      split at hf
      · rename_i lo hi w
        split at hf
        · rename_i hn
          cases hf
          have ra := s'.worths r w
          cases ra with
          | cons r1 ra =>
            cases ra with
            | cons r2 ra =>
              cases ra
              have e1 := r1.int
              have e2 := r2.int
              subst e1 e2
              rw [Bool.and_eq_true] at hn
              obtain ⟨h1, h2⟩ := small62_of hn.1
              obtain ⟨h3, h4⟩ := small62_of hn.2
              exact ⟨lo, hi, rfl, ⟨h1, h2, h3, h4⟩, k _ G' H' s' g' walks_rng⟩
        · cases hf
      · cases hf
    · rename_i c d Γ' q
      cases hf
      exact ⟨B, Γ, G, _, q, s, k⟩
    · cases hf
  exact (rdA_2 fin).imp fun x H1 z1 => z1.imp fun y H2 z => z
theorem rdI_enum {f : ME} {R : It → Hp → Prop} (h : rdI K T W (miEnum f) σ H R) : iEnum K (tCons (rd K T W f) tNil) σ H R := by
  obtain ⟨B, Γ, G, o, hf, s, k⟩ := h
  unfold miEnum at hf
  split at hf
  · rename_i d Γ' q
    refine ⟨B, Γ, G, _, q, s, fun v G' H' s' g r => ?_⟩
    split at hf
    · rename_i ds
      cases hf
      cases r with
      | lst sq ra => exact ⟨_, _, rfl, s'.gh.seq sq, k _ G' H' s' g (walks_enum sq ra)⟩
    · cases hf
  · rename_i c d Γ' q
    cases hf
    exact ⟨B, Γ, G, _, q, s, k⟩
  · cases hf

/-! ### for -/
def forL (t : MT) (body : MS) : List D → Ev → Option Fl
  | [], Γ => some (.nx Γ)
  | d :: ds, Γ => (match t.go d Γ with
    | some Γ1 => (match body Γ1 with
      | some (.nx Γ2) => forL t body ds Γ2
      | some (.ct Γ2) => forL t body ds Γ2
      | some (.bk Γ2) => some (.nx Γ2)
      | o => o)
    | none => none)
def mFor (src : MI) (t : MT) (body : MS) : MS := fun Γ => match src Γ with
  | some (.ok ds Γ') => forL t body ds Γ'
  | some (.exc c d Γ') => some (.exc c d Γ')
  | none => none
theorem rdS_for {src : MI} {t : MT} {body : MS} (h : rdS K T W (mFor src t body) De σ H) : tFor (rdI K T W src) (rdTg K T t) (rdS K T W body) De σ H := by
  obtain ⟨B, Γ, G, o, hf, s, k⟩ := h
  unfold mFor at hf
  split at hf
  · rename_i ds Γ1 q
    refine ⟨B, Γ, G, _, q, s, fun J G1 H1 s1 g1 wk => ?_⟩
    refine ⟨fun i m σ H => m = ds.length - i ∧ i ≤ ds.length ∧ ∃ Γi Gi, Sat K T B Γi σ Gi H ∧ Same G1 Gi ∧ forL t body (ds.drop i) Γi = some o, ⟨_, rfl, Nat.zero_le _, Γ1, G1, s1, Same.refl _, by simpa using hf⟩, ?_⟩
    rintro i m σ2 H2 ⟨rfl, hi, Γi, Gi, s2, g2, hd⟩
    obtain ⟨w1, w2, w3⟩ := wk H2 (g2.sub s2.gh)
    by_cases hlt : i < ds.length
    · refine .inr ⟨w1 i hlt, fun σ' H' => ∃ Γ' G', Sat K T B Γ' σ' G' H' ∧ Same G1 G' ∧ forL t body (ds.drop (i + 1)) Γ' = some o, fun σ' H' ⟨Γ', G', z1, z2, z3⟩ => ⟨ds.length - (i + 1), by omega, rfl, hlt, Γ', G', z1, z2, z3⟩, fun x H' y => ?_⟩
      obtain ⟨d, hd1, hd2⟩ := w3 i x H' y hlt
      obtain ⟨G3, n3, r3⟩ := hd2 Gi g2 s2.gh
      obtain ⟨s3, g3⟩ := s2.news n3
      have e : ds.drop i = d :: ds.drop (i + 1) := by
        rw [List.drop_eq_getElem_cons hlt]
        congr 1
        rw [List.getElem?_eq_getElem hlt] at hd1
        exact Option.some.inj hd1
      rw [e] at hd
      unfold forL at hd
      split at hd
      · rename_i Γ3 q3
        refine ⟨B, Γi, G3, d, Γ3, q3, s3, r3, fun σ4 s4 _ _ => ?_⟩
        split at hd
        · rename_i Γ5 q5
          exact ⟨B, Γ3, G3, _, q5, s4, fun σ5 G5 H5 s5 g5 => ⟨Γ5, G5, s5, (g2.trans g3).trans g5, hd⟩⟩
        · rename_i Γ5 q5
          exact ⟨B, Γ3, G3, _, q5, s4, fun σ5 G5 H5 s5 g5 => ⟨Γ5, G5, s5, (g2.trans g3).trans g5, hd⟩⟩
        · rename_i Γ5 q5
          cases hd
          exact ⟨B, Γ3, G3, _, q5, s4, fun σ5 G5 H5 s5 g5 => k σ5 G5 H5 s5 (((g1.trans g2).trans g3).trans g5)⟩
        · rename_i n1 n2 n3
          refine ⟨B, Γ3, G3, _, hd, s4, ?_⟩
          cases o with
          | nx Γ' => exact absurd hd (n1 Γ')
          | bk Γ' => exact absurd hd (n3 Γ')
          | ct Γ' => exact absurd hd (n2 Γ')
          | rt r Γ' => exact k
          | exc c d Γ' => exact k
      · cases hd
    · have e : i = ds.length := by omega
      subst e
      rw [List.drop_length] at hd
      cases hd
      exact .inl ⟨w2 _ (Nat.le_refl _), k σ2 Gi H2 s2 (g1.trans g2)⟩
  · rename_i c d Γ' q
    cases hf
    exact ⟨B, Γ, G, _, q, s, ExcS.p k⟩
  · cases hf
/-! ### while -/
def whileL (c : MB) (body : MS) : Nat → Ev → Option Fl
  | 0, _ => none
  | n + 1, Γ => (match c Γ with
    | some (.ok true Γ1) => (match body Γ1 with
      | some (.nx Γ2) => whileL c body n Γ2
      | some (.ct Γ2) => whileL c body n Γ2
      | some (.bk Γ2) => some (.nx Γ2)
      | o => o)
    | some (.ok false Γ1) => some (.nx Γ1)
    | some (.exc c d Γ1) => some (.exc c d Γ1)
    | none => none)
def mWhile (n : Nat) (c : MB) (body : MS) : MS := whileL c body n
theorem rdS_while {n : Nat} {c : MB} {body : MS} (h : rdS K T W (mWhile n c body) De σ H) : tWhile (rdT K T W c) (rdS K T W body) De σ H := by
  obtain ⟨B, Γ, G, o, hf, s, k⟩ := h
  refine ⟨fun m σ H => ∃ Γi Gi, Sat K T B Γi σ Gi H ∧ Same G Gi ∧ whileL c body m Γi = some o, ⟨n, Γ, G, s, Same.refl _, hf⟩, ?_⟩
  rintro m σ2 H2 ⟨Γi, Gi, s2, g2, hd⟩
  cases m with
  | zero => cases hd
  | succ m =>
    unfold whileL at hd
    split at hd
    · rename_i Γ1 q1
      refine ⟨B, Γi, Gi, _, q1, s2, fun G3 H3 s3 g3 => ?_⟩
      refine iteT ?_
      refine ⟨fun σ' H' => ∃ Γ' G', Sat K T B Γ' σ' G' H' ∧ Same G G' ∧ whileL c body m Γ' = some o, fun σ' H' ⟨Γ', G', z1, z2, z3⟩ => ⟨m, Nat.lt_succ_self _, Γ', G', z1, z2, z3⟩, ?_⟩
      split at hd
      · rename_i Γ5 q5
        exact ⟨B, Γ1, G3, _, q5, s3, fun σ5 G5 H5 s5 g5 => ⟨Γ5, G5, s5, (g2.trans g3).trans g5, hd⟩⟩
      · rename_i Γ5 q5
        exact ⟨B, Γ1, G3, _, q5, s3, fun σ5 G5 H5 s5 g5 => ⟨Γ5, G5, s5, (g2.trans g3).trans g5, hd⟩⟩
      · rename_i Γ5 q5
        cases hd
        exact ⟨B, Γ1, G3, _, q5, s3, fun σ5 G5 H5 s5 g5 => k σ5 G5 H5 s5 ((g2.trans g3).trans g5)⟩
      · rename_i n1 n2 n3
        refine ⟨B, Γ1, G3, _, hd, s3, ?_⟩
        cases o with
        | nx Γ' => exact absurd hd (n1 Γ')
        | bk Γ' => exact absurd hd (n3 Γ')
        | ct Γ' => exact absurd hd (n2 Γ')
        | rt r Γ' => exact k
        | exc c d Γ' => exact k
    · rename_i Γ1 q1
      cases hd
      refine ⟨B, Γi, Gi, _, q1, s2, fun G3 H3 s3 g3 => ?_⟩
      refine iteF ?_
      exact k σ2 G3 H3 s3 (g2.trans g3)
    · rename_i cc d Γ1 q1
      cases hd
      exact ⟨B, Γi, Gi, _, q1, s2, ExcS.p k⟩
    · cases hd
end
end Ky
/-! Ky7: comprehensions. -/
namespace Ky
open PySem PySem.Spec PyProof.Rows L2

/-- the names of a comprehension's own, and what it made, are forgotten -/
def wipeE (vs : List Nat) (Γ : Ev) : Ev := ⟨Γ.v.zipIdx.map fun p => if vs.contains p.2 then .un else match p.1 with
  | .own false _ => .un
  | c => c, Γ.c⟩
theorem wipeE_length (vs : List Nat) (Γ : Ev) : (wipeE vs Γ).length = Γ.length := by simp [wipeE, Ev.length]
theorem wipeE_get (vs : List Nat) (Γ : Ev) (i : Nat) : (wipeE vs Γ)[i]? = (Γ[i]?).map fun c => if vs.contains i then .un else match c with
    | .own false _ => .un
    | c => c := by
  rw [Ev.get_def, Ev.get_def]
  simp only [wipeE, List.getElem?_map, List.getElem?_zipIdx, Option.map_map, Nat.zero_add]
  rfl
theorem wipeE_dat {vs : List Nat} {Γ : Ev} {i : Nat} {d : D} (h : (wipeE vs Γ)[i]? = some (.dat d)) : Γ[i]? = some (.dat d) ∧ i ∉ vs := by
  rw [wipeE_get] at h
  cases e : Γ[i]? with
  | none => rw [e] at h; cases h
  | some c =>
    rw [e] at h
    by_cases hv : vs.contains i = true
    · rw [Option.map_some, if_pos hv] at h
      cases h
    · simp only [Option.map_some, hv] at h
      have nv : i ∉ vs := fun z => hv (by simpa using z)
      cases c with
      | un => cases h
      | dat x => exact ⟨h, nv⟩
      | own io ds => cases io <;> cases h
theorem wipeE_own {vs : List Nat} {Γ : Ev} {i : Nat} {io : Bool} {ds : List D} (h : (wipeE vs Γ)[i]? = some (.own io ds)) : Γ[i]? = some (.own true ds) ∧ io = true ∧ i ∉ vs := by
  rw [wipeE_get] at h
  cases e : Γ[i]? with
  | none => rw [e] at h; cases h
  | some c =>
    rw [e] at h
    by_cases hv : vs.contains i = true
    · rw [Option.map_some, if_pos hv] at h
      cases h
    · simp only [Option.map_some, hv] at h
      have nv : i ∉ vs := fun z => hv (by simpa using z)
      cases c with
      | un => cases h
      | dat x => cases h
      | own jo es =>
        cases jo with
        | true => cases h; exact ⟨rfl, rfl, nv⟩
        | false => cases h
theorem wipe_past {σ : L2.St} {i : Nat} : ∀ {vs : List Nat}, i ∉ vs → (wipe σ vs)[i]? = σ[i]?
  | [], _ => rfl
  | v :: vs, h => by
    rw [List.mem_cons, not_or] at h
    show ((wipe σ vs).set v none)[i]? = σ[i]?
    rw [set_past (fun z => h.1 z.symm)]
    exact wipe_past h.2
theorem wipe_in {σ : L2.St} {i : Nat} : ∀ {vs : List Nat}, i ∈ vs → i < σ.length → (wipe σ vs)[i]? = some none
  | v :: vs, h, hl => by
    show ((wipe σ vs).set v none)[i]? = some none
    by_cases e : v = i
    · subst e
      exact set_here (by rw [wipe_length]; exact hl)
    · rw [set_past e]
      rcases List.mem_cons.mp h with z | z
      · exact absurd z.symm e
      · exact wipe_in z hl
theorem wipe_eq {σ σ' : L2.St} {vs : List Nat} (hl : σ'.length = σ.length) (h : ∀ j, j ∉ vs → σ'[j]? = σ[j]?) : wipe σ' vs = wipe σ vs := by
  apply List.ext_getElem?
  intro i
  by_cases hi : i ∈ vs
  · by_cases hh : i < σ.length
    · rw [wipe_in hi hh, wipe_in hi (by omega)]
    · rw [List.getElem?_eq_none (by rw [wipe_length]; omega), List.getElem?_eq_none (by rw [wipe_length]; omega)]
  · rw [wipe_past hi, wipe_past hi, h i hi]
theorem wipe_wipe {σ : L2.St} {vs : List Nat} : wipe (wipe σ vs) vs = wipe σ vs := wipe_eq (wipe_length ..) fun j hj => wipe_past hj

def compL (t : MT) (vs : List Nat) (c : MB) (elt : ME) : List D → Ev → Option (List D × Ev)
  | [], Γ => some ([], Γ)
  | d :: ds, Γ => (match t.go d Γ with
    | some Γ1 => (match c Γ1 with
      | some (.ok true Γ2) => (match elt Γ2 with
        | some (.ok e Γ3) => (match compL t vs c elt ds (wipeE vs Γ3) with
          | some (es, Γ') => some (e :: es, Γ')
          | none => none)
        | _ => none)
      | some (.ok false Γ2) => compL t vs c elt ds (wipeE vs Γ2)
      | _ => none)
    | none => none)
def mComp (src : MI) (t : MT) (vs : List Nat) (c : MB) (elt : ME) : ML := fun Γ => match src Γ with
  | some (.ok ds Γ1) => if t.sl.all (vs.contains ·) && decide (ds.length ≤ 100000) then
      (match compL t vs c elt ds (wipeE vs (lend Γ1)) with
      | some (es, Γ2) => if Γ2.length = Γ1.length then some (.ok es (unlend Γ1 Γ2)) else none
      | none => none)
    else none
  | some (.exc c d Γ') => some (.exc c d Γ')
  | none => none
section
variable {K : PySem.W.Frag} {T : Tbl} {B : Bg} {Γ : Ev} {σ σ2 : L2.St} {G H : Hp} {M : Addr → Prop} {vs : List Nat}
theorem unlendL_own : ∀ {Γ Γ' : List SC} {i : Nat} {io : Bool} {es : List D}, (unlendL Γ Γ')[i]? = some (.own io es) → ∃ ds jo, Γ[i]? = some (.own io ds) ∧ Γ'[i]? = some (.own jo es)
  | [], Γ', i, io, es, h => by cases Γ' <;> simp [unlendL] at h
  | c :: r, [], i, io, es, h => by cases c <;> simp [unlendL] at h
  | c :: r, c' :: r', 0, io, es, h => by
    cases c with
    | own io1 ds1 =>
      cases c' with
      | own io2 ds2 =>
        cases h
        exact ⟨ds1, io2, rfl, rfl⟩
      | dat d => cases h
      | un => cases h
    | dat d => cases h
    | un => cases h
  | c :: r, c' :: r', i + 1, io, es, h => by
    have ih : (unlendL r r')[i]? = some (.own io es) := by cases c <;> cases c' <;> exact h
    obtain ⟨ds, jo, h1, h2⟩ := unlendL_own (Γ := r) (Γ' := r') ih
    exact ⟨ds, jo, by simpa using h1, by simpa using h2⟩
theorem unlendL_dat : ∀ {Γ Γ' : List SC} {i : Nat} {d : D}, (unlendL Γ Γ')[i]? = some (.dat d) → Γ[i]? = some (.dat d)
  | [], Γ', i, d, h => by cases Γ' <;> simp [unlendL] at h
  | c :: r, [], i, d, h => by cases c <;> simp [unlendL] at h
  | c :: r, c' :: r', 0, d, h => by
    cases c with
    | own io1 ds1 => cases c' <;> cases h
    | dat d => exact h
    | un => exact h
  | c :: r, c' :: r', i + 1, d, h => by
    have ih : (unlendL r r')[i]? = some (.dat d) := by cases c <;> cases c' <;> exact h
    have h1 := unlendL_dat (Γ := r) (Γ' := r') ih
    simpa using h1
theorem unlend_own {Γ Γ' : Ev} {i : Nat} {io : Bool} {es : List D} (h : (unlend Γ Γ')[i]? = some (.own io es)) : ∃ ds jo, Γ[i]? = some (.own io ds) ∧ Γ'[i]? = some (.own jo es) := unlendL_own (Γ := Γ.v) (Γ' := Γ'.v) h
theorem unlend_dat {Γ Γ' : Ev} {i : Nat} {d : D} (h : (unlend Γ Γ')[i]? = some (.dat d)) : Γ[i]? = some (.dat d) := unlendL_dat (Γ := Γ.v) (Γ' := Γ'.v) h
/-- the block's state at a turn's end is the state at the next turn's start -/
theorem Sat.again {Bx : Bg} {H' : Hp} {σw : L2.St} (s : Sat K T Bx Γ σ2 G H) (hB : ∀ p, Bx.M p → M p) (hN : ∀ p, Bx.H0 p = none → H p ≠ none → M p) (hw : wipe σ2 vs = σw) (gh : Sub G H') (hM : ∀ p, M p → H' p = H p) : Sat K T ⟨G, H', M, σw⟩ (wipeE vs Γ) σw G H' := by
  have len : σ2.length = Γ.length := s.len
  refine ⟨Same.refl G, gh, fun _ _ e _ => e, fun _ o e => ⟨o, e⟩, fun _ _ e => .inl e, by rw [← hw, wipe_length, wipeE_length]; exact len, fun i d h => ?_, fun i io ds h => ?_, fun _ _ _ => rfl, ⟨fun k ds e => ?_, s.cl.gi, s.cl.gn⟩, fun i j io jo ds es p h1 h2 h3 h4 => ?_⟩
  · obtain ⟨h, hv⟩ := wipeE_dat h
    obtain ⟨v, h1, h2⟩ := s.dt i d h
    exact ⟨v, by rw [← hw, wipe_past hv]; exact h1, h2⟩
  · obtain ⟨h', hio, hv⟩ := wipeE_own h
    obtain ⟨p, xs, h1, h2, h3, h4, h5, h6⟩ := s.ow i true ds h'
    have h5 := hB _ (h5 rfl)
    exact ⟨p, xs, by rw [← hw, wipe_past hv]; exact h1, h2, by rw [hM p h5]; exact h3, h4, fun _ => h5, fun z => by rw [hio] at z; cases z⟩
  · obtain ⟨p, xs, h1, h2, h3, h4⟩ := s.cl.ce k ds e
    have m : M p := by
      rcases h4 with q | q
      · exact hB _ q
      · exact hN _ q (by rw [h2]; intro z; cases z)
    exact ⟨p, xs, h1, by rw [hM p m]; exact h2, h3, .inl m⟩
  · obtain ⟨h1, _, v1⟩ := wipeE_own h1
    obtain ⟨h2, _, v2⟩ := wipeE_own h2
    rw [← hw, wipe_past v1] at h3
    rw [← hw, wipe_past v2] at h4
    exact s.dj i j _ _ _ _ p h1 h2 h3 h4
/-- what a turn may change: what was one's own ahead of the loop, and what has come since, but for the list that grows -/
def Mx (Γ : Ev) (σ : L2.St) (G H : Hp) (Da : Addr) (a : Addr) : Prop := Mine Γ σ G a ∨ (H a = none ∧ a ≠ Da)
theorem RpA.snoc {vs : List V} {ds : List D} {v : V} {d : D} (h : RpA K T G vs ds) (r : Rp K T G v d) : RpA K T G (vs ++ [v]) (ds ++ [d]) := h.append (.one r)
theorem rdL_comp {W : WX} {src : MI} {t : MT} {c : MB} {elt : ME} {Q : VK} (h : rdL K T W (mComp src t vs c elt) σ H Q) : tLc (rdI K T W src) (rdTg K T t) (rdT K T (fun _ _ _ _ => False) c) (rd K T (fun _ _ _ _ => False) elt) vs σ H Q := by
  obtain ⟨B, Γ, G, o, hf, s, k⟩ := h
  unfold mComp at hf
  split at hf
  · rename_i ds Γ1 q
    refine ⟨B, Γ, G, _, q, s, fun J G1 H1 s1 g1 wk Da hD => ?_⟩
    split at hf
    · rename_i hc
      rw [Bool.and_eq_true, decide_eq_true_eq] at hc
      obtain ⟨hsl, hlen⟩ := hc
      have hsl : ∀ j, j ∉ vs → j ∉ t.sl := fun j hj z => hj (by simpa using List.all_eq_true.mp hsl j z)
      split at hf
      · rename_i es Γ2 q2
        split at hf
        · rename_i hl2
          cases hf
          have hgD : G1 Da = none := s1.gnone hD
          have notD : ¬ Mx Γ1 σ G1 H1 Da Da := by
            rintro ((⟨j, io, fs, h1, h2⟩ | ⟨k', h1⟩) | ⟨_, h1⟩)
            case inr => exact h1 rfl
            case inl.inr =>
              rw [hgD] at h1
              cases h1
            obtain ⟨p, xs, e1, e2, e3, e4⟩ := s1.ow j io fs h1
            rw [h2] at e1
            cases e1
            rw [hD] at e3
            cases e3
          refine ⟨fun i m H' => m = ds.length - i ∧ i ≤ ds.length ∧ ∃ (Γi : Ev) (Gi : Hp) (accV : List V) (accD rest : List D),
            Sat K T ⟨Gi, H', Mx Γ1 σ G1 H1 Da, wipe σ vs⟩ Γi (wipe σ vs) Gi H' ∧ Stp (Mx Γ1 σ G1 H1 Da) G1 H1 Gi H' ∧ H' Da = some (.lst accV) ∧ Gi Da = none ∧ RpA K T Gi accV accD ∧ accD.length ≤ i ∧
            compL t vs c elt (ds.drop i) Γi = some (rest, Γ2) ∧ accD ++ rest = es, ⟨_, rfl, Nat.zero_le _, wipeE vs (lend Γ1), G1, [], [], es, ?_, ?_, upd_same, hgD, .nil, Nat.le_refl _, by simpa using q2, rfl⟩, ?_⟩
          · exact Sat.again s1.lend (fun p m => .inl m) (fun p q1 q2 => absurd q1 q2) rfl (s1.gh.trans (Same.new hD)) fun p hp => upd_ne fun z => notD (z ▸ hp)
          · refine ⟨Same.refl _, fun a u e _ => ?_, fun a u e => ?_, fun a u e => .inl e⟩
            · rw [upd_ne (ne_of_none e hD)]
              exact e
            · exact ⟨u, by rw [upd_ne (ne_of_none e hD)]; exact e⟩
          · rintro i m Hi ⟨rfl, hi, Γi, Gi, accV, accD, rest, si, st, hDi, gDi, ra, la, hcomp, hes⟩
            have hH : ∀ p, Hi p = none → H1 p = none := fun p q => by
              cases e : H1 p with
              | none => rfl
              | some u =>
                obtain ⟨o, z⟩ := st.al p u e
                rw [q] at z
                cases z
            have hN : ∀ p, Hi p = none → Mx Γ1 σ G1 H1 Da p := fun p q => .inr (And.intro (hH p q) (fun e => by
              subst e
              rw [hDi] at q
              cases q))
            obtain ⟨w1, w2, w3⟩ := wk Hi (st.gg.sub si.gh)
            by_cases hlt : i < ds.length
            · refine .inr ⟨w1 i hlt, fun H' => i + 1 ≤ ds.length ∧ ∃ (Γi : Ev) (Gi : Hp) (accV : List V) (accD rest : List D),
                Sat K T ⟨Gi, H', Mx Γ1 σ G1 H1 Da, wipe σ vs⟩ Γi (wipe σ vs) Gi H' ∧ Stp (Mx Γ1 σ G1 H1 Da) G1 H1 Gi H' ∧ H' Da = some (.lst accV) ∧ Gi Da = none ∧ RpA K T Gi accV accD ∧ accD.length ≤ i + 1 ∧
                compL t vs c elt (ds.drop (i + 1)) Γi = some (rest, Γ2) ∧ accD ++ rest = es, fun H' z => ⟨ds.length - (i + 1), by omega, rfl, z⟩, fun x H' y => ?_⟩
              obtain ⟨d, hd1, hd2⟩ := w3 i x H' y hlt
              obtain ⟨G3, n3, r3⟩ := hd2 Gi st.gg si.gh
              obtain ⟨s3, g3⟩ := si.news n3
              have e : ds.drop i = d :: ds.drop (i + 1) := by
                rw [List.drop_eq_getElem_cons hlt]
                congr 1
                rw [List.getElem?_eq_getElem hlt] at hd1
                exact Option.some.inj hd1
              rw [e] at hcomp
              unfold compL at hcomp
              -- behind a part of the turn
              have after : ∀ {Γ' : Ev} {σ' : L2.St} {G' H' : Hp}, Sat K T ⟨Gi, Hi, Mx Γ1 σ G1 H1 Da, wipe σ vs⟩ Γ' σ' G' H' → H' Da = some (.lst accV) ∧ G' Da = none ∧ Stp (Mx Γ1 σ G1 H1 Da) G1 H1 G' H' := fun {Γ' σ' G' H'} z => by
                refine ⟨z.fr _ _ hDi notD, ?_, st.trans z.stp⟩
                cases q : G' Da with
                | none => rfl
                | some u =>
                  rcases z.nw _ _ q with w | w
                  · exact absurd w (by rw [show (⟨Gi, Hi, Mx Γ1 σ G1 H1 Da, wipe σ vs⟩ : Bg).G0 Da = none from gDi]; intro w; cases w)
                  · exact absurd (show Hi Da = none from w) (by rw [hDi]; intro w; cases w)
              split at hcomp
              · rename_i Γ3 q3
                refine ⟨_, Γi, G3, d, Γ3, q3, s3, r3, fun σ4 s4 l4 f4 => ⟨?_, ?_⟩⟩
                · rw [← wipe_wipe (σ := σ)]
                  exact wipe_eq l4 fun j hj => f4 j (hsl j hj)
                · have w4 : wipe σ4 vs = wipe σ vs := by
                    rw [← wipe_wipe (σ := σ)]
                    exact wipe_eq l4 fun j hj => f4 j (hsl j hj)
                  split at hcomp
                  · rename_i Γ5 q5
                    refine ⟨_, Γ3, G3, _, q5, s4, fun G5 H5 s5 g5 => ?_⟩
                    refine iteT ?_
                    split at hcomp
                    · rename_i e6 Γ6 q6
                      refine ⟨_, Γ5, G5, _, q6, s5, fun v6 G6 H6 s6 g6 r6 => ?_⟩
                      obtain ⟨a1, a2, a3⟩ := after s6
                      split at hcomp
                      · rename_i es7 Γ7 q7
                        cases hcomp
                        have lv : accV.length < sizeLine := by
                          rw [ra.length]
                          exact Nat.lt_of_le_of_lt (Nat.le_trans la (Nat.le_trans (Nat.le_of_lt hlt) hlen)) (show (100000 : Nat) < sizeLine by decide)
                        have gg : Same Gi G6 := (g3.trans g5).trans g6
                        refine ⟨accV, a1, lv, hlt, wipeE vs Γ6, G6, accV ++ [v6], accD ++ [e6], es7, ?_, ?_, upd_same, a2, (ra.to gg).snoc r6, by simp; omega, q7, by simp at hes ⊢; exact hes⟩
                        · refine Sat.again s6 (fun p m => m) (fun p q _ => hN p q) w4 (fun a u e => ?_) fun p hp => upd_ne fun z => notD (z ▸ hp)
                          rw [upd_ne (ne_of_none e a2)]
                          exact s6.gh a u e
                        · refine ⟨a3.gg, fun a u e n => ?_, fun a u e => ?_, a3.nw⟩
                          · rw [upd_ne (ne_of_none e hD)]
                            exact a3.fr a u e n
                          · obtain ⟨w, z⟩ := a3.al a u e
                            exact ⟨w, by rw [upd_ne (ne_of_none e hD)]; exact z⟩
                      · cases hcomp
                    · cases hcomp
                  · rename_i Γ5 q5
                    refine ⟨_, Γ3, G3, _, q5, s4, fun G5 H5 s5 g5 => ?_⟩
                    refine iteF ?_
                    obtain ⟨a1, a2, a3⟩ := after s5
                    exact ⟨hlt, wipeE vs Γ5, G5, accV, accD, rest, Sat.again s5 (fun p m => m) (fun p q _ => hN p q) w4 s5.gh (fun _ _ => rfl), a3, a1, a2, ra.to (g3.trans g5), by omega, hcomp, hes⟩
                  · cases hcomp
              · cases hcomp
            · have e : i = ds.length := by omega
              subst e
              rw [List.drop_length] at hcomp
              cases hcomp
              have e2 : accD = es := by simpa using hes
              subst e2
              refine .inl ⟨w2 _ (Nat.le_refl _), ?_⟩
              refine k Da accV Gi Hi ?_ (g1.trans st.gg) gDi hDi ra ?_ ?_
              · refine s1.back (st.wide (N := Mine Γ1 σ G1) fun x o hx m => m.elim (fun q => q) fun q => absurd q.1 (by rw [hx]; intro z; cases z)) si.gh (fun a m => m) (unlend_length _ _ hl2.symm) (fun j d hj => unlend_dat hj) (Cel.out si.cl s1 (fun p m => m.elim (fun q => s1.mine q) fun q => .inr (s1.hnone q.1)) fun p q => hH p q) (fun j io es hj => ?_)
                obtain ⟨ds1, jo, e1, e2⟩ := unlend_own hj
                refine ⟨ds1, e1, fun p hp => ?_⟩
                obtain ⟨p2, xs2, h1, h2, h3, h4, h5⟩ := si.ow j _ _ e2
                obtain ⟨h1, _⟩ := wipe_some h1
                rw [hp] at h1
                cases h1
                exact ⟨xs2, h3, h4⟩
              · exact s1.hnone hD
              · intro j io es hj z
                obtain ⟨ds1, jo, e1, e2⟩ := unlend_own hj
                exact notD (.inl (.inl ⟨j, io, ds1, e1, z⟩))
        · cases hf
      · cases hf
    · cases hf
  · rename_i c d Γ' q
    cases hf
    exact ⟨B, Γ, G, _, q, s, k⟩
  · cases hf
end
end Ky
/-! Ky8: what a def is worth, calls, the rule for a def. -/
namespace Ky
open PySem PySem.Spec PyProof.Rows L2

/-- how a call ends -/
inductive FR where
  | dat (d : D) | own (ds : List D) | exc (c : Nat) (d : D)
/-- a def's plain meaning: from what its parameters hold to how it ends and what they hold then -/
abbrev Fn := Ev → Option (FR × Ev)
def argBg (vs : List V) (cs : Ev) (G H : Hp) : Bg := ⟨G, H, fun a => (∃ (i : Nat) (ds : List D), cs[i]? = some (SC.own true ds) ∧ vs[i]? = some (V.ref a)) ∨ ∃ k, G a = some (mk0 k), vs.map some⟩
def FrP (K : PySem.W.Frag) (T : Tbl) (Bx : Bg) (vs : List V) (cs' : Ev) (Q : VK) (E : XK) : FR → Prop
  | .dat d => ∀ v G' H', Sat K T Bx cs' (vs.map some) G' H' → Rp K T G' v d → Q v H'
  | .own ds => ∀ p xs G' H', Sat K T Bx cs' (vs.map some) G' H' → G' p = none → H' p = some (.lst xs) → RpA K T G' xs ds → Bx.H0 p = none → (∀ (j : Nat) io es, cs'[j]? = some (SC.own io es) → vs[j]? ≠ some (V.ref p)) → Q (.ref p) H'
  | .exc c d => ∀ dx v G' H', Sat K T Bx cs' (vs.map some) G' H' → G' dx = some (.xd [(((T.att c).getD 0 Str.empty), v)]) → Rp K T G' v d → E (.ref (T.cls c)) (some dx) H'
def ioOnly (cs : Ev) : Prop := ∀ (i : Nat) (ds : List D), cs[i]? ≠ some (SC.own false ds)
def spF (K : PySem.W.Frag) (T : Tbl) (n : Nat) (fn : Fn) : Sp := fun vs H Q E => vs.length = n ∧ ∃ G cs r cs', fn cs = some (r, cs') ∧ Sat K T (argBg vs cs G H) cs (vs.map some) G H ∧ ioOnly cs ∧ FrP K T (argBg vs cs G H) vs cs' Q E r

/-- the operands as parameters -/
def argsL (Γ : Ev) : List Ag → Option (List SC)
  | [] => some []
  | .now d :: l => (match argsL Γ l with
    | some cs => some (.dat d :: cs)
    | none => none)
  | .io i :: l => (match Γ[i]?, argsL Γ l with
    | some (.own _ ds), some cs => some (.own true ds :: cs)
    | _, _ => none)
  | .pk _ :: _ => none
def argsOf (Γ : Ev) (l : List Ag) : Option Ev := match argsL Γ l with
  | some cs => some ⟨cs, Γ.c⟩
  | none => none
def ios : List Ag → List Nat
  | [] => []
  | .io i :: l => i :: ios l
  | _ :: l => ios l
def setO (Γ : Ev) (i : Nat) (es : List D) : Ev := match Γ[i]? with
  | some (.own io _) => Γ.set i (.own io es)
  | _ => Γ
/-- what the callee made of the lists handed to it -/
def putL : List Ag → List SC → Ev → Option Ev
  | [], [], Γ => some Γ
  | .io i :: l, .own _ es :: cs, Γ => putL l cs (setO Γ i es)
  | .io _ :: _, _ :: _, _ => none
  | _ :: l, _ :: cs, Γ => putL l cs Γ
  | _, _, _ => none
def putBack (l : List Ag) (cs Γ : Ev) : Option Ev := match putL l cs.v Γ with
  | some Γ' => some ⟨Γ'.v, cs.c⟩
  | none => none
def mCall (fn : Fn) (as : MA) : ME := fun Γ => match as Γ with
  | some (.ok l Γ1) => (match argsOf Γ1 l with
    | some cs => if (ios l).Nodup then (match fn cs with
      | some (r, cs') => (match putBack l cs' Γ1 with
        | some Γ2 => (match r with
          | .dat d => some (.ok d Γ2)
          | .own ds => some (.ok (.lst ds) Γ2)
          | .exc c d => some (.exc c d Γ2))
        | none => none)
      | none => none) else none
    | none => none)
  | some (.exc c d Γ') => some (.exc c d Γ')
  | none => none
def mCallL (fn : Fn) (as : MA) : ML := fun Γ => match as Γ with
  | some (.ok l Γ1) => (match argsOf Γ1 l with
    | some cs => if (ios l).Nodup then (match fn cs with
      | some (r, cs') => (match putBack l cs' Γ1 with
        | some Γ2 => (match r with
          | .dat d => none
          | .own ds => some (.ok ds Γ2)
          | .exc c d => some (.exc c d Γ2))
        | none => none)
      | none => none) else none
    | none => none)
  | some (.exc c d Γ') => some (.exc c d Γ')
  | none => none
section
variable {K : PySem.W.Frag} {T : Tbl} {W : WX} {B : Bg} {Γ : Ev} {σ : L2.St} {G H : Hp}
theorem argsL_get {Γ : Ev} : ∀ {l : List Ag} {cs : List SC} {i : Nat} {c : SC}, argsL Γ l = some cs → cs[i]? = some c → (∃ d, l[i]? = some (.now d) ∧ c = .dat d) ∨ ∃ j io ds, l[i]? = some (.io j) ∧ Γ[j]? = some (.own io ds) ∧ c = .own true ds
  | [], cs, i, c, h, e => by cases h; simp at e
  | .now d :: l, cs, i, c, h, e => by
    unfold argsL at h
    split at h
    · rename_i cs' q
      cases h
      cases i with
      | zero => simp at e; subst e; exact .inl ⟨d, rfl, rfl⟩
      | succ i => simpa using argsL_get q (by simpa using e)
    · cases h
  | .io j :: l, cs, i, c, h, e => by
    unfold argsL at h
    split at h
    · rename_i io ds cs' q1 q
      cases h
      cases i with
      | zero => simp at e; subst e; exact .inr ⟨j, io, ds, rfl, q1, rfl⟩
      | succ i => simpa using argsL_get q (by simpa using e)
    · cases h
  | .pk j :: l, cs, i, c, h, e => nomatch h
theorem argsL_length {Γ : Ev} : ∀ {l : List Ag} {cs : List SC}, argsL Γ l = some cs → cs.length = l.length
  | [], cs, h => by cases h; rfl
  | .now d :: l, cs, h => by
    unfold argsL at h
    split at h
    · rename_i cs' q
      cases h
      simp [argsL_length q]
    · cases h
  | .io j :: l, cs, h => by
    unfold argsL at h
    split at h
    · rename_i io ds cs' q1 q
      cases h
      simp [argsL_length q]
    · cases h
  | .pk j :: l, cs, h => nomatch h
theorem argsOf_get {Γ : Ev} {l : List Ag} {cs : Ev} {i : Nat} {c : SC} (h : argsOf Γ l = some cs) (e : cs[i]? = some c) : (∃ d, l[i]? = some (.now d) ∧ c = .dat d) ∨ ∃ j io ds, l[i]? = some (.io j) ∧ Γ[j]? = some (.own io ds) ∧ c = .own true ds := by
  unfold argsOf at h
  split at h
  · rename_i cs' q
    cases h
    exact argsL_get q e
  · cases h
theorem argsOf_length {Γ : Ev} {l : List Ag} {cs : Ev} (h : argsOf Γ l = some cs) : cs.length = l.length := by
  unfold argsOf at h
  split at h
  · rename_i cs' q
    cases h
    exact argsL_length q
  · cases h
theorem argsOf_c {Γ : Ev} {l : List Ag} {cs : Ev} (h : argsOf Γ l = some cs) : cs.c = Γ.c := by
  unfold argsOf at h
  split at h
  · cases h
    rfl
  · cases h
theorem AgsOk.get : ∀ {l : List Ag} {vs : List V} {i : Nat} {a : Ag}, AgsOk K T G σ vs l → l[i]? = some a → ∃ v, vs[i]? = some v ∧ AgOk K T G σ v a
  | [], _, _, _, h, e => by simp at e
  | b :: l, _, 0, _, h, e => by cases h with | cons x y => simp at e; subst e; exact ⟨_, rfl, x⟩
  | b :: l, _, i + 1, _, h, e => by
    cases h with
    | cons x y =>
      obtain ⟨v, h1, h2⟩ := AgsOk.get (i := i) y (by simpa using e)
      exact ⟨v, by simpa using h1, h2⟩
theorem mem_ios : ∀ {l : List Ag} {i j : Nat}, l[i]? = some (.io j) → j ∈ ios l
  | [], i, j, h => by simp at h
  | .io k :: l, 0, j, h => by simp at h; subst h; simp [ios]
  | .io k :: l, i + 1, j, h => by
    have q := mem_ios (l := l) (i := i) (j := j) (by simpa using h)
    simp [ios, q]
  | .now d :: l, 0, j, h => by simp at h
  | .now d :: l, i + 1, j, h => by
    have q := mem_ios (l := l) (i := i) (j := j) (by simpa using h)
    simpa [ios] using q
  | .pk d :: l, 0, j, h => by simp at h
  | .pk d :: l, i + 1, j, h => by
    have q := mem_ios (l := l) (i := i) (j := j) (by simpa using h)
    simpa [ios] using q
theorem ios_inj : ∀ {l : List Ag} {i i' j : Nat}, (ios l).Nodup → l[i]? = some (.io j) → l[i']? = some (.io j) → i = i'
  | [], i, i', j, _, h, _ => by simp at h
  | .io k :: l, 0, 0, j, nd, h, h' => rfl
  | .io k :: l, 0, i' + 1, j, nd, h, h' => by
    simp at h
    subst h
    have q := mem_ios (l := l) (i := i') (j := k) (by simpa using h')
    rw [ios, List.nodup_cons] at nd
    exact absurd q nd.1
  | .io k :: l, i + 1, 0, j, nd, h, h' => by
    simp at h'
    subst h'
    have q := mem_ios (l := l) (i := i) (j := k) (by simpa using h)
    rw [ios, List.nodup_cons] at nd
    exact absurd q nd.1
  | .io k :: l, i + 1, i' + 1, j, nd, h, h' => by
    rw [ios, List.nodup_cons] at nd
    rw [ios_inj (l := l) (i := i) (i' := i') (j := j) nd.2 (by simpa using h) (by simpa using h')]
  | .now d :: l, 0, i', j, nd, h, h' => by simp at h
  | .now d :: l, i + 1, 0, j, nd, h, h' => by simp at h'
  | .now d :: l, i + 1, i' + 1, j, nd, h, h' => by rw [ios_inj (l := l) (i := i) (i' := i') (j := j) nd (by simpa using h) (by simpa using h')]
  | .pk d :: l, 0, i', j, nd, h, h' => by simp at h
  | .pk d :: l, i + 1, 0, j, nd, h, h' => by simp at h'
  | .pk d :: l, i + 1, i' + 1, j, nd, h, h' => by rw [ios_inj (l := l) (i := i) (i' := i') (j := j) nd (by simpa using h) (by simpa using h')]
theorem setO_length (Γ : Ev) (i : Nat) (es : List D) : (setO Γ i es).length = Γ.length := by
  unfold setO
  split
  · exact Ev.length_set ..
  · rfl
theorem putL_length : ∀ {l : List Ag} {cs : List SC} {Γ Γ' : Ev}, putL l cs Γ = some Γ' → Γ'.length = Γ.length
  | [], [], Γ, Γ', h => by cases h; rfl
  | [], _ :: _, Γ, Γ', h => nomatch h
  | .io i :: l, .own _ es :: cs, Γ, Γ', h => (putL_length (l := l) (cs := cs) h).trans (setO_length ..)
  | .io i :: l, .dat _ :: cs, Γ, Γ', h => nomatch h
  | .io i :: l, .un :: cs, Γ, Γ', h => nomatch h
  | .io i :: l, [], Γ, Γ', h => nomatch h
  | .now i :: l, _ :: cs, Γ, Γ', h => putL_length (l := l) (cs := cs) h
  | .now i :: l, [], Γ, Γ', h => nomatch h
  | .pk i :: l, _ :: cs, Γ, Γ', h => putL_length (l := l) (cs := cs) h
  | .pk i :: l, [], Γ, Γ', h => nomatch h
theorem setO_dat {Γ : Ev} {i j : Nat} {es : List D} {d : D} (h : (setO Γ i es)[j]? = some (.dat d)) : Γ[j]? = some (.dat d) := by
  unfold setO at h
  split at h
  · rcases get_set h with ⟨rfl, e, _⟩ | ⟨_, h⟩
    · cases e
    · exact h
  · exact h
theorem setO_own {Γ : Ev} {i j : Nat} {es fs : List D} {io : Bool} (h : (setO Γ i es)[j]? = some (.own io fs)) : (i = j ∧ fs = es ∧ ∃ ds, Γ[j]? = some (.own io ds)) ∨ (Γ[j]? = some (.own io fs) ∧ i ≠ j) := by
  unfold setO at h
  split at h
  · rename_i io1 ds1 q
    rcases get_set h with ⟨rfl, e, _⟩ | ⟨hn, h⟩
    · cases e
      exact .inl ⟨rfl, rfl, _, q⟩
    · exact .inr ⟨h, hn⟩
  · rename_i q
    by_cases e : i = j
    · subst e
      exact absurd h (q io fs)
    · exact .inr ⟨h, e⟩
theorem putL_dat : ∀ {l : List Ag} {cs : List SC} {Γ Γ' : Ev} {j : Nat} {d : D}, putL l cs Γ = some Γ' → Γ'[j]? = some (.dat d) → Γ[j]? = some (.dat d)
  | [], [], Γ, Γ', j, d, h, e => by cases h; exact e
  | [], _ :: _, Γ, Γ', j, d, h, e => nomatch h
  | .io i :: l, .own _ es :: cs, Γ, Γ', j, d, h, e => setO_dat (putL_dat (l := l) (cs := cs) h e)
  | .io i :: l, .dat _ :: cs, Γ, Γ', j, d, h, e => nomatch h
  | .io i :: l, .un :: cs, Γ, Γ', j, d, h, e => nomatch h
  | .io i :: l, [], Γ, Γ', j, d, h, e => nomatch h
  | .now i :: l, _ :: cs, Γ, Γ', j, d, h, e => putL_dat (l := l) (cs := cs) h e
  | .now i :: l, [], Γ, Γ', j, d, h, e => nomatch h
  | .pk i :: l, _ :: cs, Γ, Γ', j, d, h, e => putL_dat (l := l) (cs := cs) h e
  | .pk i :: l, [], Γ, Γ', j, d, h, e => nomatch h
theorem putL_own : ∀ {l : List Ag} {cs : List SC} {Γ Γ' : Ev} {j : Nat} {io : Bool} {es : List D}, putL l cs Γ = some Γ' → Γ'[j]? = some (.own io es) →
    (∃ ds, Γ[j]? = some (.own io ds)) ∧ ((∃ (i : Nat) (jo : Bool), l[i]? = some (Ag.io j) ∧ cs[i]? = some (SC.own jo es)) ∨ ((∀ i : Nat, l[i]? ≠ some (Ag.io j)) ∧ Γ[j]? = some (.own io es)))
  | [], [], Γ, Γ', j, io, es, h, e => by cases h; exact ⟨⟨es, e⟩, .inr ⟨fun i z => by simp at z, e⟩⟩
  | [], _ :: _, Γ, Γ', j, io, es, h, e => nomatch h
  | .io k :: l, .own ko fs :: cs, Γ, Γ', j, io, es, h, e => by
    obtain ⟨⟨ds, h1⟩, h2⟩ := putL_own (l := l) (cs := cs) h e
    have g0 : ∃ ds, Γ[j]? = some (.own io ds) := by
      rcases setO_own h1 with ⟨_, _, q⟩ | ⟨q, _⟩
      · exact q
      · exact ⟨_, q⟩
    refine ⟨g0, ?_⟩
    rcases h2 with ⟨i, jo, q1, q2⟩ | ⟨q1, q2⟩
    · exact .inl ⟨i + 1, jo, by simpa using q1, by simpa using q2⟩
    · rcases setO_own q2 with ⟨rfl, rfl, _⟩ | ⟨q3, q4⟩
      · exact .inl ⟨0, ko, rfl, rfl⟩
      · refine .inr ⟨fun i z => ?_, q3⟩
        cases i with
        | zero => simp at z; exact q4 z
        | succ i => exact q1 i (by simpa using z)
  | .io i :: l, .dat _ :: cs, Γ, Γ', j, io, es, h, e => nomatch h
  | .io i :: l, .un :: cs, Γ, Γ', j, io, es, h, e => nomatch h
  | .io i :: l, [], Γ, Γ', j, io, es, h, e => nomatch h
  | .now k :: l, c :: cs, Γ, Γ', j, io, es, h, e => by
    obtain ⟨h1, h2⟩ := putL_own (l := l) (cs := cs) h e
    refine ⟨h1, ?_⟩
    rcases h2 with ⟨i, jo, q1, q2⟩ | ⟨q1, q2⟩
    · exact .inl ⟨i + 1, jo, by simpa using q1, by simpa using q2⟩
    · refine .inr ⟨fun i z => ?_, q2⟩
      cases i with
      | zero => simp at z
      | succ i => exact q1 i (by simpa using z)
  | .now i :: l, [], Γ, Γ', j, io, es, h, e => nomatch h
  | .pk k :: l, c :: cs, Γ, Γ', j, io, es, h, e => by
    obtain ⟨h1, h2⟩ := putL_own (l := l) (cs := cs) h e
    refine ⟨h1, ?_⟩
    rcases h2 with ⟨i, jo, q1, q2⟩ | ⟨q1, q2⟩
    · exact .inl ⟨i + 1, jo, by simpa using q1, by simpa using q2⟩
    · refine .inr ⟨fun i z => ?_, q2⟩
      cases i with
      | zero => simp at z
      | succ i => exact q1 i (by simpa using z)
  | .pk i :: l, [], Γ, Γ', j, io, es, h, e => nomatch h
theorem putBack_c {l : List Ag} {cs Γ Γ' : Ev} (h : putBack l cs Γ = some Γ') : ∃ Γ2, putL l cs.v Γ = some Γ2 ∧ Γ' = ⟨Γ2.v, cs.c⟩ := by
  unfold putBack at h
  split at h
  · rename_i Γ2 q
    cases h
    exact ⟨Γ2, q, rfl⟩
  · cases h
theorem putBack_length {l : List Ag} {cs Γ Γ' : Ev} (h : putBack l cs Γ = some Γ') : Γ'.length = Γ.length := by
  obtain ⟨Γ2, q, rfl⟩ := putBack_c h
  show Γ2.length = Γ.length
  exact putL_length q
theorem putBack_dat {l : List Ag} {cs Γ Γ' : Ev} {j : Nat} {d : D} (h : putBack l cs Γ = some Γ') (e : Γ'[j]? = some (.dat d)) : Γ[j]? = some (.dat d) := by
  obtain ⟨Γ2, q, rfl⟩ := putBack_c h
  exact putL_dat q e
theorem putBack_own {l : List Ag} {cs Γ Γ' : Ev} {j : Nat} {io : Bool} {es : List D} (h : putBack l cs Γ = some Γ') (e : Γ'[j]? = some (.own io es)) :
    (∃ ds, Γ[j]? = some (.own io ds)) ∧ ((∃ (i : Nat) (jo : Bool), l[i]? = some (Ag.io j) ∧ cs[i]? = some (SC.own jo es)) ∨ ((∀ i : Nat, l[i]? ≠ some (Ag.io j)) ∧ Γ[j]? = some (.own io es))) := by
  obtain ⟨Γ2, q, rfl⟩ := putBack_c h
  exact putL_own q e
/-- the callee's start -/
theorem Sat.args (s : Sat K T B Γ σ G H) {l : List Ag} {vs : List V} {cs : Ev} (a : AgsOk K T G σ vs l) (h : argsOf Γ l = some cs) (nd : (ios l).Nodup) : Sat K T (argBg vs cs G H) cs (vs.map some) G H ∧ ioOnly cs ∧ (∀ x, (argBg vs cs G H).M x → Mine Γ σ G x) := by
  have ow : ∀ (i : Nat) io ds, cs[i]? = some (SC.own io ds) → io = true ∧ ∃ j jo p xs, l[i]? = some (.io j) ∧ Γ[j]? = some (SC.own jo ds) ∧ vs[i]? = some (V.ref p) ∧ σ[j]? = some (some (V.ref p)) ∧ G p = none ∧ H p = some (.lst xs) ∧ RpA K T G xs ds := fun i io ds e => by
    rcases argsOf_get h e with ⟨d, _, z⟩ | ⟨j, jo, ds', h1, h2, z⟩
    · cases z
    · cases z
      obtain ⟨v, h3, h4⟩ := a.get h1
      obtain ⟨p, xs, q1, q2, q3, q4, _⟩ := s.ow j jo ds h2
      have h4 : σ[j]? = some (some v) := h4
      rw [q1] at h4
      cases h4
      exact ⟨rfl, j, jo, p, xs, h1, h2, h3, q1, q2, q3, q4⟩
  refine ⟨⟨Same.refl G, s.gh, fun _ _ e _ => e, fun _ o e => ⟨o, e⟩, fun _ _ e => .inl e, ?_, fun i d e => ?_, fun i io ds e => ?_, fun _ _ _ => rfl, ⟨fun k ds e => ?_, s.cl.gi, by rw [argsOf_c h]; exact s.cl.gn⟩, fun i j io jo ds es p h1 h2 h3 h4 => ?_⟩, fun i ds e => ?_, fun x m => ?_⟩
  · rw [List.length_map, a.length, argsOf_length h]
  · rcases argsOf_get h e with ⟨d', h1, z⟩ | ⟨j, jo, ds', h1, h2, z⟩
    · cases z
      obtain ⟨v, h3, h4⟩ := a.get h1
      exact ⟨v, by rw [List.getElem?_map, h3]; rfl, h4⟩
    · cases z
  · obtain ⟨rfl, j, jo, p, xs, h1, h2, h3, q1, q2, q3, q4⟩ := ow i io ds e
    exact ⟨p, xs, by rw [List.getElem?_map, h3]; rfl, q2, q3, q4, fun _ => .inl ⟨i, ds, e, h3⟩, fun z => by cases z⟩
  · rw [argsOf_c h] at e
    obtain ⟨p, xs, h1, h2, h3, h4⟩ := s.cl.ce k ds e
    exact ⟨p, xs, h1, h2, h3, .inl (.inr ⟨k, h1⟩)⟩
  · obtain ⟨_, j1, jo1, p1, xs1, a1, a2, a3, a4, _⟩ := ow i io ds h1
    obtain ⟨_, j2, jo2, p2, xs2, b1, b2, b3, b4, _⟩ := ow j jo es h2
    rw [List.getElem?_map, a3] at h3
    rw [List.getElem?_map, b3] at h4
    cases h3
    cases h4
    have e : j1 = j2 := s.dj j1 j2 _ _ _ _ p a2 b2 a4 b4
    subst e
    exact ios_inj nd a1 b1
  · obtain ⟨z, _⟩ := ow i false ds e
    cases z
  · rcases m with ⟨i, ds, h1, h2⟩ | m
    · obtain ⟨_, j, jo, p, xs, a1, a2, a3, a4, _⟩ := ow i true ds h1
      rw [h2] at a3
      cases a3
      exact .inl ⟨j, jo, ds, a2, a4⟩
    · exact .inr m
/-- back from the callee -/
theorem Sat.ret (s : Sat K T B Γ σ G H) {l : List Ag} {vs : List V} {cs cs' Γ' : Ev} {G' H' : Hp} (a : AgsOk K T G σ vs l) (h : argsOf Γ l = some cs) (nd : (ios l).Nodup) (s' : Sat K T (argBg vs cs G H) cs' (vs.map some) G' H') (hb : putBack l cs' Γ = some Γ') : Sat K T B Γ' σ G' H' := by
  obtain ⟨s0, io0, m0⟩ := s.args a h nd
  refine s.back s'.stp s'.gh m0 (putBack_length hb) (fun j d e => putBack_dat hb e) (by
    obtain ⟨Γ2, q, rfl⟩ := putBack_c hb
    exact Cel.out s'.cl s (fun p m => s.mine (m0 p m)) fun p q => q) fun j io es e => ?_
  obtain ⟨⟨ds, h1⟩, h2⟩ := putBack_own hb e
  refine ⟨ds, h1, fun p hp => ?_⟩
  rcases h2 with ⟨i, jo, q1, q2⟩ | ⟨q1, q2⟩
  · obtain ⟨v, h3, h4⟩ := a.get q1
    have h4 : σ[j]? = some (some v) := h4
    rw [hp] at h4
    cases h4
    obtain ⟨p', xs, w1, w2, w3, w4, _⟩ := s'.ow i jo es q2
    rw [List.getElem?_map, h3] at w1
    cases w1
    exact ⟨xs, w3, w4⟩
  · obtain ⟨p', xs, w1, w2, w3, w4, _⟩ := s.ow j io es q2
    rw [hp] at w1
    cases w1
    refine ⟨xs, s'.fr p _ w3 ?_, w4.to s'.g0⟩
    rintro (⟨i, ds', z1, z2⟩ | ⟨k', z1⟩)
    case inr =>
      rw [w2] at z1
      cases z1
    rcases argsOf_get h z1 with ⟨d', _, z⟩ | ⟨j', jo', ds'', z3, z4, z⟩
    · cases z
    · obtain ⟨v, h3, h4⟩ := a.get z3
      have h4 : σ[j']? = some (some v) := h4
      rw [z2] at h3
      cases h3
      have e : j' = j := s.dj j' j _ _ _ _ p z4 q2 h4 hp
      subst e
      exact q1 i z3
theorem rd_call {fn : Fn} {as : MA} {n : Nat} {Q : VK} (hn : ∀ Γ l Γ', as Γ = some (.ok l Γ') → l.length = n) (h : rd K T W (mCall fn as) σ H Q) : rdA K T W as σ H fun vs H1 => spF K T n fn vs H1 Q (WE W σ) := by
  obtain ⟨B, Γ, G, o, hf, s, k⟩ := h
  unfold mCall at hf
  split at hf
  · rename_i l Γ1 q
    refine ⟨B, Γ, G, _, q, s, fun vs G1 H1 s1 g1 a1 => ?_⟩
    split at hf
    · rename_i cs q2
      split at hf
      · rename_i nd
        split at hf
        · rename_i r cs' q3
          split at hf
          · rename_i Γ2 q4
            obtain ⟨s0, io0, m0⟩ := s1.args a1 q2 nd
            refine ⟨a1.length.trans (hn Γ l Γ1 q), G1, cs, r, cs', q3, s0, io0, ?_⟩
            cases r with
            | dat d =>
              cases hf
              exact fun v G' H' s' rv => k v G' H' (s1.ret a1 q2 nd s' q4) (g1.trans s'.g0) rv
            | own ds =>
              cases hf
              intro p xs G' H' s' hg hp ra h0 hno
              have sg : Same G' (upd G' p (.lst xs)) := Same.new hg
              have s2 := s1.ret a1 q2 nd s' q4
              refine k _ _ _ (s2.know hg hp (s1.hnone h0) fun j io es hj z => ?_) ((g1.trans s'.g0).trans sg) (.lst (.of upd_same) (ra.to sg))
              obtain ⟨⟨ds', w1⟩, _⟩ := putBack_own q4 hj
              obtain ⟨p', ys, w2, w3, w4, _⟩ := s1.ow j io ds' w1
              rw [z] at w2
              cases w2
              rw [show H1 p = none from h0] at w4
              cases w4
            | exc c d =>
              cases hf
              exact fun dx v G' H' s' hx rv => k dx v G' H' (s1.ret a1 q2 nd s' q4) (g1.trans s'.g0) hx rv
          · cases hf
        · cases hf
      · cases hf
    · cases hf
  · rename_i c d Γ' q
    cases hf
    exact ⟨B, Γ, G, _, q, s, k⟩
  · cases hf
theorem rdL_call {fn : Fn} {as : MA} {n : Nat} {Q : VK} (hn : ∀ Γ l Γ', as Γ = some (.ok l Γ') → l.length = n) (h : rdL K T W (mCallL fn as) σ H Q) : rdA K T W as σ H fun vs H1 => spF K T n fn vs H1 Q (WE W σ) := by
  obtain ⟨B, Γ, G, o, hf, s, k⟩ := h
  unfold mCallL at hf
  split at hf
  · rename_i l Γ1 q
    refine ⟨B, Γ, G, _, q, s, fun vs G1 H1 s1 g1 a1 => ?_⟩
    split at hf
    · rename_i cs q2
      split at hf
      · rename_i nd
        split at hf
        · rename_i r cs' q3
          split at hf
          · rename_i Γ2 q4
            obtain ⟨s0, io0, m0⟩ := s1.args a1 q2 nd
            refine ⟨a1.length.trans (hn Γ l Γ1 q), G1, cs, r, cs', q3, s0, io0, ?_⟩
            cases r with
            | dat d => cases hf
            | own ds =>
              cases hf
              intro p xs G' H' s' hg hp ra h0 hno
              refine k p xs G' H' (s1.ret a1 q2 nd s' q4) (g1.trans s'.g0) hg hp ra (s1.hnone h0) fun j io es hj z => ?_
              obtain ⟨⟨ds', w1⟩, _⟩ := putBack_own q4 hj
              obtain ⟨p', ys, w2, w3, w4, _⟩ := s1.ow j io ds' w1
              rw [z] at w2
              cases w2
              rw [show H1 p = none from h0] at w4
              cases w4
            | exc c d =>
              cases hf
              exact fun dx v G' H' s' hx rv => k dx v G' H' (s1.ret a1 q2 nd s' q4) (g1.trans s'.g0) hx rv
          · cases hf
        · cases hf
      · cases hf
    · cases hf
  · rename_i c d Γ' q
    cases hf
    exact ⟨B, Γ, G, _, q, s, k⟩
  · cases hf
end
end Ky
/-! Ky9: the rule for a def; calls. -/
namespace Ky
open PySem PySem.Spec PyProof.Rows L2

/-- the parameters behind the call: the lists that were handed in, as they are then -/
def finL : List SC → List SC → List SC
  | .own true _ :: cs, .own true es :: Γ => .own true es :: finL cs Γ
  | .own true _ :: cs, _ :: Γ => .un :: finL cs Γ
  | c :: cs, _ :: Γ => c :: finL cs Γ
  | [], _ => []
  | cs, [] => cs
def fin (cs Γ : Ev) : Ev := ⟨finL cs.v Γ.v, Γ.c⟩
theorem finL_dat : ∀ {cs Γ : List SC} {i : Nat} {d : D}, (finL cs Γ)[i]? = some (.dat d) → cs[i]? = some (.dat d)
  | [], Γ, i, d, h => by simp [finL] at h
  | c :: cs, [], i, d, h => by
    have e : finL (c :: cs) [] = c :: cs := by cases c with | own io ds => cases io <;> rfl | dat d => rfl | un => rfl
    rw [e] at h
    exact h
  | c :: cs, g :: Γ, 0, d, h => by
    cases c with
    | own io ds =>
      cases io with
      | true =>
        cases g with
        | own jo es => cases jo <;> cases h
        | dat x => cases h
        | un => cases h
      | false => cases h
    | dat x => exact h
    | un => exact h
  | c :: cs, g :: Γ, i + 1, d, h => by
    have q : (finL cs Γ)[i]? = some (.dat d) := by
      cases c with
      | own io ds =>
        cases io with
        | true =>
          cases g with
          | own jo es => cases jo <;> exact h
          | dat x => exact h
          | un => exact h
        | false => exact h
      | dat x => exact h
      | un => exact h
    have r := finL_dat (cs := cs) (Γ := Γ) q
    simpa using r
theorem finL_own : ∀ {cs Γ : List SC} {i : Nat} {io : Bool} {es : List D}, cs.length ≤ Γ.length → (finL cs Γ)[i]? = some (.own io es) → (io = true ∧ ∃ ds, cs[i]? = some (.own true ds) ∧ Γ[i]? = some (.own true es)) ∨ cs[i]? = some (.own false es)
  | [], Γ, i, io, es, _, h => by simp [finL] at h
  | c :: cs, [], i, io, es, hl, h => by simp at hl
  | c :: cs, g :: Γ, 0, io, es, hl, h => by
    cases c with
    | own ko ds =>
      cases ko with
      | true =>
        cases g with
        | own jo fs =>
          cases jo with
          | true =>
            cases h
            exact .inl ⟨rfl, ds, rfl, rfl⟩
          | false => cases h
        | dat x => cases h
        | un => cases h
      | false =>
        cases h
        exact .inr rfl
    | dat x => cases h
    | un => cases h
  | c :: cs, g :: Γ, i + 1, io, es, hl, h => by
    have q : (finL cs Γ)[i]? = some (.own io es) := by
      cases c with
      | own io ds =>
        cases io with
        | true =>
          cases g with
          | own jo es => cases jo <;> exact h
          | dat x => exact h
          | un => exact h
        | false => exact h
      | dat x => exact h
      | un => exact h
    have r := finL_own (cs := cs) (Γ := Γ) (by simpa using hl) q
    simpa using r
theorem finL_length : ∀ {cs Γ : List SC}, cs.length ≤ Γ.length → (finL cs Γ).length = cs.length
  | [], Γ, _ => by simp [finL]
  | c :: cs, [], h => by simp at h
  | c :: cs, g :: Γ, h => by
    have r := finL_length (cs := cs) (Γ := Γ) (by simpa using h)
    cases c with
    | own io ds =>
      cases io with
      | true =>
        cases g with
        | own jo es => cases jo <;> simp [finL, r]
        | dat x => simp [finL, r]
        | un => simp [finL, r]
      | false => simp [finL, r]
    | dat x => simp [finL, r]
    | un => simp [finL, r]
theorem fin_dat {cs Γ : Ev} {i : Nat} {d : D} (h : (fin cs Γ)[i]? = some (.dat d)) : cs[i]? = some (.dat d) := finL_dat (cs := cs.v) (Γ := Γ.v) h
theorem fin_own {cs Γ : Ev} {i : Nat} {io : Bool} {es : List D} (h : cs.length ≤ Γ.length) (e : (fin cs Γ)[i]? = some (.own io es)) : (io = true ∧ ∃ ds, cs[i]? = some (.own true ds) ∧ Γ[i]? = some (.own true es)) ∨ cs[i]? = some (.own false es) := finL_own (cs := cs.v) (Γ := Γ.v) h e
theorem fin_length {cs Γ : Ev} (h : cs.length ≤ Γ.length) : (fin cs Γ).length = cs.length := finL_length (cs := cs.v) (Γ := Γ.v) h
/-- the callee's names at the start -/
def pad (cs : Ev) (m : Nat) : Ev := ⟨cs.v ++ List.replicate m .un, cs.c⟩
section
variable {P : Program} {w : World} {K : PySem.W.Frag} {mg : Str → Option Value} {base : Heap} {T : Tbl} {G H : Hp} {B : Bg}
theorem start_get {N : List Str} {vs : List V} {i : Nat} {v : V} (h : vs[i]? = some v) : (L2.start N vs)[i]? = some (some v) := by
  have hi : i < vs.length := (List.getElem?_eq_some_iff.mp h).1
  unfold L2.start
  rw [List.getElem?_append_left (by simpa using hi), List.getElem?_map, h]
  rfl
theorem args_leftL {cs : List SC} {m i : Nat} {c : SC} (h : (cs ++ List.replicate m SC.un)[i]? = some c) (hc : c ≠ .un) : cs[i]? = some c := by
  by_cases hi : i < cs.length
  · rw [List.getElem?_append_left hi] at h
    exact h
  · rw [List.getElem?_append_right (by omega), List.getElem?_replicate] at h
    split at h
    · cases h
      exact absurd rfl hc
    · cases h
theorem args_left {cs : Ev} {m i : Nat} {c : SC} (h : (pad cs m)[i]? = some c) (hc : c ≠ .un) : cs[i]? = some c := args_leftL (cs := cs.v) (m := m) h hc
def bodyBg (N : List Str) (vs : List V) (cs : Ev) (G H : Hp) : Bg := { argBg vs cs G H with σ0 := L2.start N vs }
theorem Sat.enter {N : List Str} {vs : List V} {cs : Ev} (s : Sat K T (argBg vs cs G H) cs (vs.map some) G H) (hN : vs.length ≤ N.length) : Sat K T (bodyBg N vs cs G H) (pad cs (N.length - vs.length)) (L2.start N vs) G H := by
  have lv : vs.length = cs.length := by
    have q := s.len
    rw [List.length_map] at q
    exact q
  have get : ∀ {i : Nat} {v : V}, (vs.map some)[i]? = some (some v) → vs[i]? = some v := fun {i v} h => by
    rw [List.getElem?_map] at h
    cases e : vs[i]? with
    | none => rw [e] at h; cases h
    | some x => rw [e] at h; cases h; rfl
  refine ⟨s.g0, s.gh, s.fr, s.al, s.nw, by unfold L2.start; simp [lv, pad, Ev.length], fun i d h => ?_, fun i io ds h => ?_, fun i ds h => rfl, ⟨s.cl.ce, s.cl.gi, s.cl.gn⟩, fun i j io jo ds es p h1 h2 h3 h4 => ?_⟩
  · obtain ⟨v, h1, h2⟩ := s.dt i d (args_left h (by intro z; cases z))
    exact ⟨v, start_get (get h1), h2⟩
  · obtain ⟨p, xs, h1, h2⟩ := s.ow i io ds (args_left h (by intro z; cases z))
    exact ⟨p, xs, start_get (get h1), h2⟩
  · have a1 := args_left h1 (by intro z; cases z)
    have a2 := args_left h2 (by intro z; cases z)
    obtain ⟨p1, xs1, q1, _⟩ := s.ow i io ds a1
    obtain ⟨p2, xs2, q2, _⟩ := s.ow j jo es a2
    have e1 := start_get (N := N) (get q1)
    have e2 := start_get (N := N) (get q2)
    rw [h3] at e1
    rw [h4] at e2
    cases e1
    cases e2
    exact s.dj i j io jo ds es p a1 a2 q1 q2
theorem Sat.leave {N : List Str} {vs : List V} {cs Γ' : Ev} {σ' : L2.St} {G' H' : Hp} (s : Sat K T (argBg vs cs G H) cs (vs.map some) G H) (io : ioOnly cs) (hN : vs.length ≤ N.length) (hl : Γ'.length = N.length) (s' : Sat K T (bodyBg N vs cs G H) Γ' σ' G' H') : Sat K T (argBg vs cs G H) (fin cs Γ') (vs.map some) G' H' := by
  have lv : vs.length = cs.length := by
    have q := s.len
    rw [List.length_map] at q
    exact q
  have hcl : cs.length ≤ Γ'.length := by omega
  have get : ∀ {i : Nat} {v : V}, (vs.map some)[i]? = some (some v) → vs[i]? = some v := fun {i v} h => by
    rw [List.getElem?_map] at h
    cases e : vs[i]? with
    | none => rw [e] at h; cases h
    | some x => rw [e] at h; cases h; rfl
  have own : ∀ {i : Nat} {jo : Bool} {es : List D}, (fin cs Γ')[i]? = some (SC.own jo es) → jo = true ∧ ∃ ds p, cs[i]? = some (SC.own true ds) ∧ Γ'[i]? = some (SC.own true es) ∧ (vs.map some)[i]? = some (some (V.ref p)) ∧ σ'[i]? = some (some (V.ref p)) := fun {i jo es} h => by
    rcases fin_own hcl h with ⟨e, ds, h1, h2⟩ | h1
    · obtain ⟨p, xs, q1, _⟩ := s.ow i true ds h1
      have q2 := s'.pr i es h2
      rw [show (bodyBg N vs cs G H).σ0 = L2.start N vs from rfl, start_get (get q1)] at q2
      exact ⟨e, ds, p, h1, h2, q1, q2⟩
    · exact absurd h1 (io i es)
  refine ⟨s'.g0, s'.gh, s'.fr, s'.al, s'.nw, by rw [List.length_map, fin_length hcl, lv], fun i d h => ?_, fun i jo es h => ?_, fun i es h => rfl, ⟨s'.cl.ce, s'.cl.gi, s'.cl.gn⟩, fun i j jo ko es fs p h1 h2 h3 h4 => ?_⟩
  · obtain ⟨v, h1, h2⟩ := s.dt i d (fin_dat h)
    exact ⟨v, h1, h2.to s'.g0⟩
  · obtain ⟨rfl, ds, p, h1, h2, h3, h4⟩ := own h
    obtain ⟨p', xs, q1, q2, q3, q4, q5, q6⟩ := s'.ow i true es h2
    rw [h4] at q1
    cases q1
    exact ⟨p, xs, h3, q2, q3, q4, q5, q6⟩
  · obtain ⟨_, ds1, p1, a1, a2, a3, a4⟩ := own h1
    obtain ⟨_, ds2, p2, b1, b2, b3, b4⟩ := own h2
    rw [h3] at a3
    cases a3
    rw [h4] at b3
    cases b3
    exact s'.dj i j _ _ _ _ p a2 b2 a4 b4
/-- how many names a body's end speaks of -/
def Keeps (n : Nat) (Γ' : Ev) : Prop := Γ'.length = n
theorem Sat.keeps {N : List Str} {vs : List V} {cs Γ' : Ev} {σ' : L2.St} {G' H' : Hp} (s' : Sat K T (bodyBg N vs cs G H) Γ' σ' G' H') : σ'.length = Γ'.length := s'.len
/-- a body's end, with the number of names -/
def defG (n m : Nat) (body : MS) : Fn := fun cs => if cs.length = n then (match body (pad cs (m - n)) with
  | some (.rt (.dat d) Γ') => if Γ'.length = m then some (.dat d, fin cs Γ') else none
  | some (.rt (.own ds) Γ') => if Γ'.length = m then some (.own ds, fin cs Γ') else none
  | some (.nx Γ') => if Γ'.length = m then some (.dat .non, fin cs Γ') else none
  | some (.exc c d Γ') => if Γ'.length = m then some (.exc c d, fin cs Γ') else none
  | _ => none) else none
theorem fn_ok {x qual : Str} {st : Stmt} {f : Addr} {fd : FuncData} {N ps : List Str} {k : Nat} {body : MS} (F : Fun K x qual st f fd) (S : FnScope N ps (defScope st))
    (hb : ∀ (cdv : Value) (A : Around) (outer : List Env) (s : Shared) (H : Hp) (E : XK), Room k (A.deeper (envOfC qual (defScope st) s.heap.objs.size f cdv)) →
      PSs (cxOf (L2.CX P w) P w K mg base N qual (defScope st) f cdv A outer s H E) (defBody st) (rdS K T (fun cls d _ H => E cls d H) body)) :
    FnOk P w K mg base (L2.CX P w) (k + 1) f fd ps (spF K T ps.length (defG ps.length N.length body)) := by
  have hpl : ps.length ≤ N.length := by
    have := congrArg List.length S.pre
    rw [List.length_take] at this
    omega
  refine F.okX S (fun vs H Q E h => h.1) (fun cdv A outer s H vs Q E hr h => ⟨_, hb cdv A outer s H E hr, ?_⟩)
  obtain ⟨hl, G, cs, r, cs', hf, s0, io, k⟩ := h
  have s1 : Sat K T (bodyBg N vs cs G H) (pad cs (N.length - ps.length)) (L2.start N vs) G H := by
    rw [← hl]
    exact s0.enter (by omega)
  unfold defG at hf
  split at hf
  · rename_i hcl
    split at hf
    · rename_i d Γ' q
      split at hf
      · rename_i hm
        cases hf
        exact ⟨_, _, G, _, q, s1, fun v σ' G' H' s' rv => k v G' H' (s0.leave io (by omega) hm s') rv⟩
      · cases hf
    · rename_i ds Γ' q
      split at hf
      · rename_i hm
        cases hf
        refine ⟨_, _, G, _, q, s1, fun p xs σ' G' H' s' hg hp ra h0 hno => k p xs G' H' (s0.leave io (by omega) hm s') hg hp ra h0 fun j jo es hj z => ?_⟩
        have sl := s0.leave io (N := N) (by omega) hm s'
        rcases fin_own (by rw [hm]; omega) hj with ⟨e, ds', h1, h2⟩ | h1
        · have q2 := s'.pr j es h2
          rw [show (bodyBg N vs cs G H).σ0 = L2.start N vs from rfl, start_get z] at q2
          exact hno j true es h2 q2
        · exact io j es h1
      · cases hf
    · rename_i Γ' q
      split at hf
      · rename_i hm
        cases hf
        exact ⟨_, _, G, _, q, s1, fun σ' G' H' s' _ => k .non G' H' (s0.leave io (by omega) hm s') .non⟩
      · cases hf
    · rename_i c d Γ' q
      split at hf
      · rename_i hm
        cases hf
        exact ⟨_, _, G, _, q, s1, fun dx v σ' G' H' s' hx rv => k dx v G' H' (s0.leave io (by omega) hm s') hx rv⟩
      · cases hf
    · cases hf
  · cases hf
end
/-! ### calls -/
def Len (as : MA) (n : Nat) : Prop := ∀ Γ l Γ', as Γ = some (.ok l Γ') → l.length = n
theorem len_nil : Len mNil 0 := fun Γ l Γ' h => by cases h; rfl
theorem len_cons {f : MG} {g : MA} {n : Nat} (h : Len g n) : Len (mCons f g) (n + 1) := fun Γ l Γ' e => by
  unfold mCons at e
  split at e
  · split at e
    · rename_i q
      cases e
      rw [List.length_cons, h _ _ _ q]
    · cases e
    · cases e
  · cases e
  · cases e
/-- the operands in another order -/
def pick {α : Type} : List Nat → List α → List α
  | [], _ => []
  | i :: r, l => (match l[i]? with
    | some x => x :: pick r l
    | none => pick r l)
def mPick (pi : List Nat) (as : MA) : MA := fun Γ => match as Γ with
  | some (.ok l Γ') => some (.ok (pick pi l) Γ')
  | o => o
theorem pick_vals {vs : List V} {us : List Value} (r : Vals vs us) : ∀ pi : List Nat, Vals (pick pi vs) (pick pi us)
  | [] => .nil
  | i :: pi => by
    unfold pick
    cases e : vs[i]? with
    | none =>
      rw [r.none_of e]
      exact pick_vals r pi
    | some v =>
      obtain ⟨u, h1, h2⟩ := r.get e
      rw [h1]
      exact .cons h2 (pick_vals r pi)
section
variable {K : PySem.W.Frag} {T : Tbl} {G : Hp} {σ : L2.St}
theorem pick_ags {vs : List V} {l : List Ag} (r : AgsOk K T G σ vs l) : ∀ pi : List Nat, AgsOk K T G σ (pick pi vs) (pick pi l)
  | [] => .nil
  | i :: pi => by
    unfold pick
    cases e : l[i]? with
    | none =>
      have hl := r.length
      have e2 : vs[i]? = none := List.getElem?_eq_none_iff.mpr (by have := List.getElem?_eq_none_iff.mp e; omega)
      rw [e2]
      exact pick_ags r pi
    | some a =>
      obtain ⟨v, h1, h2⟩ := r.get e
      rw [h1]
      exact .cons h2 (pick_ags r pi)
end
section
variable {X : Cx} {T : Tbl} {W : WX} {k : Nat} {f : Addr} {fd : FuncData} {ps : List Str} {fn : Fn} {x : Str} {p pos : Pos} {e : Expr} {es : List Expr} {as : MA}
theorem passF {σ : L2.St} {P : Program} {w : World} : PassesAt (L2.CX P w) X σ (WE (fun _ _ _ _ => False) σ) := fun _ _ _ _ _ _ ⟨_, _, _, _, _, _, _, _, _, _, _, _, z⟩ => z.elim
theorem je_call (F : FnOk X.prog X.w X.K X.mg X.base (L2.CX X.prog X.w) k f fd ps (spF X.K T ps.length fn)) (hr : Room k X.A) (hg : Gl X x) (hm : X.mg x = some (.ref f)) (hk : PySem.W.keepIn X.K (.ref f) = true) (hb : Binds X.K fd ps []) (hx : ∀ σ, PassesAt (L2.CX X.prog X.w) X σ (WE W σ))
    (hn : Len as ps.length) (ha : PA X (e :: es) (rdA X.K T W as)) (hdb : (x == ("__debug__" : Str)) = false := by decide) (he : starEach (e :: es) X.env = (false, eval e X.env) :: starEach es X.env := by rfl) (hpl : (backTo pos (starEach es X.env)).any (·.1) = false := by rfl) :
    PE X (.Call (.Name x p) (e :: es) [] pos) (rd X.K T W (mCall fn as)) := PE.imp (pe_callS F hr hg hm hk hb hx ha hdb he hpl) fun σ H Q q => rd_call (fun Γ l Γ' => hn Γ l Γ') q
theorem jl_call (F : FnOk X.prog X.w X.K X.mg X.base (L2.CX X.prog X.w) k f fd ps (spF X.K T ps.length fn)) (hr : Room k X.A) (hg : Gl X x) (hm : X.mg x = some (.ref f)) (hk : PySem.W.keepIn X.K (.ref f) = true) (hb : Binds X.K fd ps []) (hx : ∀ σ, PassesAt (L2.CX X.prog X.w) X σ (WE W σ))
    (hn : Len as ps.length) (ha : PA X (e :: es) (rdA X.K T W as)) (hdb : (x == ("__debug__" : Str)) = false := by decide) (he : starEach (e :: es) X.env = (false, eval e X.env) :: starEach es X.env := by rfl) (hpl : (backTo pos (starEach es X.env)).any (·.1) = false := by rfl) :
    PE X (.Call (.Name x p) (e :: es) [] pos) (rdL X.K T W (mCallL fn as)) := PE.imp (pe_callS F hr hg hm hk hb hx ha hdb he hpl) fun σ H Q q => rdL_call (fun Γ l Γ' => hn Γ l Γ') q
/-- f() -/
theorem pe_callS0 {CX : CXT} {sp : Sp} {E : L2.St → XK} (F : FnOk X.prog X.w X.K X.mg X.base CX k f fd ps sp) (hr : Room k X.A) (hg : Gl X x) (hm : X.mg x = some (.ref f)) (hk : PySem.W.keepIn X.K (.ref f) = true) (hb : Binds X.K fd ps []) (hx : ∀ σ, PassesAt CX X σ (E σ))
    (hdb : (x == ("__debug__" : Str)) = false := by decide) : PE X (.Call (.Name x p) [] [] pos) (tCallS sp E tNil) := by
  refine ⟨fun pins s σ H Q I h => ?_⟩
  refine wpAny_Call_Name_kw (ld_glob I hg hm ?_ hdb)
  exact PySem.W.callWith_K0 I.kIn hk (run_fnS (us := []) F hr hb (hx σ) I .nil h)
theorem je_call0 (F : FnOk X.prog X.w X.K X.mg X.base (L2.CX X.prog X.w) k f fd ps (spF X.K T ps.length fn)) (hr : Room k X.A) (hg : Gl X x) (hm : X.mg x = some (.ref f)) (hk : PySem.W.keepIn X.K (.ref f) = true) (hb : Binds X.K fd ps []) (hx : ∀ σ, PassesAt (L2.CX X.prog X.w) X σ (WE W σ))
    (hn : Len mNil ps.length) (hdb : (x == ("__debug__" : Str)) = false := by decide) : PE X (.Call (.Name x p) [] [] pos) (rd X.K T W (mCall fn mNil)) :=
  PE.imp (pe_callS0 F hr hg hm hk hb hx hdb) fun σ H Q q => rdA_nil (rd_call (fun Γ l Γ' => hn Γ l Γ') q)
theorem jl_call0 (F : FnOk X.prog X.w X.K X.mg X.base (L2.CX X.prog X.w) k f fd ps (spF X.K T ps.length fn)) (hr : Room k X.A) (hg : Gl X x) (hm : X.mg x = some (.ref f)) (hk : PySem.W.keepIn X.K (.ref f) = true) (hb : Binds X.K fd ps []) (hx : ∀ σ, PassesAt (L2.CX X.prog X.w) X σ (WE W σ))
    (hn : Len mNil ps.length) (hdb : (x == ("__debug__" : Str)) = false := by decide) : PE X (.Call (.Name x p) [] [] pos) (rdL X.K T W (mCallL fn mNil)) :=
  PE.imp (pe_callS0 F hr hg hm hk hb hx hdb) fun σ H Q q => rdA_nil (rdL_call (fun Γ l Γ' => hn Γ l Γ') q)
end
end Ky
/-! Ky10: operators and built-ins. -/
namespace Ky
open PySem PySem.Spec PyProof.Rows L2

theorem or_or {X : Cx} {f : Value → Value → Sem Value} {r1 r2 : R2} (h1 : OpR X f r1) (h2 : OpR X f r2) : OpR X f (fun x y H Q => r1 x y H Q ∨ r2 x y H Q) := fun pins s σ H x y v u Q I rx ry h => by
  rcases h with h | h
  · exact h1 pins s σ H x y v u Q I rx ry h
  · exact h2 pins s σ H x y v u Q I rx ry h
/-! ### what operators give -/
def oAdd : D → D → Option D
  | .int i, .int j => some (.int (i + j))
  | .str x, .str y => if x.length + y.length ≤ 100000 then some (.str (x ++ y)) else none
  | _, _ => none
def oInt (f : Int → Int → Int) : D → D → Option D
  | .int i, .int j => some (.int (f i j))
  | _, _ => none
def oIntIf (c : Int → Int → Bool) (f : Int → Int → Int) : D → D → Option D
  | .int i, .int j => if c i j then some (.int (f i j)) else none
  | _, _ => none
def oCmp (c : Int → Int → Bool) : D → D → Option D
  | .int i, .int j => some (.bl (c i j))
  | _, _ => none
abbrev oSub := oInt (· - ·)
def small64 (i : Int) : Bool := decide (-(2 ^ 64) < i) && decide (i < 2 ^ 64)
abbrev oMul := oIntIf (fun i j => small64 i || small64 j) (· * ·)
abbrev oFdiv := oIntIf (fun _ j => decide (j ≠ 0) && decide (j.natAbs < 1073741824)) Int.fdiv
abbrev oMod := oIntIf (fun _ j => decide (j ≠ 0)) Int.fmod
abbrev oPow := oIntIf (fun i j => decide (0 ≤ j) && decide (j ≤ 1000000) && decide (i.natAbs < 2 ^ 64)) fun i j => i ^ j.toNat
abbrev oShl := oIntIf (fun i j => decide (0 ≤ j) && decide (j ≤ 1000000) && decide (i.natAbs < 2 ^ 64)) fun i j => i * 2 ^ j.toNat
abbrev oShr := oIntIf (fun _ j => decide (0 ≤ j)) fun i j => i / 2 ^ j.toNat
abbrev oAnd := oInt Builtin.bitAnd
abbrev oOr := oInt Builtin.bitOr
abbrev oXor := oInt Builtin.bitXor
abbrev oLt := oCmp fun i j => decide (i < j)
abbrev oLe := oCmp fun i j => decide (i ≤ j)
abbrev oGt := oCmp fun i j => decide (j < i)
abbrev oGe := oCmp fun i j => decide (j ≤ i)
def oUn (f : Int → Int) : D → Option D
  | .int i => some (.int (f i))
  | _ => none
abbrev oNeg := oUn (- ·)
abbrev oInv := oUn Builtin.bitNot
section
variable {K : PySem.W.Frag} {T : Tbl}
theorem ok_int {f : Int → Int → Int} : Ok2 K T (rI0 fun i j => V.int (f i j)) (oInt f) := by
  intro d1 d2 d x y G H q e rx ry Q k
  cases d1 <;> cases d2 <;> try cases q
  exact ⟨_, _, rx.int, ry.int, k _ G H (.inl ⟨rfl, rfl⟩) (.int _)⟩
theorem ok_cmp {c : Int → Int → Bool} : Ok2 K T (rI0 fun i j => V.bl (c i j)) (oCmp c) := by
  intro d1 d2 d x y G H q e rx ry Q k
  cases d1 <;> cases d2 <;> try cases q
  exact ⟨_, _, rx.int, ry.int, k _ G H (.inl ⟨rfl, rfl⟩) (.bl _)⟩
theorem ok_intIf {C : Int → Int → Prop} {c : Int → Int → Bool} {f : Int → Int → Int} (hc : ∀ i j, c i j = true → C i j) : Ok2 K T (rI C fun i j => V.int (f i j)) (oIntIf c f) := by
  intro d1 d2 d x y G H q e rx ry Q k
  cases d1 <;> cases d2 <;> try cases q
  rename_i i j
  have q : (if c i j = true then some (D.int (f i j)) else none) = some d := q
  split at q
  · rename_i h
    cases q
    exact ⟨_, _, rx.int, ry.int, hc _ _ h, k _ G H (.inl ⟨rfl, rfl⟩) (.int _)⟩
  · cases q
theorem ok_add : Ok2 K T (fun x y H Q => rI0 (fun i j => V.int (i + j)) x y H Q ∨ ∃ i j, x = V.str i ∧ y = V.str j ∧ i.length + j.length ≤ sizeLine ∧ Q (V.str (i ++ j)) H) oAdd := by
  intro d1 d2 d x y G H q e rx ry Q k
  cases d1 <;> cases d2 <;> try cases q
  · exact .inl ⟨_, _, rx.int, ry.int, k _ G H (.inl ⟨rfl, rfl⟩) (.int _)⟩
  · rename_i a b
    have q : (if a.length + b.length ≤ 100000 then some (D.str (a ++ b)) else none) = some d := q
    split at q
    · rename_i h
      cases q
      exact .inr ⟨a, b, rx.str, ry.str, Nat.le_trans h (show (100000 : Nat) ≤ sizeLine by decide), k _ G H (.inl ⟨rfl, rfl⟩) (.str _)⟩
    · cases q
theorem ok_un {f : Int → Int} : Ok1 K T (rU fun i => V.int (f i)) (oUn f) := by
  intro d1 d x G H q e rx Q k
  cases d1 <;> try cases q
  exact ⟨_, rx.int, k _ G H (.inl ⟨rfl, rfl⟩) (.int _)⟩
theorem c_mul {i j : Int} (h : (small64 i || small64 j) = true) : CMul i j := by
  have s : ∀ {z : Int}, small64 z = true → -(2 ^ 64) < z ∧ z < 2 ^ 64 := fun {z} hz => by
    unfold small64 at hz
    rw [Bool.and_eq_true, decide_eq_true_eq, decide_eq_true_eq] at hz
    exact hz
  rw [Bool.or_eq_true] at h
  rcases h with h | h
  · exact .inl (s h)
  · exact .inr (s h)
theorem c_div {i j : Int} (h : (decide (j ≠ 0) && decide (j.natAbs < 1073741824)) = true) : CDivN i j := by
  rw [Bool.and_eq_true, decide_eq_true_eq, decide_eq_true_eq] at h
  exact h
theorem c_pow {i j : Int} (h : (decide (0 ≤ j) && decide (j ≤ 1000000) && decide (i.natAbs < 2 ^ 64)) = true) : CPow i j := by
  rw [Bool.and_eq_true, Bool.and_eq_true, decide_eq_true_eq, decide_eq_true_eq, decide_eq_true_eq] at h
  exact ⟨h.1.1, h.1.2, h.2⟩
theorem ok_sub : Ok2 K T (rI0 fun i j => V.int (i - j)) oSub := ok_int
theorem ok_mul : Ok2 K T (rI CMul fun i j => V.int (i * j)) oMul := ok_intIf fun i j h => c_mul h
theorem ok_fdiv : Ok2 K T (rI CDivN fun i j => V.int (i.fdiv j)) oFdiv := ok_intIf fun i j h => c_div h
theorem ok_mod : Ok2 K T (rI (fun _ j => j ≠ 0) fun i j => V.int (i.fmod j)) oMod := ok_intIf fun i j h => of_decide_eq_true h
theorem ok_pow : Ok2 K T (rI CPow fun i j => V.int (i ^ j.toNat)) oPow := ok_intIf fun i j h => c_pow h
theorem ok_shl : Ok2 K T (rI CPow fun i j => V.int (i * 2 ^ j.toNat)) oShl := ok_intIf fun i j h => c_pow h
theorem ok_shr : Ok2 K T (rI (fun _ j => 0 ≤ j) fun i j => V.int (i / 2 ^ j.toNat)) oShr := ok_intIf fun i j h => of_decide_eq_true h
/-! ### == and != -/
mutual
def toPy : D → Option PyData
  | .non => some .none
  | .bl b => some (.bool b)
  | .int i => some (.int i)
  | .str s => some (.str s)
  | .lst ds => (match toPys ds with
    | some xs => some (.list xs)
    | none => none)
  | .tup ds => (match toPys ds with
    | some xs => some (.tuple xs)
    | none => none)
  | .ins _ _ => none
  | .cel _ => none
  | .dic => none
def toPys : List D → Option (List PyData)
  | [] => some []
  | d :: ds => (match toPy d, toPys ds with
    | some x, some xs => some (x :: xs)
    | _, _ => none)
end
mutual
theorem Rp.dp {G H : Hp} (sb : Sub G H) : ∀ (d : D) (v : V) (x : PyData), Rp K T G v d → toPy d = some x → Dp K H v x
  | .non, v, x, h, e => by cases h; cases e; exact .non
  | .bl b, v, x, h, e => by cases h; cases e; exact .bl b
  | .int i, v, x, h, e => by cases h; cases e; exact .int i
  | .str s, v, x, h, e => by cases h; cases e; exact .str s
  | .lst ds, v, x, h, e => by
    cases h with
    | lst s r =>
      unfold toPy at e
      split at e
      · rename_i xs q
        cases e
        exact .lst (sb.seq s) (RpA.dp sb ds _ xs r q)
      · cases e
  | .tup ds, v, x, h, e => by
    cases h with
    | tup s r =>
      unfold toPy at e
      split at e
      · rename_i xs q
        cases e
        exact .tup (sb.sqt s) (RpA.dp sb ds _ xs r q)
      · cases e
  | .ins c ds, v, x, h, e => nomatch e
  | .cel k, v, x, h, e => nomatch e
  | .dic, v, x, h, e => nomatch e
theorem RpA.dp {G H : Hp} (sb : Sub G H) : ∀ (ds : List D) (vs : List V) (xs : List PyData), RpA K T G vs ds → toPys ds = some xs → DpAll K H vs xs
  | [], vs, xs, h, e => by cases h; cases e; exact .nil
  | d :: ds, vs, xs, h, e => by
    cases h with
    | cons a b =>
      unfold toPys at e
      split at e
      · rename_i x xs q1 q2
        cases e
        exact .cons (Rp.dp sb d _ x a q1) (RpA.dp sb ds _ xs b q2)
      · cases e
end
theorem RpS.dp {G H : Hp} (sb : Sub G H) {v : V} {d : D} {x : PyData} (r : RpS K T G H v d) (e : toPy d = some x) : Dp K H v x := by
  cases r with
  | rp r => exact Rp.dp sb _ _ _ r e
  | own hp r =>
    unfold toPy at e
    split at e
    · rename_i xs q
      cases e
      exact .lst (.of hp) (RpA.dp sb _ _ xs r q)
    · cases e
def eqD (a b : D) : Option Bool := match toPy a, toPy b with
  | some x, some y => if SeqAt.shaped x && SeqAt.shaped y then some (PyData.eqv x y) else none
  | _, _ => none
def oEq (a b : D) : Option D := match eqD a b with
  | some c => some (.bl c)
  | none => none
def oNe (a b : D) : Option D := match eqD a b with
  | some c => some (.bl (!c))
  | none => none
theorem ok_eq : Ok2 K T (rEqD K) oEq := by
  intro d1 d2 d x y G H q e rx ry Q k
  unfold oEq eqD at q
  split at q
  · rename_i c q1
    cases q
    split at q1
    · rename_i a b w1 w2
      split at q1
      · rename_i hs
        cases q1
        rw [Bool.and_eq_true] at hs
        exact ⟨a, b, rx.dp e w1, ry.dp e w2, hs.1, hs.2, k _ G H (.inl ⟨rfl, rfl⟩) (.bl _)⟩
      · cases q1
    · cases q1
  · cases q
theorem ok_ne : Ok2 K T (rNeD K) oNe := by
  intro d1 d2 d x y G H q e rx ry Q k
  unfold oNe eqD at q
  split at q
  · rename_i c q1
    cases q
    split at q1
    · rename_i a b w1 w2
      split at q1
      · rename_i hs
        cases q1
        rw [Bool.and_eq_true] at hs
        exact ⟨a, b, rx.dp e w1, ry.dp e w2, hs.1, hs.2, k _ G H (.inl ⟨rfl, rfl⟩) (.bl _)⟩
      · cases q1
    · cases q1
  · cases q
/-! ### is -/
def oIs : D → D → Option D
  | .non, .non => some (.bl true)
  | _, .non => some (.bl false)
  | .bl a, .bl b => some (.bl (decide (a = b)))
  | _, _ => none
def oIsN : D → D → Option D
  | .non, .non => some (.bl false)
  | _, .non => some (.bl true)
  | .bl a, .bl b => some (.bl (!decide (a = b)))
  | _, _ => none
theorem rp_non {G H : Hp} {x : V} {d : D} (r : RpS K T G H x d) : decide (x = V.non) = (match d with | .non => true | _ => false) := by
  cases r with
  | rp r => cases r <;> simp
  | own h r => simp
theorem ok_is : Ok2 K T (fun x y H Q => (y = V.non ∧ Q (V.bl (decide (x = V.non))) H) ∨ rIsB x y H Q) oIs := by
  intro d1 d2 d x y G H q e rx ry Q k
  have z := rp_non rx
  cases d2 with
  | non =>
    refine .inl ⟨ry.non, ?_⟩
    rw [z]
    cases d1 <;> cases q <;> exact k _ G H (.inl ⟨rfl, rfl⟩) (.bl _)
  | bl b =>
    cases d1 <;> try cases q
    exact .inr ⟨_, _, rx.bl, ry.bl, k _ G H (.inl ⟨rfl, rfl⟩) (.bl _)⟩
  | _ => cases d1 <;> cases q
theorem ok_isN : Ok2 K T (fun x y H Q => (y = V.non ∧ Q (V.bl (!decide (x = V.non))) H) ∨ rNotB x y H Q) oIsN := by
  intro d1 d2 d x y G H q e rx ry Q k
  have z := rp_non rx
  cases d2 with
  | non =>
    refine .inl ⟨ry.non, ?_⟩
    rw [z]
    cases d1 <;> cases q <;> exact k _ G H (.inl ⟨rfl, rfl⟩) (.bl _)
  | bl b =>
    cases d1 <;> try cases q
    exact .inr ⟨_, _, rx.bl, ry.bl, k _ G H (.inl ⟨rfl, rfl⟩) (.bl _)⟩
  | _ => cases d1 <;> cases q
/-! ### items -/
theorem atI_map {α β : Type} (f : α → β) {xs : List α} {i : Int} {x : α} (h : atI xs i = some x) : atI (xs.map f) i = some (f x) := by
  unfold atI at h ⊢
  rw [List.length_map]
  cases e : ixN xs.length i with
  | none => rw [e] at h; cases h
  | some j =>
    rw [e] at h
    have h : xs[j]? = some x := h
    show (xs.map f)[j]? = some (f x)
    rw [List.getElem?_map, h]
    rfl
theorem RpA.atI {G : Hp} {xs : List V} {ds : List D} {i : Int} {d : D} (r : RpA K T G xs ds) (h : L2.atI ds i = some d) : ∃ v, L2.atI xs i = some v ∧ Rp K T G v d := by
  unfold L2.atI at h ⊢
  rw [r.length]
  cases e : ixN ds.length i with
  | none => rw [e] at h; cases h
  | some j =>
    rw [e] at h
    have h : ds[j]? = some d := h
    exact r.get h
def oIx : D → D → Option D
  | .lst ds, .int i => L2.atI ds i
  | .tup ds, .int i => L2.atI ds i
  | .str z, .int i => if z.length ≤ 100000 then (match L2.atI z.cps.toList i with
    | some c => some (.str ⟨#[c]⟩)
    | none => none) else none
  | _, _ => none
theorem ok_ix : Ok2 K T (rIx K) oIx := by
  intro d1 d2 d x y G H q e rx ry Q k
  cases d1 <;> cases d2 <;> try cases q
  · rename_i z i
    have q : (if z.length ≤ 100000 then (match L2.atI z.cps.toList i with
      | some c => some (D.str ⟨#[c]⟩)
      | none => none) else none) = some d := q
    split at q
    · rename_i hz
      split at q
      · rename_i c hc
        cases q
        exact .inr (.inr ⟨z, i, c, rx.str, ry.int, Nat.le_trans hz (show (100000 : Nat) ≤ sizeLine by decide), hc, k _ G H (.inl ⟨rfl, rfl⟩) (.str _)⟩)
      · cases q
    · cases q
  · rename_i ds i
    have q : L2.atI ds i = some d := q
    obtain ⟨p, xs, rfl, hq, ra⟩ := rx.lst e
    obtain ⟨v, hv, rv⟩ := ra.atI q
    exact .inl ⟨p, xs, i, v, rfl, ry.int, hq, hv, k v G H (.inl ⟨rfl, rfl⟩) rv⟩
  · rename_i ds i
    have q : L2.atI ds i = some d := q
    obtain ⟨p, xs, rfl, hq, ra⟩ := rx.tup e
    obtain ⟨v, hv, rv⟩ := ra.atI q
    exact .inr (.inl ⟨p, xs, i, v, rfl, ry.int, hq, hv, k v G H (.inl ⟨rfl, rfl⟩) rv⟩)
/-! ### in -/
def flatD : D → Option V
  | .non => some .non
  | .bl b => some (.bl b)
  | .int i => some (.int i)
  | .str z => some (.str z)
  | _ => none
def flats : List D → Option (List V)
  | [] => some []
  | d :: ds => (match flatD d, flats ds with
    | some v, some vs => some (v :: vs)
    | _, _ => none)
theorem flatD_rp {G : Hp} {v : V} {d : D} {u : V} (r : Rp K T G v d) (h : flatD d = some u) : v = u ∧ flatV u = true := by
  cases r <;> cases h <;> exact ⟨rfl, rfl⟩
theorem flats_rp {G : Hp} : ∀ {ds : List D} {vs us : List V}, RpA K T G vs ds → flats ds = some us → vs = us ∧ us.all flatV = true
  | [], vs, us, r, h => by cases r; cases h; exact ⟨rfl, rfl⟩
  | d :: ds, vs, us, r, h => by
    cases r with
    | cons a b =>
      unfold flats at h
      split at h
      · rename_i v vs q1 q2
        cases h
        obtain ⟨rfl, h1⟩ := flatD_rp a q1
        obtain ⟨rfl, h2⟩ := flats_rp b q2
        exact ⟨rfl, by rw [List.all_cons, h1, h2]; rfl⟩
      · cases h
def inD (x y : D) : Option Bool := match flatD x with
  | some v => (match y with
    | .lst ds => (match flats ds with
      | some vs => some (inV v vs)
      | none => none)
    | .tup ds => (match flats ds with
      | some vs => some (inV v vs)
      | none => none)
    | _ => none)
  | none => none
def oIn (x y : D) : Option D := match inD x y with
  | some b => some (.bl b)
  | none => none
def oNi (x y : D) : Option D := match inD x y with
  | some b => some (.bl (!b))
  | none => none
theorem in_parts {G H : Hp} {x y : V} {d1 d2 : D} {b : Bool} (h : inD d1 d2 = some b) (e : Sub G H) (rx : RpS K T G H x d1) (ry : RpS K T G H y d2) : ∃ p xs, y = .ref p ∧ (SqL K H p xs ∨ SqT K H p xs) ∧ flatV x = true ∧ xs.all flatV = true ∧ inV x xs = b := by
  unfold inD at h
  split at h
  · rename_i v q1
    have rx1 : x = v ∧ flatV v = true := by
      cases rx with
      | rp r => exact flatD_rp r q1
      | own _ _ => cases q1
    obtain ⟨rfl, f1⟩ := rx1
    split at h
    · rename_i ds
      split at h
      · rename_i vs q2
        cases h
        obtain ⟨p, xs, rfl, hq, ra⟩ := ry.lst e
        obtain ⟨rfl, f2⟩ := flats_rp ra q2
        exact ⟨p, xs, rfl, .inl hq, f1, f2, rfl⟩
      · cases h
    · rename_i ds
      split at h
      · rename_i vs q2
        cases h
        obtain ⟨p, xs, rfl, hq, ra⟩ := ry.tup e
        obtain ⟨rfl, f2⟩ := flats_rp ra q2
        exact ⟨p, xs, rfl, .inr hq, f1, f2, rfl⟩
      · cases h
    · cases h
  · cases h
theorem ok_in : Ok2 K T (rIn K false) oIn := by
  intro d1 d2 d x y G H q e rx ry Q k
  unfold oIn at q
  split at q
  · rename_i b q1
    cases q
    obtain ⟨p, xs, h1, h2, h3, h4, h5⟩ := in_parts q1 e rx ry
    refine ⟨p, xs, h1, h2, h3, h4, ?_⟩
    show Q (V.bl (inV x xs)) H
    rw [h5]
    exact k _ G H (.inl ⟨rfl, rfl⟩) (.bl _)
  · cases q
theorem ok_ni : Ok2 K T (rIn K true) oNi := by
  intro d1 d2 d x y G H q e rx ry Q k
  unfold oNi at q
  split at q
  · rename_i b q1
    cases q
    obtain ⟨p, xs, h1, h2, h3, h4, h5⟩ := in_parts q1 e rx ry
    refine ⟨p, xs, h1, h2, h3, h4, ?_⟩
    show Q (V.bl (!inV x xs)) H
    rw [h5]
    exact k _ G H (.inl ⟨rfl, rfl⟩) (.bl _)
  · cases q
/-! ### built-ins -/
def bAbs : List D → Option D
  | [.int i] => some (.int (if i < 0 then -i else i))
  | _ => none
def bInt : List D → Option D
  | [.int i] => some (.int i)
  | [.bl k] => some (.int (if k = true then 1 else 0))
  | _ => none
def bLen : List D → Option D
  | [.lst ds] => some (.int ds.length)
  | [.tup ds] => some (.int ds.length)
  | [.str z] => if z.length ≤ 100000 then some (.int z.length) else none
  | _ => none
def intsD : List D → Option (List Int)
  | [] => some []
  | .int i :: ds => (match intsD ds with
    | some is => some (i :: is)
    | none => none)
  | _ :: _ => none
def boolsD : List D → Option (List Bool)
  | [] => some []
  | .bl i :: ds => (match boolsD ds with
    | some is => some (i :: is)
    | none => none)
  | _ :: _ => none
def bSum : List D → Option D
  | [.lst ds] => (match intsD ds with
    | some is => some (.int is.sum)
    | none => none)
  | _ => none
def bAll : List D → Option D
  | [.lst ds] => (match boolsD ds with
    | some is => some (.bl (is.all id))
    | none => none)
  | _ => none
def bAny : List D → Option D
  | [.lst ds] => (match boolsD ds with
    | some is => some (.bl (is.any id))
    | none => none)
  | _ => none
def bMax2 : List D → Option D
  | [.int i, .int j] => some (.int (if j > i then j else i))
  | _ => none
def bMin2 : List D → Option D
  | [.int i, .int j] => some (.int (if j < i then j else i))
  | _ => none
theorem ints_rp {G : Hp} : ∀ {ds : List D} {vs : List V} {is : List Int}, RpA K T G vs ds → intsD ds = some is → vs = is.map V.int
  | [], vs, is, r, h => by cases r; cases h; rfl
  | d :: ds, vs, is, r, h => by
    cases r with
    | cons a b =>
      cases d <;> try cases h
      rename_i i
      unfold intsD at h
      split at h
      · rename_i js q
        cases h
        cases a
        rw [ints_rp b q]
        rfl
      · cases h
theorem bools_rp {G : Hp} : ∀ {ds : List D} {vs : List V} {is : List Bool}, RpA K T G vs ds → boolsD ds = some is → vs = is.map V.bl
  | [], vs, is, r, h => by cases r; cases h; rfl
  | d :: ds, vs, is, r, h => by
    cases r with
    | cons a b =>
      cases d <;> try cases h
      rename_i i
      unfold boolsD at h
      split at h
      · rename_i js q
        cases h
        cases a
        rw [bools_rp b q]
        rfl
      · cases h
theorem RpSA.one {G H : Hp} {vs : List V} {d : D} (r : RpSA K T G H vs [d]) : ∃ v, vs = [v] ∧ RpS K T G H v d := by
  cases r with
  | cons a b => cases b; exact ⟨_, rfl, a⟩
theorem RpSA.two {G H : Hp} {vs : List V} {d e : D} (r : RpSA K T G H vs [d, e]) : ∃ v u, vs = [v, u] ∧ RpS K T G H v d ∧ RpS K T G H u e := by
  cases r with
  | cons a b =>
    cases b with
    | cons a2 b => cases b; exact ⟨_, _, rfl, a, a2⟩
theorem ok_abs : OkN K T (fun xs H Q => ∃ i, xs = [V.int i] ∧ Q (V.int (if i < 0 then -i else i)) H) bAbs := by
  intro ds d vs G H q e r Q k
  match ds, q with
  | [.int i], q =>
    cases q
    obtain ⟨v, rfl, rv⟩ := r.one
    rw [rv.int]
    exact ⟨i, rfl, k _ G H (.inl ⟨rfl, rfl⟩) (.int _)⟩
theorem ok_int1 : OkN K T (fun xs H Q => (∃ i, xs = [V.int i] ∧ Q (V.int i) H) ∨ ∃ k, xs = [V.bl k] ∧ Q (V.int (if k = true then 1 else 0)) H) bInt := by
  intro ds d vs G H q e r Q k
  match ds, q with
  | [.int i], q =>
    cases q
    obtain ⟨v, rfl, rv⟩ := r.one
    rw [rv.int]
    exact .inl ⟨i, rfl, k _ G H (.inl ⟨rfl, rfl⟩) (.int _)⟩
  | [.bl b], q =>
    cases q
    obtain ⟨v, rfl, rv⟩ := r.one
    rw [rv.bl]
    exact .inr ⟨b, rfl, k _ G H (.inl ⟨rfl, rfl⟩) (.int _)⟩
theorem ok_len : OkN K T (fun xs H Q => ∃ x n, xs = [x] ∧ LenV K x H n ∧ Q (V.int ((n : Nat) : Int)) H) bLen := by
  intro ds d vs G H q e r Q k
  match ds, q with
  | [.lst es], q =>
    cases q
    obtain ⟨v, rfl, rv⟩ := r.one
    obtain ⟨p, xs, rfl, hq, ra⟩ := rv.lst e
    exact ⟨.ref p, es.length, rfl, .inl ⟨xs, hq, ra.length.symm⟩, k _ G H (.inl ⟨rfl, rfl⟩) (.int _)⟩
  | [.tup es], q =>
    cases q
    obtain ⟨v, rfl, rv⟩ := r.one
    obtain ⟨p, xs, rfl, hq, ra⟩ := rv.tup e
    exact ⟨.ref p, es.length, rfl, .inr ⟨xs, hq, ra.length.symm⟩, k _ G H (.inl ⟨rfl, rfl⟩) (.int _)⟩
  | [.str z], q =>
    have q : (if z.length ≤ 100000 then some (D.int z.length) else none) = some d := q
    split at q
    · rename_i hz
      cases q
      obtain ⟨v, rfl, rv⟩ := r.one
      rw [rv.str]
      exact ⟨.str z, z.length, rfl, ⟨Nat.le_trans hz (show (100000 : Nat) ≤ sizeLine by decide), rfl⟩, k _ G H (.inl ⟨rfl, rfl⟩) (.int _)⟩
    · cases q
theorem ok_sum : OkN K T (rSum K) bSum := by
  intro ds d vs G H q e r Q k
  match ds, q with
  | [.lst es], q =>
    have q : (match intsD es with | some is => some (D.int is.sum) | none => none) = some d := q
    split at q
    · rename_i is w
      cases q
      obtain ⟨v, rfl, rv⟩ := r.one
      obtain ⟨p, xs, rfl, hq, ra⟩ := rv.lst e
      rw [ints_rp ra w] at hq
      exact ⟨p, is, rfl, hq, k _ G H (.inl ⟨rfl, rfl⟩) (.int _)⟩
    · cases q
theorem ok_all : OkN K T (rAll K) bAll := by
  intro ds d vs G H q e r Q k
  match ds, q with
  | [.lst es], q =>
    have q : (match boolsD es with | some is => some (D.bl (is.all id)) | none => none) = some d := q
    split at q
    · rename_i is w
      cases q
      obtain ⟨v, rfl, rv⟩ := r.one
      obtain ⟨p, xs, rfl, hq, ra⟩ := rv.lst e
      rw [bools_rp ra w] at hq
      exact ⟨p, is, rfl, hq, k _ G H (.inl ⟨rfl, rfl⟩) (.bl _)⟩
    · cases q
theorem ok_any : OkN K T (rAny K) bAny := by
  intro ds d vs G H q e r Q k
  match ds, q with
  | [.lst es], q =>
    have q : (match boolsD es with | some is => some (D.bl (is.any id)) | none => none) = some d := q
    split at q
    · rename_i is w
      cases q
      obtain ⟨v, rfl, rv⟩ := r.one
      obtain ⟨p, xs, rfl, hq, ra⟩ := rv.lst e
      rw [bools_rp ra w] at hq
      exact ⟨p, is, rfl, hq, k _ G H (.inl ⟨rfl, rfl⟩) (.bl _)⟩
    · cases q
theorem ok_max2 : OkN K T (fun xs H Q => ∃ i j, xs = [V.int i, V.int j] ∧ Q (V.int (if j > i then j else i)) H) bMax2 := by
  intro ds d vs G H q e r Q k
  match ds, q with
  | [.int i, .int j], q =>
    cases q
    obtain ⟨v, u, rfl, r1, r2⟩ := r.two
    rw [r1.int, r2.int]
    exact ⟨i, j, rfl, k _ G H (.inl ⟨rfl, rfl⟩) (.int _)⟩
theorem ok_min2 : OkN K T (fun xs H Q => ∃ i j, xs = [V.int i, V.int j] ∧ Q (V.int (if j < i then j else i)) H) bMin2 := by
  intro ds d vs G H q e r Q k
  match ds, q with
  | [.int i, .int j], q =>
    cases q
    obtain ⟨v, u, rfl, r1, r2⟩ := r.two
    rw [r1.int, r2.int]
    exact ⟨i, j, rfl, k _ G H (.inl ⟨rfl, rfl⟩) (.int _)⟩
/-- tuple(x) -/
def bTup : List D → Option D
  | [.lst ds] => some (.tup ds)
  | [.tup ds] => some (.tup ds)
  | _ => none
theorem ok_tup : OkN K T (fun xs H Q => ∃ p ys, xs = [V.ref p] ∧ ((SqL K H p ys ∧ ∀ l : Addr, H l = none → Q (V.ref l) (upd H l (HO.tup ys))) ∨ SqT K H p ys ∧ Q (V.ref p) H)) bTup := by
  intro ds d vs G H q e r Q k
  match ds, q with
  | [.lst es], q =>
    cases q
    obtain ⟨v, rfl, rv⟩ := r.one
    obtain ⟨p, xs, rfl, hq, ra⟩ := rv.lst e
    refine ⟨p, xs, rfl, .inl ⟨hq, fun l hl => k _ _ _ (.inr ⟨l, _, hl, (by intro _ _ z; cases z), rfl, rfl⟩) (.tup (.of upd_same) (ra.to (Same.new (e.free hl))))⟩⟩
  | [.tup es], q =>
    cases q
    obtain ⟨v, rfl, rv⟩ := r.one
    cases rv with
    | rp rv =>
      cases rv with
      | tup sq ra => exact ⟨_, _, rfl, .inr ⟨Sub.sqt e sq, k _ G H (.inl ⟨rfl, rfl⟩) (.tup sq ra)⟩⟩
/-- list(x) -/
def bLst : List D → Option (List D)
  | [.lst ds] => some ds
  | [.tup ds] => some ds
  | _ => none
theorem ok_lst : OkNL K T (fun xs H Q => ∃ p ys, xs = [V.ref p] ∧ (SqL K H p ys ∨ SqT K H p ys) ∧ ∀ l : Addr, H l = none → Q (V.ref l) (upd H l (HO.lst ys))) bLst := by
  intro ds d vs G H q e r Q k
  match ds, q with
  | [.lst es], q =>
    cases q
    obtain ⟨v, rfl, rv⟩ := r.one
    obtain ⟨p, xs, rfl, hq, ra⟩ := rv.lst e
    exact ⟨p, xs, rfl, .inl hq, fun l hl => k l xs hl ra⟩
  | [.tup es], q =>
    cases q
    obtain ⟨v, rfl, rv⟩ := r.one
    obtain ⟨p, xs, rfl, hq, ra⟩ := rv.tup e
    exact ⟨p, xs, rfl, .inr hq, fun l hl => k l xs hl ra⟩
end
end Ky
/-! Ky11: instances: made, read, compared; isinstance. -/
namespace Ky
open PySem PySem.Spec PyProof.Rows L2

/-! ### making -/
/-- no cells about -/
def NoMk (G : Hp) : Prop := ∀ a k, G a ≠ some (mk0 k)
inductive IR where
  | ok (fs : List D) | exc (c : Nat) (d : D)
def spI (K : PySem.W.Frag) (T : Tbl) (c n : Nat) (fn : List D → Option IR) : Sp := fun vs H Q E => vs.length = n + 1 ∧ ∃ x ws dx G ds r, vs = .ref x :: ws ∧ H x = some (.ins (T.cls c) dx []) ∧ G x = none ∧ Sub G H ∧ NoMk G ∧ RpA K T G ws ds ∧ fn ds = some r ∧ match r with
  | .ok fs => ∀ fvs G' H', Stp (fun a => a = x) G H G' H' → Sub G' H' → NoMk G' → G' x = none → H' x = some (.ins (T.cls c) dx ((T.att c).zip fvs)) → fvs.length = (T.att c).length → RpA K T G' fvs fs → Q .non H'
  | .exc c' d => ∀ dx' v G' H', Stp (fun a => a = x) G H G' H' → Sub G' H' → NoMk G' → G' x = none → G' dx' = some (.xd [(((T.att c').getD 0 Str.empty), v)]) → Rp K T G' v d → E (.ref (T.cls c')) (some dx') H'
def mMake (c : Nat) (fn : List D → Option IR) (as : MA) : ME := fun Γ => match as Γ with
  | some (.ok l Γ1) => if Γ1.c.isEmpty then (match nows l with
    | some ds => (match fn ds with
      | some (.ok fs) => some (.ok (.ins c fs) Γ1)
      | some (.exc c' d) => some (.exc c' d Γ1)
      | none => none)
    | none => none) else none
  | some (.exc c d Γ') => some (.exc c d Γ')
  | none => none
section
variable {K : PySem.W.Frag} {T : Tbl} {W : WX} {B : Bg} {Γ : Ev} {σ : L2.St} {G H : Hp}
/-- on, where nobody's lists have changed -/
theorem Sat.on (s : Sat K T B Γ σ G H) {G' H' : Hp} (st : Stp (fun _ => False) G H G' H') (gh : Sub G' H') (hc : Γ.c = []) (nm : NoMk G') : Sat K T B Γ σ G' H' :=
  s.back st gh (fun _ m => m.elim) rfl (fun _ _ h => h) ⟨fun k ds e => by rw [hc] at e; simp at e, fun a b k h1 h2 => absurd h1 (nm a k), fun a k h1 => absurd h1 (nm a k)⟩ fun j io es h => ⟨es, h, fun p hp => by
    obtain ⟨q, xs, h1, h2, h3, h4, _⟩ := s.ow j io es h
    rw [hp] at h1
    cases h1
    exact ⟨xs, st.fr _ _ h3 (fun z => z), h4.to st.gg⟩⟩
theorem Sat.noMk (s : Sat K T B Γ σ G H) (hc : Γ.c = []) : NoMk G := fun a k h => by
  have := s.cl.gn a k h
  rw [hc] at this
  cases this
def tMakeS (C : Addr) (sp : Sp) (E : L2.St → XK) (t : TA) : TE := fun σ H Q => t σ H fun vs H1 => ∀ x dx, H1 x = none → H1 dx = none → dx ≠ x →
  sp (.ref x :: vs) (upd (upd H1 dx (.own x)) x (.ins C dx [])) (fun v H2 => v = .non ∧ Q (.ref x) H2) (E σ)
theorem rd_make {c n : Nat} {fn : List D → Option IR} {as : MA} {Q : VK} (hn : Len as n) (h : rd K T W (mMake c fn as) σ H Q) : tMakeS (T.cls c) (spI K T c n fn) (WE W) (rdA K T W as) σ H Q := by
  obtain ⟨B, Γ, G, o, hf, s, k⟩ := h
  unfold mMake at hf
  split at hf
  · rename_i l Γ1 q
    refine ⟨B, Γ, G, _, q, s, fun vs G1 H1 s1 g1 a1 x dx nx ndx ne => ?_⟩
    have hv : vs.length = n := a1.length.trans (hn Γ l Γ1 q)
    have gx : G1 x = none := s1.gnone nx
    have hx1 : ∀ a o, H1 a = some o → a ≠ x := fun a o e z => by rw [z, nx] at e; cases e
    have hd1 : ∀ a o, H1 a = some o → a ≠ dx := fun a o e z => by rw [z, ndx] at e; cases e
    have up : ∀ a o, H1 a = some o → (upd (upd H1 dx (.own x)) x (.ins (T.cls c) dx [])) a = some o := fun a o e => by
      rw [upd_ne (hx1 a o e), upd_ne (hd1 a o e)]
      exact e
    have gdx : G1 dx = none := s1.gnone ndx
    split at hf
    rotate_left
    · cases hf
    rename_i hce
    have hc0 : Γ1.c = [] := by simpa using hce
    have nm1 : NoMk G1 := s1.noMk hc0
    split at hf
    · rename_i ds q2
      have ra := nows_ok a1 q2
      -- what stands between
      have mid : ∀ {G' H' : Hp}, Stp (fun a => a = x) G1 (upd (upd H1 dx (.own x)) x (.ins (T.cls c) dx [])) G' H' → Stp (fun _ => False) G1 H1 G' H' := fun {G' H'} st => by
        refine ⟨st.gg, fun a o e _ => st.fr a o (up a o e) (hx1 a o e), fun a o e => st.al a o (up a o e), fun a o e => ?_⟩
        rcases st.nw a o e with z | z
        · exact .inl z
        · refine .inr ?_
          cases w : H1 a with
          | none => rfl
          | some u =>
            rw [up a u w] at z
            cases z
      split at hf
      · rename_i fs q3
        cases hf
        refine ⟨by rw [List.length_cons, hv], x, vs, dx, G1, ds, _, rfl, upd_same, gx, s1.gh.trans (fun a o e => up a o e), nm1, ra, q3, fun fvs G' H' st gh nm gx' hx' hl rf => ⟨rfl, ?_⟩⟩
        have sg : Same G' (upd G' x (.ins (T.cls c) dx ((T.att c).zip fvs))) := Same.new gx'
        have st0 := mid st
        have st2 : Stp (fun _ => False) G1 H1 (upd G' x (.ins (T.cls c) dx ((T.att c).zip fvs))) H' := by
          refine ⟨st0.gg.trans sg, st0.fr, st0.al, fun a o e => ?_⟩
          by_cases ha : a = x
          · subst ha
            exact .inr nx
          · rw [upd_ne ha] at e
            exact st0.nw a o e
        have gh2 : Sub (upd G' x (.ins (T.cls c) dx ((T.att c).zip fvs))) H' := fun a o e => by
          by_cases ha : a = x
          · subst ha
            rw [upd_same] at e
            cases e
            exact hx'
          · rw [upd_ne ha] at e
            exact gh a o e
        exact k _ _ _ (s1.on st2 gh2 hc0 fun a k h => nm a k (upd_mark (by intro _ _ z; cases z) h)) (g1.trans st2.gg) (.ins upd_same hl (rf.to sg))
      · rename_i c' d q3
        cases hf
        refine ⟨by rw [List.length_cons, hv], x, vs, dx, G1, ds, _, rfl, upd_same, gx, s1.gh.trans (fun a o e => up a o e), nm1, ra, q3, fun dx' v G' H' st gh nm gx' hdx rv => ?_⟩
        exact k dx' v G' H' (s1.on (mid st) gh hc0 nm) (g1.trans st.gg) hdx rv
      · cases hf
    · cases hf
  · rename_i c d Γ' q
    cases hf
    exact ⟨B, Γ, G, _, q, s, k⟩
  · cases hf
end
section
variable {X : Cx} {T : Tbl} {W : WX} {k : Nat} {f : Addr} {fd : FuncData} {ps : List Str} {x : Str} {p pos : Pos} {e : Expr} {es : List Expr} {as : MA}
theorem run_makeS {CX : CXT} {C : Addr} {sp : Sp} {E : XK} {pins : List (Addr × Obj)} {σ : L2.St} {H : Hp} {s : Shared} {Q : VK} {us : List Value} {vs : List V} (M : Mk X.K C f) (F : FnOk X.prog X.w X.K X.mg X.base CX k f fd ps sp) (hr : Room (k + 1) X.A) (hb : Binds X.K fd ps [])
    (hx : PassesAt CX X σ E) (I : Inv X pins σ H s) (r : Vals vs us) (h : ∀ x dx, H x = none → H dx = none → dx ≠ x → sp (.ref x :: vs) (upd (upd H dx (.own x)) x (.ins C dx [])) (fun v H2 => v = .non ∧ Q (.ref x) H2) E) :
    wpAny (model X.prog X.w) X.A (call (.ref C) us) (EP X pins σ Q) X.xe s := by
  let a := s.heap.objs.size
  have f0 : H a = none := I.hok.fresh (Nat.le_refl _)
  have f1 : H (a + 1) = none := I.hok.fresh (Nat.le_succ _)
  have hq := h (a + 1) a f1 f0 (Nat.ne_of_lt (Nat.lt_succ_self _))
  have J : Inv X pins σ _ _ := Inv.made (C := C) I
  have rr : Vals (V.ref (a + 1) :: vs) (Value.ref (a + 1) :: us) := .cons rfl r
  have len : (Value.ref (a + 1) :: us).length = ps.length := rr.length.symm.trans (F.len _ _ _ _ hq)
  have bnd := hb _ (Value.ref (a + 1) :: us) J.kIn (by rw [List.append_nil]; exact len)
  rw [List.append_nil] at bnd
  have body := F.run _ X.stack _ _ ⟨Value.ref (a + 1) :: us, []⟩ _ _ _ E (hr.make C us []) (J.env0.make C us []) bnd rr hq
  refine wpAny_call (make_map (f := f) I.kIn M.makes M.init (beq_iff_eq.mp M.fn) (codeAny_mono body fun z s' hz => ?_))
  match z, hz with
  | .error e, hz => exact hx pins _ _ e s' J hz
  | .ok (.ret u), hz =>
    obtain ⟨v, H', J2, rv, rfl, q⟩ := J.after hz
    exact ⟨rv, .ref (a + 1), H', J2, rfl, q⟩
/-- C(e, ..), what it raises wished for at the names as they stand -/
theorem pe_makeS {CX : CXT} {C : Addr} {sp : Sp} {E : L2.St → XK} {t : TA} (M : Mk X.K C f) (F : FnOk X.prog X.w X.K X.mg X.base CX k f fd ps sp) (hr : Room (k + 1) X.A) (hg : Gl X x) (hm : X.mg x = some (.ref C)) (hb : Binds X.K fd ps [])
    (hx : ∀ σ, PassesAt CX X σ (E σ)) (ha : PA X (e :: es) t) (hdb : (x == ("__debug__" : Str)) = false := by decide) (he : starEach (e :: es) X.env = (false, eval e X.env) :: starEach es X.env := by rfl) (hpl : (backTo pos (starEach es X.env)).any (·.1) = false := by rfl) :
    PE X (.Call (.Name x p) (e :: es) [] pos) (tMakeS C sp E t) := by
  refine ⟨fun pins s σ H Q I h => ?_⟩
  have args := ha.run pos pins s σ H _ I h
  exact wpAny_Call_Name_kw (ld_glob I hg hm (PySem.W.callWith_K (h₀ := X.base) I.ok.mod.kin M.kp (thn args fun us s1 ⟨vs, H1, I1, r, q⟩ => ⟨I1.kIn, run_makeS M F hr hb (hx σ) I1 r q⟩) he hpl) hdb)
theorem je_make {c n : Nat} {fn : List D → Option IR} (M : Mk X.K (T.cls c) f) (F : FnOk X.prog X.w X.K X.mg X.base (L2.CX X.prog X.w) k f fd ps (spI X.K T c n fn)) (hr : Room (k + 1) X.A) (hg : Gl X x) (hm : X.mg x = some (.ref (T.cls c))) (hb : Binds X.K fd ps [])
    (hx : ∀ σ, PassesAt (L2.CX X.prog X.w) X σ (WE W σ)) (hn : Len as n) (ha : PA X (e :: es) (rdA X.K T W as)) (hdb : (x == ("__debug__" : Str)) = false := by decide) (he : starEach (e :: es) X.env = (false, eval e X.env) :: starEach es X.env := by rfl) (hpl : (backTo pos (starEach es X.env)).any (·.1) = false := by rfl) :
    PE X (.Call (.Name x p) (e :: es) [] pos) (rd X.K T W (mMake c fn as)) := PE.imp (pe_makeS M F hr hg hm hb hx ha hdb he hpl) fun σ H Q q => rd_make hn q
end
/-! ### the attributes -/
def mFld (c j : Nat) (f : ME) : ME := fun Γ => match f Γ with
  | some (.ok d Γ') => (match d with
    | .ins c' ds => if c' = c then (match ds[j]? with
      | some x => some (.ok x Γ')
      | none => none) else none
    | _ => none)
  | some (.exc c d Γ') => some (.exc c d Γ')
  | none => none
theorem lookup_zip {fs : List Str} {vs : List V} {j : Nat} {f : Str} {v : V} (nd : fs.Nodup) (h1 : fs[j]? = some f) (h2 : vs[j]? = some v) : (fs.zip vs).lookup f = some v := by
  induction fs generalizing vs j with
  | nil => simp at h1
  | cons g fs ih =>
    cases vs with
    | nil => simp at h2
    | cons w vs =>
      cases j with
      | zero =>
        simp at h1 h2
        subst h1 h2
        simp [List.lookup]
      | succ j =>
        simp at h1 h2
        rw [List.nodup_cons] at nd
        have hne : f ≠ g := fun e => nd.1 (e ▸ List.mem_of_getElem? h1)
        have hb : (f == g) = false := by simpa using hne
        rw [List.zip_cons_cons, List.lookup, hb]
        exact ih nd.2 h1 h2
section
variable {X : Cx} {T : Tbl} {W : WX} {e : Expr} {pos : Pos}
theorem je_fld {c j : Nat} {f : Str} {g : ME} (cl : Cls X.K (T.cls c)) (na : NoAttr X.K (T.cls c) f) (nd : (T.att c).Nodup) (hj : (T.att c)[j]? = some f) (h : PE X e (rd X.K T W g)) (hb : attributeBase e f X.env (eval e X.env) = eval e X.env := by rfl) : PE X (.Attribute e f pos) (rd X.K T W (mFld c j g)) :=
  PE.imp (pe_fld h hb) fun σ H Q ⟨B, Γ, G, o, hf, s, k⟩ => by
    unfold mFld at hf
    split at hf
    · rename_i d Γ' q
      refine ⟨B, Γ, G, _, q, s, fun v G' H' s' g' r => ?_⟩
      split at hf
      · rename_i c' ds
        split at hf
        · rename_i hc
          subst hc
          split at hf
          · rename_i x hx
            cases hf
            cases r with
            | ins ha hl ra =>
              obtain ⟨v, hv, rv⟩ := ra.get hx
              exact ⟨_, _, _, _, v, rfl, s'.gh _ _ ha, cl, na, lookup_zip nd hj hv, k v G' H' s' g' rv⟩
          · cases hf
        · cases hf
      · cases hf
    · rename_i c d Γ' q
      cases hf
      exact ⟨B, Γ, G, _, q, s, k⟩
    · cases hf
end
/-! ### isinstance -/
/-- a class that is asked for: a built-in one, an own one -/
inductive Cn where
  | ty (n : String) | own (c : Nat)
def tyName : D → Option String
  | .non => some "NoneType"
  | .bl _ => some "bool"
  | .int _ => some "int"
  | .str _ => some "str"
  | .lst _ => some "list"
  | .tup _ => some "tuple"
  | .ins _ _ => none
  | .cel _ => none
  | .dic => some "dict"
/-- what isinstance says of own classes: c of N, nobody's heir among them; the built-in ones that are asked for -/
def asked : List String := ["int", "bool", "str", "list", "tuple"]
structure KitOk (K : PySem.W.Frag) (T : Tbl) (cs : List Nat) : Prop where
  a : ∀ c ∈ cs, ∀ n ∈ asked, PySem.W.kitOne K (.ref (T.cls c)) (.type n) = some false
  b : ∀ c ∈ cs, ∀ n ∈ ["NoneType", "bool", "int", "str", "list", "tuple", "dict"], PySem.W.kitOne K (.type n) (.ref (T.cls c)) = some false
  c : ∀ c ∈ cs, ∀ c' ∈ cs, PySem.W.kitOne K (.ref (T.cls c)) (.ref (T.cls c')) = some (decide (c = c'))
  cl : ∀ c ∈ cs, Cls K (T.cls c)
  ha : ∀ c ∈ cs, PySem.W.findIn K (.ref (T.cls c)) "__class__" = some (some (.builtin "object.__class__"))
  hn : PySem.W.specialIn K (.builtin "object.__class__") "__get__" = some (some (.builtin "getset_descriptor.__get__"))
  ht : PySem.W.takesIn K (.builtin "object.__class__") = some true
  hm : ∀ c ∈ cs, PySem.W.mroIn K (T.cls c) (.type "object") = some true
def isi1 (cs : List Nat) (x : D) : Cn → Option Bool
  | .ty n => (match x with
    | .ins c _ => if c ∈ cs ∧ n ∈ asked then some false else none
    | d => (match tyName d with
      | some m => kitB m n
      | none => none))
  | .own c => (match x with
    | .ins c' _ => if c ∈ cs ∧ c' ∈ cs then some (decide (c' = c)) else none
    | .cel _ => none
    | _ => if c ∈ cs then some false else none)
def isiA (cs : List Nat) (x : D) : List Cn → Option Bool
  | [] => some false
  | c :: r => (match isi1 cs x c with
    | some true => some true
    | some false => isiA cs x r
    | none => none)
def cnV (T : Tbl) : Cn → V
  | .ty n => .ty n
  | .own c => .ref (T.cls c)
def cnU (T : Tbl) : Cn → Value
  | .ty n => .type n
  | .own c => .ref (T.cls c)
section
variable {K : PySem.W.Frag} {T : Tbl} {W : WX} {σ : L2.St} {H : Hp}
theorem cn_cls (c : Cn) : ClsV (cnV T c) (cnU T c) := by
  cases c with
  | ty n => exact .ty n
  | own c => exact .own _
theorem cns_cls : ∀ l : List Cn, Paired ClsV (l.map (cnV T)) (l.map (cnU T))
  | [] => .nil
  | c :: l => .cons (cn_cls c) (cns_cls l)
/-- a value's type -/
theorem ty_of {G H : Hp} {cs : List Nat} (ko : KitOk K T cs) (e : Sub G H) {v : V} {d : D} (r : RpS K T G H v d) (hc : ∀ c ds, d = .ins c ds → c ∈ cs) : ∃ t, TyX K H v t ∧ (∀ n, tyName d = some n → t = .type n) ∧ ∀ c ds, d = .ins c ds → t = .ref (T.cls c) := by
  cases d with
  | non => exact ⟨_, .base (by rw [r.non]; exact .non), fun n h => by cases h; rfl, fun c ds h => by cases h⟩
  | bl b => exact ⟨_, .base (by rw [r.bl]; exact .bl b), fun n h => by cases h; rfl, fun c ds h => by cases h⟩
  | int i => exact ⟨_, .base (by rw [r.int]; exact .int i), fun n h => by cases h; rfl, fun c ds h => by cases h⟩
  | str z => exact ⟨_, .base (by rw [r.str]; exact .str z), fun n h => by cases h; rfl, fun c ds h => by cases h⟩
  | lst ds =>
    obtain ⟨p, xs, rfl, hq, ra⟩ := r.lst e
    refine ⟨.type "list", ?_, fun n h => by cases h; rfl, fun c ds h => by cases h⟩
    rcases hq with (hq | ⟨o, hq⟩) | ⟨o, its, n, hk, hcl, _⟩
    · exact .base (.lst hq)
    · exact .base (.frz hq)
    · exact .kList hk hcl
  | tup ds =>
    obtain ⟨p, xs, rfl, hq, ra⟩ := r.tup e
    refine ⟨.type "tuple", ?_, fun n h => by cases h; rfl, fun c ds h => by cases h⟩
    rcases hq with (hq | ⟨o, hq⟩) | ⟨o, its, n, hk, hcl, _⟩
    · exact .base (.tup hq)
    · exact .fTuple hq
    · exact .kTuple hk hcl
  | ins c ds =>
    cases r with
    | rp r =>
     cases r with
     | ins ha hl ra =>
      have ha := e _ _ ha
      have hcc := hc c ds rfl
      exact ⟨.ref (T.cls c), .base (.ins ha (ko.cl c hcc) (ko.ha c hcc) ko.hn ko.ht (ko.hm c hcc)), (fun n h => by cases h), (fun c' ds' h => by cases h; rfl)⟩
  | cel k =>
    cases r with
    | rp r =>
      cases r with
      | cel h =>
        obtain ⟨xs, hq⟩ := e _ _ h
        exact ⟨.type "list", .base (.lst hq), (fun n h => by cases h), fun c ds h => by cases h⟩
  | dic =>
    cases r with
    | rp r =>
      cases r with
      | dic h => exact ⟨.type "dict", .base (.dK (e _ _ h)), (fun n h => by cases h; rfl), fun c ds h => by cases h⟩
theorem isi1_ok {G H : Hp} {cs : List Nat} (ko : KitOk K T cs) {d : D} {cn : Cn} {b : Bool} (h : isi1 cs d cn = some b) {t : Value} (t1 : ∀ n, tyName d = some n → t = .type n) (t2 : ∀ c ds, d = .ins c ds → t = .ref (T.cls c)) : PySem.W.kitOne K t (cnU T cn) = some b := by
  cases cn with
  | ty n =>
    cases d with
    | ins c ds =>
      have h : (if c ∈ cs ∧ n ∈ asked then some false else none) = some b := h
      split at h
      · rename_i hc
        cases h
        rw [t2 c ds rfl]
        exact ko.a c hc.1 n hc.2
      · cases h
    | non => rw [t1 _ rfl]; exact kit_ty h
    | bl _ => rw [t1 _ rfl]; exact kit_ty h
    | int _ => rw [t1 _ rfl]; exact kit_ty h
    | str _ => rw [t1 _ rfl]; exact kit_ty h
    | lst _ => rw [t1 _ rfl]; exact kit_ty h
    | tup _ => rw [t1 _ rfl]; exact kit_ty h
    | cel _ => cases h
    | dic => rw [t1 _ rfl]; exact kit_ty h
  | own c =>
    have fin : ∀ m, m ∈ ["NoneType", "bool", "int", "str", "list", "tuple", "dict"] → tyName d = some m → (if c ∈ cs then some false else none) = some b → PySem.W.kitOne K t (cnU T (.own c)) = some b := fun m hm hd h => by
      split at h
      · rename_i hc
        cases h
        rw [t1 m hd]
        exact ko.b c hc m hm
      · cases h
    cases d with
    | ins c' ds =>
      have h : (if c ∈ cs ∧ c' ∈ cs then some (decide (c' = c)) else none) = some b := h
      split at h
      · rename_i hc
        cases h
        rw [t2 c' ds rfl]
        exact ko.c c' hc.2 c hc.1
      · cases h
    | non => exact fin _ (by simp) rfl h
    | bl _ => exact fin _ (by simp) rfl h
    | int _ => exact fin _ (by simp) rfl h
    | str _ => exact fin _ (by simp) rfl h
    | lst _ => exact fin _ (by simp) rfl h
    | tup _ => exact fin _ (by simp) rfl h
    | cel _ => cases h
    | dic => exact fin _ (by simp) rfl h
theorem isiA_ok {G H : Hp} {cs : List Nat} (ko : KitOk K T cs) {d : D} {t : Value} (t1 : ∀ n, tyName d = some n → t = .type n) (t2 : ∀ c ds, d = .ins c ds → t = .ref (T.cls c)) : ∀ {l : List Cn} {b : Bool}, isiA cs d l = some b → PySem.W.kitAny K t (l.map (cnU T)) = some b
  | [], b, h => by cases h; rfl
  | c :: l, b, h => by
    unfold isiA at h
    split at h
    · rename_i q
      cases h
      exact kitAny_cons (isi1_ok (G := G) (H := H) ko q t1 t2) (fun z => by cases z) fun _ => rfl
    · rename_i q
      exact kitAny_cons (isi1_ok (G := G) (H := H) ko q t1 t2) (fun _ => isiA_ok (G := G) (H := H) ko t1 t2 h) fun z => by cases z
    · cases h
/-- the class of an instance is one of those -/
def insIn (cs : List Nat) : D → Bool
  | .ins c _ => cs.contains c
  | _ => true
def mIsi (cs : List Nat) (cn : List Cn) (g : MG) : ME := fun Γ => match g Γ with
  | some (.ok a Γ') => (match worth Γ' a with
    | some d => (match insIn cs d, isiA cs d cn with
      | true, some b => some (.ok (.bl b) Γ')
      | _, _ => none)
    | none => none)
  | some (.exc c d Γ') => some (.exc c d Γ')
  | none => none
theorem insIn_of {cs : List Nat} {d : D} (h : insIn cs d = true) : ∀ c ds, d = .ins c ds → c ∈ cs := fun c ds e => by
  subst e
  simpa [insIn] using h
theorem rd_isi1 {cs : List Nat} {cn : Cn} {g : MG} {Q : VK} (ko : KitOk K T cs) (h : rd K T W (mIsi cs [cn] g) σ H Q) : tCB (rIsi K) (tCons (rdG K T W g) (tCons (tC (cnV T cn)) tNil)) σ H Q := by
  obtain ⟨B, Γ, G, o, hf, s, k⟩ := h
  unfold mIsi at hf
  split at hf
  · rename_i a Γ' q
    refine ⟨B, Γ, G, _, q, s, fun v G' H' s' g' r => ?_⟩
    split at hf
    · rename_i d q2
      split at hf
      · rename_i b w1 w2
        cases hf
        obtain ⟨t, ty, t1, t2⟩ := ty_of ko s'.gh (s'.worth r q2) (insIn_of w1)
        have w3 : isi1 cs d cn = some b := by
          unfold isiA at w2
          split at w2
          · rename_i z
            cases w2
            exact z
          · rename_i z
            cases w2
            exact z
          · cases w2
        exact ⟨v, cnV T cn, t, cnU T cn, b, rfl, cn_cls cn, ty, isi1_ok (G := G') (H := H') ko w3 t1 t2, k _ G' H' s' g' (.bl _)⟩
      · cases hf
    · cases hf
  · rename_i c d Γ' q
    cases hf
    exact ⟨B, Γ, G, _, q, s, k⟩
  · cases hf
theorem rd_isiT {cs : List Nat} {cn : List Cn} {g : MG} {ta : TA} {Q : VK} (ko : KitOk K T cs) (hl : cn.length ≤ 100) (ht : ∀ σ H (Q : List V → Hp → Prop), Q (cn.map (cnV T)) H → ta σ H Q) (h : rd K T W (mIsi cs cn g) σ H Q) : tCB (rIsiT K) (tCons (rdG K T W g) (tCons (tTup ta) tNil)) σ H Q := by
  obtain ⟨B, Γ, G, o, hf, s, k⟩ := h
  unfold mIsi at hf
  split at hf
  · rename_i a Γ' q
    refine ⟨B, Γ, G, _, q, s, fun v G' H' s' g' r => ht _ _ _ ⟨?_, fun p hp => ?_⟩⟩
    · rw [List.length_map]
      exact Nat.le_trans hl (show (100 : Nat) ≤ sizeLine by decide)
    · have s2 : Sat K T B Γ' σ (upd G' p (.tup (cn.map (cnV T)))) (upd H' p (.tup (cn.map (cnV T)))) := s'.new hp
      have sg : Same G' (upd G' p (.tup (cn.map (cnV T)))) := Same.new (s'.gnone hp)
      split at hf
      · rename_i d q2
        split at hf
        · rename_i b w1 w2
          cases hf
          obtain ⟨t, ty, t1, t2⟩ := ty_of ko s2.gh (s2.worth (r.to sg) q2) (insIn_of w1)
          exact ⟨v, p, cn.map (cnV T), t, cn.map (cnU T), b, rfl, upd_same, cns_cls cn, ty, isiA_ok (G := G') (H := H') ko t1 t2 w2, k _ _ _ s2 (g'.trans sg) (.bl _)⟩
        · cases hf
      · cases hf
  · rename_i c d Γ' q
    cases hf
    exact ⟨B, Γ, G, _, q, s, k⟩
  · cases hf
end
section
variable {X : Cx} {T : Tbl} {W : WX} {e e2 : Expr} {es : List Expr} {p pos : Pos}
theorem je_isi1 {cs : List Nat} {cn : Cn} {g : MG} (ko : KitOk X.K T cs) (hm : X.mg "isinstance" = none) (h : PE X e (rdG X.K T W g)) (h2 : PE X e2 (tC (cnV T cn))) (hg : Gl X "isinstance" := by rfl)
    (he : starEach (e :: [e2]) X.env = (false, eval e X.env) :: starEach [e2] X.env := by rfl) (he2 : starEach (e2 :: []) X.env = (false, eval e2 X.env) :: starEach [] X.env := by rfl) (hpl : (backTo pos (starEach [e2] X.env)).any (·.1) = false := by rfl) :
    PE X (.Call (.Name "isinstance" p) [e, e2] [] pos) (rd X.K T W (mIsi cs [cn] g)) :=
  PE.imp (pe_callB call_isi hg hm (by decide +kernel) (pa_cons h (pa_cons h2 pa_nil he2) he) (by decide) (by decide) he hpl) fun σ H Q q => rd_isi1 ko q
theorem je_isiT {cs : List Nat} {cn : List Cn} {g : MG} {ta : TA} {k : Nat} {tp : Pos} (ko : KitOk X.K T cs) (hm : X.mg "isinstance" = none) (h : PE X e (rdG X.K T W g)) (hl : cn.length ≤ 100) (h2 : PA X es ta) (ht : ∀ σ H (Q : List V → Hp → Prop), Q (cn.map (cnV T)) H → ta σ H Q) (hg : Gl X "isinstance" := by rfl)
    (he : starEach (e :: [Expr.Tuple es k tp]) X.env = (false, eval e X.env) :: starEach [Expr.Tuple es k tp] X.env := by rfl) (he2 : starEach (Expr.Tuple es k tp :: []) X.env = (false, eval (Expr.Tuple es k tp) X.env) :: starEach [] X.env := by rfl) (hpl : (backTo pos (starEach [Expr.Tuple es k tp] X.env)).any (·.1) = false := by rfl) :
    PE X (.Call (.Name "isinstance" p) [e, .Tuple es k tp] [] pos) (rd X.K T W (mIsi cs cn g)) :=
  PE.imp (pe_callB call_isiT hg hm (by decide +kernel) (pa_cons h (pa_cons (pe_tup h2) pa_nil he2) he) (by decide) (by decide) he hpl) fun σ H Q q => rd_isiT ko hl ht q
end
end Ky
/-! Ky13: __init__, statements, comprehensions as rules. -/
namespace Ky
open PySem PySem.Spec PyProof.Rows L2

/-! ### statements -/
section
variable {X : Cx} {T : Tbl} {W : WX} {st : Stmt} {rest sts sts2 : List Stmt} {e e2 c iter tg : Expr} {pos p p2 ap cp tp : Pos} {i j : Nat} {x y : Str}
theorem js_app {f : ME} (hx : PE X (.Name x p) (tVar i)) (he : PE X e (rd X.K T W f)) (hbase : attributeBase (.Name x p) "append" X.env (eval (.Name x p) X.env) = eval (.Name x p) X.env := by rfl)
    (hfew : ((backTo cp (starEach [e] X.env)).all (fun x => !x.1) && (backToKw cp (keywordEach [] X.env)).all (fun x => x.1.isSome)
      && decide ([e].length + ([] : List Keyword).length + (if ([] : List Keyword).isEmpty then 0 else 1) < 30)) = true := by rfl)
    (hline : (ap.endLine == cp.line) = true := by rfl) (hst : starEach [e] X.env = (false, eval e X.env) :: starEach [] X.env := by rfl) (hs : swapsWith (.Call (.Attribute (.Name x p) "append" ap) [e] [] cp) none pos.line X.env = pure false := by rfl) :
    PS X (.Expr (.Call (.Attribute (.Name x p) "append" ap) [e] [] cp) pos) (rdS X.K T W (mApp i f)) :=
  PS.imp (ps_expr (pe_bm PySem.F.plainAttrs_list PySem.F.slot_list_append PySem.F.type_list_append mt_append hx (pa_cons he pa_nil hst) hbase hfew hline hst) hs) fun D σ H q => rdS_app q
theorem je_popAt {f : ME} (hx : PE X (.Name x p) (tVar i)) (he : PE X e (rd X.K T W f)) (hbase : attributeBase (.Name x p) "pop" X.env (eval (.Name x p) X.env) = eval (.Name x p) X.env := by rfl)
    (hfew : ((backTo cp (starEach [e] X.env)).all (fun x => !x.1) && (backToKw cp (keywordEach [] X.env)).all (fun x => x.1.isSome)
      && decide ([e].length + ([] : List Keyword).length + (if ([] : List Keyword).isEmpty then 0 else 1) < 30)) = true := by rfl)
    (hline : (ap.endLine == cp.line) = true := by rfl) (hst : starEach [e] X.env = (false, eval e X.env) :: starEach [] X.env := by rfl) :
    PE X (.Call (.Attribute (.Name x p) "pop" ap) [e] [] cp) (rd X.K T W (mPopAt i f)) :=
  PE.imp (pe_bm PySem.F.plainAttrs_list PySem.F.slot_list_pop PySem.F.type_list_pop mt_popAt hx (pa_cons he pa_nil hst) hbase hfew hline hst) fun σ H Q q => rd_popAt q
theorem js_setix {fk fe : ME} {tpos : Pos} (hx : PE X (.Name x p) (tVar i)) (hk : PE X e2 (rd X.K T W fk)) (he : PE X e (rd X.K T W fe)) (hg : PE X (.Name x p) (tVar i) → PE X e2 (rd X.K T W fk) → PG X (.Subscript (.Name x p) e2 tpos) (gSub (tVar i) (rd X.K T W fk) rSetL))
    (hs : swapsWithSole [.Subscript (.Name x p) e2 tpos] e pos.line X.env = pure false := by rfl) (hw : swappedStores [.Subscript (.Name x p) e2 tpos] e X.env = pure none := by rfl)
    (h1 : (assignEach [.Subscript (.Name x p) e2 tpos] X.env).map (·.2) = [assign (.Subscript (.Name x p) e2 tpos) X.env] := by rfl) : PS X (.Assign [.Subscript (.Name x p) e2 tpos] e pos) (rdS X.K T W (mSet i fk fe)) :=
  PS.imp (ps_asg he (hg hx hk) hs hw h1) fun D σ H q => rdS_set q
theorem js_aug {op : Operator} {q : D → D → Option D} {f : ME} {r : TIp} (hN : X.N.Nodup) (hi : X.N[i]? = some x) (hx : Loc X.env.scope x) (ho : PIp X op r) (hr : Ok2 X.K T r q) (he : PE X e (rd X.K T W f)) (hf : X.fn x = true ∨ X.env.scope.names.lookup x = some .local := by first | exact .inl rfl | exact .inr rfl | assumption) :
    PS X (.AugAssign (.Name x p) op e pos) (rdS X.K T W (mAug i q f)) := PS.imp (ps_aug hN hi hx he ho hf) fun D σ H z => rdS_aug hr z
theorem ok_ipI {K : PySem.W.Frag} {f : Int → Int → Int} : Ok2 K T (ipI f) (oInt f) := ok_int
theorem js_while {n : Nat} {b : MB} {f : MS} (hp : PassesOwn (model X.prog X.w) X.A X.env X.xe) (hc : PT X c (rdT X.K T W b)) (hb : PSs X sts (rdS X.K T W f)) : PS X (.While c sts [] pos) (rdS X.K T W (mWhile n b f)) := PS.imp (ps_while hp hc hb) fun D σ H z => rdS_while z
theorem js_for {src : MI} {t : MT} {f : MS} (hp : PassesOwn (model X.prog X.w) X.A X.env X.xe) (hc : X.calm = true) (hi : PI X tg iter (rdI X.K T W src)) (hg : PG X tg (rdTg X.K T t)) (hb : PSs X sts (rdS X.K T W f)) (hs : ∀ x, foldedSetIterable iter X.env x = pure x := by intro _; rfl) :
    PS X (.For tg iter sts [] pos) (rdS X.K T W (mFor src t f)) := PS.imp (ps_for hp hc hi hg hb hs) fun D σ H z => rdS_for z
/-! ### sources -/
theorem jp_seq {f : ME} (h : PE X iter (rd X.K T W f)) : PI X tg iter (rdI X.K T W (miSeq f)) := PI.imp (pi_seq h) fun σ H R q => rdI_seq q
theorem jp_rng1 {g : MG} (hg : Gl X "range") (hm : X.mg "range" = none) (h : PE X e (rdG X.K T W g)) (hst : starEach [e] X.env = (false, eval e X.env) :: starEach [] X.env := by rfl) (hr : PA X [e] (tCons (rdG X.K T W g) tNil) → PI X tg (.Call (.Name "range" p) [e] [] pos) (iRng1 (tCons (rdG X.K T W g) tNil))) : PI X tg (.Call (.Name "range" p) [e] [] pos) (rdI X.K T W (miRng1 g)) := PI.imp (hr (pa_cons h pa_nil hst)) fun σ H R q => rdI_rng1 q
theorem jp_rng2 {f g : MG} (hg : Gl X "range") (hm : X.mg "range" = none) (h : PE X e (rdG X.K T W f)) (h2 : PE X e2 (rdG X.K T W g)) (hst : starEach [e, e2] X.env = (false, eval e X.env) :: starEach [e2] X.env := by rfl) (hst2 : starEach [e2] X.env = (false, eval e2 X.env) :: starEach [] X.env := by rfl) (hr : PA X [e, e2] (tCons (rdG X.K T W f) (tCons (rdG X.K T W g) tNil)) → PI X tg (.Call (.Name "range" p) [e, e2] [] pos) (iRng2 (tCons (rdG X.K T W f) (tCons (rdG X.K T W g) tNil)))) : PI X tg (.Call (.Name "range" p) [e, e2] [] pos) (rdI X.K T W (miRng2 f g)) := PI.imp (hr (pa_cons h (pa_cons h2 pa_nil hst2) hst)) fun σ H R q => rdI_rng2 q
/-! ### comprehensions -/
def mYes : MB := fun Γ => some (.ok true Γ)
theorem PTs.imp {ifs : List Expr} {t t' : TT} (h : PTs X ifs t) (i : ∀ σ H Q, t' σ H Q → t σ H Q) : PTs X ifs t' := ⟨fun pins s σ H Q I q => h.run pins s σ H Q I (i σ H Q q)⟩
theorem jts_nil : PTs X [] (rdT X.K T W mYes) := PTs.imp pts_nil fun σ H Q ⟨B, Γ, G, o, hf, s, k⟩ => by
  cases hf
  exact k G H s (Same.refl G)
theorem jts_one {b : MB} (h : PT X c (rdT X.K T W b)) : PTs X [c] (rdT X.K T W b) := pts_one h
theorem jl_comp {elt : Expr} {ifs : List Expr} {scope : Scope} {own : List (Str × Nat)} {src : MI} {t : MT} {b : MB} {f : ME} (hc : X.calm = true) (hN : X.N.Nodup) (ok : BlkOk X.N X.env.scope scope own) (hi : PI X tg iter (rdI X.K T W src))
    (hg : ∀ (s : Shared) (H : Hp) (C : Addr) (cl : List (Str × Addr)) (fp : List Addr), PG (X.blk s H scope (compEnvC scope cl C X.env) fp) tg (rdTg X.K T t))
    (ht : ∀ (s : Shared) (H : Hp) (C : Addr) (cl : List (Str × Addr)) (fp : List Addr), PTs (X.blk s H scope (compEnvC scope cl C X.env) fp) ifs (rdT X.K T (fun _ _ _ _ => False) b))
    (he : ∀ (s : Shared) (H : Hp) (C : Addr) (cl : List (Str × Addr)) (fp : List Addr), PE (X.blk s H scope (compEnvC scope cl C X.env) fp) elt (rd X.K T (fun _ _ _ _ => False) f)) (hs : ∀ x, foldedSetIterable iter X.env x = pure x := by intro _; rfl) :
    PE X (.ListComp elt [⟨tg, iter, ifs, 0⟩] scope pos) (rdL X.K T W (mComp src t (own.map (·.2)) b f)) := PE.imp (pe_lc hc hN hi ok hg ht he hs) fun σ H Q q => rdL_comp q
/-- y = [.. for ..] on one line -/
theorem js_setLc {elt : Expr} {py lp : Pos} {ifs : List Expr} {scope : Scope} {own : List (Str × Nat)} {src : MI} {t : MT} {b : MB} {f : ME} (hc : X.calm = true) (hN : X.N.Nodup) (hy : X.N[i]? = some y) (hyl : X.env.scope.names.lookup y = some .local)
    (hsw : swapsWith (.ListComp elt [⟨tg, iter, ifs, 0⟩] scope lp) (some (.Name y py)) pos.line X.env = pure true) (ok : BlkOk X.N X.env.scope scope own) (hi : PI X tg iter (rdI X.K T W src))
    (hg : ∀ (s : Shared) (H : Hp) (C : Addr) (cl : List (Str × Addr)) (fp : List Addr), PG (X.blk s H scope (compEnvC scope cl C X.env) fp) tg (rdTg X.K T t))
    (ht : ∀ (s : Shared) (H : Hp) (C : Addr) (cl : List (Str × Addr)) (fp : List Addr), PTs (X.blk s H scope (compEnvC scope cl C X.env) fp) ifs (rdT X.K T (fun _ _ _ _ => False) b))
    (he : ∀ (s : Shared) (H : Hp) (C : Addr) (cl : List (Str × Addr)) (fp : List Addr), PE (X.blk s H scope (compEnvC scope cl C X.env) fp) elt (rd X.K T (fun _ _ _ _ => False) f)) (hs : ∀ x, foldedSetIterable iter X.env x = pure x := by intro _; rfl) :
    PS X (.Assign [.Name y py] (.ListComp elt [⟨tg, iter, ifs, 0⟩] scope lp) pos) (rdS X.K T W (mAsgL i (mComp src t (own.map (·.2)) b f))) :=
  js_setLw (ps_setLc hc hN hy hyl hsw hi ok hg ht he hs) fun σ H Q q => rdL_comp q
/-- .. not changed any more -/
theorem js_setLcF {elt : Expr} {py lp : Pos} {ifs : List Expr} {scope : Scope} {own : List (Str × Nat)} {src : MI} {t : MT} {b : MB} {f : ME} (hc : X.calm = true) (hN : X.N.Nodup) (hy : X.N[i]? = some y) (hyl : X.env.scope.names.lookup y = some .local)
    (hsw : swapsWith (.ListComp elt [⟨tg, iter, ifs, 0⟩] scope lp) (some (.Name y py)) pos.line X.env = pure true) (ok : BlkOk X.N X.env.scope scope own) (hi : PI X tg iter (rdI X.K T W src))
    (hg : ∀ (s : Shared) (H : Hp) (C : Addr) (cl : List (Str × Addr)) (fp : List Addr), PG (X.blk s H scope (compEnvC scope cl C X.env) fp) tg (rdTg X.K T t))
    (ht : ∀ (s : Shared) (H : Hp) (C : Addr) (cl : List (Str × Addr)) (fp : List Addr), PTs (X.blk s H scope (compEnvC scope cl C X.env) fp) ifs (rdT X.K T (fun _ _ _ _ => False) b))
    (he : ∀ (s : Shared) (H : Hp) (C : Addr) (cl : List (Str × Addr)) (fp : List Addr), PE (X.blk s H scope (compEnvC scope cl C X.env) fp) elt (rd X.K T (fun _ _ _ _ => False) f)) (hs : ∀ x, foldedSetIterable iter X.env x = pure x := by intro _; rfl) :
    PS X (.Assign [.Name y py] (.ListComp elt [⟨tg, iter, ifs, 0⟩] scope lp) pos) (rdS X.K T W (mAsg (tgName i) (mFz (mComp src t (own.map (·.2)) b f)))) :=
  js_setw (ps_setLc hc hN hy hyl hsw hi ok hg ht he hs) fun σ H Q q => rdL_comp (rd_fz q)
end
end Ky
/-! KySet: len(set(xs)), xs a list or a tuple of texts, any number, any repeats. -/
namespace Ky
open PySem PySem.Spec PyProof.Rows L2

/-- how many differ among the first i -/
def cntS (xs : List Str) : Nat → Nat
  | 0 => 0
  | i + 1 => if (xs.take i).any (· == xs.getD i Str.empty) then cntS xs i else cntS xs i + 1
theorem cntS_le (xs : List Str) : ∀ i, cntS xs i ≤ i
  | 0 => Nat.le_refl _
  | i + 1 => by
    have h := cntS_le xs i
    unfold cntS
    split <;> omega
theorem cntS_nodup {xs : List Str} (h : xs.Nodup) : ∀ i, i ≤ xs.length → cntS xs i = i
  | 0, _ => rfl
  | i + 1, hi => by
    have ih := cntS_nodup h i (by omega)
    have lt : i < xs.length := hi
    unfold cntS
    rw [ih]
    have g : xs.getD i Str.empty = xs[i] := by
      rw [List.getD_eq_getElem?_getD, List.getElem?_eq_getElem lt]
      rfl
    have no : ¬ ((xs.take i).any (· == xs.getD i Str.empty)) = true := fun z => by
      obtain ⟨y, hy, ey⟩ := List.any_eq_true.mp z
      have ey : y = xs.getD i Str.empty := eq_of_beq ey
      rw [g] at ey
      obtain ⟨j, hj, ej⟩ := List.getElem_of_mem hy
      have hj' : j < i := by
        rw [List.length_take] at hj
        omega
      rw [List.getElem_take] at ej
      exact List.pairwise_iff_getElem.mp h j i (by omega) lt hj' (ej.trans ey)
    rw [if_neg no]
section
variable {prog : Program} {w : World} {A : Around} {R : Result → Shared → Prop} {I : Addr} {fp wr : List Addr} {Gn : Array GenState → Array GenState → Prop} {n : Nat} {Pv : Nat → Value → Prop} {St : Nat → Shared → Prop}
abbrev HasT (prog : Program) (w : World) (h : Heap) (S : Addr) (xs : List Str) (i : Nat) : Prop := h.SetOf (PySem.strKind prog w) S (fun z => (xs.take i).any (· == z)) (cntS xs i)
theorem HasT.at {h h' : Heap} {S : Addr} {xs : List Str} {i : Nat} (q : HasT prog w h S xs i) (e : ∀ o, h.get? S = some o → h'.get? S = some o) : HasT prog w h' S xs i := by
  obtain ⟨o, es, ep, tb, ho, rest⟩ := q
  exact ⟨o, es, ep, tb, e o ho, rest⟩
theorem take_any {xs : List Str} {i : Nat} (hi : i < xs.length) (z : Str) : ((xs.take i).any (· == z) || decide (z = xs.getD i Str.empty)) = (xs.take (i + 1)).any (· == z) := by
  have g : xs.getD i Str.empty = xs[i] := by
    rw [List.getD_eq_getElem?_getD, List.getElem?_eq_getElem hi]
    rfl
  rw [List.take_succ, List.getElem?_eq_getElem hi, List.any_append, g]
  congr 1
  show decide (z = xs[i]) = [xs[i]].any (· == z)
  rw [List.any_cons, List.any_nil, Bool.or_false]
  by_cases e : z = xs[i]
  · rw [e]; simp
  · have e2 : ¬ xs[i] = z := fun q => e q.symm
    simp [e, e2]
/-- the turns that put the texts in -/
theorem puts_all (W : WalksS prog w A.in1 I fp wr Gn n Pv St) (S : Addr) (out : S ∉ fp) (xs : List Str) (hl : xs.length = n) (few : n + 1 < scanBound) (hv : ∀ i v, Pv i v → ∃ t, v = .str (xs.getD i Str.empty) t) :
    ∀ (m i : Nat) (s : Shared), n - i = m → i ≤ n → St i s → HasT prog w s.heap S xs i → (∀ s', Moved (S :: wr) Gn s s' → HasT prog w s'.heap S xs n → R (.ok (.ret .none)) s') →
      codeAny (model prog w) A (.builtin "set.update.loop" ⟨[.ref S, .ref I], []⟩) R s := by
  have outw : S ∉ wr := fun z => out (W.sub _ z)
  intro m
  induction m with
  | zero =>
    intro i s em hi st hS fin
    obtain rfl : i = n := by omega
    refine codeAny_builtin PyProof.Rows.F.entry_set_update_loop ?_
    rw [Around.under_plainId PyProof.Rows.F.plain_set_update_loop _]
    refine wpAny_bind (W.done s _ _ st fun s' mv => wpAny_pure (fin s' (mv.mono fun b hb => .tail _ hb) (hS.at fun o e => mv.heap S o outw e)))
  | succ m ih =>
    intro i s em hi st hS fin
    have lt : i < n := by omega
    refine codeAny_builtin PyProof.Rows.F.entry_set_update_loop ?_
    rw [Around.under_plainId PyProof.Rows.F.plain_set_update_loop _]
    refine wpAny_bind (W.item i s _ _ lt st fun v s' hP st' mv => ?_)
    obtain ⟨t, rfl⟩ := hv i v hP
    have hS' : HasT prog w s'.heap S xs i := hS.at fun o e => mv.heap S o outw e
    have cl := cntS_le xs i
    show wpAny _ A.in1 (holding [Value.str (xs.getD i Str.empty) t] (setAdd S (.str (xs.getD i Str.empty) t)) >>= _) _ _ s'
    refine wpAny_bind (wpAny_holding (wpAny_holding (wpAny_bind ((PySem.strKind prog w).pyHash (k := xs.getD i Str.empty) (strKind_is _ _ _ _) ?_))))
    refine wpAny_setAddHashed_of (knd := PySem.strKind prog w) (s := { s' with toks := s'.toks + 1 }) (strKind_is _ _ _ _) rfl hS' (by omega) fun h' sb hS2 => ?_
    have hSi : HasT prog w h' S xs (i + 1) := SetOf_congr hS2 (fun z => take_any (by omega) z) (by
      show _ = (if _ then _ else _)
      rfl)
    refine wpAny_pure ⟨plainId_quiet PyProof.Rows.F.plain_set_update_loop _, ih (i + 1) _ (by omega) lt (W.frame _ s' _ _ st' (Nat.le_succ _) fun b hb o e => ?_) hSi fun s'' mv2 hS3 => ?_⟩
    · exact (sb.2 b fun z => out (z ▸ hb)).trans e
    · refine fin s'' (Moved.trans W.gtrans ((mv.mono fun b hb => .tail _ hb).then_heap (Nat.le_succ _) fun b o hb e => ?_) mv2) hS3
      exact (sb.2 b fun z => hb (z ▸ List.mem_cons_self)).trans e
end
section
variable {prog : Program} {w : World} {A : Around} {E : Value → Shared → Prop} {s : Shared}
abbrev newSet (b : Bool) : Obj := { cls := .type "set", dict := none, data := .set #[] 0 (.fresh 0 0 b) }
set_option maxHeartbeats 3200000 in
theorem set_of_list {l : Addr} {items : Array Value} {xs : List Str} {Q : Value → Shared → Prop} (hh : A.handled = none) (hl : s.heap.IsList l items) (ht : StrsAre items.toList xs) (few : xs.length + 1 < scanBound)
    (k : ∀ (h' : Heap) (tk : Nat), HasT prog w h' s.heap.objs.size xs xs.length → (∀ b o, b < s.heap.objs.size → s.heap.get? b = some o → h'.get? b = some o) → Q (.ref s.heap.objs.size) { s with heap := h', toks := tk }) :
    wpAny (model prog w) A (call (.type "set") [.ref l]) Q E s := by
  obtain ⟨_, _, m1⟩ := PySem.F.called_set.mro
  have m2 := PySem.F.called_set.made
  have m3 := PySem.F.called_set.sub
  have m4 := PySem.F.called_set.notType
  have m5 := PySem.F.called_set.canCreate
  have m6 := PySem.F.typeCall_set_1 (.ref l)
  refine wpAny_call (codeAny_of_tree (wpAny_pure ⟨Code.quiet_builtin _ (by decide +kernel), codeAny_builtin PySem.F.entry_type_call ?_⟩))
  rw [Around.under_plain (weight_type_call_type "set" [.ref l] []) rfl]
  repeat (any_goals (first | assumption | wp_step))
  refine codeAny_mono (code_set_new_1 (.ref l) (E := E) (Q₁ := fun v s1 => ∃ b : Bool, v = .ref s.heap.objs.size ∧ s1 = { s with heap := s.heap.push (newSet b) }) fun b => ⟨b, rfl, rfl⟩) fun r s1 hr => ?_
  match r, hr with
  | .error e, hr => exact hr
  | .ok .next, hr => exact hr.elim
  | .ok .brk, hr => exact hr.elim
  | .ok .cont, hr => exact hr.elim
  | .ok (.ret v), ⟨b, e1, e2⟩ =>
    subst e1
    subst e2
    have oS : (s.heap.push (newSet b)).get? s.heap.objs.size = some (newSet b) := Heap.get?_push_size _ rfl
    have tS : Shared.TypeIs { s with heap := s.heap.push (newSet b) } (.ref s.heap.objs.size) "set" := ⟨_, oS, rfl⟩
    have m7 := PySem.F.called_set.init.lookup
    have m8 := PySem.F.called_set.init.bind (.ref s.heap.objs.size)
    repeat (any_goals (first | assumption | wp_step))
    refine codeAny_mono (codeAny_call_builtin (R := wants (fun r s2 => r = .none ∧ ∃ h' tk, s2 = { s with heap := h', toks := tk } ∧ HasT prog w h' s.heap.objs.size xs xs.length ∧ (∀ b o, b < s.heap.objs.size → s.heap.get? b = some o → h'.get? b = some o)) E)
      PySem.F.called_set.init.plain PySem.F.entry_set_init (check_set_init_1 tS ?_)) fun r2 s2 hr2 => ?_
    · obtain ⟨⟨c0, d0, x0, z0⟩, hg, hc, n0, hx⟩ := hl
      simp only at hc hx
      subst hc
      subst hx
      have hg2 : (s.heap.push (newSet b)).get? l = some { cls := .type "list", dict := d0, data := .seq items n0, slots := z0 } := Heap.get?_push_of_some _ hg
      have f1 := PySem.F.sub_list_set
      have f2 := PySem.F.sub_list_frozenset
      have f3 : (Value.type "list" == Value.type "dict") = false := by decide
      have hL : (s.heap.push (newSet b)).IsList l items := ⟨_, hg2, rfl, n0, rfl⟩
      have few2 : items.size + 1 < scanBound := by
        rw [← Array.length_toList, StrsAre.len_eq ht]
        exact few
      have sz : xs.length = items.size := by rw [← StrsAre.len_eq ht, Array.length_toList]
      unfold Builtin.«set.__init__» noKeywords Builtin.Frozenset.updateFrom
      generalize hPI : pyIter = PI
      wp_walk
      subst hPI
      refine wpAny_pyIter_list hL (wpAny_bind (wpAny_runValue ?_))
      have below : l < s.heap.objs.size := Heap.lt_size hg
      have up1 : (s.heap.push (newSet b)).objs.size = s.heap.objs.size + 1 := Heap.size_push ..
      have apart : l ≠ (s.heap.push (newSet b)).objs.size := by
        rw [up1]
        exact Nat.ne_of_lt (Nat.lt_succ_of_lt below)
      have out : s.heap.objs.size ∉ [(s.heap.push (newSet b)).objs.size, l] := by
        rw [up1]
        intro z
        rcases List.mem_cons.mp z with z | z
        · exact absurd z (Nat.ne_of_lt (Nat.lt_succ_self _))
        · exact absurd (List.mem_singleton.mp z) (Nat.ne_of_gt below)
      have calm3 : A.in1.in1.in1.handled = none := by simp [hh]
      refine puts_all ((Walks.list calm3 _ l apart items).toS) s.heap.objs.size out xs sz few2 (fun i v hv => SS.strs_at ht i v (by rw [Array.getElem?_toList]; exact hv)) (items.size - 0) 0 _ (by omega) (Nat.zero_le _) ⟨⟨_, Heap.get?_push_size _ rfl, rfl, rfl⟩, hL.push _⟩ ?_ ?_
      · exact SetOf_congr ((setObjOf_fresh (knd := PySem.strKind prog w) b).setOf (Heap.get?_push_of_some _ oS) (by unfold scanBound; omega)) (fun _ => rfl) rfl
      · intro s3 mv hS
        obtain ⟨h3, g3, d3, t3, o3⟩ := s3
        obtain rfl : g3 = s.gens := mv.gens
        obtain rfl : d3 = s.drawn := mv.drawn
        obtain rfl : o3 = s.os := mv.os
        refine wpAny_pure (wpAny_pure ⟨rfl, h3, t3, rfl, by rw [sz]; exact hS, fun c o hc e => ?_⟩)
        refine mv.heap c o (fun z => ?_) (Heap.get?_push_of_some _ (Heap.get?_push_of_some _ e))
        rcases List.mem_cons.mp z with z | z
        · exact absurd z (Nat.ne_of_lt hc)
        · rw [List.mem_singleton.mp z, up1] at hc
          exact absurd hc (Nat.not_lt_of_le (Nat.le_succ _))
    · match r2, hr2 with
      | .error e, hr2 => exact hr2
      | .ok .next, hr2 => exact hr2.elim
      | .ok .brk, hr2 => exact hr2.elim
      | .ok .cont, hr2 => exact hr2.elim
      | .ok (.ret v), ⟨e1, h', tk, e2, hS, hk⟩ =>
        subst e1
        subst e2
        repeat (any_goals (first | assumption | wp_step))
        exact k _ _ hS hk
set_option maxHeartbeats 3200000 in
theorem set_of_tuple {l : Addr} {items : Array Value} {xs : List Str} {Q : Value → Shared → Prop} (hh : A.handled = none) (hl : s.heap.IsTuple l items) (ht : StrsAre items.toList xs) (few : xs.length + 1 < scanBound)
    (k : ∀ (h' : Heap) (tk : Nat), HasT prog w h' s.heap.objs.size xs xs.length → (∀ b o, b < s.heap.objs.size → s.heap.get? b = some o → h'.get? b = some o) → Q (.ref s.heap.objs.size) { s with heap := h', toks := tk }) :
    wpAny (model prog w) A (call (.type "set") [.ref l]) Q E s := by
  obtain ⟨_, _, m1⟩ := PySem.F.called_set.mro
  have m2 := PySem.F.called_set.made
  have m3 := PySem.F.called_set.sub
  have m4 := PySem.F.called_set.notType
  have m5 := PySem.F.called_set.canCreate
  have m6 := PySem.F.typeCall_set_1 (.ref l)
  refine wpAny_call (codeAny_of_tree (wpAny_pure ⟨Code.quiet_builtin _ (by decide +kernel), codeAny_builtin PySem.F.entry_type_call ?_⟩))
  rw [Around.under_plain (weight_type_call_type "set" [.ref l] []) rfl]
  repeat (any_goals (first | assumption | wp_step))
  refine codeAny_mono (code_set_new_1 (.ref l) (E := E) (Q₁ := fun v s1 => ∃ b : Bool, v = .ref s.heap.objs.size ∧ s1 = { s with heap := s.heap.push (newSet b) }) fun b => ⟨b, rfl, rfl⟩) fun r s1 hr => ?_
  match r, hr with
  | .error e, hr => exact hr
  | .ok .next, hr => exact hr.elim
  | .ok .brk, hr => exact hr.elim
  | .ok .cont, hr => exact hr.elim
  | .ok (.ret v), ⟨b, e1, e2⟩ =>
    subst e1
    subst e2
    have oS : (s.heap.push (newSet b)).get? s.heap.objs.size = some (newSet b) := Heap.get?_push_size _ rfl
    have tS : Shared.TypeIs { s with heap := s.heap.push (newSet b) } (.ref s.heap.objs.size) "set" := ⟨_, oS, rfl⟩
    have m7 := PySem.F.called_set.init.lookup
    have m8 := PySem.F.called_set.init.bind (.ref s.heap.objs.size)
    repeat (any_goals (first | assumption | wp_step))
    refine codeAny_mono (codeAny_call_builtin (R := wants (fun r s2 => r = .none ∧ ∃ h' tk, s2 = { s with heap := h', toks := tk } ∧ HasT prog w h' s.heap.objs.size xs xs.length ∧ (∀ b o, b < s.heap.objs.size → s.heap.get? b = some o → h'.get? b = some o)) E)
      PySem.F.called_set.init.plain PySem.F.entry_set_init (check_set_init_1 tS ?_)) fun r2 s2 hr2 => ?_
    · obtain ⟨⟨c0, d0, x0, z0⟩, hg, hc, n0, hx⟩ := hl
      simp only at hc hx
      subst hc
      subst hx
      have hg2 : (s.heap.push (newSet b)).get? l = some { cls := .type "tuple", dict := d0, data := .seq items n0, slots := z0 } := Heap.get?_push_of_some _ hg
      have f1 := PySem.F.sub_tuple_set
      have f2 := PySem.F.sub_tuple_frozenset
      have f3 : (Value.type "tuple" == Value.type "dict") = false := by decide
      have hL : (s.heap.push (newSet b)).IsTuple l items := ⟨_, hg2, rfl, n0, rfl⟩
      have few2 : items.size + 1 < scanBound := by
        rw [← Array.length_toList, StrsAre.len_eq ht]
        exact few
      have sz : xs.length = items.size := by rw [← StrsAre.len_eq ht, Array.length_toList]
      unfold Builtin.«set.__init__» noKeywords Builtin.Frozenset.updateFrom
      generalize hPI : pyIter = PI
      wp_walk
      subst hPI
      refine wpAny_pyIter_tuple hL (wpAny_bind (wpAny_runValue ?_))
      have below : l < s.heap.objs.size := Heap.lt_size hg
      have up1 : (s.heap.push (newSet b)).objs.size = s.heap.objs.size + 1 := Heap.size_push ..
      have apart : l ≠ (s.heap.push (newSet b)).objs.size := by
        rw [up1]
        exact Nat.ne_of_lt (Nat.lt_succ_of_lt below)
      have out : s.heap.objs.size ∉ [(s.heap.push (newSet b)).objs.size, l] := by
        rw [up1]
        intro z
        rcases List.mem_cons.mp z with z | z
        · exact absurd z (Nat.ne_of_lt (Nat.lt_succ_self _))
        · exact absurd (List.mem_singleton.mp z) (Nat.ne_of_gt below)
      have calm3 : A.in1.in1.in1.handled = none := by simp [hh]
      refine puts_all ((Walks.tuple calm3 _ l apart items).toS) s.heap.objs.size out xs sz few2 (fun i v hv => SS.strs_at ht i v (by rw [Array.getElem?_toList]; exact hv)) (items.size - 0) 0 _ (by omega) (Nat.zero_le _) ⟨⟨_, Heap.get?_push_size _ rfl, rfl, rfl⟩, hL.push _⟩ ?_ ?_
      · exact SetOf_congr ((setObjOf_fresh (knd := PySem.strKind prog w) b).setOf (Heap.get?_push_of_some _ oS) (by unfold scanBound; omega)) (fun _ => rfl) rfl
      · intro s3 mv hS
        obtain ⟨h3, g3, d3, t3, o3⟩ := s3
        obtain rfl : g3 = s.gens := mv.gens
        obtain rfl : d3 = s.drawn := mv.drawn
        obtain rfl : o3 = s.os := mv.os
        refine wpAny_pure (wpAny_pure ⟨rfl, h3, t3, rfl, by rw [sz]; exact hS, fun c o hc e => ?_⟩)
        refine mv.heap c o (fun z => ?_) (Heap.get?_push_of_some _ (Heap.get?_push_of_some _ e))
        rcases List.mem_cons.mp z with z | z
        · exact absurd z (Nat.ne_of_lt hc)
        · rw [List.mem_singleton.mp z, up1] at hc
          exact absurd hc (Nat.not_lt_of_le (Nat.le_succ _))
    · match r2, hr2 with
      | .error e, hr2 => exact hr2
      | .ok .next, hr2 => exact hr2.elim
      | .ok .brk, hr2 => exact hr2.elim
      | .ok .cont, hr2 => exact hr2.elim
      | .ok (.ret v), ⟨e1, h', tk, e2, hS, hk⟩ =>
        subst e1
        subst e2
        repeat (any_goals (first | assumption | wp_step))
        exact k _ _ hS hk
end
section
variable {X : Cx} {T : Tbl} {W : WX} {a : Expr} {p p2 q pos : Pos}
def tLenT (K : PySem.W.Frag) (ta : TE) : TE := fun σ H Q => ta σ H fun x H1 => ∃ l, ∃ xs : List Str, x = .ref l ∧ (SqL K H1 l (xs.map V.str) ∨ SqT K H1 l (xs.map V.str)) ∧ xs.length ≤ 4000 ∧ Q (.int (cntS xs xs.length : Nat)) H1
theorem pe_lenT {ta : TE} (hc : X.calm = true) (hg : Gl X "len") (hm : X.mg "len" = none) (hg2 : Gl X "set") (hm2 : X.mg "set" = none) (ha : PE X a ta) (na : starEach [a] X.env = (false, eval a X.env) :: starEach [] X.env := by rfl) :
    PE X (.Call (.Name "len" p) [.Call (.Name "set" p2) [a] [] q] [] pos) (tLenT X.K ta) := by
  refine ⟨fun pins s σ H Q I h => ?_⟩
  refine Call_ (ld_blt I hg hm boot_len (callWith_builtin1 (args_cons ?_ rfl) rfl rfl))
  refine Call_ (ld_blt I hg2 hm2 PyProof.Rows.boot_set (callWith_type1 (args_cons (thn (ha.run pins s σ H _ I h) fun v s1 ⟨x, H1, I1, r1, q1⟩ => args_nil ?_) na) na rfl))
  obtain ⟨l, xs, rfl, hq, h1, q1⟩ := q1
  cases r1
  have few : xs.length + 1 < scanBound := by unfold scanBound; omega
  have fin : ∀ (h' : Heap) (tk : Nat), HasT X.prog X.w h' s1.heap.objs.size xs xs.length → (∀ b o, b < s1.heap.objs.size → s1.heap.get? b = some o → h'.get? b = some o) →
      wpAny (model X.prog X.w) X.A (spliced (backTo pos (starEach [] X.env))) (fun vs s2 => wpAny (model X.prog X.w) X.A (call (.builtin "len") (Value.ref s1.heap.objs.size :: vs)) (EP X pins σ Q) X.xe s2) X.xe { s1 with heap := h', toks := tk } := fun h' tk hS hk => by
    refine args_nil ?_
    obtain ⟨o, es, ep, t, ho, hex, hd, _, _, _, hf, hn⟩ := hS
    have I2 : Inv X pins σ H1 { s1 with heap := h', toks := tk } := I1.kept fun b o e => hk b o (Heap.lt_size e) e
    have cl := cntS_le xs xs.length
    exact call_len_set ho hex hd hf (by rw [hn]; omega) ⟨.int (cntS xs xs.length : Nat), H1, I2.tok _, ⟨_, by rw [hn]⟩, q1⟩
  rcases hq with hq | hq
  · obtain ⟨its, r, pl, hz⟩ := I1.list hq
    exact set_of_list (I1.ok.hd hc) pl.isList (by simpa using strsAre_of r) few fin
  · obtain ⟨its, r, pl, hz⟩ := I1.tuple hq
    exact set_of_tuple (I1.ok.hd hc) pl (by simpa using strsAre_of r) few fin
def strsD : List D → Option (List Str)
  | [] => some []
  | .str z :: r => (match strsD r with
    | some zs => some (z :: zs)
    | none => none)
  | _ :: _ => none
theorem strsD_ok {K : PySem.W.Frag} {G : Hp} : ∀ {ds : List D} {vs : List V} {zs : List Str}, RpA K T G vs ds → strsD ds = some zs → vs = zs.map V.str
  | [], _, _, h, e => by cases h; cases e; rfl
  | .str z :: r, _, zs, h, e => by
    cases h with
    | cons h1 h2 =>
      unfold strsD at e
      split at e
      · rename_i ys q
        cases e
        cases h1
        rw [strsD_ok h2 q]
        rfl
      · cases e
  | .non :: r, _, _, h, e => nomatch e
  | .bl _ :: r, _, _, h, e => nomatch e
  | .int _ :: r, _, _, h, e => nomatch e
  | .lst _ :: r, _, _, h, e => nomatch e
  | .tup _ :: r, _, _, h, e => nomatch e
  | .ins _ _ :: r, _, _, h, e => nomatch e
def seqD : D → Option (List D)
  | .lst ds => some ds
  | .tup ds => some ds
  | _ => none
def mLenSet (g : MG) : ME := fun Γ => match g Γ with
  | some (.ok a Γ') => (match worth Γ' a with
    | some d => (match seqD d with
      | some ds => (match strsD ds with
        | some zs => if zs.length ≤ 4000 then some (.ok (.int (cntS zs zs.length : Nat)) Γ') else none
        | none => none)
      | none => none)
    | none => none)
  | some (.exc c d Γ') => some (.exc c d Γ')
  | none => none
theorem je_lenSet {g : MG} (hc : X.calm = true) (hm : X.mg "len" = none) (hm2 : X.mg "set" = none) (ha : PE X a (rdG X.K T W g)) (hg : Gl X "len" := by rfl) (hg2 : Gl X "set" := by rfl) (na : starEach [a] X.env = (false, eval a X.env) :: starEach [] X.env := by rfl) :
    PE X (.Call (.Name "len" p) [.Call (.Name "set" p2) [a] [] q] [] pos) (rd X.K T W (mLenSet g)) := PE.imp (pe_lenT hc hg hm hg2 hm2 ha na) fun σ H Q ⟨B, Γ, G, o, hf, s, k⟩ => by
  unfold mLenSet at hf
  split at hf
  · rename_i a Γ' q
    refine ⟨B, Γ, G, _, q, s, fun v G' H' s' g' r => ?_⟩
    split at hf
    · rename_i d w
      split at hf
      · rename_i ds w2
        split at hf
        · rename_i zs w3
          split at hf
          · rename_i w4
            cases hf
            have rw' := s'.worth r w
            cases d with
            | lst es =>
              cases w2
              obtain ⟨p, xs, rfl, hq, ra⟩ := rw'.lst s'.gh
              rw [strsD_ok ra w3] at hq
              exact ⟨p, zs, rfl, .inl hq, w4, k _ G' H' s' g' (.int _)⟩
            | tup es =>
              cases w2
              obtain ⟨p, xs, rfl, hq, ra⟩ := rw'.tup s'.gh
              rw [strsD_ok ra w3] at hq
              exact ⟨p, zs, rfl, .inr hq, w4, k _ G' H' s' g' (.int _)⟩
            | _ => cases w2
          · cases hf
        · cases hf
      · cases hf
    · cases hf
  · rename_i c d Γ' q
    cases hf
    exact ⟨B, Γ, G, _, q, s, k⟩
  · cases hf
end
end Ky
/-! Ky14: assignments side by side, slices, enumerate over a tuple, index, bit_length, lists put together. -/
namespace Ky
open PySem PySem.Spec PyProof.Rows L2

/-! ### a new list is held while more is worked out -/
def Bg.hold (B : Bg) (p : Addr) (xs : List V) : Bg := ⟨B.G0, upd B.H0 p (.lst xs), fun a => B.M a ∧ a ≠ p, B.σ0⟩
section
variable {K : PySem.W.Frag} {T : Tbl} {W : WX} {B : Bg} {Γ : Ev} {σ : L2.St} {G H : Hp} {De : Ends}
def NoOne (Γ : Ev) (σ : L2.St) (p : Addr) : Prop := ∀ (j : Nat) io es, Γ[j]? = some (SC.own io es) → σ[j]? ≠ some (some (V.ref p))
theorem Sat.hold (s : Sat K T B Γ σ G H) {p : Addr} {xs : List V} (hg : G p = none) (hp : H p = some (.lst xs)) (hn : NoOne Γ σ p) : Sat K T (B.hold p xs) Γ σ G H := by
  refine ⟨s.g0, s.gh, fun a o e m => ?_, fun a o e => ?_, fun a o e => ?_, s.len, s.dt, fun i io ds h => ?_, s.pr, ⟨fun k ds e => ?_, s.cl.gi, s.cl.gn⟩, s.dj⟩
  · by_cases ha : a = p
    · subst ha
      rw [show (B.hold a xs).H0 a = _ from upd_same] at e
      cases e
      exact hp
    · rw [show (B.hold p xs).H0 a = _ from upd_ne ha] at e
      exact s.fr a o e fun z => m ⟨z, ha⟩
  · by_cases ha : a = p
    · subst ha
      exact ⟨_, hp⟩
    · rw [show (B.hold p xs).H0 a = _ from upd_ne ha] at e
      exact s.al a o e
  · by_cases ha : a = p
    · subst ha
      rw [hg] at e
      cases e
    · rcases s.nw a o e with z | z
      · exact .inl z
      · exact .inr ((upd_ne ha).trans z)
  · obtain ⟨q, ys, h1, h2, h3, h4, h5, h6⟩ := s.ow i io ds h
    have hq : q ≠ p := fun z => hn i io ds h (z ▸ h1)
    exact ⟨q, ys, h1, h2, h3, h4, fun z => ⟨h5 z, hq⟩, fun z => (upd_ne hq).trans (h6 z)⟩
  · obtain ⟨q, ys, h1, h2, h3, h4⟩ := s.cl.ce k ds e
    have hq : q ≠ p := ne_of_none h1 hg
    refine ⟨q, ys, h1, h2, h3, ?_⟩
    rcases h4 with z | z
    · exact .inl ⟨z, hq⟩
    · exact .inr ((upd_ne hq).trans z)
theorem Sat.unhold {p : Addr} {xs : List V} (s : Sat K T (B.hold p xs) Γ σ G H) (h0 : B.H0 p = none) (hg0 : B.G0 p = none) : Sat K T B Γ σ G H ∧ G p = none ∧ H p = some (.lst xs) ∧ NoOne Γ σ p := by
  have ne : ∀ {a : Addr} {o : HO}, B.H0 a = some o → a ≠ p := fun {a o} e z => by
    rw [z, h0] at e
    cases e
  refine ⟨⟨s.g0, s.gh, fun a o e m => s.fr a o ((upd_ne (ne e)).trans e) fun z => m z.1, fun a o e => s.al a o ((upd_ne (ne e)).trans e), fun a o e => ?_, s.len, s.dt, fun i io ds h => ?_, s.pr, ⟨fun k ds e => ?_, s.cl.gi, s.cl.gn⟩, s.dj⟩, ?_, s.fr p _ upd_same fun z => z.2 rfl, fun i io es h z => ?_⟩
  · rcases s.nw a o e with z | z
    · exact .inl z
    · by_cases ha : a = p
      · subst ha
        exact .inr h0
      · exact .inr ((upd_ne ha).symm.trans z)
  · obtain ⟨q, ys, h1, h2, h3, h4, h5, h6⟩ := s.ow i io ds h
    refine ⟨q, ys, h1, h2, h3, h4, fun z => (h5 z).1, fun z => ?_⟩
    by_cases hq : q = p
    · rw [hq]
      exact h0
    · exact (upd_ne hq).symm.trans (h6 z)
  · obtain ⟨q, ys, h1, h2, h3, h4⟩ := s.cl.ce k ds e
    refine ⟨q, ys, h1, h2, h3, ?_⟩
    rcases h4 with z | z
    · exact .inl z.1
    · by_cases hq : q = p
      · rw [hq]
        exact .inr h0
      · exact .inr ((upd_ne hq).symm.trans z)
  · cases e : G p with
    | none => rfl
    | some o =>
      rcases s.nw p o e with z | z
      · rw [show (B.hold p xs).G0 p = B.G0 p from rfl, hg0] at z
        cases z
      · rw [show (B.hold p xs).H0 p = _ from upd_same] at z
        cases z
  · obtain ⟨q, ys, h1, h2, h3, h4, h5, h6⟩ := s.ow i io es h
    rw [z] at h1
    cases h1
    cases io with
    | true => exact (h5 rfl).2 rfl
    | false =>
      have w := h6 rfl
      rw [show (B.hold p xs).H0 p = _ from upd_same] at w
      cases w
/-! ### x, y = a, b -/
/-- a datum or a new list -/
inductive PX where
  | d (f : ME) | l (f : ML)
def evP : List PX → Ev → Option (List Rt × Ev)
  | [], Γ => some ([], Γ)
  | .d f :: r, Γ => (match f Γ with
    | some (.ok d Γ1) => (match evP r Γ1 with
      | some (os, Γ2) => some (.dat d :: os, Γ2)
      | none => none)
    | _ => none)
  | .l f :: r, Γ => (match f Γ with
    | some (.ok ds Γ1) => (match evP r Γ1 with
      | some (os, Γ2) => some (.own ds :: os, Γ2)
      | none => none)
    | _ => none)
def rdPX (K : PySem.W.Frag) (T : Tbl) (W : WX) : PX → TE
  | .d f => rd K T W f
  | .l f => rdL K T W f
def rdPs (K : PySem.W.Frag) (T : Tbl) (W : WX) : List PX → TA
  | [] => tNil
  | f :: r => tCons (rdPX K T W f) (rdPs K T W r)
/-- as the operands stand, before they are stored -/
def Pre (K : PySem.W.Frag) (T : Tbl) (σ : L2.St) (Γ : Ev) (G H : Hp) : Bg → List Rt → List V → Prop
  | B, [], [] => Sat K T B Γ σ G H
  | B, .dat d :: os, v :: vs => Rp K T G v d ∧ Pre K T σ Γ G H B os vs
  | B, .own ds :: os, v :: vs => ∃ p xs, v = .ref p ∧ RpA K T G xs ds ∧ B.H0 p = none ∧ B.G0 p = none ∧ Pre K T σ Γ G H (B.hold p xs) os vs
  | _, _, _ => False
theorem evP_ok : ∀ {fs : List PX} {B : Bg} {Γ Γ' : Ev} {G H : Hp} {os : List Rt} {Q : List V → Hp → Prop}, evP fs Γ = some (os, Γ') → Sat K T B Γ σ G H → (∀ vs G' H', Same G G' → Pre K T σ Γ' G' H' B os vs → Q vs H') → rdPs K T W fs σ H Q
  | [], B, Γ, Γ', G, H, os, Q, e, s, k => by
    cases e
    exact k [] G H (Same.refl G) s
  | .d f :: r, B, Γ, Γ', G, H, os, Q, e, s, k => by
    unfold evP at e
    split at e
    · rename_i d Γ1 q
      refine ⟨B, Γ, G, _, q, s, fun v G1 H1 s1 g1 r1 => ?_⟩
      split at e
      · rename_i os' Γ2 q2
        cases e
        exact evP_ok q2 s1 fun vs G2 H2 g2 pre => k (v :: vs) G2 H2 (g1.trans g2) ⟨r1.to g2, pre⟩
      · cases e
    · cases e
  | .l f :: r, B, Γ, Γ', G, H, os, Q, e, s, k => by
    unfold evP at e
    split at e
    · rename_i ds Γ1 q
      refine ⟨B, Γ, G, _, q, s, fun p xs G1 H1 s1 g1 hg hp ra h0 hn => ?_⟩
      split at e
      · rename_i os' Γ2 q2
        cases e
        exact evP_ok q2 (s1.hold hg hp hn) fun vs G2 H2 g2 pre => k (.ref p :: vs) G2 H2 (g1.trans g2) ⟨p, xs, rfl, ra.to g2, h0, s1.g0.free hg, pre⟩
      · cases e
    · cases e
def scOf : Rt → SC
  | .dat d => .dat d
  | .own ds => .own false ds
def storeP : List Nat → List Rt → Ev → Option Ev
  | [], [], Γ => some Γ
  | i :: is, o :: os, Γ => (match storeP is os Γ with
    | some Γ1 => if free Γ1 i then some (Γ1.set i (scOf o)) else none
    | none => none)
  | _, _, _ => none
def setsV : List Nat → List V → L2.St → L2.St
  | i :: is, v :: vs, σ => (setsV is vs σ).set i (some v)
  | _, _, σ => σ
theorem storeP_ok : ∀ {is : List Nat} {os : List Rt} {vs : List V} {B : Bg} {Γ Γ2 : Ev}, Pre K T σ Γ G H B os vs → storeP is os Γ = some Γ2 → Sat K T B Γ2 (setsV is vs σ) G H
  | [], [], [], B, Γ, Γ2, p, e => by cases e; exact p
  | i :: is, .dat d :: os, v :: vs, B, Γ, Γ2, p, e => by
    unfold storeP at e
    split at e
    · rename_i Γ1 q
      split at e
      · rename_i hf
        cases e
        exact (storeP_ok p.2 q).set hf p.1
      · cases e
    · cases e
  | i :: is, .own ds :: os, v :: vs, B, Γ, Γ2, p, e => by
    unfold storeP at e
    split at e
    · rename_i Γ1 q
      split at e
      · rename_i hf
        cases e
        obtain ⟨p, xs, rfl, ra, h0, hg0, pre⟩ := p
        obtain ⟨s1, hg, hp, hn⟩ := (storeP_ok pre q).unhold h0 hg0
        exact s1.setOwn hf hg hp ra h0 hn
      · cases e
    · cases e
  | [], _ :: _, _, _, _, _, _, e => nomatch e
  | _ :: _, [], _, _, _, _, _, e => nomatch e
  | [], [], _ :: _, _, _, _, p, _ => p.elim
  | _ :: _, .dat _ :: _, [], _, _, _, p, _ => p.elim
  | _ :: _, .own _ :: _, [], _, _, _, p, _ => p.elim
def mPars (is : List Nat) (fs : List PX) : MS := fun Γ => match evP fs Γ with
  | some (os, Γ1) => (match storeP is os Γ1 with
    | some Γ2 => some (.nx Γ2)
    | none => none)
  | none => none
theorem Pre.length {Γ : Ev} : ∀ {os : List Rt} {vs : List V} {B : Bg}, Pre K T σ Γ G H B os vs → vs.length = os.length
  | [], [], _, _ => rfl
  | .dat _ :: os, v :: vs, _, p => by simp [Pre.length p.2]
  | .own _ :: os, v :: vs, _, p => by
    obtain ⟨_, _, _, _, _, _, q⟩ := p
    simp [Pre.length q]
  | [], _ :: _, _, p => p.elim
  | .dat _ :: _, [], _, p => p.elim
  | .own _ :: _, [], _, p => p.elim
theorem rdS_pars {is : List Nat} {fs : List PX} (h : rdS K T W (mPars is fs) De σ H) : rdPs K T W fs σ H fun vs H1 => De.nx (setsV is vs σ) H1 := by
  obtain ⟨B, Γ, G, o, hf, s, k⟩ := h
  unfold mPars at hf
  split at hf
  · rename_i os Γ1 q
    refine evP_ok q s fun vs G' H' g pre => ?_
    split at hf
    · rename_i Γ2 q2
      cases hf
      exact k _ G' H' (storeP_ok pre q2) g
    · cases hf
  · cases hf
theorem rdPs_imp {fs : List PX} {H : Hp} {Q Q' : List V → Hp → Prop} (h : rdPs K T W fs σ H Q) (i : ∀ vs H', Q vs H' → Q' vs H') : rdPs K T W fs σ H Q' := by
  induction fs generalizing H Q Q' with
  | nil => exact i _ _ h
  | cons f r ih =>
    cases f with
    | d f =>
      obtain ⟨B, Γ, G, o, hf, s, k⟩ := h
      refine ⟨B, Γ, G, o, hf, s, ?_⟩
      cases o with
      | exc c d Γ' => exact k
      | ok d Γ' => exact fun v G' H' s' g r' => ih (k v G' H' s' g r') fun vs H' q => i _ _ q
    | l f =>
      obtain ⟨B, Γ, G, o, hf, s, k⟩ := h
      refine ⟨B, Γ, G, o, hf, s, ?_⟩
      cases o with
      | exc c d Γ' => exact k
      | ok d Γ' => exact fun p xs G' H' s' g a b c d e => ih (k p xs G' H' s' g a b c d e) fun vs H' q => i _ _ q
theorem rdPs_len : ∀ {fs : List PX} {H : Hp} {Q : List V → Hp → Prop}, rdPs K T W fs σ H Q → rdPs K T W fs σ H fun vs H1 => vs.length = fs.length ∧ Q vs H1
  | [], H, Q, h => ⟨rfl, h⟩
  | .d f :: r, H, Q, h => by
    obtain ⟨B, Γ, G, o, hf, s, k⟩ := h
    refine ⟨B, Γ, G, o, hf, s, ?_⟩
    cases o with
    | exc c d Γ' => exact k
    | ok d Γ' => exact fun v G' H' s' g r' => rdPs_imp (rdPs_len (k v G' H' s' g r')) fun vs H2 ⟨l, q⟩ => ⟨by simp [l], q⟩
  | .l f :: r, H, Q, h => by
    obtain ⟨B, Γ, G, o, hf, s, k⟩ := h
    refine ⟨B, Γ, G, o, hf, s, ?_⟩
    cases o with
    | exc c d Γ' => exact k
    | ok d Γ' => exact fun p xs G' H' s' g a b c d e => rdPs_imp (rdPs_len (k p xs G' H' s' g a b c d e)) fun vs H2 ⟨l, q⟩ => ⟨by simp [l], q⟩
end
end Ky
/-! Ky15: rules for those; enumerate over a tuple. -/
namespace Ky
open PySem PySem.Spec PyProof.Rows L2

section
variable {X : Cx} {T : Tbl} {W : WX} {a b c e e2 tg : Expr} {pos p p2 px py pz pt pt2 ap cp : Pos} {kt k2 i j l : Nat} {x y z : Str}
theorem jx_d {f : ME} (h : PE X a (rd X.K T W f)) : PE X a (rdPX X.K T W (.d f)) := h
theorem jx_l {f : ML} (h : PE X a (rdL X.K T W f)) : PE X a (rdPX X.K T W (.l f)) := h
theorem js_par {f g : PX} (hc : X.calm = true) (hN : X.N.Nodup) (hi : X.N[i]? = some x) (hj : X.N[j]? = some y) (hij : i ≠ j) (hx : X.env.scope.names.lookup x = some .local) (hy : X.env.scope.names.lookup y = some .local)
    (h1 : PE X a (rdPX X.K T W f)) (h2 : PE X b (rdPX X.K T W g)) (hw : swappedStores [.Tuple [.Name x px, .Name y py] kt pt] (.Tuple [a, b] k2 pt2) X.env = pure (some [x, y]))
    (hs : swapsWithSole [.Tuple [.Name x px, .Name y py] kt pt] (.Tuple [a, b] k2 pt2) pos.line X.env = pure false := by rfl)
    (s1 : starEach [a, b] X.env = (false, eval a X.env) :: starEach [b] X.env := by rfl) (s2 : starEach [b] X.env = (false, eval b X.env) :: starEach [] X.env := by rfl) :
    PS X (.Assign [.Tuple [.Name x px, .Name y py] kt pt] (.Tuple [a, b] k2 pt2) pos) (rdS X.K T W (mPars [i, j] [f, g])) :=
  PS.imp (ps_par hc hN hi hj hij hx hy (pa_cons h1 (pa_cons h2 pa_nil s2) s1) hw hs) fun D σ H q => rdPs_imp (rdPs_len (rdS_pars q)) fun vs H' ⟨hl, r⟩ => by
    match vs, hl, r with
    | [v, w], _, r =>
      refine ⟨v, w, rfl, ?_⟩
      rw [List.set_comm _ _ hij]
      exact r
theorem js_par3 {f g h : PX} (hc : X.calm = true) (hN : X.N.Nodup) (hi : X.N[i]? = some x) (hj : X.N[j]? = some y) (hl : X.N[l]? = some z) (hij : i ≠ j) (hil : i ≠ l) (hjl : j ≠ l)
    (hx : X.env.scope.names.lookup x = some .local) (hy : X.env.scope.names.lookup y = some .local) (hz : X.env.scope.names.lookup z = some .local)
    (h1 : PE X a (rdPX X.K T W f)) (h2 : PE X b (rdPX X.K T W g)) (h3 : PE X c (rdPX X.K T W h)) (hw : swappedStores [.Tuple [.Name x px, .Name y py, .Name z pz] kt pt] (.Tuple [a, b, c] k2 pt2) X.env = pure (some [x, y, z]))
    (hs : swapsWithSole [.Tuple [.Name x px, .Name y py, .Name z pz] kt pt] (.Tuple [a, b, c] k2 pt2) pos.line X.env = pure false := by rfl)
    (s1 : starEach [a, b, c] X.env = (false, eval a X.env) :: starEach [b, c] X.env := by rfl) (s2 : starEach [b, c] X.env = (false, eval b X.env) :: starEach [c] X.env := by rfl) (s3 : starEach [c] X.env = (false, eval c X.env) :: starEach [] X.env := by rfl) :
    PS X (.Assign [.Tuple [.Name x px, .Name y py, .Name z pz] kt pt] (.Tuple [a, b, c] k2 pt2) pos) (rdS X.K T W (mPars [i, j, l] [f, g, h])) :=
  PS.imp (ps_par3 hc hN hi hj hl hij hil hjl hx hy hz (pa_cons h1 (pa_cons h2 (pa_cons h3 pa_nil s3) s2) s1) hw hs) fun D σ H q => rdPs_imp (rdPs_len (rdS_pars q)) fun vs H' ⟨hl, r⟩ => by
    match vs, hl, r with
    | [u, v, w], _, r =>
      refine ⟨u, v, w, rfl, ?_⟩
      rw [List.set_comm _ _ hij, List.set_comm _ _ hil, List.set_comm _ _ hjl]
      exact r
/-! ### slices -/
def mPt : Option ME → Ev → Option (Option Int × Ev)
  | none, Γ => some (none, Γ)
  | some f, Γ => (match f Γ with
    | some (.ok (.int i) Γ') => some (some i, Γ')
    | _ => none)
def rdPt (K : PySem.W.Frag) (T : Tbl) (W : WX) : Option ME → TO
  | none => tNoPart
  | some f => tPart (rd K T W f)
theorem rdPt_ok {K : PySem.W.Frag} {B : Bg} {Γ Γ' : Ev} {σ : L2.St} {G H : Hp} {o : Option Int} {Q : Option Int → Hp → Prop} : ∀ (f : Option ME), mPt f Γ = some (o, Γ') → Sat K T B Γ σ G H → (∀ G' H', Sat K T B Γ' σ G' H' → Same G G' → Q o H') → rdPt K T W f σ H Q
  | none, e, s, k => by
    cases e
    exact k G H s (Same.refl G)
  | some f, e, s, k => by
    have e : (match f Γ with
      | some (.ok (.int i) Γ') => some (some i, Γ')
      | _ => none) = some (o, Γ') := e
    split at e
    · rename_i i Γ1 q
      cases e
      refine ⟨B, Γ, G, _, q, s, fun v G' H' s' g r => ?_⟩
      cases r
      exact ⟨i, rfl, k G' H' s' g⟩
    · cases e
theorem jo_none : PO X none (rdPt X.K T W none) := po_none
theorem jo_some {f : ME} (h : PE X e (rd X.K T W f)) : PO X (some e) (rdPt X.K T W (some f)) := po_some h
def cutD (ds : List D) (lo hi : Option Int) : List D := (ds.drop (HT.sIx ds.length 0 lo)).take (HT.sIx ds.length ds.length hi - HT.sIx ds.length 0 lo)
theorem RpA.cut {K : PySem.W.Frag} {G : Hp} {vs : List V} {ds : List D} (r : RpA K T G vs ds) (lo hi : Option Int) : RpA K T G (cutV vs lo hi) (cutD ds lo hi) := by
  unfold cutV cutD
  rw [r.length]
  exact (r.drop _).take _
/-- a part of a list, new -/
def mSlL (g : MG) (lo hi : Option ME) : ML := fun Γ => match g Γ with
  | some (.ok a Γ1) => (match mPt lo Γ1 with
    | some (l, Γ2) => (match mPt hi Γ2 with
      | some (h, Γ3) => (match worth Γ3 a with
        | some (.lst ds) => some (.ok (cutD ds l h) Γ3)
        | _ => none)
      | none => none)
    | none => none)
  | some (.exc c d Γ') => some (.exc c d Γ')
  | none => none
/-- a part of a text -/
def mSlS (g : MG) (lo hi : Option ME) : ME := fun Γ => match g Γ with
  | some (.ok a Γ1) => (match mPt lo Γ1 with
    | some (l, Γ2) => (match mPt hi Γ2 with
      | some (h, Γ3) => (match worth Γ3 a with
        | some (.str z) => if z.length ≤ 100000 then some (.ok (.str (cutS z l h)) Γ3) else none
        | _ => none)
      | none => none)
    | none => none)
  | some (.exc c d Γ') => some (.exc c d Γ')
  | none => none
theorem jl_sl {g : MG} {lo hi : Option ME} {lo' hi' : Option Expr} (h : PE X e (rdG X.K T W g)) (hl : PO X lo' (rdPt X.K T W lo)) (hh : PO X hi' (rdPt X.K T W hi)) : PE X (.Subscript e (.Slice lo' hi' none p2) pos) (rdL X.K T W (mSlL g lo hi)) :=
  PE.imp (pe_slice sl_list h hl hh) fun σ H Q ⟨B, Γ, G, o, hf, s, k⟩ => by
    unfold mSlL at hf
    split at hf
    · rename_i a Γ1 q
      refine ⟨B, Γ, G, _, q, s, fun v G1 H1 s1 g1 r1 => ?_⟩
      split at hf
      · rename_i lw Γ2 q2
        refine rdPt_ok lo q2 s1 fun G2 H2 s2 g2 => ?_
        split at hf
        · rename_i hw Γ3 q3
          refine rdPt_ok hi q3 s2 fun G3 H3 s3 g3 => ?_
          split at hf
          · rename_i ds w
            cases hf
            obtain ⟨p, xs, rfl, hq, ra⟩ := (s3.worth ((r1.to g2).to g3) w).lst s3.gh
            refine ⟨p, xs, rfl, hq, fun n hn => ?_⟩
            exact k n _ G3 _ (s3.newH hn) ((g1.trans g2).trans g3) (s3.gnone hn) upd_same (ra.cut lw hw) (s3.hnone hn) fun j io es hj z => by
              obtain ⟨u, ys, h1, h2, h3, h4⟩ := s3.ow j io es hj
              rw [z] at h1
              cases h1
              rw [hn] at h3
              cases h3
          · cases hf
        · cases hf
      · cases hf
    · rename_i c d Γ' q
      cases hf
      exact ⟨B, Γ, G, _, q, s, k⟩
    · cases hf
theorem je_slS {g : MG} {lo hi : Option ME} {lo' hi' : Option Expr} (h : PE X e (rdG X.K T W g)) (hl : PO X lo' (rdPt X.K T W lo)) (hh : PO X hi' (rdPt X.K T W hi)) : PE X (.Subscript e (.Slice lo' hi' none p2) pos) (rd X.K T W (mSlS g lo hi)) :=
  PE.imp (pe_slice sl_str h hl hh) fun σ H Q ⟨B, Γ, G, o, hf, s, k⟩ => by
    unfold mSlS at hf
    split at hf
    · rename_i a Γ1 q
      refine ⟨B, Γ, G, _, q, s, fun v G1 H1 s1 g1 r1 => ?_⟩
      split at hf
      · rename_i lw Γ2 q2
        refine rdPt_ok lo q2 s1 fun G2 H2 s2 g2 => ?_
        split at hf
        · rename_i hw Γ3 q3
          refine rdPt_ok hi q3 s2 fun G3 H3 s3 g3 => ?_
          split at hf
          · rename_i zz w
            split at hf
            · rename_i hz
              cases hf
              have e := (s3.worth ((r1.to g2).to g3) w).str
              exact ⟨zz, e, Nat.le_trans hz (show (100000 : Nat) ≤ sizeLine by decide), k _ G3 H3 s3 ((g1.trans g2).trans g3) (.str _)⟩
            · cases hf
          · cases hf
        · cases hf
      · cases hf
    · rename_i c d Γ' q
      cases hf
      exact ⟨B, Γ, G, _, q, s, k⟩
    · cases hf
/-! ### t.index(z), i.bit_length() -/
def findS (z : Str) : Nat → List Str → Option Nat
  | _, [] => none
  | n, y :: ys => if y = z then some n else findS z (n + 1) ys
theorem findS_ok {z : Str} : ∀ {ys : List Str} {n j : Nat}, findS z n ys = some j → n ≤ j ∧ ys[j - n]? = some z ∧ ∀ m, m < j - n → ys[m]? ≠ some z
  | [], n, j, h => nomatch h
  | y :: ys, n, j, h => by
    unfold findS at h
    split at h
    · rename_i e
      cases h
      subst e
      simp
    · rename_i ne
      obtain ⟨h1, h2, h3⟩ := findS_ok h
      have e : j - n = (j - (n + 1)) + 1 := by omega
      refine ⟨by omega, by rw [e]; simpa using h2, fun m hm => ?_⟩
      cases m with
      | zero => simpa using ne
      | succ m => simpa using h3 m (by omega)
/-- .. of a tuple of texts that the module made -/
def mIndexC (ys : List Str) (g : ME) : ME := fun Γ => match g Γ with
  | some (.ok d2 Γ2) => (match d2 with
    | .str z => (match findS z 0 ys with
      | some j => some (.ok (.int (j : Nat)) Γ2)
      | none => none)
    | _ => none)
  | some (.exc c d Γ') => some (.exc c d Γ')
  | none => none
theorem je_index {ys : List Str} {g : ME} {p : Addr} (hx : PE X e (tC (.ref p))) (hk : ∃ o, X.K.lookup p = some o ∧ o.cls = .type "tuple" ∧ o.dict = none) (hq : ∀ H, SqT X.K H p (ys.map V.str)) (he : PE X e2 (rd X.K T W g)) (hbase : attributeBase e "index" X.env (eval e X.env) = eval e X.env := by rfl)
    (hfew : ((backTo cp (starEach [e2] X.env)).all (fun x => !x.1) && (backToKw cp (keywordEach [] X.env)).all (fun x => x.1.isSome)
      && decide ([e2].length + ([] : List Keyword).length + (if ([] : List Keyword).isEmpty then 0 else 1) < 30)) = true := by rfl)
    (hline : (ap.endLine == cp.line) = true := by rfl) (hst : starEach [e2] X.env = (false, eval e2 X.env) :: starEach [] X.env := by rfl) :
    PE X (.Call (.Attribute e "index" ap) [e2] [] cp) (rd X.K T W (mIndexC ys g)) :=
  PE.imp (pe_bm PySem.F.plainAttrs_tuple PySem.F.slot_tuple_index PySem.F.type_tuple_index mt_tup_index hx (pa_cons he pa_nil hst) hbase hfew hline hst) fun σ H Q ⟨B, Γ, G, o, hf, s, k⟩ => by
    refine ⟨.inr (.inl ⟨rfl, hk⟩), ?_⟩
    unfold mIndexC at hf
    split at hf
    · rename_i d2 Γ2 q2
      refine ⟨B, Γ, G, _, q2, s, fun v2 G2 H2 s2 g2 r2 => ?_⟩
      split at hf
      · rename_i z
        split at hf
        · rename_i j w2
          cases hf
          cases r2
          obtain ⟨_, h2, h3⟩ := findS_ok w2
          exact ⟨p, ys, z, j, rfl, rfl, hq H2, by simpa using h2, fun m hm => h3 m (by simpa using hm), k _ G2 H2 s2 g2 (.int _)⟩
        · cases hf
      · cases hf
    · rename_i c d Γ' q2
      cases hf
      exact ⟨B, Γ, G, _, q2, s, k⟩
    · cases hf
def mBits (f : ME) : ME := fun Γ => match f Γ with
  | some (.ok (.int i) Γ') => some (.ok (.int (Builtin.Int.intBits i : Nat)) Γ')
  | some (.exc c d Γ') => some (.exc c d Γ')
  | _ => none
theorem je_bits {f : ME} (ho : PE X e (rd X.K T W f)) (hbase : attributeBase e "bit_length" X.env (eval e X.env) = eval e X.env := by rfl) (hline : (ap.endLine == pos.line) = true := by rfl) : PE X (.Call (.Attribute e "bit_length" ap) [] [] pos) (rd X.K T W (mBits f)) :=
  PE.imp (pe_bits ho hbase hline) fun σ H Q ⟨B, Γ, G, o, hf, s, k⟩ => by
    unfold mBits at hf
    split at hf
    · rename_i i Γ' q
      cases hf
      refine ⟨B, Γ, G, _, q, s, fun v G' H' s' g r => ?_⟩
      cases r
      exact ⟨i, rfl, k _ G' H' s' g (.int _)⟩
    · rename_i c d Γ' q
      cases hf
      exact ⟨B, Γ, G, _, q, s, k⟩
    · cases hf
/-! ### enumerate over a tuple -/
def Ittt (K : PySem.W.Frag) (a : Addr) : It :=
  ⟨fun i H => ∃ (xs : List V) (x : V), SqT K H a xs ∧ xs[i]? = some x, fun i H v H' => ∃ N x, v = .ref N ∧ H N = none ∧ H' = upd H N (.tup [.int (i : Nat), x]) ∧ ∀ xs, SqT K H a xs → xs[i]? = some x, fun i H => ∃ xs : List V, SqT K H a xs ∧ xs.length ≤ i⟩
theorem enum_tuple {prog : Program} {w : World} {A : Around} {E : Value → Shared → Prop} {s : Shared} {t : Addr} {items : Array Value} {Q : Value → Shared → Prop} (hl : s.heap.IsTuple t items)
    (h : ∀ h', IsEnum h' (s.heap.objs.size + 1) s.heap.objs.size 0 .none → h'.IsTupleIter s.heap.objs.size t 0 → (∀ b o, s.heap.get? b = some o → h'.get? b = some o) → Q (.ref (s.heap.objs.size + 1)) { s with heap := h' }) :
    wpAny (model prog w) A (call (.type "enumerate") [.ref t]) Q E s := by
  have M : Meets (Builtin.«enumerate.__new__» ⟨[.type "enumerate", .ref t], []⟩) (fun _ R s => s.heap.IsTuple t items ∧
      R (.ok (.ret (.ref (s.heap.push { cls := .type "tuple_iterator", data := .fields #[.ref t, .int 0 0] }).objs.size)))
        { s with heap := (s.heap.push { cls := .type "tuple_iterator", data := .fields #[.ref t, .int 0 0] }).push { cls := .type "enumerate", data := .fields #[.none, .bool false, .ref s.heap.objs.size, rawInt 0, .none, .none] } }) :=
    .of_wp fun prog w A R s h => by
      obtain ⟨hp, g, d, tk, os⟩ := s
      obtain ⟨h1, h⟩ := h
      have sub := sub_enumerate
      have B := begins_tuple t items
      have q1 : ∀ {A' : Around} {E : Value → Shared → Prop} {Q : Value → Shared → Prop}, Q (.ref hp.objs.size) ⟨hp.push { cls := .type "tuple_iterator", data := .fields #[.ref t, .int 0 0] }, g, d, tk, os⟩ → wpAny (model prog w) A' (pyIter (.ref t)) Q E ⟨hp, g, d, tk, os⟩ :=
        fun q => B.iter prog w _ _ ⟨hp, g, d, tk, os⟩ _ h1 q
      obtain ⟨o, ho, hc, n, hd⟩ := id h1
      have lp := ho
      wp_walk using AutoSeq1.wpAny_loadPart' lp, q1
      refine wpAny_stack_any fun st => wpAny_pure ?_
      split
      · rename_i c _ _ _ _ _
        cases (c == Value.type "enumerate")
        · wp_walk using AutoSeq1.wpAny_loadPart' lp, q1
          exact ⟨_, rfl, h⟩
        · wp_walk using AutoSeq1.wpAny_loadPart' lp, q1
          exact ⟨_, rfl, h⟩
      · wp_walk using AutoSeq1.wpAny_loadPart' lp, q1
        exact ⟨_, rfl, h⟩
  refine callType_new F.called_enumerate (by decide) (F.typeCall_enumerate_1 _) (F.newCall_enumerate_1 _) (fun obj => F.args_object_init_2 obj _) F.entry_enumerate_new M ⟨hl, ?_⟩
  have hz : (s.heap.push { cls := .type "tuple_iterator", data := .fields #[.ref t, .int 0 0] }).objs.size = s.heap.objs.size + 1 := Heap.size_push ..
  show _ ∧ _
  rw [hz]
  have he : IsEnum ((s.heap.push { cls := .type "tuple_iterator", data := .fields #[.ref t, .int 0 0] }).push { cls := .type "enumerate", data := .fields #[.none, .bool false, .ref s.heap.objs.size, rawInt 0, .none, .none] }) (s.heap.objs.size + 1) s.heap.objs.size 0 .none := by
    have e := Heap.get?_push_size (s.heap.push { cls := .type "tuple_iterator", data := .fields #[.ref t, .int 0 0] }) (o := { cls := .type "enumerate", data := .fields #[.none, .bool false, .ref s.heap.objs.size, rawInt 0, .none, .none] }) rfl
    rw [hz] at e
    exact e
  exact ⟨⟨_, he, rfl⟩, h _ he ⟨_, Heap.get?_push_of_some _ (Heap.get?_push_size _ rfl), rfl, rfl⟩ fun b o x => Heap.get?_push_of_some _ (Heap.get?_push_of_some _ x)⟩
end
end Ky
/-! Ky16: enumerate as a source; lists put together. -/
namespace Ky
open PySem PySem.Spec PyProof.Rows L2

theorem draws_end {prog : Program} {w : World} {A : Around} (hh : A.handled = none) (it t : Addr) (i : Nat) (items : Array Value) (hx : items[i]? = none) :
    Draws prog w A it [it, t] i (fun _ _ => True) (fun j h => j = i ∧ h.IsTupleIter it t i ∧ h.IsTuple t items) where
  live := fun _ _ st => let ⟨o, ho, _⟩ := st.2.1; ⟨o, ho⟩
  frame := fun _ _ _ st hk => ⟨st.1, st.2.1.at fun o e => hk it (by simp) o e, st.2.2.at fun o e => hk t (by simp) o e⟩
  item := fun j s Q E hj st _ => absurd hj (by rw [st.1]; exact Nat.lt_irrefl _)
  done := fun s Q E st hE => wpAny_nextOf_tuple_end hh st.2.1 st.2.2 hx hE
theorem turn_enumT {P : Program} {w : World} {K : PySem.W.Frag} {elts : List Expr} {kk : Nat} {tpos : Pos} (a e it : Addr) :
    Turn P w K (.Tuple elts kk tpos) (Ittt K a) [e, it] e (fun i h => (∃ old, IsEnum h e it ((i : Nat) : Int) old) ∧ h.IsTupleIter it a i ∧ e ≠ it) where
  mem := by simp
  obj := fun i h st b hb => by
    obtain ⟨⟨old, he⟩, ⟨o, ho, _, hd⟩, _⟩ := st
    rcases List.mem_cons.mp hb with z | z
    · rw [z]
      exact ⟨_, he, fun v q => nomatch q⟩
    · rw [List.mem_singleton.mp z]
      exact ⟨o, ho, fun v q => by rw [hd] at q; cases q⟩
  keep := fun i h h' st k => ⟨st.1.imp fun old he => k e (by simp) _ he, st.2.1.at fun o q => k it (by simp) o q, st.2.2⟩
  item := by
    intro X hP hw hK hc i pins s σ H E I hf st hg
    subst hP hw hK
    obtain ⟨⟨old, he⟩, hit, hne⟩ := st
    obtain ⟨xs, x, hq, hx⟩ := hg
    obtain ⟨its, rv, p, hz⟩ := I.tuple hq
    obtain ⟨u, hu, ru⟩ := rv.get hx
    have pT : s.heap.IsTuple a its.toArray := p
    have hel : e < s.heap.objs.size := Heap.lt_size he
    have hil : it < s.heap.objs.size := by
      obtain ⟨_, q, _⟩ := hit
      exact Heap.lt_size q
    have hea : e ≠ a := fun z => by
      obtain ⟨o, ho, hc2, _⟩ := pT
      rw [← z, he] at ho
      cases ho
      exact absurd (Value.type.inj hc2) (by decide)
    have calm2 : X.A.in1.handled = none := by simp [I.ok.hd hc]
    have hlt : i < its.toArray.size := by
      have q := (List.getElem?_eq_some_iff.mp hu).1
      simpa using q
    refine wpAny_pyNext_enum_itemD (Draws.tuple calm2 it a (fun z => ?_) its.toArray) he ⟨hit, pT⟩ hlt hne (by simp [hne, hea]) fun y h' tk hP ho hst' hT hsz hk => ?_
    · obtain ⟨o, ho, hc2, _⟩ := pT
      obtain ⟨o2, ho2, hc3, _⟩ := hit
      rw [z, ho2] at ho
      cases ho
      rw [hc2] at hc3
      exact absurd (Value.type.inj hc3) (by decide)
    have hy : y = u := by
      have q : its.toArray[i]? = some u := by simpa using hu
      rw [q] at hP
      exact (Option.some.inj hP).symm
    subst hy
    refine ⟨_, rfl, wpAny_letOwnedTupleGo_enum (s := { s with heap := h', toks := tk + 1 }) ho fun h2 he2 sb => ?_⟩
    have hT2 : h2.get? s.heap.objs.size = some { cls := .type "tuple", data := .seq #[.int i tk, y] } := (sb.2 _ (Nat.ne_of_gt hel)).trans hT
    have new : ObjOk X.prog X.w (upd H s.heap.objs.size (.tup [.int (i : Nat), x])) h2 s.heap.objs.size (.tup [.int (i : Nat), x]) :=
      ⟨by show 2 ≤ sizeLine; decide, [.int i tk, y], .cons ⟨_, rfl⟩ (.cons ru .nil), ⟨_, hT2, rfl, _, rfl⟩⟩
    have I1 : Inv X pins σ (upd H s.heap.objs.size (.tup [.int (i : Nat), x])) { s with heap := h2, toks := tk + 1 } :=
      I.turnedNew (ch := [e, it]) (fun b ob hb q => (sb.2 b (fun z => hb (by simp [z]))).trans (hk b ob (fun z => hb (by simp [z])) (fun z => hb (by simp [z])) q)) hf (Nat.le_refl _) new
    refine ⟨.ref s.heap.objs.size, _, I1, rfl, ⟨_, x, rfl, I.hok.fresh (Nat.le_refl _), rfl, fun ys hy => by rw [I.tuple_inj hy hq]; exact hx⟩, ⟨⟨y, ?_⟩, hst'.1.at fun o q => (sb.2 it (Ne.symm hne)).trans q, hne⟩, fun b hb => ?_⟩
    · have e1 : ((i + 1 : Nat) : Int) = (i : Int) + 1 := by omega
      rw [e1]
      exact he2
    · have hb' : b < s.heap.objs.size := by
        rcases List.mem_cons.mp hb with z | z
        · rw [z]; exact hel
        · rw [List.mem_singleton.mp z]; exact hil
      rw [upd_ne (Nat.ne_of_lt hb')]
      exact (hf b hb).1
  done := by
    intro X hP hw hK hc i pins s σ H E I hf st hg
    subst hP hw hK
    obtain ⟨⟨old, he⟩, hit, hne⟩ := st
    obtain ⟨xs, hq, hx⟩ := hg
    obtain ⟨its, rv, p, hz⟩ := I.tuple hq
    have pT : s.heap.IsTuple a its.toArray := p
    obtain ⟨f0, f1, f2, f3, f4, f5⟩ := hf it (by simp)
    have hl := rv.length
    have calm2 : X.A.in1.handled = none := by simp [I.ok.hd hc]
    exact wpAny_pyNext_enum_endD (draws_end calm2 it a i its.toArray (by simp; omega)) he ⟨rfl, hit, pT⟩ fun h' eb => ⟨rfl, I.turned (t' := s.toks) (fun b o hb q => eb b o hb q) f0 f1 f3 f4 f5⟩
  self := fun A i s Q E st h => let ⟨⟨_, he⟩, _⟩ := st; wpAny_pyIter_enum he h
/-- over a list or a tuple, whichever comes -/
def iEnumA (K : PySem.W.Frag) (ta : TA) : TI := fun σ H R => ta σ H fun vs H1 => ∃ a, vs = [.ref a] ∧ ((∃ xs, SqL K H1 a xs ∧ R (Ite K a) H1) ∨ ∃ xs, SqT K H1 a xs ∧ R (Ittt K a) H1)
theorem pi_enumA {X : Cx} {e : Expr} {ta : TA} {p pos tpos : Pos} {elts : List Expr} {kk : Nat} (hg : Gl X "enumerate") (hm : X.mg "enumerate" = none) (ha : PA X [e] ta) (hs : starEach [e] X.env = [(false, eval e X.env)] := by rfl) :
    PI X (.Tuple elts kk tpos) (.Call (.Name "enumerate" p) [e] [] pos) (iEnumA X.K ta) := by
  refine ⟨fun pins s σ H R I h => ?_⟩
  refine Call_ (ld_blt I hg hm boot_enumerate (callWith_type1 (thn (ha.run pos pins s σ H _ I h) fun us s1 ⟨vs, H1, I1, r1, q1⟩ => ?_) hs rfl))
  obtain ⟨a, ex, q⟩ := q1
  subst ex
  obtain ⟨u, rfl, ru⟩ := vals1 r1
  obtain rfl : u = Value.ref a := ru
  have apart : ∀ b ∈ [s1.heap.objs.size + 1, s1.heap.objs.size], s1.heap.objs.size ≤ b := fun b hb => by
    rcases List.mem_cons.mp hb with z | z
    · rw [z]; exact Nat.le_succ _
    · rw [List.mem_singleton.mp z]; exact Nat.le_refl _
  rcases q with ⟨xs, hq, q⟩ | ⟨xs, hq, q⟩
  · obtain ⟨its, rv, pl, hz⟩ := I1.list hq
    refine call_enumerate_list pl.isList fun h' he hit hsz hk => wpAny_pyIter_enum he ?_
    have I2 : Inv X pins σ H1 { s1 with heap := h' } := I1.kept (t' := s1.toks) hk
    exact ⟨s1.heap.objs.size + 1, [s1.heap.objs.size + 1, s1.heap.objs.size], _, _, H1, rfl, I2, turn_enum a (s1.heap.objs.size + 1) s1.heap.objs.size, ⟨⟨.none, he⟩, hit, Nat.succ_ne_self _⟩, fun b hb => I1.fpOk (apart b hb) (I1.hok.fresh (apart b hb)), q⟩
  · obtain ⟨its, rv, pl, hz⟩ := I1.tuple hq
    refine enum_tuple (items := its.toArray) pl fun h' he hit hk => wpAny_pyIter_enum he ?_
    have I2 : Inv X pins σ H1 { s1 with heap := h' } := I1.kept (t' := s1.toks) hk
    exact ⟨s1.heap.objs.size + 1, [s1.heap.objs.size + 1, s1.heap.objs.size], _, _, H1, rfl, I2, turn_enumT a (s1.heap.objs.size + 1) s1.heap.objs.size, ⟨⟨.none, he⟩, hit, Nat.succ_ne_self _⟩, fun b hb => I1.fpOk (apart b hb) (I1.hok.fresh (apart b hb)), q⟩
section
variable {K : PySem.W.Frag} {T : Tbl} {W : WX} {G : Hp} {σ : L2.St} {H : Hp}
theorem walks_enumT {a : Addr} {xs : List V} {ds : List D} (hq : SqT K G a xs) (r : RpA K T G xs ds) : WalksD K T (Ittt K a) (numD 0 ds) G := by
  intro Hc e
  refine ⟨fun i hi => ?_, fun i hi => ⟨xs, Sub.sqt e hq, by rw [r.length]; rw [numD_length] at hi; exact hi⟩, fun i x H' y hi => ?_⟩
  · rw [numD_length] at hi
    obtain ⟨v, hv, _⟩ := r.get (List.getElem?_eq_getElem hi)
    exact ⟨xs, v, Sub.sqt e hq, hv⟩
  · obtain ⟨p, v, rfl, hp, rfl, y⟩ := y
    obtain ⟨d, h1, h2⟩ := r.getV (y xs (Sub.sqt e hq))
    refine ⟨_, numD_get ds 0 i d h1, fun Gc g1 g2 => ⟨upd Gc p (.tup [.int (i : Nat), v]), .inr ⟨p, _, hp, (by intro _ _ z; cases z), rfl, rfl⟩, ?_⟩⟩
    have sg : Same Gc (upd Gc p (.tup [.int (i : Nat), v])) := Same.new (g2.free hp)
    rw [Nat.zero_add]
    exact .tup (.of upd_same) (.cons (.int _) (.one ((h2.to g1).to sg)))
def miEnumA (f : ME) : MI := fun Γ => match f Γ with
  | some (.ok d Γ') => (match seqD d with
    | some ds => some (.ok (numD 0 ds) Γ')
    | none => none)
  | some (.exc c d Γ') => some (.exc c d Γ')
  | none => none
theorem rdI_enumA {f : ME} {R : It → Hp → Prop} (h : rdI K T W (miEnumA f) σ H R) : iEnumA K (tCons (rd K T W f) tNil) σ H R := by
  obtain ⟨B, Γ, G, o, hf, s, k⟩ := h
  unfold miEnumA at hf
  split at hf
  · rename_i d Γ' q
    refine ⟨B, Γ, G, _, q, s, fun v G' H' s' g r => ?_⟩
    split at hf
    · rename_i ds w
      cases hf
      cases d with
      | lst es =>
        cases w
        cases r with
        | lst sq ra => exact ⟨_, rfl, .inl ⟨_, s'.gh.seq sq, k _ G' H' s' g (walks_enum sq ra)⟩⟩
      | tup es =>
        cases w
        cases r with
        | tup sq ra => exact ⟨_, rfl, .inr ⟨_, Sub.sqt s'.gh sq, k _ G' H' s' g (walks_enumT sq ra)⟩⟩
      | _ => cases w
    · cases hf
  · rename_i c d Γ' q
    cases hf
    exact ⟨B, Γ, G, _, q, s, k⟩
  · cases hf
end
section
variable {X : Cx} {T : Tbl} {W : WX} {e a b : Expr} {p pos tpos : Pos} {elts : List Expr} {kk : Nat}
theorem jp_enum {f : ME} (hm : X.mg "enumerate" = none) (h : PE X e (rd X.K T W f)) (hg : Gl X "enumerate" := by rfl) (hst : starEach [e] X.env = (false, eval e X.env) :: starEach [] X.env := by rfl) (hs : starEach [e] X.env = [(false, eval e X.env)] := by rfl) :
    PI X (.Tuple elts kk tpos) (.Call (.Name "enumerate" p) [e] [] pos) (rdI X.K T W (miEnumA f)) := PI.imp (pi_enumA hg hm (pa_cons h pa_nil hst) hs) fun σ H R q => rdI_enumA q
/-! ### lists put together -/
/-- [..] * n -/
def mRepL (f : ML) (g : ME) : ML := fun Γ => match f Γ with
  | some (.ok ds Γ1) => (match g Γ1 with
    | some (.ok (.int n) Γ2) => if ds.length ≤ 1000 ∧ -1000 ≤ n ∧ n ≤ 1000 then some (.ok (List.replicate n.toNat ds).flatten Γ2) else none
    | _ => none)
  | some (.exc c d Γ') => some (.exc c d Γ')
  | none => none
theorem RpA.flat {K : PySem.W.Frag} {G : Hp} {vs : List V} {ds : List D} (r : RpA K T G vs ds) : ∀ n, RpA K T G (List.replicate n vs).flatten (List.replicate n ds).flatten
  | 0 => .nil
  | n + 1 => by
    rw [List.replicate_succ, List.replicate_succ, List.flatten_cons, List.flatten_cons]
    exact r.append (RpA.flat r n)
theorem jl_rep {f : ML} {g : ME} (h1 : PE X a (rdL X.K T W f)) (h2 : PE X b (rd X.K T W g)) : PE X (.BinOp a .Mult b pos) (rdL X.K T W (mRepL f g)) :=
  PE.imp (pe_op op_rep h1 h2) fun σ H Q ⟨B, Γ, G, o, hf, s, k⟩ => by
    unfold mRepL at hf
    split at hf
    · rename_i ds Γ1 q
      refine ⟨B, Γ, G, _, q, s, fun p xs G1 H1 s1 g1 hg hp ra h0 hn => ?_⟩
      split at hf
      · rename_i n Γ2 q2
        refine ⟨B.hold p xs, Γ1, G1, _, q2, s1.hold hg hp hn, fun v G2 H2 s2 g2 r2 => ?_⟩
        cases r2
        obtain ⟨s3, hg3, hp3, hn3⟩ := s2.unhold h0 (s1.g0.free hg)
        split at hf
        · rename_i hl
          cases hf
          obtain ⟨l1, l2, l3⟩ := hl
          refine ⟨p, n, xs, rfl, rfl, hp3, by omega, by omega, ?_, fun q hq => ?_⟩
          · rw [ra.length]
            have e1 : n.toNat ≤ 1000 := by omega
            exact Nat.le_trans (Nat.mul_le_mul l1 e1) (show (1000 * 1000 : Nat) ≤ sizeLine by decide)
          · exact k q _ G2 _ (s3.newH hq) (g1.trans g2) (s3.gnone hq) upd_same ((ra.to g2).flat _) (s3.hnone hq) fun j io es hj z => by
              obtain ⟨u, ys, h1, h2, h3, h4⟩ := s3.ow j io es hj
              rw [z] at h1
              cases h1
              rw [hq] at h3
              cases h3
        · cases hf
      · cases hf
    · rename_i c d Γ' q
      cases hf
      exact ⟨B, Γ, G, _, q, s, k⟩
    · cases hf
end
end Ky
/-! Ky18: calls with keywords. -/
namespace Ky
open PySem PySem.Spec PyProof.Rows L2

/-- first these, then those -/
def mArgs2 (a b : MA) : MA := fun Γ => match a Γ with
  | some (.ok l Γ1) => (match b Γ1 with
    | some (.ok r Γ2) => some (.ok (l ++ r) Γ2)
    | some (.exc c d Γ2) => some (.exc c d Γ2)
    | none => none)
  | some (.exc c d Γ1) => some (.exc c d Γ1)
  | none => none
section
variable {K : PySem.W.Frag} {T : Tbl} {W : WX} {σ : L2.St} {H G : Hp}
theorem AgsOk.append : ∀ {l r : List Ag} {vs zs : List V}, AgsOk K T G σ vs l → AgsOk K T G σ zs r → AgsOk K T G σ (vs ++ zs) (l ++ r)
  | [], _, _, _, h, q => by cases h; exact q
  | _ :: _, _, _, _, h, q => by cases h with | cons x y => exact .cons x (AgsOk.append y q)
theorem rdA_args2 {a b : MA} {Q : List V → Hp → Prop} (h : rdA K T W (mArgs2 a b) σ H Q) : rdA K T W a σ H fun vs H1 => rdA K T W b σ H1 fun zs H2 => Q (vs ++ zs) H2 := by
  obtain ⟨B, Γ, G, o, hf, s, k⟩ := h
  unfold mArgs2 at hf
  split at hf
  · rename_i l Γ1 q
    refine ⟨B, Γ, G, _, q, s, fun vs G1 H1 s1 g1 r1 => ?_⟩
    split at hf
    · rename_i r Γ2 q2
      cases hf
      exact ⟨B, Γ1, G1, _, q2, s1, fun zs G2 H2 s2 g2 r2 => k _ G2 H2 s2 (g1.trans g2) ((r1.to g2).append r2)⟩
    · rename_i c d Γ2 q2
      cases hf
      exact ⟨B, Γ1, G1, _, q2, s1, ExcP.to k g1⟩
    · cases hf
  · rename_i c d Γ1 q
    cases hf
    exact ⟨B, Γ, G, _, q, s, k⟩
  · cases hf
theorem rdA_pick {pi : List Nat} {a : MA} {Q : List V → Hp → Prop} (h : rdA K T W (mPick pi a) σ H Q) : rdA K T W a σ H fun vs H1 => Q (pick pi vs) H1 := by
  obtain ⟨B, Γ, G, o, hf, s, k⟩ := h
  unfold mPick at hf
  split at hf
  · rename_i l Γ1 q
    cases hf
    exact ⟨B, Γ, G, _, q, s, fun vs G1 H1 s1 g1 r1 => k _ G1 H1 s1 g1 (pick_ags r1 pi)⟩
  · rename_i n
    refine ⟨B, Γ, G, _, hf, s, ?_⟩
    cases o with
    | ok l Γ' => exact absurd hf (n l Γ')
    | exc c d Γ' => exact k
end
/-- how a def's parameters are bound: n by place, ks by name; pi puts them in order -/
def KB (K : PySem.W.Frag) (fd : FuncData) (ps : List Str) (n : Nat) (ks : List Str) (pi : List Nat) : Prop := ∀ (s : Shared) (us ws : List Value), K.In s.heap → us.length = n → ws.length = ks.length → BindsTo s fd ⟨us, ks.zip ws⟩ (ps.zip (pick pi (us ++ ws)))
section
variable {X : Cx} {T : Tbl} {W : WX} {k n : Nat} {f : Addr} {fd : FuncData} {ps ks : List Str} {fn : Fn} {x : Str} {p pos kpos : Pos} {e : Expr} {es : List Expr} {kws : List Keyword} {as bs : MA} {pi : List Nat} {nm : Option Str} {sp : Sp} {t tk : TA}
theorem PK.imp {t t' : TA} (h : PK X kws t) (i : ∀ σ H Q, t' σ H Q → t σ H Q) : PK X kws t' := ⟨fun pos pins s σ H Q I q => h.run pos pins s σ H Q I (i σ H Q q)⟩
theorem jk_nil : PK X [] (rdA X.K T W mNil) := PK.imp pk_nil fun σ H Q q => rdA_nil q
theorem jk_cons {f : MG} {g : MA} (h1 : PE X e (rdG X.K T W f)) (h2 : PK X kws (rdA X.K T W g)) : PK X (⟨nm, e, kpos⟩ :: kws) (rdA X.K T W (mCons f g)) := PK.imp (pk_cons h1 h2) fun σ H Q q => rdA_cons q
theorem run_kw {CX : CXT} {E : XK} {pins : List (Addr × Obj)} {σ : L2.St} {H : Hp} {s : Shared} {Q : VK} {us ws : List Value} {vs zs : List V} (F : FnOk X.prog X.w X.K X.mg X.base CX k f fd ps sp) (hr : Room k X.A) (hb : KB X.K fd ps n ks pi) (hx : PassesAt CX X σ E)
    (I : Inv X pins σ H s) (r : Vals vs us) (rz : Vals zs ws) (hn : vs.length = n) (hk : zs.length = ks.length) (h : sp (pick pi (vs ++ zs)) H Q E) : wpAny (model X.prog X.w) X.A (call (.ref f) us (ks.zip ws)) (EP X pins σ Q) X.xe s := by
  have r2 : Vals (pick pi (vs ++ zs)) (pick pi (us ++ ws)) := pick_vals (r.append rz) pi
  refine wpAny_call (codeAny_mono (F.run X.A X.stack s H ⟨us, ks.zip ws⟩ (pick pi (us ++ ws)) (pick pi (vs ++ zs)) Q E hr I.env0 (hb s us ws I.kIn (r.length.symm.trans hn) (rz.length.symm.trans hk)) r2 h) fun r s' hq => ?_)
  match r, hq with
  | .error e, hq => exact hx pins H s e s' I hq
  | .ok (.ret u), hq => exact I.after hq
theorem pe_callKW {CX : CXT} {E : L2.St → XK} (F : FnOk X.prog X.w X.K X.mg X.base CX k f fd ps sp) (hr : Room k X.A) (hg : Gl X x) (hm : X.mg x = some (.ref f)) (hk : PySem.W.keepIn X.K (.ref f) = true) (hb : KB X.K fd ps n ks pi) (hx : ∀ σ, PassesAt CX X σ (E σ))
    (ha : PA X (e :: es) t) (hkw : PK X kws tk) (hall : (backToKw pos (keywordEach kws X.env)).all (·.1.isSome) = true := by rfl) (hks : (backToKw pos (keywordEach kws X.env)).filterMap (·.1) = ks := by rfl)
    (hdb : (x == ("__debug__" : Str)) = false := by decide) (he : starEach (e :: es) X.env = (false, eval e X.env) :: starEach es X.env := by rfl) (hpl : ((backTo pos (starEach (e :: es) X.env)).any (·.1) || (backToKw pos (keywordEach kws X.env)).any (·.1.isNone)) = false := by rfl) :
    PE X (.Call (.Name x p) (e :: es) kws pos) (fun σ H Q => t σ H fun vs H1 => tk σ H1 fun zs H2 => vs.length = n ∧ zs.length = ks.length ∧ sp (pick pi (vs ++ zs)) H2 Q (E σ)) := by
  refine ⟨fun pins s σ H Q I h => wpAny_Call_Name_kw (ld_glob I hg hm ?_ hdb)⟩
  refine PySem.W.callWith_KW (h₀ := X.base) I.ok.mod.kin hk hall (thn (ha.run pos pins s σ H _ I h) fun us s1 ⟨vs, H1, I1, r, q⟩ => ?_) hpl he
  refine thn (hkw.run pos pins s1 σ H1 _ I1 q) fun ws s2 ⟨zs, H2, I2, rz, l1, l2, q2⟩ => ⟨I2.kIn, ?_⟩
  rw [hks]
  exact run_kw F hr hb (hx σ) I2 r rz l1 l2 q2
theorem pe_callKW0 {CX : CXT} {E : L2.St → XK} (F : FnOk X.prog X.w X.K X.mg X.base CX k f fd ps sp) (hr : Room k X.A) (hg : Gl X x) (hm : X.mg x = some (.ref f)) (hk : PySem.W.keepIn X.K (.ref f) = true) (hb : KB X.K fd ps 0 ks pi) (hx : ∀ σ, PassesAt CX X σ (E σ))
    (hkw : PK X kws tk) (hall : (backToKw pos (keywordEach kws X.env)).all (·.1.isSome) = true := by rfl) (hks : (backToKw pos (keywordEach kws X.env)).filterMap (·.1) = ks := by rfl)
    (hdb : (x == ("__debug__" : Str)) = false := by decide) (hpl : ((backTo pos (starEach [] X.env)).any (·.1) || (backToKw pos (keywordEach kws X.env)).any (·.1.isNone)) = false := by rfl) :
    PE X (.Call (.Name x p) [] kws pos) (fun σ H Q => tk σ H fun zs H2 => zs.length = ks.length ∧ sp (pick pi zs) H2 Q (E σ)) := by
  refine ⟨fun pins s σ H Q I h => wpAny_Call_Name_kw (ld_glob I hg hm ?_ hdb)⟩
  refine PySem.W.callWith_KW0 (h₀ := X.base) I.ok.mod.kin hk hall ?_ hpl
  refine thn (hkw.run pos pins s σ H _ I h) fun ws s2 ⟨zs, H2, I2, rz, l2, q2⟩ => ⟨I2.kIn, ?_⟩
  rw [hks]
  exact run_kw (us := []) (vs := []) F hr hb (hx σ) I2 .nil rz rfl l2 q2
theorem rdA_len {K : PySem.W.Frag} {a : MA} {m : Nat} {σ : L2.St} {H : Hp} {Q : List V → Hp → Prop} (hn : Len a m) (h : rdA K T W a σ H Q) : rdA K T W a σ H fun vs H1 => vs.length = m ∧ Q vs H1 := by
  obtain ⟨B, Γ, G, o, hf, s, k⟩ := h
  refine ⟨B, Γ, G, o, hf, s, ?_⟩
  cases o with
  | ok l Γ' => exact fun vs G' H' s' g a => ⟨a.length.trans (hn _ _ _ hf), k vs G' H' s' g a⟩
  | exc c d Γ' => exact k
theorem rdA_imp {K : PySem.W.Frag} {a : MA} {σ : L2.St} {H : Hp} {Q Q' : List V → Hp → Prop} (h : rdA K T W a σ H Q) (i : ∀ vs H', Q vs H' → Q' vs H') : rdA K T W a σ H Q' := by
  obtain ⟨B, Γ, G, o, hf, s, k⟩ := h
  refine ⟨B, Γ, G, o, hf, s, ?_⟩
  cases o with
  | ok l Γ' => exact fun vs G' H' s' g a => i _ _ (k vs G' H' s' g a)
  | exc c d Γ' => exact k
theorem len_args2 {a b : MA} {n m : Nat} (h1 : Len a n) (h2 : Len b m) : Len (mArgs2 a b) (n + m) := fun Γ l Γ' h => by
  unfold mArgs2 at h
  split at h
  · rename_i l1 Γ1 q
    split at h
    · rename_i r Γ2 q2
      cases h
      rw [List.length_append, h1 _ _ _ q, h2 _ _ _ q2]
    · cases h
    · cases h
  · cases h
  · cases h
theorem pick_length {α : Type} : ∀ {pi : List Nat} {l : List α}, (∀ i ∈ pi, i < l.length) → (pick pi l).length = pi.length
  | [], _, _ => rfl
  | i :: pi, l, h => by
    unfold pick
    have hi := h i (.head _)
    rw [List.getElem?_eq_getElem hi]
    show (l[i]'hi :: pick pi l).length = _
    rw [List.length_cons, pick_length fun j hj => h j (.tail _ hj)]
    rfl
theorem len_pick {a : MA} {n m : Nat} (h1 : Len a n) (hp : ∀ i ∈ pi, i < n) (hl : pi.length = m) : Len (mPick pi a) m := fun Γ l Γ' h => by
  unfold mPick at h
  split at h
  · rename_i l1 Γ1 q
    cases h
    rw [pick_length (by rw [h1 _ _ _ q]; exact hp), hl]
  · rename_i ne
    exact absurd h (ne l Γ')
theorem je_callKW {m : Nat} (F : FnOk X.prog X.w X.K X.mg X.base (L2.CX X.prog X.w) k f fd ps (spF X.K T ps.length fn)) (hr : Room k X.A) (hg : Gl X x) (hm : X.mg x = some (.ref f)) (hk : PySem.W.keepIn X.K (.ref f) = true) (hb : KB X.K fd ps n ks pi) (hx : ∀ σ, PassesAt (L2.CX X.prog X.w) X σ (WE W σ))
    (ha : PA X (e :: es) (rdA X.K T W as)) (hkw : PK X kws (rdA X.K T W bs)) (hn : Len as n) (hn2 : Len bs ks.length) (hpi : (pi.all fun i => decide (i < n + ks.length)) = true) (hpl' : pi.length = ps.length)
    (hall : (backToKw pos (keywordEach kws X.env)).all (·.1.isSome) = true := by rfl) (hks : (backToKw pos (keywordEach kws X.env)).filterMap (·.1) = ks := by rfl)
    (hdb : (x == ("__debug__" : Str)) = false := by decide) (he : starEach (e :: es) X.env = (false, eval e X.env) :: starEach es X.env := by rfl) (hpl : ((backTo pos (starEach (e :: es) X.env)).any (·.1) || (backToKw pos (keywordEach kws X.env)).any (·.1.isNone)) = false := by rfl) :
    PE X (.Call (.Name x p) (e :: es) kws pos) (rd X.K T W (mCall fn (mPick pi (mArgs2 as bs)))) := PE.imp (pe_callKW F hr hg hm hk hb hx ha hkw hall hks hdb he hpl) fun σ H Q q => by
  have q1 := rdA_args2 (rdA_pick (rd_call (len_pick (len_args2 hn hn2) (fun i hi => of_decide_eq_true (List.all_eq_true.mp hpi i hi)) hpl') q))
  exact rdA_imp (rdA_len hn q1) fun vs H1 ⟨l1, q2⟩ => rdA_imp (rdA_len hn2 q2) fun zs H2 ⟨l2, q3⟩ => ⟨l1, l2, q3⟩
theorem je_callKW0 (F : FnOk X.prog X.w X.K X.mg X.base (L2.CX X.prog X.w) k f fd ps (spF X.K T ps.length fn)) (hr : Room k X.A) (hg : Gl X x) (hm : X.mg x = some (.ref f)) (hk : PySem.W.keepIn X.K (.ref f) = true) (hb : KB X.K fd ps 0 ks pi) (hx : ∀ σ, PassesAt (L2.CX X.prog X.w) X σ (WE W σ))
    (hkw : PK X kws (rdA X.K T W bs)) (hn2 : Len bs ks.length) (hpi : (pi.all fun i => decide (i < ks.length)) = true) (hpl' : pi.length = ps.length)
    (hall : (backToKw pos (keywordEach kws X.env)).all (·.1.isSome) = true := by rfl) (hks : (backToKw pos (keywordEach kws X.env)).filterMap (·.1) = ks := by rfl)
    (hdb : (x == ("__debug__" : Str)) = false := by decide) (hpl : ((backTo pos (starEach [] X.env)).any (·.1) || (backToKw pos (keywordEach kws X.env)).any (·.1.isNone)) = false := by rfl) :
    PE X (.Call (.Name x p) [] kws pos) (rd X.K T W (mCall fn (mPick pi bs))) := PE.imp (pe_callKW0 F hr hg hm hk hb hx hkw hall hks hdb hpl) fun σ H Q q => by
  have q1 := rdA_pick (rd_call (len_pick hn2 (fun i hi => of_decide_eq_true (List.all_eq_true.mp hpi i hi)) hpl') q)
  exact rdA_imp (rdA_len hn2 q1) fun zs H2 ⟨l2, q3⟩ => ⟨l2, q3⟩
end
end Ky
/-! Ky19: the rules as the printed walks use them. -/
namespace Ky
open PySem PySem.Spec PyProof.Rows L2

section
variable {X : Cx} {T : Tbl} {W : WX} {e e2 a b tg : Expr} {pos p p2 tpos : Pos} {x : Str} {i : Nat}
theorem jr1 {g : MG} (hm : X.mg "range" = none) (h : PE X e (rdG X.K T W g)) (hg : Gl X "range" := by rfl) (hst : starEach [e] X.env = (false, eval e X.env) :: starEach [] X.env := by rfl) (hs : starEach [e] X.env = [(false, eval e X.env)] := by rfl) :
    PI X tg (.Call (.Name "range" p) [e] [] pos) (rdI X.K T W (miRng1 g)) := jp_rng1 hg hm h hst fun q => pi_range1 hg hm q hs
theorem jr2 {f g : MG} (hm : X.mg "range" = none) (h : PE X e (rdG X.K T W f)) (h2 : PE X e2 (rdG X.K T W g)) (hg : Gl X "range" := by rfl) (hst : starEach [e, e2] X.env = (false, eval e X.env) :: starEach [e2] X.env := by rfl) (hst2 : starEach [e2] X.env = (false, eval e2 X.env) :: starEach [] X.env := by rfl)
    (hs : starEach [e, e2] X.env = [(false, eval e X.env), (false, eval e2 X.env)] := by rfl) (hs2 : starEach [e2] X.env = [(false, eval e2 X.env)] := by rfl) :
    PI X tg (.Call (.Name "range" p) [e, e2] [] pos) (rdI X.K T W (miRng2 f g)) := jp_rng2 hg hm h h2 hst hst2 fun q => pi_range2 hg hm q hs hs2
theorem js_ix {fk fe : ME} (hg : PG X (.Subscript (.Name x p) e2 tpos) (gSub (tVar i) (rd X.K T W fk) rSetL)) (he : PE X e (rd X.K T W fe))
    (hs : swapsWithSole [.Subscript (.Name x p) e2 tpos] e pos.line X.env = pure false := by rfl) (hw : swappedStores [.Subscript (.Name x p) e2 tpos] e X.env = pure none := by rfl)
    (h1 : (assignEach [.Subscript (.Name x p) e2 tpos] X.env).map (·.2) = [assign (.Subscript (.Name x p) e2 tpos) X.env] := by rfl) : PS X (.Assign [.Subscript (.Name x p) e2 tpos] e pos) (rdS X.K T W (mSet i fk fe)) :=
  PS.imp (ps_asg he hg hs hw h1) fun D σ H q => rdS_set q
/-- a part of a list (new, not changed any more) or of a text, whichever comes -/
def mSl (g : MG) (lo hi : Option ME) : ME := fun Γ => match g Γ with
  | some (.ok a Γ1) => (match mPt lo Γ1 with
    | some (l, Γ2) => (match mPt hi Γ2 with
      | some (h, Γ3) => (match worth Γ3 a with
        | some (.lst ds) => some (.ok (.lst (cutD ds l h)) Γ3)
        | some (.str z) => if z.length ≤ 100000 then some (.ok (.str (cutS z l h)) Γ3) else none
        | _ => none)
      | none => none)
    | none => none)
  | some (.exc c d Γ') => some (.exc c d Γ')
  | none => none
theorem je_sl {g : MG} {lo hi : Option ME} {lo' hi' : Option Expr} (h : PE X e (rdG X.K T W g)) (hl : PO X lo' (rdPt X.K T W lo)) (hh : PO X hi' (rdPt X.K T W hi)) : PE X (.Subscript e (.Slice lo' hi' none p2) pos) (rd X.K T W (mSl g lo hi)) :=
  PE.imp (pe_slice (SlR.or sl_list sl_str) h hl hh) fun σ H Q ⟨B, Γ, G, o, hf, s, k⟩ => by
    unfold mSl at hf
    split at hf
    · rename_i a Γ1 q
      refine ⟨B, Γ, G, _, q, s, fun v G1 H1 s1 g1 r1 => ?_⟩
      split at hf
      · rename_i lw Γ2 q2
        refine rdPt_ok lo q2 s1 fun G2 H2 s2 g2 => ?_
        split at hf
        · rename_i hw Γ3 q3
          refine rdPt_ok hi q3 s2 fun G3 H3 s3 g3 => ?_
          split at hf
          · rename_i ds w
            cases hf
            obtain ⟨p, xs, rfl, hq, ra⟩ := (s3.worth ((r1.to g2).to g3) w).lst s3.gh
            refine .inl ⟨p, xs, rfl, hq, fun n hn => ?_⟩
            have sg : Same G3 (upd G3 n (.lst (cutV xs lw hw))) := Same.new (s3.gnone hn)
            exact k _ _ _ (s3.new hn) (((g1.trans g2).trans g3).trans sg) (.lst (.of upd_same) ((ra.cut lw hw).to sg))
          · rename_i zz w
            split at hf
            · rename_i hz
              cases hf
              have e := (s3.worth ((r1.to g2).to g3) w).str
              exact .inr ⟨zz, e, Nat.le_trans hz (show (100000 : Nat) ≤ sizeLine by decide), k _ G3 H3 s3 ((g1.trans g2).trans g3) (.str _)⟩
            · cases hf
          · cases hf
        · cases hf
      · cases hf
    · rename_i c d Γ' q
      cases hf
      exact ⟨B, Γ, G, _, q, s, k⟩
    · cases hf
/-- a constant of the module -/
theorem je_cst {v : V} {u : Value} {d : D} (hm : X.mg x = some u) (r : RelV v u) (q : ∀ G, Rp X.K T G v d) (hg : Gl X x := by rfl) (hd : (x == ("__debug__" : Str)) = false := by decide) : PE X (.Name x pos) (rd X.K T W (mCon d)) := je_con (pe_glob hg hm r hd) q
/-- a block's scope within a block, by scopes alone -/
def relab (scope sc : Scope) : Scope := relabel scope { scope := sc, locals := 0, globals := 0, cells := [], qual := Str.empty, func := none, code := .none, frame := none, builtins := 0 }
theorem blkOk_rel {N : List Str} {sc0 scope1 scope : Scope} {own : List (Str × Nat)} {env : Env} (he : env.scope = sc0) (h : blkC N (relab scope1 sc0) scope own = true) : BlkOk N (relabel scope1 env) scope own := by
  subst he
  exact blkOk_by h
theorem blkOk_rel2 {N : List Str} {sc0 scope1 scope2 scope : Scope} {own : List (Str × Nat)} {env env2 : Env} (he2 : env2.scope = relabel scope1 env) (he : env.scope = sc0) (h : blkC N (relab scope2 (relab scope1 sc0)) scope own = true) : BlkOk N (relabel scope2 env2) scope own := by
  subst he
  have e : relab scope1 env.scope = env2.scope := he2.symm
  rw [e] at h
  exact blkOk_by h
theorem je_cstI {i : Int} (hm : ∃ t, X.mg x = some (.int i t)) (hg : Gl X x := by rfl) (hd : (x == ("__debug__" : Str)) = false := by decide) : PE X (.Name x pos) (rd X.K T W (mCon (.int i))) := by
  obtain ⟨t, hm⟩ := hm
  exact je_cst (v := .int i) hm ⟨t, rfl⟩ (fun _ => .int i) hg hd
end
end Ky
/-! Ky20: from the law's plain meaning to its promise. -/
namespace Ky
open PySem PySem.Spec PyProof.Rows L2

/-- what is asked of a law -/
def spLaw (K : PySem.W.Frag) : Sp := fun vs H Q _ => ∃ (a : Addr) (ns : List Int), vs = [.ref a] ∧ SqL K H a (ns.map V.int) ∧ ns.length ≤ 63 ∧ ∀ H', Q (.bl true) H'
theorem ints_rpA {K : PySem.W.Frag} {T : Tbl} {G : Hp} : ∀ ns : List Int, RpA K T G (ns.map V.int) (ns.map D.int)
  | [] => .nil
  | n :: ns => .cons (.int n) (ints_rpA ns)
/-- what is known at the start: all but bound methods -/
def known (H : Hp) : Hp := fun a => match H a with
  | some (.met _ _) => none
  | o => o
theorem known_of {H : Hp} {a : Addr} {o : HO} (h : known H a = some o) : H a = some o ∧ ∀ j k, o ≠ .met j k := by
  unfold known at h
  split at h
  · cases h
  · rename_i n
    exact ⟨h, fun j k e => n j k (by rw [h, e])⟩
theorem known_at {H : Hp} {a : Addr} {o : HO} (h : H a = some o) (n : ∀ j k, o ≠ .met j k) : known H a = some o := by
  unfold known
  split
  · rename_i j k e
    rw [h] at e
    cases e
    exact absurd rfl (n j k)
  · exact h
theorem law_in {K : PySem.W.Frag} {T : Tbl} {fn : Fn} (plain : ∀ ns : List Int, ns.length ≤ 63 → ∃ cs, fn ⟨[.dat (.lst (ns.map D.int))], []⟩ = some (.dat (.bl true), cs)) {vs : List V} {H : Hp} {Q : VK} {E : XK} (h : spLaw K vs H Q E) : spF K T 1 fn vs H Q E := by
  obtain ⟨a, ns, rfl, hs, hl, k⟩ := h
  obtain ⟨cs, hf⟩ := plain ns hl
  have sb : Sub (known H) H := fun a u e => by
    obtain ⟨h1, h2⟩ := known_of e
    rw [h1]
    exact .plain h2
  have hs' : SqL K (known H) a (ns.map V.int) := by
    rcases hs with (h | ⟨o, h⟩) | h
    · exact .inl (.inl (known_at h (by intro _ _ z; cases z)))
    · exact .inl (.inr ⟨o, known_at h (by intro _ _ z; cases z)⟩)
    · exact .inr h
  refine ⟨rfl, known H, _, _, cs, hf, ?_, fun i ds e => ?_, fun v G' H' s' r => ?_⟩
  · refine ⟨Same.refl _, sb, fun _ _ e _ => e, fun _ o e => ⟨o, e⟩, fun _ _ e => .inl e, rfl, fun i d e => ?_, fun i io ds e => ?_, fun _ _ _ => rfl, ⟨fun k ds e => by simp at e, fun a b k e => absurd rfl ((known_of e).2 _ _), fun a k e => absurd rfl ((known_of e).2 _ _)⟩, fun i j io jo ds es p e => ?_⟩
    · match i, e with
      | 0, e =>
        cases e
        exact ⟨_, rfl, .lst hs' (ints_rpA ns)⟩
    · match i, e with
      | 0, e => cases e
    · match i, e with
      | 0, e => cases e
  · match i, e with
    | 0, e => cases e
  · cases r
    exact k H'
end Ky
/-! Ky21: for the plain laws: comprehensions and loops that change nothing but their own names. -/
namespace Ky
open PySem PySem.Spec PyProof.Rows L2

theorem go_name (i : Nat) (d : D) (Γ : Ev) : (tgName i).go d Γ = if free Γ i then some (Γ.set i (.dat d)) else none := rfl
theorem mOp_2 {p : D → D → Option D} {f g : MG} {Γ Γ1 Γ2 : Ev} {a b : Ag} {x y d : D} (h1 : f Γ = some (.ok a Γ1)) (h2 : g Γ1 = some (.ok b Γ2)) (w1 : worth Γ2 a = some x) (w2 : worth Γ2 b = some y) (hp : p x y = some d) : mOp (p2 p) (mA2 f g) Γ = some (.ok d Γ2) := by
  simp [mOp, mA2, mCons, mNil, h1, h2, worths, w1, w2, p2, hp]
theorem mB_of {f : ME} {Γ Γ1 : Ev} {b : Bool} (h : f Γ = some (.ok (.bl b) Γ1)) : mB f Γ = some (.ok b Γ1) := by
  simp [mB, h]
theorem compL_pure {t : MT} {vs : List Nat} {c : MB} {elt : ME} {Γ : Ev} {p : D → Bool} {g : D → D} : ∀ {ds : List D},
    (∀ d ∈ ds, ∃ Γ2 Γ3 Γ4, t.go d Γ = some Γ2 ∧ c Γ2 = some (.ok (p d) Γ3) ∧ (p d = false → wipeE vs Γ3 = Γ) ∧ (p d = true → elt Γ3 = some (.ok (g d) Γ4) ∧ wipeE vs Γ4 = Γ)) →
    compL t vs c elt ds Γ = some ((ds.filter p).map g, Γ)
  | [], _ => rfl
  | d :: ds, h => by
    obtain ⟨Γ2, Γ3, Γ4, h1, h2, h3, h4⟩ := h d (.head _)
    have ih := compL_pure (ds := ds) fun e he => h e (.tail _ he)
    unfold compL
    cases hp : p d with
    | true =>
      obtain ⟨h5, h6⟩ := h4 hp
      rw [hp] at h2
      simp only [h1, h2, h5, h6, ih, List.filter_cons, hp, if_true, List.map_cons]
    | false =>
      rw [hp] at h2
      simp only [h1, h2, h3 hp, ih, List.filter_cons, hp, Bool.false_eq_true, if_false]
theorem mComp_pure {src : MI} {t : MT} {vs : List Nat} {c : MB} {elt : ME} {Γ Γ1 : Ev} {ds : List D} (p : D → Bool) (g : D → D) (hs : src Γ = some (.ok ds Γ1)) (hl : ds.length ≤ 100000)
    (h : ∀ d ∈ ds, ∃ Γ2 Γ3 Γ4, t.go d (wipeE vs (lend Γ1)) = some Γ2 ∧ c Γ2 = some (.ok (p d) Γ3) ∧ (p d = false → wipeE vs Γ3 = wipeE vs (lend Γ1)) ∧ (p d = true → elt Γ3 = some (.ok (g d) Γ4) ∧ wipeE vs Γ4 = wipeE vs (lend Γ1)))
    (hsl : t.sl.all (vs.contains ·) = true := by rfl) (hu : unlend Γ1 (wipeE vs (lend Γ1)) = Γ1 := by rfl) : mComp src t vs c elt Γ = some (.ok ((ds.filter p).map g) Γ1) := by
  unfold mComp
  simp only [hs, hsl, compL_pure h, hu, hl, wipeE_length, lend_length, decide_true, Bool.and_self, if_true]
/-- without a test -/
theorem mComp_map {src : MI} {t : MT} {vs : List Nat} {elt : ME} {Γ Γ1 : Ev} {ds : List D} (g : D → D) (hs : src Γ = some (.ok ds Γ1)) (hl : ds.length ≤ 100000)
    (h : ∀ d ∈ ds, ∃ Γ2 Γ4, t.go d (wipeE vs (lend Γ1)) = some Γ2 ∧ elt Γ2 = some (.ok (g d) Γ4) ∧ wipeE vs Γ4 = wipeE vs (lend Γ1))
    (hsl : t.sl.all (vs.contains ·) = true := by rfl) (hu : unlend Γ1 (wipeE vs (lend Γ1)) = Γ1 := by rfl) : mComp src t vs mYes elt Γ = some (.ok (ds.map g) Γ1) := by
  have q := mComp_pure (p := fun _ => true) (g := g) (c := mYes) hs hl (fun d hd => by
    obtain ⟨Γ2, Γ4, h1, h2, h3⟩ := h d hd
    exact ⟨Γ2, Γ2, Γ4, h1, rfl, (fun z => by cases z), fun _ => ⟨h2, h3⟩⟩) hsl hu
  rw [q, List.filter_eq_self.mpr fun _ _ => rfl]
/-- .. over the data F x of a list of anything -/
theorem compL_over {α : Type} {t : MT} {vs : List Nat} {c : MB} {elt : ME} {Γ : Ev} {F : α → D} {p : α → Bool} {g : α → D} : ∀ {l : List α},
    (∀ x ∈ l, ∃ Γ2 Γ3 Γ4, t.go (F x) Γ = some Γ2 ∧ c Γ2 = some (.ok (p x) Γ3) ∧ (p x = false → wipeE vs Γ3 = Γ) ∧ (p x = true → elt Γ3 = some (.ok (g x) Γ4) ∧ wipeE vs Γ4 = Γ)) →
    compL t vs c elt (l.map F) Γ = some ((l.filter p).map g, Γ)
  | [], _ => rfl
  | x :: l, h => by
    obtain ⟨Γ2, Γ3, Γ4, h1, h2, h3, h4⟩ := h x (.head _)
    have ih := compL_over (l := l) fun e he => h e (.tail _ he)
    rw [List.map_cons]
    unfold compL
    cases hp : p x with
    | true =>
      obtain ⟨h5, h6⟩ := h4 hp
      rw [hp] at h2
      simp only [h1, h2, h5, h6, ih, List.filter_cons, hp, if_true, List.map_cons]
    | false =>
      rw [hp] at h2
      simp only [h1, h2, h3 hp, ih, List.filter_cons, hp, Bool.false_eq_true, if_false]
theorem mComp_over {α : Type} {src : MI} {t : MT} {vs : List Nat} {c : MB} {elt : ME} {Γ Γ1 : Ev} (F : α → D) (p : α → Bool) (g : α → D) {l : List α} (hs : src Γ = some (.ok (l.map F) Γ1)) (hl : l.length ≤ 100000)
    (h : ∀ x ∈ l, ∃ Γ2 Γ3 Γ4, t.go (F x) (wipeE vs (lend Γ1)) = some Γ2 ∧ c Γ2 = some (.ok (p x) Γ3) ∧ (p x = false → wipeE vs Γ3 = wipeE vs (lend Γ1)) ∧ (p x = true → elt Γ3 = some (.ok (g x) Γ4) ∧ wipeE vs Γ4 = wipeE vs (lend Γ1)))
    (hsl : t.sl.all (vs.contains ·) = true := by rfl) (hu : unlend Γ1 (wipeE vs (lend Γ1)) = Γ1 := by rfl) : mComp src t vs c elt Γ = some (.ok ((l.filter p).map g) Γ1) := by
  have hl' : (l.map F).length ≤ 100000 := by rw [List.length_map]; exact hl
  unfold mComp
  simp only [hs, hsl, compL_over h, hu, hl', wipeE_length, lend_length, decide_true, Bool.and_self, if_true]
theorem mComp_each {α : Type} {src : MI} {t : MT} {vs : List Nat} {elt : ME} {Γ Γ1 : Ev} (F : α → D) (g : α → D) {l : List α} (hs : src Γ = some (.ok (l.map F) Γ1)) (hl : l.length ≤ 100000)
    (h : ∀ x ∈ l, ∃ Γ2 Γ4, t.go (F x) (wipeE vs (lend Γ1)) = some Γ2 ∧ elt Γ2 = some (.ok (g x) Γ4) ∧ wipeE vs Γ4 = wipeE vs (lend Γ1))
    (hsl : t.sl.all (vs.contains ·) = true := by rfl) (hu : unlend Γ1 (wipeE vs (lend Γ1)) = Γ1 := by rfl) : mComp src t vs mYes elt Γ = some (.ok (l.map g) Γ1) := by
  have q := mComp_over (c := mYes) F (fun _ => true) g hs hl (fun x hx => by
    obtain ⟨Γ2, Γ4, h1, h2, h3⟩ := h x hx
    exact ⟨Γ2, Γ2, Γ4, h1, rfl, (fun z => by cases z), fun _ => ⟨h2, h3⟩⟩) hsl hu
  rw [q, List.filter_eq_self.mpr fun _ _ => rfl]
theorem intsD_map {α : Type} (f : α → Int) : ∀ l : List α, intsD (l.map fun x => D.int (f x)) = some (l.map f)
  | [] => rfl
  | x :: l => by
    rw [List.map_cons]
    unfold intsD
    rw [intsD_map f l]
    rfl
theorem boolsD_map {α : Type} (f : α → Bool) : ∀ l : List α, boolsD (l.map fun x => D.bl (f x)) = some (l.map f)
  | [] => rfl
  | x :: l => by
    rw [List.map_cons]
    unfold boolsD
    rw [boolsD_map f l]
    rfl
theorem bSum_map {α : Type} (f : α → Int) (l : List α) : bSum [.lst (l.map fun x => D.int (f x))] = some (.int (l.map f).sum) := by
  simp only [bSum, intsD_map f l]
theorem bAll_map {α : Type} (f : α → Bool) (l : List α) : bAll [.lst (l.map fun x => D.bl (f x))] = some (.bl (l.all f)) := by
  simp only [bAll, boolsD_map f l, List.all_map]
  rfl
theorem strsD_map {α : Type} (f : α → Str) : ∀ l : List α, strsD (l.map fun x => D.str (f x)) = some (l.map f)
  | [] => rfl
  | x :: l => by
    rw [List.map_cons]
    unfold strsD
    rw [strsD_map f l]
    rfl
theorem upTo0 (n : Nat) : upTo 0 n = (List.range n).map fun k => D.int (k : Nat) := by
  unfold upTo
  congr 1
  funext k
  rw [Int.zero_add]
/-- a loop each of whose turns leaves the state as it was, or as g has it -/
theorem forL_steps {t : MT} {body : MS} {I : Nat → Ev → Prop} : ∀ {ds : List D} {i : Nat} {Γ : Ev}, I i Γ → (∀ j d Γ, ds[j]? = some d → I (i + j) Γ → ∃ Γ1 Γ2, t.go d Γ = some Γ1 ∧ (body Γ1 = some (.nx Γ2) ∨ body Γ1 = some (.ct Γ2)) ∧ I (i + j + 1) Γ2) →
    ∃ Γ', forL t body ds Γ = some (.nx Γ') ∧ I (i + ds.length) Γ'
  | [], i, Γ, h0, _ => ⟨Γ, rfl, h0⟩
  | d :: ds, i, Γ, h0, h => by
    obtain ⟨Γ1, Γ2, h1, h2, h3⟩ := h 0 d Γ rfl h0
    obtain ⟨Γ', q1, q2⟩ := forL_steps (ds := ds) (i := i + 1) (t := t) (body := body) (I := I) h3 fun j e Γ he hI => by
      have hI : I (i + (j + 1)) Γ := by rw [show i + (j + 1) = i + 1 + j by omega]; exact hI
      obtain ⟨Γ3, Γ4, a, b, c⟩ := h (j + 1) e Γ (by simpa using he) hI
      exact ⟨Γ3, Γ4, a, b, by rw [show i + 1 + j + 1 = i + (j + 1) + 1 by omega]; exact c⟩
    refine ⟨Γ', ?_, by rw [List.length_cons, show i + (ds.length + 1) = i + 1 + ds.length by omega]; exact q2⟩
    unfold forL
    rcases h2 with h2 | h2 <;> simp only [h1, h2, q1]
end Ky
/-! Ky22: own errors over Exception, with an __init__ that stores fields. -/
namespace Ky
open PySem PySem.Spec PyProof.Rows L2

/-- own classes ahead of Exception -/
def exTail : List Value := [.type "Exception", .type "BaseException", .type "object"]
def refsE (l : List Value) : Prop := ∃ as : List Addr, l = as.map .ref ++ exTail
theorem refuse_ref {self : Value} {what : Str} {a : Addr} {l : List Value} : refuseLoop self what (.ref a :: l) = refuseLoop self what l := by
  simp [refuseLoop]
theorem refsE_pass (self : Value) {l : List Value} (h : refsE l) : refuseLoop self "__setattr__" l = pure () := by
  obtain ⟨as, rfl⟩ := h
  induction as with
  | nil => exact F.store_Exception.passes self
  | cons a as ih =>
    rw [List.map_cons, List.cons_append, refuse_ref]
    exact ih
theorem refsE_has (n : String) {l : List Value} (h : refsE l) : l.contains (.type n) = exTail.contains (.type n) := by
  obtain ⟨as, rfl⟩ := h
  induction as with
  | nil => rfl
  | cons a as ih =>
    rw [List.map_cons, List.cons_append, List.contains_cons, ih]
    rfl
theorem refsE_ne {l : List Value} (h : refsE l) : l.isEmpty = false := by
  obtain ⟨as, rfl⟩ := h
  cases as <;> rfl
theorem few_ns {h : Heap} {a : Addr} {name : Str} {v : Value} (q : h.Ns1 a fun y => if y = name then some v else none) : ∃ o, h.get? a = some o ∧ o.data.pastItsLine = none := by
  obtain ⟨o, es, ep, ho, hd, sk, uk, nf⟩ := q
  refine ⟨o, ho, ?_⟩
  have key : ∀ e ∈ es.toList, e.key.isStr name = true := fun e he => by
    obtain ⟨n, t, hk⟩ := sk e (by simpa using he)
    have hn : nsFind es n = if n = name then some v else none := nf n
    have e1 : e.key.isStr n = true := by rw [hk]; simp [Value.isStr]
    by_cases hh : n = name
    · rw [← hh]; exact e1
    · rw [if_neg hh] at hn
      exfalso
      unfold nsFind findBy at hn
      simp at hn
      have z := hn e (by simpa using he)
      rw [e1] at z
      cases z
  have few : es.size ≤ 1 := by
    rw [← Array.length_toList]
    unfold UniqKeys at uk
    match hl : es.toList with
    | [] => simp
    | [x] => simp
    | x :: y :: r =>
      rw [hl] at uk key
      have z := (List.pairwise_cons.mp uk).1 y (by simp) name (key x (by simp)) (key y (by simp))
      exact z.elim
  rw [hd]
  unfold Data.pastItsLine
  have : ¬ es.size > sizeLine + 1 := by
    have := sizeLine_eq
    omega
  simp [this]
section
variable {prog : Program} {w : World} {A : Around} {R : Result → Shared → Prop} {hp : Heap} {g : Array GenState} {d : Drawn} {t : Nat} {os : OsState} {K : PySem.W.Frag} {name : Str} {tk : Tok} {v : Value} {x C : Addr} {fv : Array Value} {cd : ClassData}
theorem exc_osa (X : K.In hp) (hx : hp.get? x = some { cls := Value.ref C, data := Data.fields fv }) (hcd : PySem.W.clsIn K C = some cd) (hm : refsE cd.mro) (hh : cd.hasDict = true) (ha : PySem.W.findIn K (Value.ref C) name = some none)
    (hq : ∀ (h' : Heap) (tk' dx : Nat), (∀ (b : Addr) (o : Obj), b ≠ x → hp.get? b = some o → h'.get? b = some o) → hp.objs.size ≤ dx → dx ≠ x →
      h'.get? x = some { cls := Value.ref C, dict := some dx, data := Data.fields fv } → (h'.Ns1 dx fun y => if y = name then some v else none) → R (Except.ok (Flow.ret Value.none)) { heap := h', gens := g, drawn := d, toks := tk', os := os }) :
    codeAny (model prog w) A (Code.call (Value.builtin "object.__setattr__") { pos := [Value.ref x, Value.str name tk, v] }) R { heap := hp, gens := g, drawn := d, toks := t, os := os } := by
  have I : PySem.W.InstAt hp x { cls := Value.ref C, data := Data.fields fv } C none := { at_ := hx, cls := rfl, no := rfl, dict := trivial }
  have SF := F.store_object
  have ne := refsE_ne hm
  have hob : cd.mro.contains (.type "object") = true := (refsE_has "object" hm).trans (by decide +kernel)
  have hxs := Nat.ne_of_lt (Heap.lt_size hx)
  have hmo : PySem.W.mroIn K C (.type "object") = some true := by
    unfold PySem.W.mroIn
    rw [hcd, Option.bind_some, ne, hob]
    rfl
  have sub : PySem.W.Looks (model prog w) hp (isInstance (.ref x) (.type "object")) true := PySem.W.Looks.andThen (PySem.W.InstAt.type (M := model prog w) I) (PySem.W.looks_mroIn (M := model prog w) X hmo)
  obtain ⟨b, hb⟩ : ∃ b, b = PySem.Builtin.«object.__setattr__» := ⟨_, rfl⟩
  have ent : entryFor table "object.__setattr__" = some b := by rw [hb]; exact SF.entry
  refine codeAny_call_builtin (b := b) SF.slot.plain ent ?_
  refine PySem.W.check_slot (i := "object.__setattr__") (owner := "object") (n := "__setattr__") (self := .ref x) (rest := [.str name tk, v]) (kw := []) SF.kind SF.split sub (SF.args (Value.ref x) (Value.str name tk) v) ?_
  have hmr : PySem.W.Looks (model prog w) hp (mroOf (.ref C)) cd.mro := PySem.W.Looks.andThen (PySem.W.looks_clsIn (M := model prog w) X hcd) PySem.W.Looks.now
  have hcls := PySem.W.looks_clsIn (M := model prog w) X hcd
  rw [hb, PySem.W.osa_eq, refuse_eq]
  refine wpAny_bind (wpAny_bind (PySem.W.Looks.at (PySem.W.InstAt.type I) (wpAny_bind (PySem.W.Looks.at hmr ?_))))
  rw [refsE_pass _ hm]
  refine wpAny_pure (wpAny_bind (PySem.W.Looks.at (PySem.W.InstAt.type I) (wpAny_bind (PySem.W.Looks.at (PySem.W.looks_findIn X ha) (wpAny_bind (PySem.W.Looks.at PySem.W.Looks.now ?_))))))
  obtain ⟨nm, bs, mro, ns, qn, hd, sn, sb, ab, col, del⟩ := cd
  obtain rfl : hd = true := hh
  clear SF sub hmr hmo
  show wpAny (model prog w) A.in1 (PySem.Builtin.ObjectAttr.storeInOwnDict (.ref x) (.ref C) (.str name tk) name v false) _ _ _
  unfold PySem.Builtin.ObjectAttr.storeInOwnDict
  refine wpAny_bind ?_
  show wpAny _ _ (pure ()) _ _ _
  refine wpAny_pure (wpAny_ite_false rfl ?_)
  refine wpAny_bind ?_
  show wpAny _ _ (instanceDict x true) _ _ _
  unfold instanceDict
  refine wpAny_bind (wpAny_loadPart_at hx ?_)
  refine wpAny_bind (PySem.W.Looks.at hcls ?_)
  refine wpAny_ite_false rfl (wpAny_ite_false rfl ?_)
  have hp1 : ∀ o, (hp.push o).get? x = some { cls := Value.ref C, data := Data.fields fv } := fun o => Heap.get?_push_of_some o hx
  refine wpAny_bind (wpAny_alloc' (wpAny_bind (wpAny_update' (hp1 _) ?_)))
  generalize hSD : PySem.Builtin.ObjectAttr.storeInDict = SD
  repeat (any_goals (first | assumption | wp_step))
  subst hSD
  unfold PySem.Builtin.ObjectAttr.storeInDict
  generalize hNS : nsSet = NS
  repeat (any_goals (first | assumption | wp_step))
  subst hNS
  have nd : hp.objs.size ≠ x := fun z => hxs z.symm
  have g0 : ((hp.push { cls := Value.type "dict", data := Data.dict #[] }).update x fun o => { cls := o.cls, dict := some hp.objs.size, data := o.data, slots := o.slots }).get? hp.objs.size = some { cls := Value.type "dict", data := Data.dict #[] } := by
    rw [Heap.get?_update_ne _ _ _ _ nd]
    exact Heap.get?_push_size _ rfl
  have gx : ((hp.push { cls := Value.type "dict", data := Data.dict #[] }).update x fun o => { cls := o.cls, dict := some hp.objs.size, data := o.data, slots := o.slots }).get? x = some { cls := Value.ref C, dict := some hp.objs.size, data := Data.fields fv } := Heap.get?_update_self _ (hp1 _) rfl
  have n0 : ((hp.push { cls := Value.type "dict", data := Data.dict #[] }).update x fun o => { cls := o.cls, dict := some hp.objs.size, data := o.data, slots := o.slots }).Ns1 hp.objs.size fun _ => none := by
    refine ⟨_, _, _, g0, rfl, ?_, ?_, fun _ => rfl⟩
    · intro e he
      simp at he
    · exact List.Pairwise.nil
  refine wpAny_nsSet1EFk (by exact n0) fun h' hn sb ex => ?_
  obtain ⟨o1, ho1, hl1⟩ := few_ns hn
  refine wpAny_bind (wpAny_lookBehind ho1 hl1 ?_)
  show wpAny _ _ (pure _) _ _ _
  refine wpAny_pure ?_
  refine hq h' _ hp.objs.size (fun b o hb e => ?_) (Nat.le_refl _) nd ?_ hn
  · have bn : b ≠ hp.objs.size := Nat.ne_of_lt (Heap.lt_size e)
    rw [sb.2 b bn]
    exact (Heap.get?_update_ne _ _ _ _ hb).trans (Heap.get?_push_of_some _ e)
  · rw [sb.2 x (fun z => nd z.symm)]
    exact gx
end
end Ky
/-! Ky23: own errors over Exception with one field: made, raised, read (after the worked proof of an own error, turned to Exception). -/
namespace PySem
namespace ErrX
open PySem.W PySem.Calls PyProof.Rows PySem.HandSPX
/-! ### the text of __init__ -/
def iA (p1 p2 : Pos) : Arguments := { posonlyargs := [], args := [{ arg := "self", annotation := none, pos := p1 }, { arg := "given", annotation := none, pos := p2 }], vararg := none, kwonlyargs := [], kw_defaults := [], kwarg := none, defaults := [] }
def iB (q1 q2 q3 q4 : Pos) : List Stmt := [.Assign [.Attribute (.Name "self" q1) "given" q2] (.Name "given" q3) q4]
def iS : Scope := { kind := .function, names := [(PySem.Str.ofString "self", .local), (PySem.Str.ofString "given", .local)], isGenerator := false, isCoroutine := false, more := [] }
/-- what the written part says of Low, at C, and of its __init__, at fI -/
structure ErrTxt (K : Frag) (mg : Str → Option Value) (cn qi : Str) (C fI : Addr) : Prop where
  gC : mg cn = some (.ref C)
  cls : ∃ nm q N bs bm sn sub ab col dd k0 k1 k2 k3 k5, K.lookup C = some (excClassObj nm q C N bs bm true sn sub ab col dd k0 k1 k2 k3 k5 "Exception.__new__") ∧ Ky.refsE bm
  sa : findIn K (.ref C) "__setattr__" = some (some (.builtin "object.__setattr__"))
  ga : findIn K (.ref C) "__getattribute__" = some (some (.builtin "BaseException.__getattribute__"))
  gg : findIn K (.ref C) "__getattr__" = some none
  noN : findIn K (.ref C) "given" = some none
  iC : findIn K (.ref C) "__init__" = some (some (.ref fI))
  tC : typeIn K (.ref fI) = some (.type "function")
  kC : keepIn K (.ref C) = true
  exC : subIn K (.ref C) (.type "BaseException") = some true
  tyC : typeIn K (.ref C) = some (.type "type")
  hdC : hasDictIn K C = true
  fn : ∃ (oc : Value) (od : Option Addr) (doc pm : Value) (an : Option Addr) (cdv ct : Value) (osl : Array (Option Value)) (p1 p2 q1 q2 q3 q4 : Pos),
    K.lookup fI = some ⟨oc, od, .func (fnOf "__init__" qi (iA p1 p2) (iB q1 q2 q3 q4) iS .none .none doc pm an cdv ct), osl⟩ ∧ codeIn K cdv qi = true
theorem one_size (v : Value) : [v].length ≤ sizeLine := by
  rw [sizeLine_eq]
  exact (by decide : 1 ≤ 16777216)
theorem kept_but {K : Frag} {h h' : Heap} {x : Addr} (X : K.In h) (hx : K.lookup x = none) (k : ∀ b o, b ≠ x → h.get? b = some o → h'.get? b = some o) : K.In h' := fun a o e =>
  k a o (fun z => by rw [z, hx] at e; cases e) (X a o e)
theorem ldC {M : Model} {s : Shared} {name : Str} {scope : Scope} {L a : Addr} {cd : Value} {m : Str → Option Value} {x : Str} {pos : Pos} {v : Value} {Q : Value → Shared → Prop} {A : Around} {E : Value → Shared → Prop} (hn : s.heap.Ns L m) (hv : m x = some v) (h : Q v s)
    (hk : scope.kind = .function := by rfl) (hl : (envOfC name scope L a cd).kindOf x = some .local := by rfl) (hd : (x == ("__debug__" : Str)) = false := by decide) :
    wpAny M A (eval (.Name x pos) (envOfC name scope L a cd)) Q E s := wpAny_Name (wpAny_loadName_local hk hl hn hv h) hd
/-- what __init__ leaves of a fresh exception at x -/
structure InitEnd (h h' : Heap) (x C dx t1 : Addr) (v : Value) : Prop where
  keep : ∀ b o, b ≠ x → h.get? b = some o → h'.get? b = some o
  obj : h'.get? x = some { cls := .ref C, dict := some dx, data := .fields #[.ref t1, .none, .none, .none, .bool false, .none] }
  dbig : h.objs.size ≤ dx
  dne : dx ≠ x
  ns : h'.Ns1 dx (fun y => if y = "given" then some v else none)
/-- a made Low -/
structure OwnMade (h h' : Heap) (e C d : Addr) (v : Value) : Prop where
  keep : ∀ b o, h.get? b = some o → h'.get? b = some o
  new : h.objs.size ≤ e
  obj : ∃ oe vs, h'.get? e = some oe ∧ oe.cls = .ref C ∧ oe.dict = some d ∧ oe.data = .fields vs ∧ vs[1]? = some .none
  dbig : h.objs.size ≤ d
  dne : d ≠ e
  ns : h'.Ns1 d (fun y => if y = "given" then some v else none)
section
variable {prog : Program} {w : World} {A : Around} {E : Value → Shared → Prop} {R : Result → Shared → Prop} {s : Shared} {K : Frag} {mg : Str → Option Value} {cn qi : Str} {C fI : Addr}
theorem err_init (T : ErrTxt K mg cn qi C fI) {x t0 : Addr} {v : Value} (X : K.In s.heap) (hlim : s.heap.NoLimit) (hx : s.heap.get? x = some (excO C t0)) (hnx : K.lookup x = none) (hroom : A.depth < recursionLimit)
    (hq : ∀ h' tk dx, InitEnd s.heap h' x C dx t0 v → R (.ok (.ret .none)) { s with heap := h', toks := tk }) :
    codeAny (model prog w) A (.call (.ref fI) ⟨[.ref x, v], []⟩) R s := by
  obtain ⟨oc, od, doc, pm, an, cdv, ct, osl, p1, p2, q1, q2, q3, q4, ho, hcd⟩ := T.fn
  obtain ⟨nm, q, N, bs, bm, sn, sub, ab, col, dd, k0, k1, k2, k3, k5, hC, hbm⟩ := T.cls
  have hcl : clsIn K C = some { name := nm, bases := bs, mro := .ref C :: bm, ns := N, qualname := q, hasDict := true, slotNames := sn, subclasses := sub, abstract := ab, collection := col, hasDel := false } := by unfold clsIn; rw [hC] <;> rfl
  refine Att.call_fn (binds := [("self", .ref x), ("given", v)]) X hlim ho hcd hroom (BindsTo.of_eq (by first | rfl | with_unfolding_all rfl)) (by first | rfl | decide | with_unfolding_all rfl) (fun s₁ IC => ?_) rfl rfl rfl
  obtain ⟨h₁, tk₁, rfl⟩ := IC.toInCall.same
  have k : ∀ b o, s.heap.get? b = some o → h₁.get? b = some o := IC.toInCall.keep
  have hn := IC.toInCall.ns
  have hxL : s.heap.objs.size ≠ x := Nat.ne_of_gt (Heap.lt_size hx)
  have X₁ : K.In h₁ := X.keeps k
  have hx₁ := k _ _ hx
  -- self.by = by
  show wpAny _ _ (execs _ _) _ _ _
  refine wpAny_execs_cons (plainObj_wpAny_Assign_Attribute ?_)
  refine ldC (v := v) hn (by first | rfl | with_unfolding_all rfl | kernel_rfl) (ldC (v := .ref x) hn (by first | rfl | with_unfolding_all rfl | kernel_rfl) ?_)
  refine set_plain X₁ (ox := excO C t0) (od := none) ⟨hx₁, rfl, rfl, trivial⟩ T.sa ?_
  refine Ky.exc_osa X₁ hx₁ hcl (show Ky.refsE (.ref C :: bm) from by obtain ⟨as, e⟩ := hbm; exact ⟨C :: as, by rw [e]; rfl⟩) rfl T.noN (fun h₃ tk₃ dx k₃ dn dne hx₃ hn₃ => ?_)
  show wpAny _ _ (execs _ _) _ _ _
  have z : s.heap.objs.size < h₁.objs.size := hn.lt
  exact wpAny_execs_nil (hq h₃ tk₃ dx ⟨fun b o hb e => k₃ b o hb (k b o e), hx₃, Nat.le_of_lt (Nat.lt_of_lt_of_le z dn), dne, hn₃⟩)
theorem err_made (T : ErrTxt K mg cn qi C fI) {v : Value} (X : K.In s.heap) (hlim : s.heap.NoLimit) (hroom : A.depth + 1 < recursionLimit)
    (hq : ∀ h' tk e d, OwnMade s.heap h' e C d v → R (.ok (.ret (.ref e))) { s with heap := h', toks := tk }) :
    codeAny (model prog w) A (.call (.ref C) ⟨[v], []⟩) R s := by
  obtain ⟨nm, q, N, bs, bm, sn, sub, ab, col, dd, k0, k1, k2, k3, k5, hC, hbm⟩ := T.cls
  obtain ⟨hp, g, dr, tk, os⟩ := s
  have k : ∀ b o, hp.get? b = some o → ((hp.push (kdv_tup [v])).push (excO C hp.objs.size)).get? b = some o := fun b o e => Heap.get?_push_of_some _ (Heap.get?_push_of_some _ e)
  have hget : ((hp.push (kdv_tup [v])).push (excO C hp.objs.size)).get? (hp.objs.size + 1) = some (excO C hp.objs.size) := by heap_get
  have hnx : K.lookup (hp.objs.size + 1) = none := by
    cases e : K.lookup (hp.objs.size + 1) with
    | none => rfl
    | some o =>
      have z : hp.get? (hp.objs.size + 1) = some o := X _ _ e
      exact absurd (Nat.lt_of_succ_lt (Heap.lt_size z)) (Nat.lt_irrefl _)
  refine call_own F.excBase_Exception (fun X => Ky.refsE_has X hbm) (X _ _ hC) (looks_findIn X T.iC) (fun self => bind_fn X self T.tC) (one_size v) ?_
  refine err_init (s := ⟨(hp.push (kdv_tup [v])).push (excO C hp.objs.size), g, dr, tk, os⟩) T (X.keeps k) (hlim.keeps k) hget hnx ?_ fun h' tk' dx ⟨k', hx, dn, dne, hns⟩ => ?_
  · show A.depth + 1 < recursionLimit
    exact hroom
  · have old : ∀ b o, hp.get? b = some o → h'.get? b = some o := fun b o e => k' b o (Nat.ne_of_lt (Nat.lt_succ_of_lt (Heap.lt_size e))) (k b o e)
    have z : hp.objs.size + 1 + 1 ≤ dx := by
      first
        | (simpa only [Heap.size_push] using dn)
        | exact dn
        | (have q := dn; rw [Heap.size_push, Heap.size_push] at q; exact q)
    exact ⟨rfl, hq h' tk' (hp.objs.size + 1) dx ⟨old, Nat.le_succ _, ⟨_, _, hx, rfl, rfl, rfl, rfl⟩, Nat.le_trans (Nat.le_trans (Nat.le_succ _) (Nat.le_succ _)) z, dne, hns⟩⟩
end
end ErrX
end PySem
namespace L2
open PySem PySem.Spec PyProof.Rows
theorem relO_err {v : V} {v' : Value} (r : RelV v v') (f : Str) : RelO (List.lookup f [(("given" : Str), v)]) (if f = "given" then some v' else none) := by
  by_cases hw : f = "given"
  · subst hw
    rw [if_pos rfl]
    have q : List.lookup ("given" : Str) [(("given" : Str), v)] = some v := by simp [List.lookup]
    rw [q]
    exact r
  · rw [if_neg hw]
    have qw : (f == ("given" : Str)) = false := by simpa using hw
    have q2 : List.lookup f [(("given" : Str), v)] = none := by simp [List.lookup, qw]
    rw [q2]
    trivial
section
variable {X : Cx} {cn qi : Str} {C fI : Addr}
/-- an own error -/
def tMkErr (C : Addr) (ta : TA) : St → Hp → XK → Prop := fun σ H Q => ta σ H fun vs H1 => ∃ v, vs = [v] ∧ ∀ d, H1 d = none → Q (.ref C) (some d) (upd H1 d (.xd [(("given" : Str), v)]))
theorem pmk_err {a : Expr} {ta : TA} {p pos : Pos} {k : Nat} (T : PySem.ErrX.ErrTxt X.K X.mg cn qi C fI) (hr : Room k X.A) (ha : PA X [a] ta) (hg : Gl X cn := by rfl) (hdb : (cn == ("__debug__" : Str)) = false := by decide)
    (he : starEach (a :: []) X.env = (false, eval a X.env) :: starEach [] X.env := by rfl) (hpl : (backTo pos (starEach [] X.env)).any (·.1) = false := by rfl) :
    PMk X (.Call (.Name cn p) [a] [] pos) (tMkErr C ta) := by
  intro pins s σ H Q I h
  refine wpAny_Call_Name_kw (ld_glob I hg T.gC ?_ hdb)
  refine PySem.W.callWith_K (h₀ := X.base) I.ok.mod.kin T.kC (thn (ha.run pos pins s σ H _ I h) fun us s1 hh => ?_) he hpl
  obtain ⟨vs, H1, I1, r1, v, ev, q1⟩ := hh
  subst ev
  refine ⟨I1.kIn, ?_⟩
  cases r1 with
  | cons rv rn =>
    rename_i v' us'
    cases rn
    show wpAny _ _ (call (.ref C) [v']) _ _ _
    have hlim := I1.nolimit
    obtain ⟨hp, g, dr, tk, os⟩ := s1
    refine wpAny_call (PySem.ErrX.err_made T I1.kIn hlim (by have := hr.dp; omega) fun h' tk' e d M => ?_)
    show MkP X pins σ Q (.ref e) ⟨h', g, dr, tk', os⟩
    obtain ⟨oe, fv, hoe, hc, hd, hdat, h1⟩ := M.obj
    have hns := M.ns
    obtain ⟨G', g1, g2⟩ := restrict h' fun b => decide (b ≠ e)
    have gk : ∀ b, b ≠ e → G'.get? b = h'.get? b := fun b hb => g1 b (decide_eq_true hb)
    have ge : G'.get? e = none := g2 e (by simp)
    have old : ∀ b o, hp.get? b = some o → G'.get? b = some o := fun b o q => (gk b (Nat.ne_of_lt (Nat.lt_of_lt_of_le (Heap.lt_size q) M.new))).trans (M.keep b o q)
    have ob : ObjOk X.prog X.w (upd H1 d (.xd [(("given" : Str), v)])) G' d (.xd [(("given" : Str), v)]) :=
      ⟨_, hns.at (fun o q => (gk d M.dne).trans q), fun f => relO_err rv f⟩
    have J : Inv X pins σ (upd H1 d (.xd [(("given" : Str), v)])) ⟨G', g, dr, tk', os⟩ := I1.laid (t' := tk') old M.dbig ob
    refine ⟨e, oe, fv, ⟨G', g, dr, tk', os⟩, _, .ref C, some d, rfl, J, fun b o q => ?_, ge, hoe, ⟨hc, hd⟩, hdat, h1, ?_, rfl, I1.bare, raises_own T.exC T.tyC, q1 d (I1.hok.fresh M.dbig)⟩
    · by_cases hb : b = e
      · have q' : G'.get? b = some o := q
        rw [hb, ge] at q'; cases q'
      · exact (gk b hb).symm.trans q
    · rw [upd_ne (Ne.symm M.dne)]
      exact I1.hok.fresh M.new
/-- raise an own error -/
def tRaiseErr (C : Addr) (W : WX) (ta : TA) : TS := fun _ σ H => tMkErr C ta σ H fun cls d H' => W cls d σ H'
theorem ps_raiseErr {a : Expr} {ta : TA} {W : WX} {p pos pos2 : Pos} {k : Nat} (hc : X.calm = true) (T : PySem.ErrX.ErrTxt X.K X.mg cn qi C fI) (hr : Room k X.A) (tk : Takes X W) (ha : PA X [a] ta) (hg : Gl X cn := by rfl) (hdb : (cn == ("__debug__" : Str)) = false := by decide)
    (he : starEach (a :: []) X.env = (false, eval a X.env) :: starEach [] X.env := by rfl) (hpl : (backTo pos (starEach [] X.env)).any (·.1) = false := by rfl) :
    PS X (.Raise (some (.Call (.Name cn p) [a] [] pos)) none pos2) (tRaiseErr C W ta) := ps_raise hc tk (pmk_err T hr ha hg hdb he hpl)
/-- low.by, low the exception that the suite holds (at a; its class cls, its dict d) -/
def tGiven (C : Addr) (a : Addr) (cls : Value) (d : Option Addr) (te : TE) : TE := fun σ H Q => te σ H fun x H1 => x = .ref a ∧ cls = .ref C ∧ ∃ (dd : Addr) (v : V), d = some dd ∧ H1 dd = some (.xd [(("given" : Str), v)]) ∧ Q v H1
theorem pe_given {a : Addr} {oe : Obj} {cls : Value} {d : Option Addr} {pn : List (Addr × Obj)} {e : Expr} {te : TE} {pos : Pos} (T : PySem.ErrX.ErrTxt X.K X.mg cn qi C fI) (hz : Zc cls d oe) (hf : ∃ vs, oe.data = .fields vs) (he : PE (X.suite a ((a, oe) :: pn)) e te)
    (hb : attributeBase e "given" X.env (eval e X.env) = eval e X.env := by rfl) :
    PE (X.suite a ((a, oe) :: pn)) (.Attribute e "given" pos) (tGiven C a cls d te) := by
  refine ⟨fun pins s σ H Q I h => ?_⟩
  refine attr_of hb (thn (he.run pins s σ H _ I h) fun u s1 hh => ?_)
  obtain ⟨x, H1, I1, rx, ex, ec, dd, v, ed, ea, q⟩ := hh
  subst ex
  obtain rfl : u = Value.ref a := rx
  subst ec
  subst ed
  obtain ⟨ha, _⟩ := I1.pin (a, oe) (List.mem_append_left _ List.mem_cons_self)
  obtain ⟨vs, hd⟩ := hf
  have hx : ObjOk X.prog X.w H1 s1.heap dd (.xd [(("given" : Str), v)]) := I1.hok dd _ ea
  obtain ⟨mA, hns, hr⟩ := hx
  obtain ⟨od, ho, hl⟩ := lookIn_ns hns
  have l : List.lookup ("given" : Str) [(("given" : Str), v)] = some v := by simp [List.lookup]
  obtain ⟨u, hu, ru⟩ := RelO.some_of (v := v) (o := mA "given") (by rw [← l]; exact hr "given")
  have J : PySem.W.InstAt s1.heap a oe C (some od) := ⟨ha, hz.1, by unfold PySem.W.notCls; rw [hd] <;> rfl, by rw [hz.2]; exact ho⟩
  exact HandSPX.exc_get I1.kIn J T.ga T.gg T.exC (PySem.W.findObj_own T.hdC T.noN rfl (by rw [hl, hu])) (handed_of ru) ⟨v, H1, I1.tok _, ru, q⟩
end
end L2
/-! Ky24: raise C(e); try: .. except C as e: return [.., e.given, ..]. -/
namespace Ky
open PySem PySem.Spec PyProof.Rows L2

section
variable {X : Cx} {T : Tbl} {W : WX} {e : Expr} {p pos pos2 : Pos} {c k : Nat} {cn qi : Str} {fI : Addr}
def mRaise (c : Nat) (f : ME) : MS := fun Γ => match f Γ with
  | some (.ok d Γ') => some (.exc c d Γ')
  | some (.exc c d Γ') => some (.exc c d Γ')
  | none => none
theorem js_raise {f : ME} (hc : X.calm = true) (TE : PySem.ErrX.ErrTxt X.K X.mg cn qi (T.cls c) fI) (hat : T.att c = [("given" : Str)]) (hr : Room k X.A) (tk : Takes X W) (he : PE X e (rd X.K T W f)) (hg : Gl X cn := by rfl) (hdb : (cn == ("__debug__" : Str)) = false := by decide)
    (hst : starEach (e :: []) X.env = (false, eval e X.env) :: starEach [] X.env := by rfl) (hpl : (backTo pos (starEach [] X.env)).any (·.1) = false := by rfl) :
    PS X (.Raise (some (.Call (.Name cn p) [e] [] pos)) none pos2) (rdS X.K T W (mRaise c f)) :=
  PS.imp (ps_raiseErr hc TE hr tk (pa_cons he pa_nil hst) hg hdb hst hpl) fun De σ H ⟨B, Γ, G, o, hf, s, k⟩ => by
    unfold mRaise at hf
    split at hf
    · rename_i d Γ' q
      cases hf
      refine ⟨B, Γ, G, _, q, s, fun v G' H' s' g r => ⟨v, rfl, fun dx hdx => ?_⟩⟩
      have sg : Same G' (upd G' dx (.xd [(("given" : Str), v)])) := Same.new (s'.gnone hdx)
      exact k dx v σ _ _ (s'.new hdx) (by rw [hat]; exact upd_same) (r.to sg)
    · rename_i c d Γ' q
      cases hf
      exact ⟨B, Γ, G, _, q, s, ExcS.p k⟩
    · cases hf
/-- what a handler hands back: a constant, the error's value -/
inductive XI where
  | lit (d : D) | giv
def xiD (g : D) : XI → D
  | .lit d => d
  | .giv => g
def litV : D → V
  | .str z => .str z
  | .bl b => .bl b
  | .int i => .int i
  | _ => .non
def litOk : XI → Bool
  | .lit (.str _) => true
  | .lit (.bl _) => true
  | .lit (.int _) => true
  | .lit .non => true
  | .giv => true
  | _ => false
def tXs (C a : Addr) (cls : Value) (d : Option Addr) (i : Nat) : List XI → TA
  | [] => tNil
  | .lit x :: r => tCons (tC (litV x)) (tXs C a cls d i r)
  | .giv :: r => tCons (tGiven C a cls d (tVar i)) (tXs C a cls d i r)
theorem lit_rp {K : PySem.W.Frag} {G : Hp} : ∀ {d : D}, litOk (.lit d) = true → Rp K T G (litV d) d
  | .str z, _ => .str z
  | .bl b, _ => .bl b
  | .int i, _ => .int i
  | .non, _ => .non
theorem tXs_ok {K : PySem.W.Frag} {C a dx : Addr} {i : Nat} {σ : L2.St} {G H : Hp} {v : V} {d : D} (h1 : σ[i]? = some (some (.ref a))) (h2 : H dx = some (.xd [(("given" : Str), v)])) (r : Rp K T G v d) :
    ∀ (xs : List XI) (Q : List V → Hp → Prop), xs.all litOk = true → (∀ vs, RpA K T G vs (xs.map (xiD d)) → Q vs H) → tXs C a (.ref C) (some dx) i xs σ H Q
  | [], Q, _, k => k [] .nil
  | .lit x :: xs, Q, ho, k => by
    rw [List.all_cons, Bool.and_eq_true] at ho
    exact tXs_ok h1 h2 r xs _ ho.2 fun vs rs => k _ (.cons (lit_rp ho.1) rs)
  | .giv :: xs, Q, ho, k => by
    rw [List.all_cons, Bool.and_eq_true] at ho
    exact ⟨_, h1, rfl, rfl, dx, v, rfl, h2, tXs_ok h1 h2 r xs _ ho.2 fun vs rs => k _ (.cons r rs)⟩
def mTryL (cs : List Nat) (body : MS) (c i : Nat) (xs : List XI) : MS := fun Γ => match body Γ with
  | some (.exc c' d Γ') => if c' ∈ cs then (if c' = c then (if xs.all litOk && decide (xs.length ≤ 1000) && decide (i < Γ'.length) then some (.rt (.own (xs.map (xiD d))) Γ') else none) else some (.exc c' d Γ')) else none
  | o => o
variable {body suite : List Stmt} {b0 : Stmt} {np pos' : Pos} {x n : Str} {i : Nat}
theorem js_try1 {cs : List Nat} {fb : MS} {xs : List XI} (hs : X.stack = X.env :: X.outer) (hfr : X.env.frame = some X.env.locals) (hN : X.N.Nodup) (hi : X.N[i]? = some n) (hln : X.env.kindOf n = some .local) (hcN : Names X x (.ref (T.cls c))) (tk : Takes X W)
    (hat : ∀ c ∈ cs, T.att c = [("given" : Str)]) (hex : ∀ c' ∈ cs, PySem.W.exmOne X.K (.ref (T.cls c')) (.ref (T.cls c)) = some (decide (c' = c)))
    (hb : ∀ (W : WX) (pn : List (Addr × Obj)) (xe : Value → Shared → Prop), Takes (X.tr pn xe) W → PassesOwn (model X.prog X.w) X.A X.env xe → PSs (X.tr pn xe) body (rdS X.K T W fb))
    (hsu : ∀ (a : Addr) (oe : Obj) (cls : Value) (d : Option Addr) (pn : List (Addr × Obj)), Zc cls d oe → (∃ vs, oe.data = .fields vs) → PSs (X.suite a ((a, oe) :: pn)) (b0 :: suite) (tRet (tLst (tXs (T.cls c) a cls d i xs)))) :
    PS X (.Try body [.ExceptHandler (some (.Name x np)) (some n) (b0 :: suite) pos'] [] [] pos) (rdS X.K T W (mTryL cs fb c i xs)) :=
  PS.imp (ps_try_as (ts := fun a cls d => tRet (tLst (tXs (T.cls c) a cls d i xs))) hs hfr hN hi hln hcN tk hb hsu) fun De σ H ⟨B, Γ, G, o, hf, s, k⟩ => by
    unfold mTryL at hf
    split at hf
    · rename_i c' d Γ' q
      refine ⟨B, Γ, G, _, q, s, fun dx v σ' G' H' s' hx r => ?_⟩
      split at hf
      · rename_i hcs
        rw [hat c' hcs] at hx
        refine ⟨_, hex c' hcs, fun hb a ha => ?_, fun hb => ?_⟩
        · have e : c' = c := of_decide_eq_true hb
          subst e
          rw [if_pos rfl] at hf
          split at hf
          · rename_i ho
            rw [Bool.and_eq_true, Bool.and_eq_true, decide_eq_true_eq, decide_eq_true_eq] at ho
            obtain ⟨ho, hlt⟩ := ho
            cases hf
            have hl : i < σ'.length := by rw [s'.len]; exact hlt
            refine tXs_ok (σ := σ'.set i (some (.ref a))) (set_here hl) ?_ r xs _ ho.1 fun vs rs => ⟨?_, fun p hp => ?_⟩
            · exact s'.gh _ _ hx
            · rw [rs.length, List.length_map]
              exact Nat.le_trans ho.2 (by decide)
            · exact k p vs σ' G' _ (s'.newH hp) (s'.gnone hp) upd_same rs (s'.hnone hp) fun j io es hj z => by
                obtain ⟨w, ys, h1, h2, h3, h4⟩ := s'.ow j io es hj
                rw [z] at h1
                cases h1
                rw [hp] at h3
                cases h3
          · cases hf
        · have e : c' ≠ c := of_decide_eq_false hb
          rw [if_neg e] at hf
          cases hf
          exact k dx v σ' G' H' s' (by rw [hat c' hcs]; exact hx) r
      · cases hf
    · rename_i o' hne
      refine ⟨B, Γ, G, _, hf, s, ?_⟩
      cases o with
      | nx Γ' => exact k
      | bk Γ' => exact k
      | ct Γ' => exact k
      | rt r Γ' => exact k
      | exc c' d Γ' => exact absurd hf (hne c' d Γ')
end
end Ky
/-! Ky25: defs that are called where nothing is being shown (repr); the law so. -/
namespace Ky
open PySem PySem.Spec PyProof.Rows L2

/-- as FnOk, where no display is under way -/
structure FnG (P : Program) (w : World) (K : PySem.W.Frag) (mg : Str → Option Value) (base : Heap) (CX : CXT) (k : Nat) (f : Addr) (fd : FuncData) (ps : List Str) (sp : Sp) : Prop where
  len : ∀ (vs : List V) (H : Hp) (Q : VK) (E : XK), sp vs H Q E → vs.length = ps.length
  run : ∀ (A : Around) (outer : List Env) (s : Shared) (H : Hp) (args : Args) (us : List Value) (vs : List V) (Q : VK) (E : XK),
      Room k A → A.guards = some [] → Env0 P w K mg base A outer s H → BindsTo s fd args (ps.zip us) → Vals vs us → sp vs H Q E → codeAny (model P w) A (Code.call (Value.ref f) args) (CR CX outer P w H s Q E) s
section
variable {P : Program} {w : World} {K : PySem.W.Frag} {mg : Str → Option Value} {base : Heap} {CX : CXT} {k : Nat} {f : Addr} {fd : FuncData} {ps N : List Str} {sp : Sp}
theorem fn_ofG {name qual : Str} {params : Arguments} {body : List Stmt} {scope : Scope} {dV kV doc pm cdv ct oc : Value} {an od : Option Addr} {osl : Array (Option Value)}
    (lk : List.lookup f K = some { cls := oc, dict := od, data := Data.func (PySem.W.fnOf name qual params body scope dV kV doc pm an cdv ct), slots := osl }) (hcd : PySem.W.codeIn K cdv qual = true) (S : FnScope N ps scope)
    (len : ∀ (vs : List V) (H : Hp) (Q : VK) (E : XK), sp vs H Q E → vs.length = ps.length)
    (hbody : ∀ (A : Around) (outer : List Env) (s : Shared) (H : Hp) (vs : List V) (Q : VK) (E : XK), Room k (A.deeper (envOfC qual scope s.heap.objs.size f cdv)) → A.guards = some [] → sp vs H Q E →
      ∃ t, PSs (cxOf CX P w K mg base N qual scope f cdv A outer s H E) body t ∧ t { nx := fun x H' => Q V.non H', rt := Q } (L2.start N vs) H) :
    FnG P w K mg base CX (k + 1) f (PySem.W.fnOf name qual params body scope dV kV doc pm an cdv ct) ps sp := by
  refine ⟨len, fun A outer s H args us vs Q E hr hg e0 hb r hsp => ?_⟩
  have hl := len vs H Q E hsp
  have KX := PySem.W.Frag.In.keeps e0.mod.kin fun b o e => (e0.bs b o e).left
  have lim := Heap.NoLimit.keeps e0.mod.nolimit fun b o e => (e0.bs b o e).left
  refine codeAny_call_function (Room.depth hr) (KX f _ lk) rfl S.co S.gen rfl (PySem.W.codeRec_of KX hcd) (hb (model P w) A.in1 _ _ (wpAny_newFunctionEnv_cells S.kind ?_ fun env he s1 x => ?_))
  · intro x hy
    obtain ⟨n, v⟩ := x
    exact (S.par n (List.of_mem_zip hy).left).elim (fun q => .inl q) fun q => .inr ⟨q, PySem.W.cellsFrom_some scope.names (s.heap.objs.size + 1) [] (.inl q)⟩
  · cases he
    refine ⟨Heap.NoLimit.keeps lim x.toInCall.keep, codeAny_func ?_⟩
    obtain ⟨t, ht, hq⟩ := hbody A outer s H vs Q E (Room.deeper hr (envOfC qual scope s.heap.objs.size f cdv)) hg hsp
    have I := inv_start (CX := CX) (E := E) S hr.hd e0 hl r x
    refine wpAny_mono (ht.run [] s1 (L2.start N vs) H { nx := fun x H' => Q V.non H', rt := Q } I hq) (fun fl s' hs => ?_) fun e s' hs => hs
    cases fl with
    | next =>
      obtain ⟨σ', H', J, q⟩ := hs
      exact ⟨V.non, H', J.os, J.bare, J.base, J.hok, rfl, q⟩
    | brk =>
      obtain ⟨_, _, _, q⟩ := hs
      exact q.elim
    | cont =>
      obtain ⟨_, _, _, q⟩ := hs
      exact q.elim
    | ret u =>
      obtain ⟨v, σ', H', J, rv, q⟩ := hs
      exact ⟨v, H', J.os, J.bare, J.base, J.hok, rv, q⟩
theorem okG {x qual : Str} {st : Stmt} (F : Fun K x qual st f fd) (S : FnScope N ps (defScope st)) (len : ∀ (vs : List V) (H : Hp) (Q : VK) (E : XK), sp vs H Q E → vs.length = ps.length)
    (hbody : ∀ (cdv : Value) (A : Around) (outer : List Env) (s : Shared) (H : Hp) (vs : List V) (Q : VK) (E : XK), Room k (A.deeper (envOfC qual (defScope st) s.heap.objs.size f cdv)) → A.guards = some [] → sp vs H Q E →
      ∃ t, PSs (cxOf (L2.CX P w) P w K mg base N qual (defScope st) f cdv A outer s H E) (defBody st) t ∧ t { nx := fun x H' => Q V.non H', rt := Q } (L2.start N vs) H) :
    FnG P w K mg base (L2.CX P w) (k + 1) f fd ps sp := by
  obtain ⟨oc, od, kV, doc, pm, an, cdv, ct, osl, rfl, lk, hcd⟩ := F.ex
  exact fn_ofG lk hcd S len fun A outer s H vs Q E hr hg hsp => hbody cdv A outer s H vs Q E hr hg hsp
end
section
variable {P : Program} {w : World} {K : PySem.W.Frag} {mg mb : Str → Option Value} {CX : CXT} {k : Nat} {fa a : Addr} {fd : FuncData} {x : Str} {sp : Sp} {s₁ : Shared} {vs : List Value} {ns : List Int}
theorem law_callG (KX : K.In s₁.heap) (hns : s₁.heap.Ns mainGlobals mg) (hb : s₁.heap.Ns builtinsNs mb) (hbb : ∀ (x : Str), x ≠ Str.ofString "__name__" → mb x = bootBuiltins x) (hlim : s₁.heap.NoLimit) (hg : s₁.gens = #[])
    (ha : s₁.heap.get? a = some { cls := Value.type "list", data := Data.seq vs.toArray }) (hi : IntsAre vs ns) (hl : ns.length ≤ sizeLine) (hr : Room k callerA)
    (F : ∀ (base : Heap), K.In base → base.Ns mainGlobals mg → FnG P w K mg base CX k fa fd [x] sp) (hbind : ∀ (s : Shared) (u : Value), BindsTo s fd { pos := [u] } [(x, u)])
    (hsp : ∀ (H : Hp), Only H → SqL K H a (List.map V.int ns) → sp [V.ref a] H (fun v x => v = V.bl true) fun x x_1 x_2 => False)
    (hCX : ∀ (H : Hp) (e : Value) (s' : Shared), CX [] H s₁ (fun x x_1 x_2 => False) e s' → False) :
    codeAny (model P w) callerA (Code.call (Value.ref fa) { pos := [Value.ref a] }) (fun r s' => r = Except.ok (Flow.ret (Value.bool true)) ∧ OldK s₁.heap s'.heap ∧ s'.os = s₁.os ∧ AllBare s'.gens) s₁ := by
  have rv := vals_ints hi
  have lenV := IntsAre.length hi
  have core : ∀ (H : Hp), Only H → SqL K H a (ns.map V.int) → HOk P w H s₁.heap → (∀ b, H b ≠ none → b = a) → (H a ≠ none → List.lookup a K = none) →
      codeAny (model P w) callerA (Code.call (Value.ref fa) { pos := [Value.ref a] }) (fun r s' => r = Except.ok (Flow.ret (Value.bool true)) ∧ OldK s₁.heap s'.heap ∧ s'.os = s₁.os ∧ AllBare s'.gens) s₁ := by
    intro H hO hS hok hA hK
    have there : ∀ {b : Addr} {u : HO}, H b = some u → b = a := fun {b u} q => hA b (by rw [q]; intro z; cases z)
    have base_of : ∀ {b : Addr} {o : Obj}, s₁.heap.get? b = some o → H b = none → (hidT s₁.heap H).get? b = some o := fun {b o} e n => hidT_get e n
    have noA : ∀ {b : Addr} {o : Obj} {es : Array DictEntry} {ep : Nat}, s₁.heap.get? b = some o → o.data = Data.dict es ep → H b = none := fun {b o es ep} e d => by
      cases q : H b with
      | none => rfl
      | some u =>
        have e' := there q
        subst e'
        rw [ha] at e
        cases e
        cases d
    have nsK : ∀ {b : Addr} {m : Str → Option Value}, s₁.heap.Ns b m → (hidT s₁.heap H).Ns b m := fun {b m} ⟨o, es, ep, e, d, r⟩ => ⟨o, es, ep, base_of e (noA e d), d, r⟩
    have hKb : K.In (hidT s₁.heap H) := fun b o e => base_of (KX b o e) (by
      cases q : H b with
      | none => rfl
      | some u =>
        have e' := there q
        subst e'
        rw [hK (by rw [q]; intro z; cases z)] at e
        cases e)
    obtain ⟨mc, l1, l2⟩ := hlim
    have hM : L2.Mod K mg (hidT s₁.heap H) := { kin := hKb, glob := nsK hns, blt := ⟨mb, nsK hb, hbb⟩, nolimit := ⟨mc, nsK l1, l2⟩ }
    have e0 : Env0 P w K mg (hidT s₁.heap H) callerA [] s₁ H := { frames := rfl, mod := hM, bs := fun b o e => of_hidT e, bsz := Nat.le_of_eq (hidT_size s₁.heap H), funs := trivial, frf := fun b hb => absurd (show b ∈ ([] : List Addr) from hb) (by simp), hok := hok, bare := AllBare.of_eq hg }
    refine codeAny_mono ((F _ hKb (nsK hns)).run callerA [] s₁ H ⟨[.ref a], []⟩ [.ref a] [V.ref a] (fun v x => v = V.bl true) (fun _ _ _ => False) hr rfl e0 (hbind s₁ (.ref a)) (.cons rfl .nil) (hsp H hO hS)) fun r s' h => ?_
    match r, h with
    | .error e, h => exact (hCX H e s' h).elim
    | .ok .next, h => exact h.elim
    | .ok .brk, h => exact h.elim
    | .ok .cont, h => exact h.elim
    | .ok (.ret u), h =>
      obtain ⟨v, H', os, bare, un, hok', r', q⟩ := h
      have q : v = V.bl true := q
      subst q
      obtain rfl : u = .bool true := r'
      refine ⟨rfl, OldK.of_keep fun b o e => ?_, os, bare⟩
      cases q : H b with
      | none => exact un.keep b o e q (fun z => absurd (show b ∈ ([] : List Addr) from z) (by simp)) (by simp)
      | some u =>
        rcases hO b with z | ⟨ob, xs, z⟩
        · rw [q] at z
          cases z
        · have z2 := un.frzs b ob (.lst xs) z
          obtain ⟨e1, _⟩ := hok b _ z
          obtain ⟨e2, _⟩ := hok' b _ z2
          rw [e] at e1
          cases e1
          exact e2
  have hsz : vs.toArray.size ≤ sizeLine := by
    rw [List.size_toArray]
    omega
  cases hk : List.lookup a K with
  | none =>
    refine core (fun b => if b = a then some (.frz { cls := Value.type "list", data := Data.seq vs.toArray } (.lst (ns.map V.int))) else none) (fun b => ?_) (.inl (.inr ⟨_, if_pos rfl⟩)) (fun b u z => ?_) (fun b hb => ?_) (fun _ => hk)
    · by_cases hb : b = a
      · exact .inr ⟨_, _, if_pos hb⟩
      · exact .inl (if_neg hb)
    · dsimp only at z
      by_cases hb : b = a
      · subst hb
        rw [if_pos rfl] at z
        cases z
        exact ⟨ha, by rw [List.length_map]; exact hl, vs, 0, rv, ha⟩
      · rw [if_neg hb] at z
        cases z
    · by_cases h : b = a
      · exact h
      · rw [if_neg h] at hb
        exact absurd rfl hb
  | some o =>
    have e := KX a o hk
    rw [ha] at e
    cases e
    refine core (fun _ => none) (fun b => .inl rfl) (.inr ⟨_, vs.toArray, 0, hk, rfl, rfl, rfl, hsz, rv⟩) (fun b u z => by cases z) (fun b hb => absurd rfl hb) (fun z => absurd rfl z)
theorem walkG {l : PySem.W.OpenLaw} {n k : Nat} {q : Program} {loose : List Str} {XP : (Str → Option Value) → Heap → Prop} {YP : World → Heap → Prop} {d : DefRec} {K : Params → PySem.W.Frag} {CX : World → CXT} {sp : World → Sp} {x : Str}
    (hn : l.most = some n) (hn2 : n ≤ sizeLine) (hdf : d.params.defaults = []) (hr : Room k callerA) (hY : ∀ (w : World) (h : Heap), YP w h → (K w.params).In h)
    (F : ∀ (w : World) (mg : Str → Option Value) (fa : Addr) (h : Heap), (K w.params).In h → h.Ns mainGlobals mg → mg d.name = some (Value.ref fa) →
      ∃ fd, (∀ (s : Shared) (u : Value), BindsTo s fd { pos := [u] } [(x, u)]) ∧ ∀ (base : Heap), (K w.params).In base → base.Ns mainGlobals mg → FnG l.prog w (K w.params) mg base (CX w) k fa fd [x] (sp w))
    (hsp : ∀ (w : World) (H : Hp) (a : Addr) (ns : List Int), ns.length ≤ n → Only H → SqL (K w.params) H a (List.map V.int ns) → sp w [V.ref a] H (fun v x => v = V.bl true) fun x x_1 x_2 => False)
    (hCX : ∀ (w : World) (H : Hp) (s : Shared) (e : Value) (s' : Shared), CX w [] H s (fun x x_1 x_2 => False) e s' → False) :
    PySem.W.WalkO q loose XP YP l.row.toRowW d [] fun f vs => call f vs :=
  Att.attach_call hn hdf fun w s₀ s₁ mg mb fa o pm cd doc a vs ns G Y ho hd hcd hmg hobj hints hlen hg => by
    have KX := hY w s₁.heap Y
    obtain ⟨fd, hb, hF⟩ := F w mg fa s₁.heap KX G.T.g hmg
    exact law_callG KX G.T.g G.T.b G.T.builtins G.T.nolimit hg hobj hints (Nat.le_trans hlen hn2) hr hF hb (fun H hO hS => hsp w H a ns hlen hO hS) fun H e s' => hCX w H s₁ e s'
end
end Ky
/-! Ky26: repr, {}, a + b of lists, [..].index(x) of any data, xs.pop(), text.upper(), list(range(n)). -/
namespace Ky
open PySem PySem.Spec PyProof.Rows L2

/-! ### repr -/
section
variable {X : Cx}
theorem reads_dict0 {pins : List (Addr × Obj)} {σ : L2.St} {H : Hp} {s : Shared} (I : L2.Inv X pins σ H s) {a : Addr} (h : H a = some (.dK [])) : Reads s.heap (.ref a) (.dict []) [a] ∧ (a == sysModules) = false := by
  obtain ⟨_, hne, vs, kv, o, es, ep, ho, hx, hd, _, pr, _⟩ := I.hok a _ h
  have e0 : vs = [] := by
    cases kv
    rfl
  subst e0
  have es0 : es.toList = [] := by
    cases hl : es.toList with
    | nil => rfl
    | cons x r =>
      rw [hl] at pr
      cases pr
  refine ⟨?_, hne⟩
  exact .dict (kvs := []) (as := []) (bs := []) ho hx.1 hd (by rw [es0]; exact .nil) (by rw [es0]; exact .nil)
def rRepr (K : PySem.W.Frag) : RN := fun vs H Q => ∃ x, vs = [x] ∧ ((∃ d, Dp K H x d ∧ d.showable = true ∧ d.hasDict = false ∧ d.depth ≤ 60 ∧ d.shown.length ≤ sizeLine ∧ (∀ i, d = .int i → i.natAbs.log2 < 1920) ∧ Q (.str d.shown) H) ∨ ∃ a, x = .ref a ∧ H a = some (.dK []) ∧ Q (.str (PyData.shown (.dict []))) H)
theorem cr_repr (hg : X.A.guards = some []) (hu : X.A.units + 65 < cLine) : CallR X (.builtin "repr") (rRepr X.K) := by
  intro pins s σ H vs us Q I r h
  obtain ⟨x, rfl, h⟩ := h
  cases r with
  | cons rx rn =>
    cases rn
    rename_i u
    rcases h with ⟨d, hd, h1, h2, h3, h4, h5, q⟩ | ⟨a, rfl, ha, q⟩
    · have fin : ∀ {a : Addr}, u = .ref a → wpAny (model X.prog X.w) X.A (call (.builtin "repr") [u]) (EP X pins σ Q) X.xe s := fun {a} e => by
        obtain ⟨as, R⟩ := Dp.reads I d x u hd rx
        subst e
        exact repr_of_reads' R h1 (fun z => by rw [h2] at z; cases z) hg (by omega) (fun _ _ e => e) (fun h' t tk hk => ⟨.str d.shown, H, I.kept hk, ⟨_, rfl⟩, q⟩) h4
      cases hd with
      | non =>
        cases rx
        exact P.repr_of_none ⟨.str _, H, I.tok _, ⟨_, rfl⟩, q⟩
      | bl b =>
        cases rx
        exact P.repr_of_bool ⟨.str _, H, I.tok _, ⟨_, rfl⟩, q⟩
      | int i =>
        obtain ⟨t, rfl⟩ := rx
        exact P.repr_of_int (h5 i rfl) ⟨.str _, H, I.tok _, ⟨_, rfl⟩, q⟩
      | str z =>
        obtain ⟨t, rfl⟩ := rx
        exact P.repr_of_str ⟨.str _, H, I.tok _, ⟨_, rfl⟩, q⟩ h4
      | lst _ _ => exact fin rx
      | tup _ _ => exact fin rx
    · obtain rfl : u = .ref a := rx
      obtain ⟨R, hne⟩ := reads_dict0 I ha
      exact repr_of_reads' R (by decide +kernel) (fun _ z => by
        have e : sysModules = a := by simpa using z
        subst e
        simp at hne) hg (by
          show X.A.units + (PyData.depth (.dict []) + 1) < cLine
          have : PyData.depth (.dict []) ≤ 60 := by decide +kernel
          omega) (fun _ _ e => e) (fun h' t tk hk => ⟨.str _, H, I.kept hk, ⟨_, rfl⟩, q⟩) (by show _ ≤ sizeLine; rw [sizeLine_eq]; decide +kernel)
end
section
variable {K : PySem.W.Frag} {T : Tbl}
def intR : PyData → Bool
  | .int i => decide (i.natAbs.log2 < 1920)
  | _ => true
def okR (x : PyData) : Bool := x.showable && !x.hasDict && decide (x.depth ≤ 60) && decide (x.shown.length ≤ 100000) && intR x
def reprD : D → Option Str
  | .dic => some (PyData.shown (.dict []))
  | d => (match toPy d with
    | some x => if okR x then some x.shown else none
    | none => none)
def bRepr : List D → Option D
  | [d] => (match reprD d with
    | some z => some (.str z)
    | none => none)
  | _ => none
theorem ok_repr : OkN K T (rRepr K) bRepr := by
  intro ds d vs G H q e r Q k
  match ds, q with
  | [d1], q =>
    obtain ⟨v, rfl, rv⟩ := r.one
    have q : (match reprD d1 with | some z => some (D.str z) | none => none) = some d := q
    split at q
    · rename_i z w
      cases q
      refine ⟨v, rfl, ?_⟩
      have kk := k _ G H (.inl ⟨rfl, rfl⟩) (.str z)
      have gen : ∀ x, toPy d1 = some x → (if okR x then some x.shown else none) = some z →
          (∃ d, Dp K H v d ∧ d.showable = true ∧ d.hasDict = false ∧ d.depth ≤ 60 ∧ d.shown.length ≤ sizeLine ∧ (∀ i, d = .int i → i.natAbs.log2 < 1920) ∧ Q (.str d.shown) H) := fun x hx hz => by
        by_cases c : okR x = true
        · rw [if_pos c] at hz
          cases hz
          unfold okR at c
          simp only [Bool.and_eq_true, decide_eq_true_eq, Bool.not_eq_true'] at c
          obtain ⟨⟨⟨⟨c1, c2⟩, c3⟩, c4⟩, c5⟩ := c
          refine ⟨x, rv.dp e hx, c1, c2, c3, Nat.le_trans c4 (show (100000 : Nat) ≤ sizeLine by decide), fun i ei => ?_, kk⟩
          subst ei
          exact of_decide_eq_true c5
        · rw [if_neg c] at hz
          cases hz
      cases d1 with
      | dic =>
        cases rv with
        | rp rv =>
          cases rv with
          | dic hd =>
            cases w
            exact .inr ⟨_, rfl, e _ _ hd, kk⟩
      | _ =>
        unfold reprD at w
        dsimp only at w
        split at w
        · rename_i x hx
          exact .inl (gen x hx w)
        · cases w
    · cases q
end
/-! ### {} -/
def mDic : ME := fun Γ => some (.ok .dic Γ)
section
variable {X : Cx} {T : Tbl} {W : WX} {e e2 : Expr} {pos ap cp : Pos} {i : Nat} {x : Str} {p : Pos}
theorem je_dic : PE X (.Dict [] [] pos) (rd X.K T W mDic) := PE.imp pe_dnewK fun σ H Q ⟨B, Γ, G, o, hf, s, k⟩ => by
  cases hf
  intro p hp
  exact k _ _ _ (s.new hp) (Same.new (s.gnone hp)) (.dic upd_same)
/-! ### a + b, lists -/
theorem add_any {prog : Program} {w : World} {A : Around} {E : Value → Shared → Prop} {s : Shared} {l b : Addr} {xs ys : Array Value} {Q : Value → Shared → Prop} (h1 : s.heap.IsList l xs) (h2 : s.heap.IsList b ys) (hz : xs.size + ys.size ≤ sizeLine)
    (k : Q (.ref s.heap.objs.size) { s with heap := s.heap.push { cls := .type "list", data := .seq (xs ++ ys) } }) : wpAny (model prog w) A (binaryOp .Add (.ref l) (.ref b)) Q E s := by
  have t1 : s.TypeIs (.ref l) "list" := by
    obtain ⟨o, ho, hc, _⟩ := h1
    exact ⟨o, ho, hc⟩
  have t2 : s.TypeIs (.ref b) "list" := by
    obtain ⟨o, ho, hc, _⟩ := h2
    exact ⟨o, ho, hc⟩
  have M : Meets (Builtin.«list.__add__» ⟨[.ref l, .ref b], []⟩) (fun _ R s => s.heap.IsList l xs ∧ s.heap.IsList b ys ∧ xs.size + ys.size ≤ sizeLine ∧ R (.ok (.ret (.ref s.heap.objs.size))) { s with heap := s.heap.push { cls := .type "list", data := .seq (xs ++ ys) } }) :=
    .of_wp fun prog w A R s h => by
      obtain ⟨hp, g, d, tk, os⟩ := s
      obtain ⟨h1, h2, hz, h⟩ := h
      obtain ⟨⟨c1, d1, x1, z1⟩, ho1, hc1, n1, hd1⟩ := h1
      obtain ⟨⟨c2, d2, x2, z2⟩, ho2, hc2, n2, hd2⟩ := h2
      simp only at hc1 hd1 hc2 hd2
      subst hc1 hd1 hc2 hd2
      have sub : isSubtype (.type "list") (.type "list") = pure true := rfl
      have lp1 := ho1
      have lp2 := ho2
      unfold Builtin.«list.__add__»
      wp_walk using AutoSeq1.wpAny_loadPart' lp1, AutoSeq1.wpAny_loadPart' lp2
      exact ⟨_, rfl, h⟩
  exact concat_meets t1 t2 rfl rfl F.slot_list_add F.entry_list_add (F.args_list_add_2 _ _) M ⟨h1, h2, hz, k⟩
def rCatL (K : PySem.W.Frag) : R2 := fun x y H Q => ∃ a b xs ys, x = .ref a ∧ y = .ref b ∧ SqL K H a xs ∧ SqL K H b ys ∧ xs.length + ys.length ≤ sizeLine ∧ ∀ p, H p = none → Q (.ref p) (upd H p (.lst (xs ++ ys)))
theorem op_catL : OpR X (binaryOp .Add) (rCatL X.K) := by
  intro pins s σ H x y v u Q I rx ry h
  obtain ⟨a, b, xs, ys, rfl, rfl, ha, hb, hz, k⟩ := h
  obtain rfl : v = .ref a := rx
  obtain rfl : u = .ref b := ry
  obtain ⟨its, r1, p1, z1⟩ := I.list ha
  obtain ⟨its2, r2, p2, z2⟩ := I.list hb
  have l1 := r1.length
  have l2 := r2.length
  refine add_any p1.isList p2.isList (by simp; omega) ?_
  have hn := I.hok.fresh (Nat.le_refl s.heap.objs.size)
  refine ⟨.ref s.heap.objs.size, _, Inv.laid (o := .lst (xs ++ ys)) I (fun c o e => Heap.get?_push_of_some _ e) (Nat.le_refl _) ⟨by rw [List.length_append]; exact hz, its ++ its2, 0, r1.append r2, ?_⟩, rfl, k _ hn⟩
  rw [Heap.get?_push_size _ rfl]
  simp
def oCat : D → D → Option (List D)
  | .lst a, .lst b => if a.length + b.length ≤ 100000 then some (a ++ b) else none
  | _, _ => none
theorem ok_cat {K : PySem.W.Frag} : Ok2L K T (rCatL K) oCat := by
  intro d1 d2 ds x y G H q e rx ry Q k
  cases d1 <;> cases d2 <;> try cases q
  rename_i as bs
  have q : (if as.length + bs.length ≤ 100000 then some (as ++ bs) else none) = some ds := q
  split at q
  · rename_i hl
    cases q
    obtain ⟨p1, xs, rfl, h1, r1⟩ := rx.lst e
    obtain ⟨p2, ys, rfl, h2, r2⟩ := ry.lst e
    exact ⟨p1, p2, xs, ys, rfl, rfl, h1, h2, by rw [r1.length, r2.length]; exact Nat.le_trans hl (by decide), fun p hp => k p _ hp (r1.append r2)⟩
  · cases q
/-! ### [..].index(x) -/
def findP (x : PyData) : List PyData → Nat → Option Nat
  | [], _ => none
  | y :: r, i => if PyData.eqv y x then some i else findP x r (i + 1)
theorem findP_ok {x : PyData} : ∀ {l : List PyData} {i j : Nat}, findP x l i = some j → ∃ k, j = i + k ∧ (∃ z, l[k]? = some z ∧ z.eqv x = true) ∧ ∀ (m : Nat) z, m < k → l[m]? = some z → z.eqv x = false
  | [], i, j, h => nomatch h
  | y :: r, i, j, h => by
    unfold findP at h
    by_cases e : y.eqv x = true
    · rw [if_pos e] at h
      cases h
      exact ⟨0, rfl, ⟨y, rfl, e⟩, fun m z hm => by omega⟩
    · rw [if_neg e] at h
      obtain ⟨k, h1, ⟨z, h2, h3⟩, h4⟩ := findP_ok h
      refine ⟨k + 1, by omega, ⟨z, by simpa using h2, h3⟩, fun m z' hm hz => ?_⟩
      cases m with
      | zero =>
        simp at hz
        subst hz
        simpa using e
      | succ m => exact h4 m z' (by omega) (by simpa using hz)
def mIndexD (g : ME) (f : ME) : ME := fun Γ => match g Γ with
  | some (.ok d1 Γ1) => (match f Γ1 with
    | some (.ok d2 Γ2) => (match toPy d1, toPy d2 with
      | some (.list xs), some x => if SeqAt.shaped (.list xs) && SeqAt.shaped x then (match findP x xs 0 with
        | some j => some (.ok (.int (j : Nat)) Γ2)
        | none => none) else none
      | _, _ => none)
    | _ => none)
  | some (.exc c d Γ') => some (.exc c d Γ')
  | none => none
theorem je_indexD {g f : ME} (hu : X.A.units + 65 < cLine) (hx : PE X e (rd X.K T W g)) (he : PE X e2 (rd X.K T W f)) (hbase : attributeBase e "index" X.env (eval e X.env) = eval e X.env := by rfl)
    (hfew : ((backTo cp (starEach [e2] X.env)).all (fun x => !x.1) && (backToKw cp (keywordEach [] X.env)).all (fun x => x.1.isSome)
      && decide ([e2].length + ([] : List Keyword).length + (if ([] : List Keyword).isEmpty then 0 else 1) < 30)) = true := by rfl)
    (hline : (ap.endLine == cp.line) = true := by rfl) (hst : starEach [e2] X.env = (false, eval e2 X.env) :: starEach [] X.env := by rfl) :
    PE X (.Call (.Attribute e "index" ap) [e2] [] cp) (rd X.K T W (mIndexD g f)) :=
  PE.imp (pe_bm PySem.F.plainAttrs_list PySem.F.slot_list_index PySem.F.type_list_index (mt_indexD hu) hx (pa_cons he pa_nil hst) hbase hfew hline hst) fun σ H Q ⟨B, Γ, G, o, hf, s, k⟩ => by
    unfold mIndexD at hf
    split at hf
    · rename_i d1 Γ1 q1
      refine ⟨B, Γ, G, _, q1, s, fun v1 G1 H1 s1 g1 r1 => ?_⟩
      split at hf
      · rename_i d2 Γ2 q2
        split at hf
        · rename_i xs x w1 w2
          split at hf
          · rename_i hs
            rw [Bool.and_eq_true] at hs
            split at hf
            · rename_i j w3
              cases hf
              obtain ⟨kk, e0, ⟨z, h2, h3⟩, h4⟩ := findP_ok w3
              have e0 : j = kk := by omega
              subst e0
              have dp1 := Rp.dp s1.gh _ _ _ r1 w1
              cases dp1 with
              | lst sq ra =>
                rename_i a vs
                refine ⟨.inl ⟨rfl, _, sq⟩, B, Γ1, G1, _, q2, s1, fun v2 G2 H2 s2 g2 r2 => ?_⟩
                have dp2 := Rp.dp s2.gh _ _ _ (r1.to g2) w1
                exact ⟨a, v2, x, xs, j, z, rfl, rfl, dp2, Rp.dp s2.gh _ _ _ r2 w2, hs.1, hs.2, h2, h3, h4, k _ G2 H2 s2 (g1.trans g2) (.int _)⟩
            · cases hf
          · cases hf
        · cases hf
      · cases hf
    · rename_i c d Γ' q1
      cases hf
      exact ⟨B, Γ, G, _, q1, s, k⟩
    · cases hf
/-! ### xs.pop() -/
def mPopL (i : Nat) : ME := fun Γ => match Γ[i]? with
  | some (.own io ds) => (match ds[ds.length - 1]? with
    | some d => some (.ok d (Γ.set i (.own io ds.dropLast)))
    | none => none)
  | _ => none
theorem RpA.dropLast {K : PySem.W.Frag} {G : Hp} {vs : List V} {ds : List D} (r : RpA K T G vs ds) : RpA K T G vs.dropLast ds.dropLast := by
  rw [List.dropLast_eq_take, List.dropLast_eq_take, r.length]
  exact r.take _
theorem je_popL (hx : PE X (.Name x p) (tVar i)) (hbase : attributeBase (.Name x p) "pop" X.env (eval (.Name x p) X.env) = eval (.Name x p) X.env := by rfl) (hline : (ap.endLine == cp.line) = true := by rfl) :
    PE X (.Call (.Attribute (.Name x p) "pop" ap) [] [] cp) (rd X.K T W (mPopL i)) :=
  PE.imp (pe_bm0 PySem.F.plainAttrs_list PySem.F.slot_list_pop PySem.F.type_list_pop mt_pop hx hbase hline) fun σ H Q ⟨B, Γ, G, o, hf, s, k⟩ => by
    unfold mPopL at hf
    split at hf
    · rename_i io ds q
      split at hf
      · rename_i d q2
        cases hf
        obtain ⟨p, xs, h1, h2, h3, h4, h5, h6⟩ := s.ow i _ _ q
        obtain ⟨y, y1, y2⟩ := h4.get q2
        refine ⟨_, h1, .inl ⟨rfl, _, SqL.of h3⟩, p, xs, y, rfl, rfl, h3, by rw [h4.length]; exact y1, k y G _ (s.mut q h1 h4.dropLast) (Same.refl G) y2⟩
      · cases hf
    · cases hf
/-! ### text.upper() -/
def mUpper (f : ME) : ME := fun Γ => match f Γ with
  | some (.ok (.str z) Γ') => if z.length ≤ 100000 then some (.ok (.str (Txt.upper z)) Γ') else none
  | some (.exc c d Γ') => some (.exc c d Γ')
  | _ => none
theorem je_upper {f : ME} (hx : PE X e (rd X.K T W f)) (hbase : attributeBase e "upper" X.env (eval e X.env) = eval e X.env := by rfl) (hline : (ap.endLine == cp.line) = true := by rfl) :
    PE X (.Call (.Attribute e "upper" ap) [] [] cp) (rd X.K T W (mUpper f)) :=
  PE.imp (pe_bm0 PySem.F.plainAttrs_str PySem.F.slot_str_upper PySem.F.type_str_upper mt_upper hx hbase hline) fun σ H Q ⟨B, Γ, G, o, hf, s, k⟩ => by
    unfold mUpper at hf
    split at hf
    · rename_i z Γ' q
      split at hf
      · rename_i hl
        cases hf
        refine ⟨B, Γ, G, _, q, s, fun v G' H' s' g r => ?_⟩
        cases r
        exact ⟨rfl, z, rfl, rfl, Nat.le_trans hl (by decide), k _ G' H' s' g (.str _)⟩
      · cases hf
    · rename_i c d Γ' q
      cases hf
      exact ⟨B, Γ, G, _, q, s, k⟩
    · cases hf
end
end Ky
/-! Ky27: cells made and changed; list(range(n)); a def where nothing is shown, by its plain meaning. -/
namespace Ky
open PySem PySem.Spec PyProof.Rows L2

section
variable {K : PySem.W.Frag} {T : Tbl} {W : WX} {B : Bg} {Γ : Ev} {σ : L2.St} {G H : Hp} {De : Ends}
/-- a list of one's own becomes a cell -/
theorem Sat.cnew (s : Sat K T B Γ σ G H) {p : Addr} {xs : List V} {ds : List D} (hg : G p = none) (hp : H p = some (.lst xs)) (r : RpA K T G xs ds) (h0 : B.H0 p = none) (hn : ∀ (j : Nat) io es, Γ[j]? = some (SC.own io es) → σ[j]? ≠ some (some (V.ref p))) :
    Sat K T B ⟨Γ.v, Γ.c ++ [ds]⟩ σ (upd G p (mk0 Γ.c.length)) H := by
  have sg : Same G (upd G p (mk0 Γ.c.length)) := Same.new hg
  have mark : ∀ {a k}, upd G p (mk0 Γ.c.length) a = some (mk0 k) → (a = p ∧ k = Γ.c.length) ∨ (a ≠ p ∧ G a = some (mk0 k)) := fun {a k} h => by
    by_cases ha : a = p
    · subst ha
      rw [upd_same] at h
      cases h
      exact .inl ⟨rfl, rfl⟩
    · rw [upd_ne ha] at h
      exact .inr ⟨ha, h⟩
  refine ⟨s.g0.trans sg, fun a u e => ?_, s.fr, s.al, fun a u e => ?_, s.len, fun j d h => ?_, fun j io es h => ?_, s.pr, ⟨fun k es e => ?_, fun a b k h1 h2 => ?_, fun a k h => ?_⟩, s.dj⟩
  · by_cases ha : a = p
    · subst ha
      rw [upd_same] at e
      cases e
      exact ⟨xs, hp⟩
    · rw [upd_ne ha] at e
      exact s.gh _ _ e
  · by_cases ha : a = p
    · subst ha
      exact .inr h0
    · rw [upd_ne ha] at e
      exact s.nw a u e
  · obtain ⟨v, h1, h2⟩ := s.dt j d h
    exact ⟨v, h1, h2.to sg⟩
  · obtain ⟨q, ys, h1, h2, h3, h4, h5⟩ := s.ow j io es h
    have hq : q ≠ p := by
      rintro rfl
      exact hn j io es h h1
    exact ⟨q, ys, h1, by rw [upd_ne hq]; exact h2, h3, h4.to sg, h5⟩
  · by_cases hk : k < Γ.c.length
    · have e' : Γ.c[k]? = some es := by
        have e : (Γ.c ++ [ds])[k]? = some es := e
        rwa [List.getElem?_append_left hk] at e
      obtain ⟨q, ys, h1, h2, h3, h4⟩ := s.cl.ce k es e'
      have hq : q ≠ p := ne_of_none h1 hg
      exact ⟨q, ys, sg _ _ h1, h2, h3.to sg, h4⟩
    · have e : (Γ.c ++ [ds])[k]? = some es := e
      rw [List.getElem?_append_right (by omega)] at e
      have k0 : k - Γ.c.length = 0 := by
        have := (List.getElem?_eq_some_iff.mp e).1
        simp at this
        omega
      rw [k0] at e
      cases e
      have kk : k = Γ.c.length := by omega
      subst kk
      exact ⟨p, xs, upd_same, hp, r.to sg, .inr h0⟩
  · rcases mark h1 with ⟨ea, e1⟩ | ⟨n1, m1⟩
    · rcases mark h2 with ⟨eb, _⟩ | ⟨n2, m2⟩
      · rw [ea, eb]
      · have := s.cl.gn _ _ m2
        omega
    · rcases mark h2 with ⟨eb, e2⟩ | ⟨n2, m2⟩
      · have := s.cl.gn _ _ m1
        omega
      · exact s.cl.gi a b k m1 m2
  · show k < (Γ.c ++ [ds]).length
    rw [List.length_append]
    rcases mark h with ⟨_, e1⟩ | ⟨_, h⟩
    · simp
      omega
    · have := s.cl.gn _ _ h
      simp
      omega
/-- a cell is changed -/
theorem Sat.cmut (s : Sat K T B Γ σ G H) {k : Nat} {p : Addr} {ys : List V} {es : List D} (hg : G p = some (mk0 k)) (r : RpA K T G ys es) : Sat K T B ⟨Γ.v, Γ.c.set k es⟩ σ G (upd H p (.lst ys)) := by
  have hk := s.cl.gn _ _ hg
  obtain ⟨p', xs', q1, q2, q3, q4⟩ := s.cl.ce k _ (List.getElem?_eq_getElem hk)
  have e0 := s.cl.gi _ _ _ q1 hg
  subst e0
  refine ⟨s.g0, fun a u e => ?_, fun a o e m => ?_, fun a o e => ?_, s.nw, s.len, s.dt, fun j io fs h => ?_, s.pr, ⟨fun j fs e => ?_, s.cl.gi, fun a j h => ?_⟩, s.dj⟩
  · by_cases ha : a = p'
    · subst ha
      rw [hg] at e
      cases e
      exact ⟨ys, upd_same⟩
    · rw [upd_ne ha]
      exact s.gh _ _ e
  · have hne : a ≠ p' := by
      rintro rfl
      rcases q4 with z | z
      · exact m z
      · rw [z] at e
        cases e
    rw [upd_ne hne]
    exact s.fr a o e m
  · by_cases ha : a = p'
    · subst ha
      exact ⟨_, upd_same⟩
    · rw [upd_ne ha]
      exact s.al a o e
  · obtain ⟨q, zs, h1, h2, h3, h4⟩ := s.ow j io fs h
    have hq : q ≠ p' := fun z => by
      rw [z, hg] at h2
      cases h2
    exact ⟨q, zs, h1, h2, by rw [upd_ne hq]; exact h3, h4⟩
  · have e : (Γ.c.set k es)[j]? = some fs := e
    rcases getl_set e with ⟨rfl, rfl, _⟩ | ⟨hn, e⟩
    · exact ⟨p', ys, hg, upd_same, r, q4⟩
    · obtain ⟨q, zs, h1, h2, h3, h4⟩ := s.cl.ce j fs e
      have hq : q ≠ p' := fun z => by
        rw [z, hg] at h1
        cases h1
        exact hn rfl
      exact ⟨q, zs, h1, by rw [upd_ne hq]; exact h2, h3, h4⟩
  · show j < (Γ.c.set k es).length
    rw [List.length_set]
    exact s.cl.gn a j h
def mCel (f : ML) : ME := fun Γ => match f Γ with
  | some (.ok ds Γ') => some (.ok (.cel Γ'.c.length) ⟨Γ'.v, Γ'.c ++ [ds]⟩)
  | some (.exc c d Γ') => some (.exc c d Γ')
  | none => none
theorem rd_cel {f : ML} {Q : VK} (h : rd K T W (mCel f) σ H Q) : rdL K T W f σ H Q := by
  obtain ⟨B, Γ, G, o, hf, s, k⟩ := h
  unfold mCel at hf
  split at hf
  · rename_i ds Γ' q
    cases hf
    refine ⟨B, Γ, G, _, q, s, fun p xs G' H' s' g hg hp r h0 hn => ?_⟩
    exact k _ _ _ (s'.cnew hg hp r h0 hn) (g.trans (Same.new hg)) (.cel upd_same)
  · rename_i c d Γ' q
    cases hf
    exact ⟨B, Γ, G, _, q, s, k⟩
  · cases hf
/-- x.insert(j, d), x a cell -/
def mCIns (g : ME) (i f : ME) : MS := fun Γ => match g Γ with
  | some (.ok (.cel k) Γ1) => (match i Γ1 with
    | some (.ok (.int j) Γ2) => (match f Γ2 with
      | some (.ok d Γ3) => (match Γ3.c[k]? with
        | some ds => if 0 ≤ j ∧ small62 j = true ∧ ds.length < 100000 then some (.nx ⟨Γ3.v, Γ3.c.set k (ds.take j.toNat ++ [d] ++ ds.drop j.toNat)⟩) else none
        | none => none)
      | _ => none)
    | _ => none)
  | _ => none
def rIns : V → List V → Hp → VK → Prop := fun x vs H Q =>
    ∃ l xs i y, x = V.ref l ∧ vs = [V.int i, y] ∧ H l = some (HO.lst xs) ∧ xs.length < sizeLine ∧ 0 ≤ i ∧ i < 2 ^ 63 ∧ Q V.non (upd H l (HO.lst (List.take i.toNat xs ++ [y] ++ List.drop i.toNat xs)))
end
section
variable {X : Cx} {T : Tbl} {W : WX} {e e1 e2 : Expr} {es : List Expr} {pos ap cp p p2 p3 : Pos} {i : Nat}
theorem je_cel {f : ML} (h : PE X e (rdL X.K T W f)) : PE X e (rd X.K T W (mCel f)) := PE.imp h fun σ H Q q => rd_cel q
theorem js_cins {g i f : ME} (hx : PE X e (rd X.K T W g)) (hi : PE X e1 (rd X.K T W i)) (he : PE X e2 (rd X.K T W f)) (hbase : attributeBase e "insert" X.env (eval e X.env) = eval e X.env := by rfl)
    (hfew : ((backTo cp (starEach [e1, e2] X.env)).all (fun x => !x.1) && (backToKw cp (keywordEach [] X.env)).all (fun x => x.1.isSome)
      && decide ([e1, e2].length + ([] : List Keyword).length + (if ([] : List Keyword).isEmpty then 0 else 1) < 30)) = true := by rfl)
    (hline : (ap.endLine == cp.line) = true := by rfl) (hst : starEach [e1, e2] X.env = (false, eval e1 X.env) :: starEach [e2] X.env := by rfl) (hst2 : starEach [e2] X.env = (false, eval e2 X.env) :: starEach [] X.env := by rfl)
    (hplain : (backTo cp (starEach [e2] X.env)).any (·.1) = false := by rfl) (hs : swapsWith (.Call (.Attribute e "insert" ap) [e1, e2] [] cp) none pos.line X.env = pure false := by rfl) :
    PS X (.Expr (.Call (.Attribute e "insert" ap) [e1, e2] [] cp) pos) (rdS X.K T W (mCIns g i f)) :=
  PS.imp (ps_expr (pe_bm (r := rIns) PySem.F.plainAttrs_list PySem.F.slot_list_insert PySem.F.type_list_insert mt_insert hx (pa_cons hi (pa_cons he pa_nil hst2) hst) hbase hfew hline hst hplain) hs) fun De σ H ⟨B, Γ, G, o, hf, s, k⟩ => by
    unfold mCIns at hf
    split at hf
    · rename_i kk Γ1 q1
      refine ⟨B, Γ, G, _, q1, s, fun v1 G1 H1 s1 g1 r1 => ?_⟩
      split at hf
      · rename_i j Γ2 q2
        cases r1 with
        | cel hm =>
          rename_i a
          obtain ⟨xs1, hx1⟩ := s1.gh _ _ hm
          refine ⟨.inl ⟨rfl, _, SqL.of hx1⟩, B, Γ1, G1, _, q2, s1, fun v2 G2 H2 s2 g2 r2 => ?_⟩
          cases r2
          split at hf
          · rename_i d Γ3 q3
            refine ⟨B, Γ2, G2, _, q3, s2, fun v3 G3 H3 s3 g3 r3 => ?_⟩
            split at hf
            · rename_i ds q4
              split at hf
              · rename_i hc
                obtain ⟨c1, c2, c3⟩ := hc
                cases hf
                have hm3 : G3 a = some (mk0 kk) := g3 _ _ (g2 _ _ hm)
                obtain ⟨p', xs, e1', e2', e3', e4'⟩ := s3.cl.ce kk ds q4
                have e0 := s3.cl.gi _ _ _ e1' hm3
                subst e0
                have sm := small62_of c2
                exact ⟨p', xs, j, v3, rfl, rfl, e2', len_lt e3' c3, c1, by omega, k σ G3 _ (s3.cmut hm3 (((e3'.take _).append (.one r3)).append (e3'.drop _))) ((g1.trans g2).trans g3)⟩
              · cases hf
            · cases hf
          · cases hf
      · cases hf
    · cases hf
/-! ### list(range(n)) -/
def mListRng (g : MG) : ML := fun Γ => match g Γ with
  | some (.ok a Γ') => (match worth Γ' a with
    | some (.int n) => if 0 ≤ n ∧ n ≤ 100000 then some (.ok (upTo 0 n.toNat) Γ') else none
    | _ => none)
  | some (.exc c d Γ') => some (.exc c d Γ')
  | none => none
theorem upTo_rp {K : PySem.W.Frag} {G : Hp} (n : Nat) : RpA K T G ((List.range n).map fun i => V.int (0 + (i : Nat))) (upTo 0 n) := by
  unfold upTo
  generalize List.range n = l
  induction l with
  | nil => exact .nil
  | cons x l ih => exact .cons (.int _) ih
theorem jl_listRng {g : MG} {e0 : Expr} (hc : X.calm = true) (hm : X.mg "list" = none) (hm2 : X.mg "range" = none) (h : PE X e0 (rdG X.K T W g)) (hg : Gl X "list" := by rfl) (hg2 : Gl X "range" := by rfl)
    (hst : starEach [e0] X.env = (false, eval e0 X.env) :: starEach [] X.env := by rfl) (hst2 : starEach [.Call (.Name "range" p2) [e0] [] p3] X.env = (false, eval (.Call (.Name "range" p2) [e0] [] p3) X.env) :: starEach [] X.env := by rfl) :
    PE X (.Call (.Name "list" p) [.Call (.Name "range" p2) [e0] [] p3] [] pos) (rdL X.K T W (mListRng g)) :=
  PE.imp (pe_listRg hc hg hm (prg_1 hg2 hm2 h hst) hst2) fun σ H Q ⟨B, Γ, G, o, hf, s, k⟩ => by
    unfold mListRng at hf
    split at hf
    · rename_i a Γ' q
      refine ⟨B, Γ, G, _, q, s, fun v G' H' s' g' r => ?_⟩
      split at hf
      · rename_i n w
        split at hf
        · rename_i hn
          cases hf
          have e := (s'.worth r w).int
          refine ⟨n, e, ⟨by omega, by omega, by omega, by omega, by omega⟩, fun q hq => ?_⟩
          have en : (n - 0).toNat = n.toNat := by omega
          refine k q _ G' _ (s'.newH hq) g' (s'.gnone hq) upd_same (by unfold rgV; rw [en]; exact upTo_rp _) (s'.hnone hq) fun j io es hj z => ?_
          obtain ⟨w, ys, h1, h2, h3, h4⟩ := s'.ow j io es hj
          rw [z] at h1
          cases h1
          rw [hq] at h3
          cases h3
        · cases hf
      · cases hf
    · rename_i c d Γ' q
      cases hf
      exact ⟨B, Γ, G, _, q, s, k⟩
    · cases hf
end
section
variable {P : Program} {w : World} {K : PySem.W.Frag} {mg : Str → Option Value} {base : Heap} {T : Tbl}
/-- a def that is called where nothing is being shown -/
theorem fn_okG {x qual : Str} {st : Stmt} {f : Addr} {fd : FuncData} {N ps : List Str} {k : Nat} {body : MS} (F : Fun K x qual st f fd) (S : FnScope N ps (defScope st))
    (hb : ∀ (cdv : Value) (A : Around) (outer : List Env) (s : Shared) (H : Hp) (E : XK), Room k (A.deeper (envOfC qual (defScope st) s.heap.objs.size f cdv)) → A.guards = some [] →
      PSs (cxOf (L2.CX P w) P w K mg base N qual (defScope st) f cdv A outer s H E) (defBody st) (rdS K T (fun cls d _ H => E cls d H) body)) :
    FnG P w K mg base (L2.CX P w) (k + 1) f fd ps (spF K T ps.length (defG ps.length N.length body)) := by
  have hpl : ps.length ≤ N.length := by
    have := congrArg List.length S.pre
    rw [List.length_take] at this
    omega
  refine okG F S (fun vs H Q E h => h.1) (fun cdv A outer s H vs Q E hr hg h => ⟨_, hb cdv A outer s H E hr hg, ?_⟩)
  obtain ⟨hl, G, cs, r, cs', hf, s0, io, k⟩ := h
  have s1 : Sat K T (bodyBg N vs cs G H) (pad cs (N.length - ps.length)) (L2.start N vs) G H := by
    rw [← hl]
    exact s0.enter (by omega)
  unfold defG at hf
  split at hf
  · rename_i hcl
    split at hf
    · rename_i d Γ' q
      split at hf
      · rename_i hm
        cases hf
        exact ⟨_, _, G, _, q, s1, fun v σ' G' H' s' rv => k v G' H' (s0.leave io (by omega) hm s') rv⟩
      · cases hf
    · rename_i ds Γ' q
      split at hf
      · rename_i hm
        cases hf
        refine ⟨_, _, G, _, q, s1, fun p xs σ' G' H' s' hg hp ra h0 hno => k p xs G' H' (s0.leave io (by omega) hm s') hg hp ra h0 fun j jo es hj z => ?_⟩
        have sl := s0.leave io (N := N) (by omega) hm s'
        rcases fin_own (by rw [hm]; omega) hj with ⟨e, ds', h1, h2⟩ | h1
        · have q2 := s'.pr j es h2
          rw [show (bodyBg N vs cs G H).σ0 = L2.start N vs from rfl, start_get z] at q2
          exact hno j true es h2 q2
        · exact io j es h1
      · cases hf
    · rename_i Γ' q
      split at hf
      · rename_i hm
        cases hf
        exact ⟨_, _, G, _, q, s1, fun σ' G' H' s' _ => k .non G' H' (s0.leave io (by omega) hm s') .non⟩
      · cases hf
    · rename_i c d Γ' q
      split at hf
      · rename_i hm
        cases hf
        exact ⟨_, _, G, _, q, s1, fun dx v σ' G' H' s' hx rv => k dx v G' H' (s0.leave io (by omega) hm s') hx rv⟩
      · cases hf
    · cases hf
  · cases hf
end
end Ky
/-! Ky28: small things for the printed walks and their tops. -/
namespace Ky
open PySem PySem.Spec PyProof.Rows L2

theorem room65 {k : Nat} {A : Around} (hr : Room k A) : A.units + 65 < cLine := by
  have := hr.un
  omega
theorem FnG.imp {P : Program} {w : World} {K : PySem.W.Frag} {mg : Str → Option Value} {base : Heap} {CX : CXT} {k : Nat} {f : Addr} {fd : FuncData} {ps : List Str} {sp sp' : Sp} (F : FnG P w K mg base CX k f fd ps sp) (h : ∀ vs H Q E, sp' vs H Q E → sp vs H Q E) : FnG P w K mg base CX k f fd ps sp' :=
  ⟨fun vs H Q E q => F.len vs H Q E (h _ _ _ _ q), fun A outer s H args us vs Q E hr hg e0 hb r q => F.run A outer s H args us vs Q E hr hg e0 hb r (h _ _ _ _ q)⟩
/-- an error of the class at S', and «except S» -/
theorem exm_of {K : PySem.W.Frag} {S S' : Addr} {b : Bool} (h1 : PySem.W.subIn K (.ref S) (.type "BaseException") = some true) (h2 : PySem.W.isClsIn K S = true) (h3 : PySem.W.typeIn K (.ref S) = some (.type "type")) (h4 : PySem.W.subIn K (.ref S') (.ref S) = some b) :
    PySem.W.exmOne K (.ref S') (.ref S) = some b := by
  have e1 : (PySem.W.subIn K (.ref S) (.type "BaseException") == some true) = true := by rw [h1] <;> rfl
  have e2 : ((PySem.W.clsIn K S).isSome && PySem.W.typeIn K (.ref S) == some (.type "type")) = true := by
    have h2' : (PySem.W.clsIn K S).isSome = true := h2
    rw [h2', h3] <;> rfl
  show (if (PySem.W.subIn K (.ref S) (.type "BaseException") == some true) = true then (if ((PySem.W.clsIn K S).isSome && PySem.W.typeIn K (.ref S) == some (.type "type")) = true then PySem.W.subIn K (.ref S') (.ref S) else none) else none) = some b
  rw [if_pos e1, if_pos e2]
  exact h4
/-! ### a, b = a list or a tuple -/
theorem PG.or {X : Cx} {e : Expr} {t1 t2 : TG} (h1 : PG X e t1) (h2 : PG X e t2) : PG X e (fun v σ H Q => t1 v σ H Q ∨ t2 v σ H Q) := ⟨fun pins s σ H v u Q I r q => q.elim (fun z => h1.run pins s σ H v u Q I r z) fun z => h2.run pins s σ H v u Q I r z⟩
def tgSeq (ts : List MT) : MT := ⟨ts.flatMap (·.sl), fun d Γ => match d with
  | .tup ds => tgGo ts ds Γ
  | .lst ds => tgGo ts ds Γ
  | _ => none⟩
theorem tgGo_len : ∀ (ts : List MT) (ds : List D) (Γ Γ' : Ev), tgGo ts ds Γ = some Γ' → ds.length = ts.length
  | [], [], _, _, _ => rfl
  | [], _ :: _, _, _, h => nomatch h
  | _ :: _, [], _, _, h => nomatch h
  | t :: ts, d :: ds, Γ, Γ', h => by
    unfold tgGo at h
    split at h
    · rw [List.length_cons, List.length_cons, tgGo_len _ _ _ _ h]
    · cases h
theorem jg_seq {X : Cx} {T : Tbl} {es : List Expr} {pos : Pos} {ts : List MT} {k : Nat} (hc : X.calm = true) (h : PGs X es (rdTgs X.K T ts)) (hn : (assignEach es X.env).length = ts.length := by rfl) (hst : (assignEach es X.env).findIdx? (·.1) = none := by rfl) : PG X (.Tuple es k pos) (rdTg X.K T (tgSeq ts)) :=
  PG.imp (PG.or (pg_tup hc h hn hst) (pg_lst hc h hn hst)) fun v σ H Q q => by
    obtain ⟨B, Γ, G, d, Γ', hf, s, r, k⟩ := q
    match d, hf with
    | .tup ds, hf =>
      have hf : tgGo ts ds Γ = some Γ' := hf
      cases r with
      | tup sq ra => exact .inl ⟨_, _, rfl, Sub.sqt s.gh sq, ra.length.trans (tgGo_len _ _ _ _ hf), B, Γ, G, ds, Γ', hf, s, ra, k⟩
    | .lst ds, hf =>
      have hf : tgGo ts ds Γ = some Γ' := hf
      cases r with
      | lst sq ra => exact .inr ⟨_, _, rfl, s.gh.seq sq, ra.length.trans (tgGo_len _ _ _ _ hf), B, Γ, G, ds, Γ', hf, s, ra, k⟩
end Ky
/-! Ky29: _law_like of a value with itself. -/
namespace Ky
open PySem PySem.Spec PyProof.Rows L2
theorem eq_int {a b : Int} : oEq (.int a) (.int b) = some (.bl (decide (a = b))) := by
  unfold oEq eqD
  simp [toPy, SeqAt.shaped, PyData.canLay0, PyData.depth, PyData.eqv]
  rfl
theorem ne_int {a b : Int} : oNe (.int a) (.int b) = some (.bl (!decide (a = b))) := by
  unfold oNe eqD
  simp [toPy, SeqAt.shaped, PyData.canLay0, PyData.depth, PyData.eqv]
  rfl
theorem ne_str {a : Str} (h : PyData.canLay0 (.str a) = true) : oNe (.str a) (.str a) = some (.bl false) := by
  unfold oNe eqD
  simp [toPy, SeqAt.shaped, h, PyData.depth, PyData.eqv]
theorem ne_bl {a b : Bool} : oNe (.bl a) (.bl b) = some (.bl (!decide (a = b))) := by
  cases a <;> cases b <;> rfl
mutual
/-- plain: numbers, truths, texts, lists and tuples of them, n deep at most -/
def niD : Nat → D → Bool
  | _, .bl _ => true
  | _, .int _ => true
  | _, .str s => PyData.canLay0 (.str s)
  | n, .lst ds => (match n with
    | 0 => false
    | m + 1 => niA m ds)
  | n, .tup ds => (match n with
    | 0 => false
    | m + 1 => niA m ds)
  | _, _ => false
def niA : Nat → List D → Bool
  | _, [] => true
  | n, d :: ds => niD n d && niA n ds
end
mutual
def szD : D → Nat
  | .lst ds => 1 + szA ds
  | .tup ds => 1 + szA ds
  | _ => 1
def szA : List D → Nat
  | [] => 0
  | d :: ds => szD d + szA ds
end
mutual
theorem ni_py : ∀ (n : Nat) (d : D), niD n d = true → ∃ x, toPy d = some x ∧ PyData.canLay0 x = true ∧ PyData.depth x ≤ n
  | _, .bl b, _ => ⟨_, rfl, rfl, Nat.zero_le _⟩
  | _, .int i, _ => ⟨_, rfl, rfl, Nat.zero_le _⟩
  | _, .str s, h => ⟨_, rfl, h, Nat.zero_le _⟩
  | n, .lst ds, h => by
    cases n with
    | zero => cases h
    | succ m =>
      obtain ⟨xs, h1, h2, h3⟩ := ni_pys m ds h
      exact ⟨.list xs, by unfold toPy; rw [h1], h2, Nat.succ_le_succ h3⟩
  | n, .tup ds, h => by
    cases n with
    | zero => cases h
    | succ m =>
      obtain ⟨xs, h1, h2, h3⟩ := ni_pys m ds h
      exact ⟨.tuple xs, by unfold toPy; rw [h1], h2, Nat.succ_le_succ h3⟩
  | _, .non, h => nomatch h
  | _, .ins _ _, h => nomatch h
  | _, .cel _, h => nomatch h
  | _, .dic, h => nomatch h
theorem ni_pys : ∀ (n : Nat) (ds : List D), niA n ds = true → ∃ xs, toPys ds = some xs ∧ PyData.canLayAll0 xs = true ∧ PyData.depthAll xs ≤ n
  | _, [], _ => ⟨[], rfl, rfl, Nat.zero_le _⟩
  | n, d :: ds, h => by
    have h : (niD n d && niA n ds) = true := h
    rw [Bool.and_eq_true] at h
    obtain ⟨x, h1, h2, h3⟩ := ni_py n d h.1
    obtain ⟨xs, k1, k2, k3⟩ := ni_pys n ds h.2
    exact ⟨x :: xs, by unfold toPys; rw [h1, k1], by unfold PyData.canLayAll0; rw [h2, k2]; rfl, Nat.max_le.mpr ⟨h3, k3⟩⟩
end
theorem ne_nil_of {n : Nat} {ds : List D} (h : niA n ds = true) (hn : n < 64) : oNe (.lst ds) (.lst []) = some (.bl (!ds.isEmpty)) := by
  obtain ⟨xs, k1, k2, k3⟩ := ni_pys n ds h
  have e1 : toPy (.lst ds) = some (.list xs) := by unfold toPy; rw [k1]
  have e2 : toPy (.lst []) = some (.list []) := rfl
  have s1 : SeqAt.shaped (.list xs) = true := by
    unfold SeqAt.shaped PyData.canLay0 PyData.depth
    rw [k2, Bool.true_and, decide_eq_true_eq]
    omega
  have s2 : SeqAt.shaped (.list []) = true := by decide
  unfold oNe eqD
  rw [e1, e2]
  simp only [s1, s2, Bool.and_self, if_true]
  cases ds with
  | nil =>
    cases k1
    rfl
  | cons d ds =>
    unfold toPys at k1
    split at k1
    · cases k1
      rfl
    · cases k1
theorem niA_app {n : Nat} : ∀ {a b : List D}, niA n a = true → niA n b = true → niA n (a ++ b) = true
  | [], _, _, h => h
  | d :: a, b, h, k => by
    have h : (niD n d && niA n a) = true := h
    rw [Bool.and_eq_true] at h
    show (niD n d && niA n (a ++ b)) = true
    rw [h.1, niA_app h.2 k]
    rfl
theorem niA_mem {n : Nat} : ∀ {a : List D}, niA n a = true → ∀ d ∈ a, niD n d = true
  | d :: a, h, e, he => by
    have h : (niD n d && niA n a) = true := h
    rw [Bool.and_eq_true] at h
    rcases List.mem_cons.mp he with rfl | he
    · exact h.1
    · exact niA_mem h.2 e he
theorem niA_of {n : Nat} : ∀ {a : List D}, (∀ d ∈ a, niD n d = true) → niA n a = true
  | [], _ => rfl
  | d :: a, h => by
    show (niD n d && niA n a) = true
    rw [h d (.head _), niA_of fun e he => h e (.tail _ he)]
    rfl
theorem szA_app : ∀ (a b : List D), szA (a ++ b) = szA a + szA b
  | [], b => by simp [szA]
  | d :: a, b => by
    show szD d + szA (a ++ b) = szD d + szA a + szA b
    rw [szA_app a b]
    omega
theorem szD_pos : ∀ d : D, 1 ≤ szD d := fun d => by
  cases d <;> (unfold szD; omega)
theorem len_sz : ∀ ds : List D, ds.length ≤ szA ds
  | [] => Nat.le_refl _
  | d :: ds => by
    have := szD_pos d
    have := len_sz ds
    show ds.length + 1 ≤ szD d + szA ds
    omega
mutual
theorem ni_mono : ∀ (n m : Nat) (d : D), n ≤ m → niD n d = true → niD m d = true
  | _, _, .bl _, _, _ => rfl
  | _, _, .int _, _, _ => rfl
  | _, _, .str _, _, h => h
  | n, m, .lst ds, hl, h => by
    cases n with
    | zero => cases h
    | succ n =>
      cases m with
      | zero => omega
      | succ m => exact niA_mono n m ds (by omega) h
  | n, m, .tup ds, hl, h => by
    cases n with
    | zero => cases h
    | succ n =>
      cases m with
      | zero => omega
      | succ m => exact niA_mono n m ds (by omega) h
  | _, _, .non, _, h => nomatch h
  | _, _, .ins _ _, _, h => nomatch h
  | _, _, .cel _, _, h => nomatch h
  | _, _, .dic, _, h => nomatch h
theorem niA_mono : ∀ (n m : Nat) (ds : List D), n ≤ m → niA n ds = true → niA m ds = true
  | _, _, [], _, _ => rfl
  | n, m, d :: ds, hl, h => by
    have h : (niD n d && niA n ds) = true := h
    rw [Bool.and_eq_true] at h
    show (niD m d && niA m ds) = true
    rw [ni_mono n m d hl h.1, niA_mono n m ds hl h.2]
    rfl
end
def lkFor : MS := (mFor (miRng1 (mNow (mOp bLen (mCons (mPk 4) mNil)))) (tgName 5)
    (mApp 2 (mTup (mCons (mNow (mOp (p2 oIx) (mA2 (mPk 3) (mPk 5)))) (mCons (mNow (mOp (p2 oIx) (mA2 (mPk 4) (mPk 5)))) mNil)))))
def lkBody : MS := (mSeq (mAsg (tgSeq [(tgName 3), (tgName 4)]) (mPopL 2))
    (mIfS (mTru (mNow (mIsi [] [.ty "list", .ty "tuple"] (mPk 4))))
    (mSeq (mIfS (mOr (mNot (mTru (mNow (mIsi [] [.ty "list", .ty "tuple"] (mPk 3))))) (mOr (mB (mOp (p2 oNe) (mA2 (mNow (mIsi [] [.ty "list"] (mPk 3))) (mNow (mIsi [] [.ty "list"] (mPk 4)))))) (mB (mOp (p2 oNe) (mA2 (mNow (mOp bLen (mCons (mPk 3) mNil))) (mNow (mOp bLen (mCons (mPk 4) mNil))))))))
    (mRet (mCon (.bl false)))
    mSkip)
    lkFor)
    (mIfS (mOr (mB (mOp (p2 oIs) (mA2 (mPk 4) (mNow (mCon .non))))) (mTru (mNow (mIsi [] [.ty "bool"] (mPk 4)))))
    (mIfS (mOr (mB (mOp (p2 oNe) (mA2 (mNow (mOp (p2 oIs) (mA2 (mPk 4) (mNow (mCon .non))))) (mNow (mOp (p2 oIs) (mA2 (mPk 3) (mNow (mCon .non)))))))) (mOr (mB (mOp (p2 oNe) (mA2 (mNow (mOp (p2 oIs) (mA2 (mPk 4) (mNow (mCon (.bl true)))))) (mNow (mOp (p2 oIs) (mA2 (mPk 3) (mNow (mCon (.bl true))))))))) (mB (mOp (p2 oNe) (mA2 (mNow (mOp (p2 oIs) (mA2 (mPk 4) (mNow (mCon (.bl false)))))) (mNow (mOp (p2 oIs) (mA2 (mPk 3) (mNow (mCon (.bl false)))))))))))
    (mRet (mCon (.bl false)))
    mSkip)
    (mIfS (mTru (mNow (mIsi [] [.ty "str"] (mPk 4))))
    (mIfS (mOr (mNot (mTru (mNow (mIsi [] [.ty "str"] (mPk 3))))) (mB (mOp (p2 oNe) (mA2 (mPk 3) (mPk 4)))))
    (mRet (mCon (.bl false)))
    mSkip)
    (mIfS (mOr (mNot (mTru (mNow (mIsi [] [.ty "int"] (mPk 3))))) (mOr (mTru (mNow (mIsi [] [.ty "bool"] (mPk 3)))) (mB (mOp (p2 oNe) (mA2 (mPk 3) (mPk 4))))))
    (mRet (mCon (.bl false)))
    mSkip)))))
def lkCond : MB := (mB (mOp (p2 oNe) (mA2 (mPk 2) (mNow (mFz (mLst mNil))))))
def lkB : MS := (mSeq (mAsgL 2 (mLst (mCons (mNow (mTup (mCons (mNow (mVar 0)) (mCons (mNow (mVar 1)) mNil)))) mNil)))
    (mSeq (mWhile 100000 lkCond lkBody)
    (mRet (mCon (.bl true)))))
theorem mFor_of {src : MI} {t : MT} {body : MS} {Γ Γ1 : Ev} {ds : List D} {o : Option Fl} (h : src Γ = some (.ok ds Γ1)) (q : forL t body ds Γ1 = o) : mFor src t body Γ = o := by
  unfold mFor
  rw [h]
  exact q
theorem mSeq_of {f g : MS} {Γ Γ1 : Ev} {o : Option Fl} (h : f Γ = some (.nx Γ1)) (q : g Γ1 = o) : mSeq f g Γ = o := by
  unfold mSeq
  rw [h]
  exact q
def unD : SC → Prop
  | .un => True
  | .dat _ => True
  | _ => False
def twin (d : D) : D := .tup [d, d]
theorem free_of {c : SC} (h : unD c) (v : List SC) (S : List (List D)) (i : Nat) (hi : v[i]? = some c) : free ⟨v, S⟩ i = true := by
  unfold free
  show (match v[i]? with | some (SC.own true ds) => false | x => true) = true
  rw [hi]
  cases c with
  | own => cases h
  | un => rfl
  | dat => rfl
theorem lk_go {x0 x1 x2 c3 c4 : SC} {c5 : SC} {S : List (List D)} {a b : D} (h3 : unD c3) (h4 : unD c4) : (tgSeq [(tgName 3), (tgName 4)]).go (.tup [a, b]) ⟨[x0, x1, x2, c3, c4, c5], S⟩ = some ⟨[x0, x1, x2, .dat a, .dat b, c5], S⟩ := by
  cases c3 <;> first | (cases h3; done) | skip
  all_goals (cases c4 <;> first | (cases h4; done) | rfl)
/-- each item is twice put on the list -/
theorem lk_for {x0 x1 : SC} {S : List (List D)} {ds : List D} (isL : Bool) (hd : ds.length < 50000) : ∀ (m k : Nat) (todo : List D) (c5 : SC), k + m = ds.length → unD c5 → todo.length + m < 100000 →
    ∃ c5', unD c5' ∧ forL (tgName 5) (mApp 2 (mTup (mCons (mNow (mOp (p2 oIx) (mA2 (mPk 3) (mPk 5)))) (mCons (mNow (mOp (p2 oIx) (mA2 (mPk 4) (mPk 5)))) mNil)))) (((List.range' k m).map fun i => D.int ((0 : Int) + (i : Nat)))) ⟨[x0, x1, .own false todo, .dat (if isL then .lst ds else .tup ds), .dat (if isL then .lst ds else .tup ds), c5], S⟩
      = some (.nx ⟨[x0, x1, .own false (todo ++ (ds.drop k).map twin), .dat (if isL then .lst ds else .tup ds), .dat (if isL then .lst ds else .tup ds), c5'], S⟩)
  | 0, k, todo, c5, hk, h5, ht => by
    refine ⟨c5, h5, ?_⟩
    rw [List.drop_of_length_le (by omega)]
    simp [forL]
  | m + 1, k, todo, c5, hk, h5, ht => by
    have hlt : k < ds.length := by omega
    obtain ⟨c5', h5', q⟩ := lk_for (x0 := x0) (x1 := x1) (S := S) (ds := ds) isL hd m (k + 1) (todo ++ [twin ds[k]]) (.dat (.int ((0 : Int) + (k : Nat)))) (by omega) trivial (by simp; omega)
    refine ⟨c5', h5', ?_⟩
    rw [List.range'_succ, List.map_cons]
    unfold forL
    have g : (tgName 5).go (.int ((0 : Int) + (k : Nat))) ⟨[x0, x1, .own false todo, .dat (if isL then .lst ds else .tup ds), .dat (if isL then .lst ds else .tup ds), c5], S⟩ = some ⟨[x0, x1, .own false todo, .dat (if isL then .lst ds else .tup ds), .dat (if isL then .lst ds else .tup ds), .dat (.int ((0 : Int) + (k : Nat)))], S⟩ := by
      cases c5 <;> first | (cases h5; done) | rfl
    have e : ds.drop k = ds[k] :: ds.drop (k + 1) := List.drop_eq_getElem_cons hlt
    rw [e, List.map_cons, show todo ++ twin ds[k] :: (ds.drop (k + 1)).map twin = todo ++ [twin ds[k]] ++ (ds.drop (k + 1)).map twin by simp, ← q]
    have a1 : atI ds ((0 : Int) + (k : Nat)) = some ds[k] := by
      unfold atI ixN
      rw [if_pos (by omega), if_pos (by omega)]
      have : ((0 : Int) + (k : Nat)).toNat = k := by omega
      rw [this]
      simp [hlt]
    have a2 : atI ds (k : Int) = some ds[k] := by rw [← a1, Int.zero_add]
    have tl : todo.length < 100000 := by omega
    have b : mApp 2 (mTup (mCons (mNow (mOp (p2 oIx) (mA2 (mPk 3) (mPk 5)))) (mCons (mNow (mOp (p2 oIx) (mA2 (mPk 4) (mPk 5)))) mNil))) ⟨[x0, x1, .own false todo, .dat (if isL then .lst ds else .tup ds), .dat (if isL then .lst ds else .tup ds), .dat (.int ((0 : Int) + (k : Nat)))], S⟩
      = some (.nx ⟨[x0, x1, .own false (todo ++ [twin ds[k]]), .dat (if isL then .lst ds else .tup ds), .dat (if isL then .lst ds else .tup ds), .dat (.int ((0 : Int) + (k : Nat)))], S⟩) := by
      cases isL <;> simp [mApp, mTup, mCons, mNow, mOp, p2, oIx, mA2, mPk, mNil, nows, look, worth, worths, res, Ev.get_mk, Ev.set_mk, Ev.length_mk, a2, tl, twin]
    rw [g]
    simp only [b]
theorem lk_seq {x0 x1 : SC} {S : List (List D)} {ds todo : List D} (isL : Bool) {c3 c4 c5 : SC} (h3 : unD c3) (h4 : unD c4) (h5 : unD c5) (hd : ds.length < 50000) (ht : todo.length < 50000) :
    ∃ d' c5', unD c5' ∧ lkBody ⟨[x0, x1, .own false (todo ++ [twin (if isL then .lst ds else .tup ds)]), c3, c4, c5], S⟩ = some (.nx ⟨[x0, x1, .own false (todo ++ ds.map twin), .dat d', .dat d', c5'], S⟩) := by
  obtain ⟨c5', h5', q⟩ := lk_for (x0 := x0) (x1 := x1) (S := S) isL hd ds.length 0 todo c5 (by omega) h5 (by omega)
  refine ⟨(if isL then .lst ds else .tup ds), c5', h5', ?_⟩
  rw [List.drop_zero] at q
  have r : (List.range' 0 ds.length).map (fun i => D.int ((0 : Int) + (i : Nat))) = upTo 0 ds.length := by
    unfold upTo
    rw [List.range_eq_range']
  rw [r] at q
  have s : small62 (ds.length : Int) = true := by
    unfold small62
    rw [Bool.and_eq_true, decide_eq_true_eq, decide_eq_true_eq]
    have : (2 : Int) ^ 62 = 4611686018427387904 := by decide
    omega
  have dl : ds.length ≤ 100000 := by omega
  have rg : miRng1 (mNow (mOp bLen (mCons (mPk 4) mNil))) ⟨[x0, x1, .own false todo, .dat (if isL then .lst ds else .tup ds), .dat (if isL then .lst ds else .tup ds), c5], S⟩ = some (.ok (upTo 0 ds.length) ⟨[x0, x1, .own false todo, .dat (if isL then .lst ds else .tup ds), .dat (if isL then .lst ds else .tup ds), c5], S⟩) := by
    cases isL <;> simp [mNow, mPk, look, worth, worths, res, Ev.get_mk, Ev.set_mk, Ev.length_mk, mOp, mCons, mNil, bLen, miRng1, s, dl]
  have fr : lkFor _ = _ := mFor_of rg q
  unfold lkBody
  have g := lk_go (x0 := x0) (x1 := x1) (x2 := .own false todo) (c5 := c5) (S := S) (a := (if isL then .lst ds else .tup ds)) (b := (if isL then .lst ds else .tup ds)) h3 h4
  have p : mPopL 2 ⟨[x0, x1, .own false (todo ++ [twin (if isL then .lst ds else .tup ds)]), c3, c4, c5], S⟩ = some (.ok (.tup [(if isL then .lst ds else .tup ds), (if isL then .lst ds else .tup ds)]) ⟨[x0, x1, .own false todo, c3, c4, c5], S⟩) := by
    simp [mPopL, Ev.get_mk, Ev.set_mk, twin]
  have n1 : oNe (.int (ds.length : Int)) (.int (ds.length : Int)) = some (.bl false) := by
    rw [ne_int]
    simp
  have i0 : isiA [] (.lst ds) [.ty "list", .ty "tuple"] = some true := rfl
  have i1 : isiA [] (.tup ds) [.ty "list", .ty "tuple"] = some true := rfl
  have i2 : isiA [] (.lst ds) [.ty "list"] = some true := rfl
  have i3 : isiA [] (.tup ds) [.ty "list"] = some false := rfl
  have i4 : insIn [] (.lst ds) = true := rfl
  have i5 : insIn [] (.tup ds) = true := rfl
  have b0 : oNe (.bl true) (.bl true) = some (.bl false) := rfl
  have b1 : oNe (.bl false) (.bl false) = some (.bl false) := rfl
  cases isL <;> simp only [Bool.false_eq_true, if_false, if_true] at * <;> simp [mSeq, mAsg, p, g, mIfS, mTru, mNow, mIsi, mPk, look, worth, worths, res, Ev.get_mk, Ev.set_mk, Ev.length_mk, mOr, mNot, mB, mOp, mA2, mCons, mNil, p2, bLen, n1, i0, i1, i2, i3, i4, i5, b0, b1, truth, mSkip, fr]
theorem lk_one {x0 x1 : SC} {S : List (List D)} {todo : List D} {d : D} {c3 c4 c5 : SC} (h3 : unD c3) (h4 : unD c4) (hd : ∀ es, d ≠ .lst es) (hd2 : ∀ es, d ≠ .tup es) {n : Nat} (hn : niD n d = true) :
    lkBody ⟨[x0, x1, .own false (todo ++ [twin d]), c3, c4, c5], S⟩ = some (.nx ⟨[x0, x1, .own false todo, .dat d, .dat d, c5], S⟩) := by
  have g := lk_go (x0 := x0) (x1 := x1) (x2 := .own false todo) (c5 := c5) (S := S) (a := d) (b := d) h3 h4
  have p : mPopL 2 ⟨[x0, x1, .own false (todo ++ [twin d]), c3, c4, c5], S⟩ = some (.ok (.tup [d, d]) ⟨[x0, x1, .own false todo, c3, c4, c5], S⟩) := by
    simp [mPopL, Ev.get_mk, Ev.set_mk, twin]
  unfold lkBody
  cases d with
  | lst es => exact absurd rfl (hd es)
  | tup es => exact absurd rfl (hd2 es)
  | non => cases hn
  | ins => cases hn
  | cel => cases hn
  | dic => cases hn
  | int i =>
    have i0 : isiA [] (.int i) [.ty "list", .ty "tuple"] = some false := rfl
    have i1 : isiA [] (.int i) [.ty "bool"] = some false := rfl
    have i2 : isiA [] (.int i) [.ty "str"] = some false := rfl
    have i3 : isiA [] (.int i) [.ty "int"] = some true := rfl
    have i4 : insIn [] (.int i) = true := rfl
    simp [mSeq, mAsg, p, g, mIfS, mTru, mNow, mIsi, mPk, look, worth, worths, res, Ev.get_mk, Ev.set_mk, Ev.length_mk, mOr, mNot, mB, mOp, mA2, mCons, mNil, mCon, p2, oIs, ne_int, i0, i1, i2, i3, i4, truth, mSkip]
  | str z =>
    have i0 : isiA [] (.str z) [.ty "list", .ty "tuple"] = some false := rfl
    have i1 : isiA [] (.str z) [.ty "bool"] = some false := rfl
    have i2 : isiA [] (.str z) [.ty "str"] = some true := rfl
    have i4 : insIn [] (.str z) = true := rfl
    have n0 : oNe (.str z) (.str z) = some (.bl false) := ne_str hn
    simp [mSeq, mAsg, p, g, mIfS, mTru, mNow, mIsi, mPk, look, worth, worths, res, Ev.get_mk, Ev.set_mk, Ev.length_mk, mOr, mNot, mB, mOp, mA2, mCons, mNil, mCon, p2, oIs, n0, i0, i1, i2, i4, truth, mSkip]
  | bl b =>
    have i0 : isiA [] (.bl b) [.ty "list", .ty "tuple"] = some false := rfl
    have i1 : isiA [] (.bl b) [.ty "bool"] = some true := rfl
    have i4 : insIn [] (.bl b) = true := rfl
    simp [mSeq, mAsg, p, g, mIfS, mTru, mNow, mIsi, mPk, look, worth, worths, res, Ev.get_mk, Ev.set_mk, Ev.length_mk, mOr, mNot, mB, mOp, mA2, mCons, mNil, mCon, p2, oIs, ne_bl, i0, i1, i4, truth, mSkip]
theorem twin_ni {n : Nat} {ds : List D} (h : niA n ds = true) : niA (n + 1) (ds.map twin) = true := niA_of fun d hd => by
  obtain ⟨e, he, rfl⟩ := List.mem_map.mp hd
  show (niD n e && (niD n e && true)) = true
  rw [niA_mem h e he]
  rfl
theorem lk_cond {x0 x1 c3 c4 c5 : SC} {S : List (List D)} {n : Nat} {ds : List D} (h : niA n ds = true) (hn : n < 63) : lkCond ⟨[x0, x1, .own false (ds.map twin), c3, c4, c5], S⟩ = some (.ok (!ds.isEmpty) ⟨[x0, x1, .own false (ds.map twin), c3, c4, c5], S⟩) := by
  have e := ne_nil_of (twin_ni h) (by omega)
  have e2 : (ds.map twin).isEmpty = ds.isEmpty := by cases ds <;> rfl
  rw [e2] at e
  unfold lkCond
  simp [mB, mOp, mA2, mCons, mPk, mNow, mFz, mLst, mNil, nows, look, worths, worth, p2, res, Ev.get_mk, Ev.set_mk, Ev.length_mk, e]
theorem lk_while {x0 x1 : SC} {S : List (List D)} {n : Nat} (hn : n < 63) : ∀ (m fuel : Nat) (ds : List D) (c3 c4 c5 : SC), szA ds ≤ m → m < fuel → m < 50000 → niA n ds = true → unD c3 → unD c4 → unD c5 →
    ∃ c3' c4' c5', whileL lkCond lkBody fuel ⟨[x0, x1, .own false (ds.map twin), c3, c4, c5], S⟩ = some (.nx ⟨[x0, x1, .own false [], c3', c4', c5'], S⟩)
  | m, fuel, ds, c3, c4, c5, hs, hf, hm, ni, h3, h4, h5 => by
    obtain ⟨fu, rfl⟩ : ∃ k, fuel = k + 1 := ⟨fuel - 1, by omega⟩
    rcases List.eq_nil_or_concat ds with rfl | ⟨init, d, rfl⟩
    · refine ⟨c3, c4, c5, ?_⟩
      unfold whileL
      rw [lk_cond ni hn]
      rfl
    · rw [List.concat_eq_append] at *
      have nid : niD n d = true := niA_mem ni d (by simp)
      have nii : niA n init = true := niA_of fun e he => niA_mem ni e (by simp [he])
      have sz : szA init + szD d ≤ m := by
        have := szA_app init [d]
        have e : szA [d] = szD d := rfl
        omega
      have il := len_sz init
      have dp := szD_pos d
      have cd : lkCond ⟨[x0, x1, .own false ((init ++ [d]).map twin), c3, c4, c5], S⟩ = some (.ok true ⟨[x0, x1, .own false ((init ++ [d]).map twin), c3, c4, c5], S⟩) := by
        rw [lk_cond ni hn]
        cases init <;> rfl
      have am : (init ++ [d]).map twin = init.map twin ++ [twin d] := by simp
      rw [am] at cd ⊢
      obtain ⟨m', rfl⟩ : ∃ k, m = k + 1 := ⟨m - 1, by omega⟩
      have one : (∀ es, d ≠ .lst es) → (∀ es, d ≠ .tup es) → ∃ c3' c4' c5', whileL lkCond lkBody (fu + 1) ⟨[x0, x1, .own false (init.map twin ++ [twin d]), c3, c4, c5], S⟩ = some (.nx ⟨[x0, x1, .own false [], c3', c4', c5'], S⟩) := fun z1 z2 => by
        obtain ⟨c3', c4', c5', q⟩ := lk_while (x0 := x0) (x1 := x1) (S := S) hn m' fu init (.dat d) (.dat d) c5 (by omega) (by omega) (by omega) nii trivial trivial h5
        refine ⟨c3', c4', c5', ?_⟩
        unfold whileL
        rw [cd]
        simp only [lk_one h3 h4 z1 z2 nid]
        exact q
      have seq : ∀ (isL : Bool) es, d = (if isL then .lst es else .tup es) → (∃ k, n = k + 1 ∧ niA k es = true) → szD d = 1 + szA es → ∃ c3' c4' c5', whileL lkCond lkBody (fu + 1) ⟨[x0, x1, .own false (init.map twin ++ [twin d]), c3, c4, c5], S⟩ = some (.nx ⟨[x0, x1, .own false [], c3', c4', c5'], S⟩) := fun isL es hd ⟨k, hk, nie⟩ se => by
        have el := len_sz es
        obtain ⟨d', c5', h5', b⟩ := lk_seq (x0 := x0) (x1 := x1) (S := S) (ds := es) (todo := init.map twin) (c3 := c3) (c4 := c4) (c5 := c5) isL h3 h4 h5 (by omega) (by simp; omega)
        have sa := szA_app init es
        obtain ⟨c3'', c4'', c5'', q⟩ := lk_while (x0 := x0) (x1 := x1) (S := S) hn m' fu (init ++ es) (.dat d') (.dat d') c5' (by omega) (by omega) (by omega) (niA_app nii (niA_mono _ _ _ (by omega) nie)) trivial trivial h5'
        refine ⟨c3'', c4'', c5'', ?_⟩
        unfold whileL
        rw [cd, hd]
        simp only [b]
        rw [List.map_append] at q
        exact q
      cases d with
      | lst es =>
        refine seq true es rfl ?_ rfl
        cases n with
        | zero => cases nid
        | succ k => exact ⟨k, rfl, nid⟩
      | tup es =>
        refine seq false es rfl ?_ rfl
        cases n with
        | zero => cases nid
        | succ k => exact ⟨k, rfl, nid⟩
      | non => exact one (fun _ z => nomatch z) (fun _ z => nomatch z)
      | bl _ => exact one (fun _ z => nomatch z) (fun _ z => nomatch z)
      | int _ => exact one (fun _ z => nomatch z) (fun _ z => nomatch z)
      | str _ => exact one (fun _ z => nomatch z) (fun _ z => nomatch z)
      | ins _ _ => exact one (fun _ z => nomatch z) (fun _ z => nomatch z)
      | cel _ => exact one (fun _ z => nomatch z) (fun _ z => nomatch z)
      | dic => exact one (fun _ z => nomatch z) (fun _ z => nomatch z)
theorem like_ok {S : List (List D)} {d : D} {n : Nat} (hn : n < 63) (h : niD n d = true) (hs : szD d < 50000) : defG 2 6 lkB ⟨[.dat d, .dat d], S⟩ = some (.dat (.bl true), ⟨[.dat d, .dat d], S⟩) := by
  obtain ⟨c3, c4, c5, q⟩ := lk_while (x0 := .dat d) (x1 := .dat d) (S := S) hn (szD d) 100000 [d] .un .un .un (Nat.le_refl _) (by omega) hs (by show (niD n d && true) = true; rw [h]; rfl) trivial trivial trivial
  rw [List.map_singleton] at q
  unfold twin at q
  unfold lkB
  simp [defG, mSeq, mAsgL, mLst, mCons, mNow, mTup, mVar, mNil, nows, pad, Ev.get_mk, Ev.set_mk, Ev.length_mk, free, mWhile, q, mRet, mCon, fin, finL]
end Ky
/-! Ky30: rows for simp: on constructors alone. -/
namespace Ky
open PySem PySem.Spec PyProof.Rows L2
theorem res_int (Γ : Ev) (i : Int) : res Γ (.int i) = .int i := rfl
theorem res_str (Γ : Ev) (i : Str) : res Γ (.str i) = .str i := rfl
theorem res_bl (Γ : Ev) (i : Bool) : res Γ (.bl i) = .bl i := rfl
theorem res_non (Γ : Ev) : res Γ .non = .non := rfl
theorem res_dic (Γ : Ev) : res Γ .dic = .dic := rfl
theorem res_lst (Γ : Ev) (i : List D) : res Γ (.lst i) = .lst i := rfl
theorem res_tup (Γ : Ev) (i : List D) : res Γ (.tup i) = .tup i := rfl
theorem res_ins (Γ : Ev) (c : Nat) (i : List D) : res Γ (.ins c i) = .ins c i := rfl
theorem ix_l (ds : List D) (i : Int) : oIx (.lst ds) (.int i) = L2.atI ds i := rfl
theorem ix_t (ds : List D) (i : Int) : oIx (.tup ds) (.int i) = L2.atI ds i := rfl
theorem ad_i (i j : Int) : oAdd (.int i) (.int j) = some (.int (i + j)) := rfl
theorem in_i (f : Int → Int → Int) (i j : Int) : oInt f (.int i) (.int j) = some (.int (f i j)) := rfl
theorem if_i (c : Int → Int → Bool) (f : Int → Int → Int) (i j : Int) : oIntIf c f (.int i) (.int j) = if c i j then some (.int (f i j)) else none := rfl
theorem cm_i (c : Int → Int → Bool) (i j : Int) : oCmp c (.int i) (.int j) = some (.bl (c i j)) := rfl
theorem un_i (f : Int → Int) (i : Int) : oUn f (.int i) = some (.int (f i)) := rfl
theorem tr_b (b : Bool) : truth (.bl b) = some b := rfl
theorem mA2_ap (f g : MG) (Γ : Ev) : mA2 f g Γ = mCons f (mCons g mNil) Γ := rfl
theorem mA1_ap (f : MG) (Γ : Ev) : mA1 f Γ = mCons f mNil Γ := rfl
theorem sl_name (i : Nat) : (tgName i).sl = [i] := rfl
end Ky
/-! Ky31: calls of defs that show something; str(int); range with a step. -/
namespace Ky
open PySem PySem.Spec PyProof.Rows L2
section
variable {X : Cx} {T : Tbl} {W : WX} {CX : CXT} {k : Nat} {f : Addr} {fd : FuncData} {ps : List Str} {fn : Fn} {x : Str} {p pos : Pos} {e e2 e3 : Expr} {es : List Expr} {as : MA} {sp : Sp} {E : L2.St → XK} {t : TA} {tg : Expr}
theorem run_fnG {pins : List (Addr × Obj)} {σ : L2.St} {H : Hp} {s : Shared} {Q : VK} {us : List Value} {vs : List V} (F : FnG X.prog X.w X.K X.mg X.base CX k f fd ps sp) (hr : Room k X.A) (hgu : X.A.guards = some []) (hb : Binds X.K fd ps []) (hx : PassesAt CX X σ (E σ))
    (I : L2.Inv X pins σ H s) (r : Vals vs us) (h : sp vs H Q (E σ)) : wpAny (model X.prog X.w) X.A (call (.ref f) us) (EP X pins σ Q) X.xe s := by
  have hl : us.length = ps.length := r.length.symm.trans (F.len _ _ _ _ h)
  have b := hb s us I.kIn (by rw [List.append_nil]; exact hl)
  rw [List.append_nil] at b
  refine wpAny_call (codeAny_mono (F.run X.A X.stack s H ⟨us, []⟩ us vs Q (E σ) hr hgu I.env0 b r h) fun r s' hq => ?_)
  match r, hq with
  | .error e, hq => exact hx pins H s e s' I hq
  | .ok (.ret u), hq => exact I.after hq
theorem pe_callG (F : FnG X.prog X.w X.K X.mg X.base CX k f fd ps sp) (hr : Room k X.A) (hgu : X.A.guards = some []) (hg : Gl X x) (hm : X.mg x = some (.ref f)) (hk : PySem.W.keepIn X.K (.ref f) = true) (hb : Binds X.K fd ps []) (hx : ∀ σ, PassesAt CX X σ (E σ))
    (ha : PA X (e :: es) t) (hdb : (x == ("__debug__" : Str)) = false := by decide) (he : starEach (e :: es) X.env = (false, eval e X.env) :: starEach es X.env := by rfl) (hpl : (backTo pos (starEach es X.env)).any (·.1) = false := by rfl) :
    PE X (.Call (.Name x p) (e :: es) [] pos) (tCallS sp E t) :=
  ⟨fun pins s σ H Q I h => wpAny_Call_Name_kw (ld_glob I hg hm (PySem.W.callWith_K (h₀ := X.base) I.ok.mod.kin hk (thn (ha.run pos pins s σ H _ I h) fun us s1 ⟨vs, H1, I1, r, q⟩ => ⟨I1.kIn, run_fnG F hr hgu hb (hx σ) I1 r q⟩) he hpl) hdb)⟩
theorem je_callG (F : FnG X.prog X.w X.K X.mg X.base (L2.CX X.prog X.w) k f fd ps (spF X.K T ps.length fn)) (hr : Room k X.A) (hgu : X.A.guards = some []) (hg : Gl X x) (hm : X.mg x = some (.ref f)) (hk : PySem.W.keepIn X.K (.ref f) = true) (hb : Binds X.K fd ps []) (hx : ∀ σ, PassesAt (L2.CX X.prog X.w) X σ (WE W σ))
    (hn : Len as ps.length) (ha : PA X (e :: es) (rdA X.K T W as)) (hdb : (x == ("__debug__" : Str)) = false := by decide) (he : starEach (e :: es) X.env = (false, eval e X.env) :: starEach es X.env := by rfl) (hpl : (backTo pos (starEach es X.env)).any (·.1) = false := by rfl) :
    PE X (.Call (.Name x p) (e :: es) [] pos) (rd X.K T W (mCall fn as)) := PE.imp (pe_callG F hr hgu hg hm hk hb hx ha hdb he hpl) fun σ H Q q => rd_call (fun Γ l Γ' => hn Γ l Γ') q
theorem jl_callG (F : FnG X.prog X.w X.K X.mg X.base (L2.CX X.prog X.w) k f fd ps (spF X.K T ps.length fn)) (hr : Room k X.A) (hgu : X.A.guards = some []) (hg : Gl X x) (hm : X.mg x = some (.ref f)) (hk : PySem.W.keepIn X.K (.ref f) = true) (hb : Binds X.K fd ps []) (hx : ∀ σ, PassesAt (L2.CX X.prog X.w) X σ (WE W σ))
    (hn : Len as ps.length) (ha : PA X (e :: es) (rdA X.K T W as)) (hdb : (x == ("__debug__" : Str)) = false := by decide) (he : starEach (e :: es) X.env = (false, eval e X.env) :: starEach es X.env := by rfl) (hpl : (backTo pos (starEach es X.env)).any (·.1) = false := by rfl) :
    PE X (.Call (.Name x p) (e :: es) [] pos) (rdL X.K T W (mCallL fn as)) := PE.imp (pe_callG F hr hgu hg hm hk hb hx ha hdb he hpl) fun σ H Q q => rdL_call (fun Γ l Γ' => hn Γ l Γ') q
/-! ### texts apart, of any signs -/
def oNeF : D → D → Option D
  | .str a, .str b => some (.bl (!decide (a = b)))
  | _, _ => none
theorem ok_neF {K : PySem.W.Frag} : Ok2 K T rNe oNeF := by
  intro d1 d2 d x y G H q e rx ry Q k
  match d1, d2, q with
  | .str a, .str b, q =>
    cases q
    rw [rx.str, ry.str]
    refine ⟨rfl, ?_⟩
    have z := k (.bl (!decide (a = b))) G H (.inl ⟨rfl, rfl⟩) (.bl _)
    have e : (!decide (a = b)) = (!decide (V.str a = V.str b)) := by
      by_cases h : a = b <;> simp [h]
    rw [e] at z
    exact z
/-! ### str(i) -/
def bStr : List D → Option D
  | [.int i] => if i.natAbs.log2 < 1920 then some (.str (toString i)) else none
  | _ => none
theorem ok_strI {K : PySem.W.Frag} : OkN K T (fun xs H Q => ∃ i, xs = [V.int i] ∧ i.natAbs.log2 < 1920 ∧ Q (V.str (toString i)) H) bStr := by
  intro ds d vs G H q e r Q k
  match ds, q with
  | [.int i], q =>
    have q : (if i.natAbs.log2 < 1920 then some (D.str (toString i)) else none) = some d := q
    split at q
    · rename_i h
      cases q
      obtain ⟨v, rfl, rv⟩ := r.one
      exact ⟨i, by rw [rv.int], h, k _ G H (.inl ⟨rfl, rfl⟩) (.str _)⟩
    · cases q
/-! ### range(a, b, c) -/
def upBy (lo c : Int) (n : Nat) : List D := (List.range n).map fun k => D.int (lo + (k : Nat) * c)
theorem walks_rngC {K : PySem.W.Frag} {G : Hp} {lo c : Int} {n : Nat} : WalksD K T (Itc lo c n) (upBy lo c n) G := by
  intro Hc e
  have hl : (upBy lo c n).length = n := by simp [upBy]
  refine ⟨fun i hi => by rw [hl] at hi; exact hi, fun i hi => by rw [hl] at hi; exact hi, fun i x H' y hi => ?_⟩
  obtain ⟨rfl, rfl⟩ := y
  rw [hl] at hi
  refine ⟨.int (lo + (i : Nat) * c), by simp [upBy, hi], fun Gc g1 g2 => ⟨Gc, .inl ⟨rfl, rfl⟩, .int _⟩⟩
def rg3 (i j c : Int) : Bool := decide (c ≠ 0) && decide (c.natAbs < 1073741824) && Builtin.Range.small i j c && decide (0 ≤ Builtin.Range.rangeSize i j c)
def miRng3 (f g h : MG) : MI := fun Γ => match mCons f (mCons g (mCons h mNil)) Γ with
  | some (.ok l Γ') => (match worths Γ' l with
    | some [.int i, .int j, .int c] => if rg3 i j c then some (.ok (upBy i c (Builtin.Range.rangeSize i j c).toNat) Γ') else none
    | _ => none)
  | some (.exc c d Γ') => some (.exc c d Γ')
  | none => none
theorem jp_rng3 {f g h : MG} (hg : Gl X "range") (hm : X.mg "range" = none) (h1 : PE X e (rdG X.K T W f)) (h2 : PE X e2 (rdG X.K T W g)) (h3 : PE X e3 (rdG X.K T W h)) (hst : starEach [e, e2, e3] X.env = (false, eval e X.env) :: starEach [e2, e3] X.env := by rfl) (hst2 : starEach [e2, e3] X.env = (false, eval e2 X.env) :: starEach [e3] X.env := by rfl) (hst3 : starEach [e3] X.env = (false, eval e3 X.env) :: starEach [] X.env := by rfl)
    (hpl : (backTo pos (starEach [e2, e3] X.env)).any (·.1) = false := by rfl) : PI X tg (.Call (.Name "range" p) [e, e2, e3] [] pos) (rdI X.K T W (miRng3 f g h)) :=
  PI.imp (pi_range3 hg hm (ja_cons h1 (ja_cons h2 (ja_cons h3 ja_nil hst3) hst2) hst) hst hpl) fun σ H R ⟨B, Γ, G, o, hf, s, k⟩ => by
    unfold miRng3 at hf
    have fin : rdA X.K T W (mCons f (mCons g (mCons h mNil))) σ H fun vs H1 => ∃ (i j c : Int) (n : Nat), vs = [.int i, .int j, .int c] ∧ RgC i j c n ∧ R (Itc i c n) H1 := by
      split at hf
      · rename_i l Γ' q
        refine ⟨B, Γ, G, _, q, s, fun vs G' H' s' g' r => ?_⟩
        split at hf
        · rename_i i j c w
          split at hf
          · rename_i hn
            cases hf
            have ra := s'.worths r w
            cases ra with
            | cons r1 ra =>
              cases ra with
              | cons r2 ra =>
                cases ra with
                | cons r3 ra =>
                  cases ra
                  have e1 := r1.int
                  have e2 := r2.int
                  have e3 := r3.int
                  subst e1 e2 e3
                  unfold rg3 at hn
                  simp only [Bool.and_eq_true, decide_eq_true_eq] at hn
                  exact ⟨i, j, c, _, rfl, ⟨hn.1.1.1, hn.1.1.2, hn.1.2, (Int.toNat_of_nonneg hn.2).symm⟩, k _ G' H' s' g' walks_rngC⟩
          · cases hf
        · cases hf
      · rename_i c d Γ' q
        cases hf
        exact ⟨B, Γ, G, _, q, s, k⟩
      · cases hf
    exact fin
end
end Ky
/-! Ky32: which data repr shows: by their parts. -/
namespace Ky
open PySem PySem.Spec PyProof.Rows L2
def Sh1 (n w : Nat) (d : D) : Prop := ∃ x, toPy d = some x ∧ x.showable = true ∧ x.hasDict = false ∧ x.depth ≤ n ∧ x.leavesShort 100 = true ∧ x.weight ≤ w
def ShA (n w : Nat) (ds : List D) : Prop := ∃ xs, toPys ds = some xs ∧ PyData.showableAll xs = true ∧ PyData.hasDictAll xs = false ∧ PyData.depthAll xs ≤ n ∧ PyData.leavesShortAll 100 xs = true ∧ PyData.weightAll xs ≤ w
theorem log_small {i : Int} (h : i.natAbs < 10 ^ 45) : i.natAbs.log2 < 150 := by
  by_cases h0 : i.natAbs = 0
  · rw [h0]
    decide
  · rw [Nat.log2_lt h0]
    have : (10 : Nat) ^ 45 < 2 ^ 150 := by decide
    omega
theorem Sh1.int {n : Nat} {i : Int} (h : i.natAbs < 10 ^ 45) : Sh1 n 200 (.int i) := by
  have l := log_small h
  refine ⟨.int i, rfl, ?_, by unfold PyData.hasDict; rfl, by show PyData.depth (.int i) ≤ n; unfold PyData.depth; omega, ?_, ?_⟩
  · unfold PyData.showable
    rw [decide_eq_true_eq]
    omega
  · have e := int_text_length_le10 (k := 45) (by decide) h
    unfold PyData.leavesShort
    rw [decide_eq_true_eq]
    have : (PyData.shown (.int i)).length ≤ 46 := by
      show (Str.ofString (toString i)).length ≤ 46
      rw [PySem.ofString_length]
      exact e
    omega
  · unfold PyData.weight
    split <;> omega
theorem Sh1.bl {n : Nat} (b : Bool) : Sh1 n 0 (.bl b) := ⟨.bool b, rfl, by unfold PyData.showable; rfl, by unfold PyData.hasDict; rfl, by show PyData.depth (.bool b) ≤ n; unfold PyData.depth; omega, by unfold PyData.leavesShort; rfl, by unfold PyData.weight; exact Nat.le_refl _⟩
theorem Sh1.non {n : Nat} : Sh1 n 0 .non := ⟨.none, rfl, by unfold PyData.showable; rfl, by unfold PyData.hasDict; rfl, by show PyData.depth .none ≤ n; unfold PyData.depth; omega, by unfold PyData.leavesShort; rfl, by unfold PyData.weight; exact Nat.le_refl _⟩
theorem Sh1.str {n w : Nat} {z : Str} (h : PyData.canLay0 (.str z) = true) (hw : z.length ≤ w) : Sh1 n w (.str z) := by
  refine ⟨.str z, rfl, by unfold PyData.showable; rfl, by unfold PyData.hasDict; rfl, by show PyData.depth (.str z) ≤ n; unfold PyData.depth; omega, ?_, by unfold PyData.weight; exact hw⟩
  exact PyData.leavesShort_of_canLay0 100 _ h (by unfold PyData.intsShort; rfl)
theorem ShA.nil {n : Nat} : ShA n 0 [] := ⟨[], rfl, by unfold PyData.showableAll; rfl, by unfold PyData.hasDictAll; rfl, by unfold PyData.depthAll; omega, by unfold PyData.leavesShortAll; rfl, by unfold PyData.weightAll; exact Nat.le_refl _⟩
theorem ShA.cons {n w v : Nat} {d : D} {ds : List D} (h : Sh1 n w d) (k : ShA n v ds) : ShA n (w + 1 + v) (d :: ds) := by
  obtain ⟨x, a1, a2, a3, a4, a5, a6⟩ := h
  obtain ⟨xs, b1, b2, b3, b4, b5, b6⟩ := k
  refine ⟨x :: xs, by unfold toPys; rw [a1, b1], ?_, ?_, ?_, ?_, ?_⟩
  · unfold PyData.showableAll; rw [a2, b2]; rfl
  · unfold PyData.hasDictAll; rw [a3, b3]; rfl
  · exact Nat.max_le.mpr ⟨a4, b4⟩
  · unfold PyData.leavesShortAll; rw [a5, b5]; rfl
  · unfold PyData.weightAll; omega
theorem Sh1.lst {n w : Nat} {ds : List D} (k : ShA n w ds) : Sh1 (n + 1) w (.lst ds) := by
  obtain ⟨xs, b1, b2, b3, b4, b5, b6⟩ := k
  refine ⟨.list xs, by unfold toPy; rw [b1], by unfold PyData.showable; exact b2, by unfold PyData.hasDict; exact b3, Nat.succ_le_succ b4, by unfold PyData.leavesShort; exact b5, by unfold PyData.weight; exact b6⟩
theorem Sh1.tup {n w : Nat} {ds : List D} (k : ShA n w ds) : Sh1 (n + 1) w (.tup ds) := by
  obtain ⟨xs, b1, b2, b3, b4, b5, b6⟩ := k
  refine ⟨.tuple xs, by unfold toPy; rw [b1], by unfold PyData.showable; exact b2, by unfold PyData.hasDict; exact b3, Nat.succ_le_succ b4, by unfold PyData.leavesShort; exact b5, by unfold PyData.weight; exact b6⟩
theorem Sh1.repr {n w : Nat} {d : D} (h : Sh1 n w d) (hn : n ≤ 60) (hw : w ≤ 900) : ∃ z, reprD d = some z := by
  obtain ⟨x, a1, a2, a3, a4, a5, a6⟩ := h
  have ok : okR x = true := by
    have l := PyData.shown_le 100 (by decide) x a5
    unfold okR
    have i : intR x = true := by
      cases x with
      | int i =>
        unfold PyData.showable at a2
        exact a2
      | _ => rfl
    rw [a2, a3, i, decide_eq_true (by omega : x.depth ≤ 60), decide_eq_true (by omega : x.shown.length ≤ 100000)]
    rfl
  refine ⟨x.shown, ?_⟩
  have e : d ≠ .dic → reprD d = (match toPy d with | some x => if okR x then some x.shown else none | none => none) := fun h => by
    cases d <;> first | rfl | exact absurd rfl h
  rw [e (fun h => by rw [h] at a1; cases a1), a1]
  exact if_pos ok
theorem repr_dic : ∃ z, reprD .dic = some z := ⟨_, rfl⟩
end Ky
/-! Ky33: __init__ that may raise, made of data and cells: statements, then the attributes in order. -/
namespace Ky
open PySem PySem.Spec PyProof.Rows L2
theorem upd_self {f : Hp} {x : Addr} {o : HO} (h : f x = some o) : upd f x o = f := by
  funext y
  by_cases e : y = x
  · subst e
    rw [upd_same, h]
  · rw [upd_ne e]
theorem upd_upd {f : Hp} {x : Addr} {a b : HO} : upd (upd f x a) x b = upd f x b := by
  funext y
  by_cases h : y = x
  · subst h
    rw [upd_same, upd_same]
  · rw [upd_ne h, upd_ne h, upd_ne h]
def selfEv (cs : Ev) : Ev := ⟨.un :: cs.v, cs.c⟩
/-- what is tried ahead: a test, and what raises then -/
def evPre : List (MB × MS) → Ev → Option Fl
  | [], Γ => some (.nx Γ)
  | (b, f) :: r, Γ => (match b Γ with
    | some (.ok false Γ') => evPre r Γ'
    | some (.ok true Γ') => (match f Γ' with
      | some (.exc c d Γ2) => some (.exc c d Γ2)
      | _ => none)
    | some (.exc c d Γ') => some (.exc c d Γ')
    | none => none)
def evSt : List ME → Ev → Option OutL
  | [], Γ => some (.ok [] Γ)
  | f :: r, Γ => (match f Γ with
    | some (.ok d Γ') => (match evSt r Γ' with
      | some (.ok ds Γ2) => some (.ok (d :: ds) Γ2)
      | some (.exc c x Γ2) => some (.exc c x Γ2)
      | none => none)
    | some (.exc c x Γ2) => some (.exc c x Γ2)
    | none => none)
def finS (cs Γ : Ev) : Ev := ⟨(fin (selfEv cs) Γ).v.tail, Γ.c⟩
def initG (c n m : Nat) (pre : List (MB × MS)) (fs : List ME) : Fn := fun cs => if cs.length = n then (match evPre pre (pad (selfEv cs) (m - (n + 1))) with
  | some (.nx Γ1) => (match evSt fs Γ1 with
    | some (.ok ds Γ2) => if Γ2.length = m then some (.dat (.ins c ds), finS cs Γ2) else none
    | some (.exc c' d Γ2) => if Γ2.length = m then some (.exc c' d, finS cs Γ2) else none
    | none => none)
  | some (.exc c' d Γ2) => if Γ2.length = m then some (.exc c' d, finS cs Γ2) else none
  | _ => none) else none
def spN (K : PySem.W.Frag) (T : Tbl) (c n : Nat) (fn : Fn) : Sp := fun vs H Q E => vs.length = n + 1 ∧ ∃ x ws dx G cs r cs', vs = .ref x :: ws ∧ H x = some (.ins (T.cls c) dx []) ∧ G x = none ∧ fn cs = some (r, cs') ∧ Sat K T (argBg vs (selfEv cs) G H) (selfEv cs) (vs.map some) G H ∧ ioOnly (selfEv cs) ∧ ¬ (argBg vs (selfEv cs) G H).M x ∧ match r with
  | .dat (.ins c' fs) => c' = c ∧ ∀ fvs G' H', Sat K T { argBg vs (selfEv cs) G H with H0 := upd H x (.ins (T.cls c) dx ((T.att c).zip fvs)) } (selfEv cs') (vs.map some) G' H' → fvs.length = (T.att c).length → RpA K T G' fvs fs → Q .non H'
  | .exc c' d => ∀ o dx' v G' H', Sat K T { argBg vs (selfEv cs) G H with H0 := upd H x o } (selfEv cs') (vs.map some) G' H' → G' dx' = some (.xd [(((T.att c').getD 0 Str.empty), v)]) → Rp K T G' v d → E (.ref (T.cls c')) (some dx') H'
  | _ => False
section
variable {K : PySem.W.Frag} {T : Tbl} {W : WX} {B : Bg} {Γ : Ev} {σ : L2.St} {G H : Hp} {De : Ends}
/-- an instance under way is changed: nobody knows of it yet -/
theorem Sat.alt (s : Sat K T B Γ σ G H) {x : Addr} {o1 : HO} (o2 : HO) (h0 : B.H0 x = some o1) (hm : ¬ B.M x) (hg : G x = none) : Sat K T { B with H0 := upd B.H0 x o2 } Γ σ G (upd H x o2) := by
  have own : ∀ {p : Addr} {io : Bool}, (io = true → B.M p) → (io = false → B.H0 p = none) → p ≠ x := fun {p io} h1 h2 e => by
    subst e
    cases io with
    | true => exact hm (h1 rfl)
    | false => rw [h2 rfl] at h0; cases h0
  refine ⟨s.g0, fun a u e => ?_, fun a o e m => ?_, fun a o e => ?_, fun a o e => ?_, s.len, s.dt, fun i io ds h => ?_, s.pr, ⟨fun k ds e => ?_, s.cl.gi, s.cl.gn⟩, s.dj⟩
  · rw [upd_ne (ne_of_none e hg)]
    exact s.gh _ _ e
  · have e : upd B.H0 x o2 a = some o := e
    by_cases ha : a = x
    · subst ha
      rw [upd_same] at e
      cases e
      exact upd_same
    · rw [upd_ne ha] at e ⊢
      exact s.fr a o e m
  · have e : upd B.H0 x o2 a = some o := e
    by_cases ha : a = x
    · subst ha
      exact ⟨_, upd_same⟩
    · rw [upd_ne ha] at e ⊢
      exact s.al a o e
  · rcases s.nw a o e with z | z
    · exact .inl z
    · exact .inr (show upd B.H0 x o2 a = none by rw [upd_ne (ne_of_none e hg)]; exact z)
  · obtain ⟨p, xs, h1, h2, h3, h4, h5, h6⟩ := s.ow i io ds h
    have hp := own h5 h6
    exact ⟨p, xs, h1, h2, by rw [upd_ne hp]; exact h3, h4, h5, fun z => show upd B.H0 x o2 p = none by rw [upd_ne hp]; exact h6 z⟩
  · obtain ⟨p, xs, h1, h2, h3, h4⟩ := s.cl.ce k ds e
    have hp : p ≠ x := ne_of_none h1 hg
    exact ⟨p, xs, h1, by rw [upd_ne hp]; exact h2, h3, h4.imp id fun z => show upd B.H0 x o2 p = none by rw [upd_ne hp]; exact z⟩
theorem Sat.gone (s : Sat K T B Γ σ G H) {x : Addr} {o : HO} (h0 : B.H0 x = some o) (g0 : B.G0 x = none) : G x = none := by
  cases w : G x with
  | none => rfl
  | some u =>
    rcases s.nw x u w with z | z
    · rw [g0] at z; cases z
    · rw [h0] at z; cases z
def tStores (K : PySem.W.Frag) (T : Tbl) (W : WX) : List (Str × ME) → TS
  | [] => tNext
  | (f, e) :: r => tSeq (sFld K (tVar 0) (rd K T W e) f) (tStores K T W r)
theorem putF_zip {f : Str} {v : V} : ∀ {fs : List Str} {vs : List V}, fs.length = vs.length → f ∉ fs → putF f v (fs.zip vs) = (fs ++ [f]).zip (vs ++ [v])
  | [], [], _, _ => rfl
  | g :: fs, w :: vs, hl, hn => by
    rw [List.mem_cons, not_or] at hn
    have ih := putF_zip (f := f) (v := v) (fs := fs) (vs := vs) (by simpa using hl) hn.2
    show (if g = f then (g, v) :: fs.zip vs else (g, w) :: putF f v (fs.zip vs)) = _
    rw [if_neg (fun e => hn.1 e.symm), ih]
    rfl
theorem stores_ok {c : Nat} {x dx : Addr} {E : XK} (hW : W = fun cls d _ H => E cls d H) (cl : Cls K (T.cls c)) (na : ∀ f ∈ T.att c, NoAttr K (T.cls c) f) (nd : (T.att c).Nodup) (small : (T.att c).length < 1000) :
    ∀ (l : List (Str × ME)) (done : List Str) (fvs : List V) (fds : List D) (B : Bg) (Γ : Ev) (G H : Hp) (r : OutL), T.att c = done ++ l.map (·.1) → Sat K T B Γ σ G H → B.H0 x = some (.ins (T.cls c) dx (done.zip fvs)) → B.G0 x = none → ¬ B.M x → σ[0]? = some (some (V.ref x)) → fvs.length = done.length → RpA K T G fvs fds →
    evSt (l.map (·.2)) Γ = some r →
    (match r with
      | .ok ds Γ' => ∀ fvs' G' H', Sat K T { B with H0 := upd B.H0 x (.ins (T.cls c) dx ((T.att c).zip fvs')) } Γ' σ G' H' → fvs'.length = (T.att c).length → RpA K T G' fvs' (fds ++ ds) → De.nx σ H'
      | .exc c' d Γ' => ∀ o dx' v G' H', Sat K T { B with H0 := upd B.H0 x o } Γ' σ G' H' → G' dx' = some (.xd [(((T.att c').getD 0 Str.empty), v)]) → Rp K T G' v d → E (.ref (T.cls c')) (some dx') H') → tStores K T W l De σ H
  | [], done, fvs, fds, B, Γ, G, H, r, ha, s, hB, g0, hm, h0, hl, ra, ev, k => by
    cases ev
    rw [List.map_nil, List.append_nil] at ha
    have k : ∀ fvs' G' H', Sat K T { B with H0 := upd B.H0 x (.ins (T.cls c) dx ((T.att c).zip fvs')) } Γ σ G' H' → fvs'.length = (T.att c).length → RpA K T G' fvs' (fds ++ []) → De.nx σ H' := k
    have s2 := s.alt (.ins (T.cls c) dx ((T.att c).zip fvs)) hB hm (s.gone hB g0)
    have hx : H x = some (.ins (T.cls c) dx (done.zip fvs)) := s.fr x _ hB hm
    have e : upd H x (.ins (T.cls c) dx ((T.att c).zip fvs)) = H := by
      funext y
      by_cases hy : y = x
      · subst hy
        rw [upd_same, hx, ha]
      · rw [upd_ne hy]
    rw [e] at s2
    exact k fvs G H s2 (by rw [ha]; exact hl) (by rw [List.append_nil]; exact ra)
  | (f, e) :: l, done, fvs, fds, B, Γ, G, H, r, ha, s, hB, g0, hm, h0, hl, ra, ev, k => by
    have fa : f ∈ T.att c := by rw [ha]; simp
    have nf : f ∉ done := by
      rw [ha, List.map_cons] at nd
      intro z
      have q := (List.nodup_append.mp nd).2.2 f z f (by simp)
      exact q rfl
    have ld : done.length < 1000 := by
      rw [ha, List.length_append] at small
      omega
    rw [List.map_cons] at ev
    unfold evSt at ev
    show (rd K T W e) σ H _
    split at ev
    · rename_i d Γ' q
      refine ⟨B, Γ, G, _, q, s, fun v G1 H1 s1 g1 r1 => ?_⟩
      have hx1 : H1 x = some (.ins (T.cls c) dx (done.zip fvs)) := s1.fr x _ hB hm
      have gx1 : G1 x = none := s1.gone hB g0
      refine ⟨_, h0, x, T.cls c, dx, _, rfl, hx1, cl, na f fa, ?_, ?_⟩
      · rw [List.length_zip]
        omega
      · rw [putF_zip hl.symm nf]
        have s2 := s1.alt (.ins (T.cls c) dx ((done ++ [f]).zip (fvs ++ [v]))) hB hm gx1
        have ih := fun r => stores_ok (x := x) (dx := dx) hW cl na nd small l (done ++ [f]) (fvs ++ [v]) (fds ++ [d]) { B with H0 := upd B.H0 x (.ins (T.cls c) dx ((done ++ [f]).zip (fvs ++ [v]))) } Γ' G1 (upd H1 x (.ins (T.cls c) dx ((done ++ [f]).zip (fvs ++ [v])))) r
        have ha2 : T.att c = (done ++ [f]) ++ l.map (·.1) := by rw [ha]; simp
        have ra2 := (ra.to g1).append (.one r1)
        split at ev
        · rename_i ds Γ2 q2
          cases ev
          refine ih _ ha2 s2 upd_same g0 hm h0 (by simp [hl]) ra2 q2 ?_
          intro fvs' G' H' s' hl' rf
          have k : ∀ fvs' G' H', Sat K T { B with H0 := upd B.H0 x (.ins (T.cls c) dx ((T.att c).zip fvs')) } Γ2 σ G' H' → fvs'.length = (T.att c).length → RpA K T G' fvs' (fds ++ d :: ds) → De.nx σ H' := k
          refine k fvs' G' H' ?_ hl' (by simpa using rf)
          have s' : Sat K T { B with H0 := upd (upd B.H0 x (.ins (T.cls c) dx ((done ++ [f]).zip (fvs ++ [v])))) x (.ins (T.cls c) dx ((T.att c).zip fvs')) } Γ2 σ G' H' := s'
          rw [upd_upd] at s'
          exact s'
        · rename_i c' x' Γ2 q2
          cases ev
          refine ih _ ha2 s2 upd_same g0 hm h0 (by simp [hl]) ra2 q2 ?_
          intro o dx' v' G' H' s' hd rv
          have s' : Sat K T { B with H0 := upd (upd B.H0 x (.ins (T.cls c) dx ((done ++ [f]).zip (fvs ++ [v])))) x o } Γ2 σ G' H' := s'
          rw [upd_upd] at s'
          exact k o dx' v' G' H' s' hd rv
        · cases ev
    · rename_i c' x' Γ2 q
      cases ev
      refine ⟨B, Γ, G, _, q, s, ?_⟩
      intro dx' v G1 H1 s1 g1 hd rv
      rw [hW]
      have s2 := s1.alt (.ins (T.cls c) dx (done.zip fvs)) hB hm (s1.gone hB g0)
      have hx : H1 x = some (.ins (T.cls c) dx (done.zip fvs)) := s1.fr x _ hB hm
      have e : upd H1 x (.ins (T.cls c) dx (done.zip fvs)) = H1 := by
        funext y
        by_cases hy : y = x
        · subst hy
          rw [upd_same, hx]
        · rw [upd_ne hy]
      rw [e] at s2
      exact k _ dx' v G1 H1 s2 hd rv
    · cases ev
def tPre (K : PySem.W.Frag) (T : Tbl) (W : WX) (t : TS) : List (MB × MS) → TS
  | [] => t
  | g :: r => tSeq (tIfS (rdT K T W g.1) (rdS K T W g.2) tNext) (tPre K T W t r)
theorem pre_ok {t : TS} : ∀ (l : List (MB × MS)) (Γ : Ev) (o : Fl) (G H : Hp), Sat K T B Γ σ G H → evPre l Γ = some o → (match o with
    | .nx Γ' => ∀ G' H', Sat K T B Γ' σ G' H' → Same G G' → t De σ H'
    | .exc c d Γ' => ExcS K T W B c d Γ'
    | _ => True) → tPre K T W t l De σ H
  | [], Γ, o, G, H, s, e, k => by cases e; exact k G H s (Same.refl G)
  | (b, f) :: r, Γ, o, G, H, s, e, k => by
    unfold evPre at e
    split at e
    · rename_i Γ1 q
      refine ⟨B, Γ, G, _, q, s, fun G1 H1 s1 g1 => iteF ?_⟩
      refine pre_ok r Γ1 o G1 H1 s1 e ?_
      cases o with
      | nx Γ' => exact fun G' H' s' g' => k G' H' s' (g1.trans g')
      | exc c d Γ' => exact k
      | _ => trivial
    · rename_i Γ1 q
      split at e
      · rename_i c d Γ2 q2
        cases e
        exact ⟨B, Γ, G, _, q, s, fun G1 H1 s1 g1 => iteT ⟨B, Γ1, G1, _, q2, s1, k⟩⟩
      · cases e
    · rename_i c d Γ1 q
      cases e
      exact ⟨B, Γ, G, _, q, s, ExcS.p k⟩
    · cases e
end
section
variable {P : Program} {w : World} {K : PySem.W.Frag} {mg : Str → Option Value} {base : Heap} {T : Tbl}
theorem selfEv_fin {cs Γ : Ev} (h : 1 ≤ Γ.length) : selfEv (finS cs Γ) = fin (selfEv cs) Γ := by
  unfold selfEv finS fin
  obtain ⟨v, c⟩ := Γ
  cases v with
  | nil => simp [Ev.length] at h
  | cons g v => rfl
theorem init_ok {x qual : Str} {st : Stmt} {f : Addr} {fd : FuncData} {N ps : List Str} {k c n : Nat} {pre : List (MB × MS)} {fs : List (Str × ME)} (F : Fun K x qual st f fd) (S : FnScope N ps (defScope st))
    (cl : Cls K (T.cls c)) (na : ∀ f ∈ T.att c, NoAttr K (T.cls c) f) (nd : (T.att c).Nodup) (small : (T.att c).length < 1000) (hps : ps.length = n + 1) (hfs : T.att c = fs.map (·.1))
    (hb : ∀ (cdv : Value) (A : Around) (outer : List Env) (s : Shared) (H : Hp) (E : XK), Room k (A.deeper (envOfC qual (defScope st) s.heap.objs.size f cdv)) →
      PSs (cxOf (L2.CX P w) P w K mg base N qual (defScope st) f cdv A outer s H E) (defBody st) (tPre K T (fun cls d _ H => E cls d H) (tStores K T (fun cls d _ H => E cls d H) fs) pre)) :
    FnOk P w K mg base (L2.CX P w) (k + 1) f fd ps (spN K T c n (initG c n N.length pre (fs.map (·.2)))) := by
  have hpl : ps.length ≤ N.length := by
    have := congrArg List.length S.pre
    rw [List.length_take] at this
    omega
  refine F.okX S (fun vs H Q E h => h.1.trans hps.symm) (fun cdv A outer s H vs Q E hr h => ⟨_, hb cdv A outer s H E hr, ?_⟩)
  obtain ⟨hl, a, ws, dx, G, cs, r, cs', rfl, hx, gx, hf, s0, io, hmx, k⟩ := h
  have hws : ws.length = n := by simpa using hl
  have hNl : (V.ref a :: ws).length ≤ N.length := by rw [hl]; omega
  have s1 := s0.enter hNl
  rw [hl] at s1
  have st0 : (L2.start N (V.ref a :: ws))[0]? = some (some (V.ref a)) := start_get rfl
  have lv : ∀ (o : HO) {Γ2 : Ev} {σ' : L2.St} {G' H' : Hp}, Γ2.length = N.length → Sat K T { bodyBg N (V.ref a :: ws) (selfEv cs) G H with H0 := upd H a o } Γ2 σ' G' H' → Sat K T { argBg (V.ref a :: ws) (selfEv cs) G H with H0 := upd H a o } (selfEv (finS cs Γ2)) ((V.ref a :: ws).map some) G' H' := fun o {Γ2 σ' G' H'} h2 s' => by
    have s2 : Sat K T (argBg (V.ref a :: ws) (selfEv cs) G (upd H a o)) (selfEv cs) ((V.ref a :: ws).map some) G (upd H a o) := s0.alt o hx hmx gx
    rw [selfEv_fin (by omega)]
    exact s2.leave io hNl h2 s'
  unfold initG at hf
  split at hf
  rotate_left
  · cases hf
  split at hf
  · rename_i Γ1 q
    refine pre_ok pre _ _ G H s1 q fun G1 H1 s2 g1 => ?_
    split at hf
    · rename_i ds Γ2 q2
      split at hf
      · rename_i h2
        cases hf
        exact stores_ok (x := a) (dx := dx) rfl cl na nd small fs [] [] [] _ Γ1 G1 H1 _ (by simpa using hfs) s2 hx gx hmx st0 rfl .nil q2 fun fvs' G' H' s' hl' rf => k.2 fvs' G' H' (lv _ h2 s') hl' (by simpa using rf)
      · cases hf
    · rename_i c' d Γ2 q2
      split at hf
      · rename_i h2
        cases hf
        exact stores_ok (x := a) (dx := dx) rfl cl na nd small fs [] [] [] _ Γ1 G1 H1 _ (by simpa using hfs) s2 hx gx hmx st0 rfl .nil q2 fun o dx' v G' H' s' hd rv => k o dx' v G' H' (lv o h2 s') hd rv
      · cases hf
    · cases hf
  · rename_i c' d Γ2 q
    split at hf
    · rename_i h2
      cases hf
      refine pre_ok pre _ _ G H s1 q fun dx' v σ' G' H' s' hd rv => ?_
      refine k (.ins (T.cls c) dx []) dx' v G' H' (lv (σ' := σ') _ h2 ?_) hd rv
      rw [upd_self hx]
      exact s'
    · cases hf
  · cases hf
end
/-! ### the call -/
section
variable {K : PySem.W.Frag} {T : Tbl}
theorem spN_of {c n : Nat} {fn : Fn} {vs : List V} {H1 : Hp} {Q : VK} {E : XK} {x dx : Addr} (good : ∀ cs r cs', fn cs = some (r, cs') → (∃ fs, r = .dat (.ins c fs)) ∨ ∃ c' d, r = .exc c' d) (h : spF K T n fn vs H1 Q E) (nx : H1 x = none) (ndx : H1 dx = none) (ne : dx ≠ x) :
    spN K T c n fn (.ref x :: vs) (upd (upd H1 dx (.own x)) x (.ins (T.cls c) dx [])) (fun v H2 => v = .non ∧ Q (.ref x) H2) E := by
  obtain ⟨hl, G, cs, r, cs', hf, s0, io, k⟩ := h
  have hx1 : ∀ a o, H1 a = some o → a ≠ x := fun a o e z => by rw [z, nx] at e; cases e
  have hd1 : ∀ a o, H1 a = some o → a ≠ dx := fun a o e z => by rw [z, ndx] at e; cases e
  have up : ∀ a o, H1 a = some o → (upd (upd H1 dx (.own x)) x (.ins (T.cls c) dx [])) a = some o := fun a o e => by
    rw [upd_ne (hx1 a o e), upd_ne (hd1 a o e)]
    exact e
  have up2 : ∀ u a o, H1 a = some o → (upd (upd (upd H1 dx (.own x)) x (.ins (T.cls c) dx [])) x u) a = some o := fun u a o e => by
    rw [upd_ne (hx1 a o e)]
    exact up a o e
  have gx : G x = none := s0.gnone nx
  have M1 : ∀ a, (argBg vs cs G H1).M a → (argBg (.ref x :: vs) (selfEv cs) G H1).M a := fun a m => by
    rcases m with ⟨i, ds, h1, h2⟩ | m
    · exact .inl ⟨i + 1, ds, h1, h2⟩
    · exact .inr m
  have M2 : ∀ a, (argBg (.ref x :: vs) (selfEv cs) G H1).M a → (argBg vs cs G H1).M a := fun a m => by
    rcases m with ⟨i, ds, h1, h2⟩ | m
    · cases i with
      | zero => cases h1
      | succ i => exact .inl ⟨i, ds, h1, h2⟩
    · exact .inr m
  have nM : ¬ (argBg vs cs G H1).M x := fun m => by
    rcases m with ⟨i, ds, h1, h2⟩ | ⟨j, m⟩
    · obtain ⟨p, xs, q1, q2, q3, _⟩ := s0.ow i true ds h1
      have q1 : (vs.map some)[i]? = some (some (V.ref p)) := q1
      rw [List.getElem?_map, h2] at q1
      cases q1
      rw [nx] at q3
      cases q3
    · rw [gx] at m
      cases m
  have sp : Sat K T (argBg (.ref x :: vs) (selfEv cs) G (upd (upd H1 dx (.own x)) x (.ins (T.cls c) dx []))) (selfEv cs) ((V.ref x :: vs).map some) G (upd (upd H1 dx (.own x)) x (.ins (T.cls c) dx [])) := by
    refine ⟨Same.refl G, s0.gh.trans fun a o e => up a o e, fun a o e _ => e, fun a o e => ⟨o, e⟩, fun a o e => .inl e, ?_, fun i d h => ?_, fun i jo ds h => ?_, fun i ds h => rfl, ⟨fun j ds e => ?_, s0.cl.gi, s0.cl.gn⟩, fun i j io jo ds es p h1 h2 h3 h4 => ?_⟩
    · have := s0.len
      simp [selfEv, Ev.length] at this ⊢
      exact this
    · cases i with
      | zero => cases h
      | succ i => exact s0.dt i d h
    · cases i with
      | zero => cases h
      | succ i =>
        obtain ⟨p, xs, q1, q2, q3, q4, q5, q6⟩ := s0.ow i jo ds h
        refine ⟨p, xs, q1, q2, up _ _ q3, q4, fun z => M1 p (q5 z), fun z => ?_⟩
        subst z
        exact absurd h (io i ds)
    · obtain ⟨p, xs, q1, q2, q3, q4⟩ := s0.cl.ce j ds e
      exact ⟨p, xs, q1, up _ _ q2, q3, .inl (.inr ⟨j, q1⟩)⟩
    · cases i with
      | zero => cases h1
      | succ i => cases j with
        | zero => cases h2
        | succ j => rw [s0.dj i j io jo ds es p h1 h2 h3 h4]
  have back : ∀ (u : HO) {G' H' : Hp}, Sat K T { argBg (.ref x :: vs) (selfEv cs) G (upd (upd H1 dx (.own x)) x (.ins (T.cls c) dx [])) with H0 := upd (upd (upd H1 dx (.own x)) x (.ins (T.cls c) dx [])) x u } (selfEv cs') ((V.ref x :: vs).map some) G' H' → Sat K T (argBg vs cs G H1) cs' (vs.map some) G' H' := fun u {G' H'} s' => by
    have dn : ∀ a, (upd (upd (upd H1 dx (.own x)) x (.ins (T.cls c) dx [])) x u) a = none → H1 a = none := fun a e => by
      cases w : H1 a with
      | none => rfl
      | some o =>
        rw [up2 u a o w] at e
        cases e
    refine ⟨s'.g0, s'.gh, fun a o e m => s'.fr a o (up2 u a o e) fun z => m (M2 a z), fun a o e => s'.al a o (up2 u a o e), fun a o e => (s'.nw a o e).imp id (dn a), ?_, fun i d h => s'.dt (i + 1) d h, fun i jo ds h => ?_, fun i ds h => rfl, ⟨fun j ds e => ?_, s'.cl.gi, s'.cl.gn⟩, fun i j io jo ds es p h1 h2 h3 h4 => ?_⟩
    · have := s'.len
      simp [selfEv, Ev.length] at this ⊢
      exact this
    · obtain ⟨p, xs, q1, q2, q3, q4, q5, q6⟩ := s'.ow (i + 1) jo ds h
      exact ⟨p, xs, q1, q2, q3, q4, fun z => M2 p (q5 z), fun z => dn p (q6 z)⟩
    · obtain ⟨p, xs, q1, q2, q3, q4⟩ := s'.cl.ce j ds e
      exact ⟨p, xs, q1, q2, q3, q4.imp (M2 p) (dn p)⟩
    · have := s'.dj (i + 1) (j + 1) io jo ds es p h1 h2 h3 h4
      omega
  refine ⟨by rw [List.length_cons, hl], x, vs, dx, G, cs, r, cs', rfl, upd_same, gx, hf, sp, fun i ds h => ?_, fun m => nM (M2 x m), ?_⟩
  · cases i with
    | zero => cases h
    | succ i => exact io i ds h
  · rcases good cs r cs' hf with ⟨fs, rfl⟩ | ⟨c', d, rfl⟩
    · refine ⟨rfl, fun fvs G' H' s' hfl ra => ⟨rfl, ?_⟩⟩
      have gx' : G' x = none := s'.gone (o := .ins (T.cls c) dx ((T.att c).zip fvs)) upd_same gx
      have hx' : H' x = some (.ins (T.cls c) dx ((T.att c).zip fvs)) := s'.fr x _ upd_same fun m => nM (M2 x m)
      have sb := back _ s'
      have sg : Same G' (upd G' x (.ins (T.cls c) dx ((T.att c).zip fvs))) := Same.new gx'
      refine k (.ref x) _ _ (sb.know gx' hx' nx fun j io es hj z => ?_) (.ins upd_same hfl (ra.to sg))
      obtain ⟨p, xs, q1, q2, q3, _⟩ := sb.ow j io es hj
      rw [z] at q1
      cases q1
      rw [hx'] at q3
      cases q3
    · exact fun o dx' v G' H' s' hd rv => k dx' v G' H' (back o s') hd rv
theorem initG_good {c n m : Nat} {pre : List (MB × MS)} {fs : List ME} : ∀ cs r cs', initG c n m pre fs cs = some (r, cs') → (∃ fs, r = .dat (.ins c fs)) ∨ ∃ c' d, r = .exc c' d := fun cs r cs' h => by
  unfold initG at h
  split at h
  · split at h
    · split at h
      · split at h
        · cases h; exact .inl ⟨_, rfl⟩
        · cases h
      · split at h
        · cases h; exact .inr ⟨_, _, rfl⟩
        · cases h
      · cases h
    · split at h
      · cases h; exact .inr ⟨_, _, rfl⟩
      · cases h
    · cases h
  · cases h
end
section
variable {X : Cx} {T : Tbl} {W : WX} {k : Nat} {f : Addr} {fd : FuncData} {ps : List Str} {x : Str} {p pos : Pos} {e : Expr} {es : List Expr} {as : MA}
theorem je_makeN {c n : Nat} {fn : Fn} (M : Mk X.K (T.cls c) f) (F : FnOk X.prog X.w X.K X.mg X.base (L2.CX X.prog X.w) k f fd ps (spN X.K T c n fn)) (good : ∀ cs r cs', fn cs = some (r, cs') → (∃ fs, r = .dat (.ins c fs)) ∨ ∃ c' d, r = .exc c' d) (hr : Room (k + 1) X.A) (hg : Gl X x) (hm : X.mg x = some (.ref (T.cls c))) (hb : Binds X.K fd ps [])
    (hx : ∀ σ, PassesAt (L2.CX X.prog X.w) X σ (WE W σ)) (hn : Len as n) (ha : PA X (e :: es) (rdA X.K T W as)) (hdb : (x == ("__debug__" : Str)) = false := by decide) (he : starEach (e :: es) X.env = (false, eval e X.env) :: starEach es X.env := by rfl) (hpl : (backTo pos (starEach es X.env)).any (·.1) = false := by rfl) :
    PE X (.Call (.Name x p) (e :: es) [] pos) (rd X.K T W (mCall fn as)) :=
  PE.imp (pe_makeS M F hr hg hm hb hx ha hdb he hpl) fun σ H Q q => rdA_imp (rd_call (fun Γ l Γ' => hn Γ l Γ') q) fun vs H1 q x dx nx ndx ne => spN_of good q nx ndx ne
end
end Ky
/-! Ky34: methods of instances. -/
namespace Ky
open PySem PySem.Spec PyProof.Rows L2
section
variable {X : Cx} {T : Tbl} {W : WX} {CX : CXT} {k c : Nat} {C f : Addr} {fd : FuncData} {ps : List Str} {fn : Fn} {m : Str} {apos pos : Pos} {o e : Expr} {es : List Expr} {as : MA} {sp : Sp} {E : L2.St → XK} {ta : TE} {t : TA}
def tMethS (C : Addr) (m : Str) (sp : Sp) (E : L2.St → XK) (ta : TE) (t : TA) : TE := fun σ H Q => ta σ H fun x H1 => ∃ a dx fs, x = .ref a ∧ H1 a = some (.ins C dx fs) ∧ fs.lookup m = none ∧ t σ H1 fun vs H2 => sp (x :: vs) H2 Q (E σ)
theorem pe_methS {pl : Sem Bool} (he : PE X o ta) (cl : Cls X.K C) (hm : Meth X.K C m f) (F : FnOk X.prog X.w X.K X.mg X.base CX k f fd ps sp) (hr : Room k X.A) (hb : Binds X.K fd ps []) (hx : ∀ σ, PassesAt CX X σ (E σ)) (ha : PA X (e :: es) t)
    (hst : starEach (e :: es) X.env = (false, eval e X.env) :: starEach es X.env := by rfl) (hpl : (backTo pos (starEach es X.env)).any (·.1) = false := by rfl)
    (ht : eval (.Call (.Attribute o m apos) (e :: es) [] pos) X.env = (do
      let ov ← eval o X.env
      standAt apos.atName
      let (f, first) ← holding [ov] (getMethod ov m pl)
      callWith pos f first (backTo pos (starEach (e :: es) X.env)) (backToKw pos (keywordEach [] X.env))) := by rfl) :
    PE X (.Call (.Attribute o m apos) (e :: es) [] pos) (tMethS C m sp E ta t) := by
  refine ⟨fun pins s σ H Q I h => ?_⟩
  refine PySem.W.methodCall_KW (pl := pl) (thn (he.run pins s σ H _ I h) fun u s1 ⟨x, H1, I1, rx, a, dx, fs, ex, ea, l, q⟩ => ?_) ht
  subst ex
  obtain rfl : u = Value.ref a := rx
  refine getmeth_ok I1 ea cl hm l ?_
  exact PySem.W.callWith_K (first := [.ref a]) (h₀ := X.base) I.ok.mod.kin hm.kp (thn (ha.run pos pins s1 σ H1 _ I1 q) fun us s2 ⟨vs, H2, I2, r, q2⟩ => ⟨I2.kIn, run_fnS (us := .ref a :: us) (vs := .ref a :: vs) F hr hb (hx σ) I2 (.cons rfl r) q2⟩) hst hpl
theorem pe_methS0 {pl : Sem Bool} (he : PE X o ta) (cl : Cls X.K C) (hm : Meth X.K C m f) (F : FnOk X.prog X.w X.K X.mg X.base CX k f fd ps sp) (hr : Room k X.A) (hb : Binds X.K fd ps []) (hx : ∀ σ, PassesAt CX X σ (E σ))
    (ht : eval (.Call (.Attribute o m apos) [] [] pos) X.env = (do
      let ov ← eval o X.env
      standAt apos.atName
      let (f, first) ← holding [ov] (getMethod ov m pl)
      callWith pos f first (backTo pos (starEach [] X.env)) (backToKw pos (keywordEach [] X.env))) := by rfl) :
    PE X (.Call (.Attribute o m apos) [] [] pos) (tMethS C m sp E ta tNil) := by
  refine ⟨fun pins s σ H Q I h => ?_⟩
  refine PySem.W.methodCall_KW (pl := pl) (thn (he.run pins s σ H _ I h) fun u s1 ⟨x, H1, I1, rx, a, dx, fs, ex, ea, l, q⟩ => ?_) ht
  subst ex
  obtain rfl : u = Value.ref a := rx
  refine getmeth_ok I1 ea cl hm l ?_
  exact PySem.W.callWith_K0 (first := [.ref a]) I1.kIn hm.kp (run_fnS (us := [.ref a]) (vs := [.ref a]) F hr hb (hx σ) I1 (.cons rfl .nil) q)
theorem lookup_zip_none {m : Str} : ∀ {fs : List Str} {vs : List V}, m ∉ fs → (fs.zip vs).lookup m = none
  | [], _, _ => rfl
  | f :: fs, [], _ => rfl
  | f :: fs, v :: vs, h => by
    rw [List.mem_cons, not_or] at h
    show (match m == f with | true => some v | false => (fs.zip vs).lookup m) = none
    rw [beq_eq_false_iff_ne.mpr h.1]
    exact lookup_zip_none h.2
theorem rd_imp {K : PySem.W.Frag} {f : ME} {σ : L2.St} {H : Hp} {Q Q' : VK} (h : rd K T W f σ H Q) (i : ∀ v H', Q v H' → Q' v H') : rd K T W f σ H Q' := by
  obtain ⟨B, Γ, G, o, hf, s, k⟩ := h
  refine ⟨B, Γ, G, o, hf, s, ?_⟩
  cases o with
  | ok d Γ' => exact fun v G' H' s' g r => i _ _ (k v G' H' s' g r)
  | exc c d Γ' => exact k
/-- an instance of the class -/
def mInst (c : Nat) (f : ME) : ME := fun Γ => match f Γ with
  | some (.ok (.ins c' ds) Γ') => if c' = c then some (.ok (.ins c' ds) Γ') else none
  | some (.exc c d Γ') => some (.exc c d Γ')
  | _ => none
theorem rd_inst {K : PySem.W.Frag} {f : ME} {σ : L2.St} {H : Hp} {Q : VK} (h : rd K T W (mInst c f) σ H Q) : rd K T W f σ H fun x H1 => ∃ a dx fs, x = .ref a ∧ H1 a = some (.ins (T.cls c) dx fs) ∧ (∀ m, m ∉ T.att c → fs.lookup m = none) ∧ Q x H1 := by
  obtain ⟨B, Γ, G, o, hf, s, k⟩ := h
  unfold mInst at hf
  split at hf
  · rename_i c' ds Γ' q
    split at hf
    · rename_i hc
      subst hc
      cases hf
      refine ⟨B, Γ, G, _, q, s, fun v G' H' s' g r => ?_⟩
      have r0 := r
      cases r with
      | ins ha hl ra =>
        rename_i a dx vs
        refine ⟨a, dx, _, rfl, s'.gh _ _ ha, fun m hm => ?_, k _ _ _ s' g r0⟩
        exact lookup_zip_none hm
    · cases hf
  · rename_i c d Γ' q
    cases hf
    exact ⟨B, Γ, G, _, q, s, k⟩
  · cases hf
theorem je_meth {fo : ME} (he : PE X o (rd X.K T W fo)) (cl : Cls X.K (T.cls c)) (hm : Meth X.K (T.cls c) m f) (hn0 : m ∉ T.att c) (F : FnOk X.prog X.w X.K X.mg X.base (L2.CX X.prog X.w) k f fd ps (spF X.K T ps.length fn)) (hr : Room k X.A) (hb : Binds X.K fd ps []) (hx : ∀ σ, PassesAt (L2.CX X.prog X.w) X σ (WE W σ))
    (hn : Len (mCons (mNow (mInst c fo)) as) ps.length) (ha : PA X (e :: es) (rdA X.K T W as)) (hst : starEach (e :: es) X.env = (false, eval e X.env) :: starEach es X.env := by rfl) (hpl : (backTo pos (starEach es X.env)).any (·.1) = false := by rfl)
    {pl : Sem Bool} (ht : eval (.Call (.Attribute o m apos) (e :: es) [] pos) X.env = (do
      let ov ← eval o X.env
      standAt apos.atName
      let (f, first) ← holding [ov] (getMethod ov m pl)
      callWith pos f first (backTo pos (starEach (e :: es) X.env)) (backToKw pos (keywordEach [] X.env))) := by rfl) :
    PE X (.Call (.Attribute o m apos) (e :: es) [] pos) (rd X.K T W (mCall fn (mCons (mNow (mInst c fo)) as))) :=
  PE.imp (pe_methS (pl := pl) he cl hm F hr hb hx ha hst hpl ht) fun σ H Q q => by
    have q1 := rdG_now (rdA_cons (rd_call (fun Γ l Γ' => hn Γ l Γ') q))
    exact rd_imp (rd_inst q1) fun x H1 ⟨a, dx, fs, e, e1, e2, z⟩ => ⟨a, dx, fs, e, e1, e2 m hn0, z⟩
theorem je_meth0 {fo : ME} (he : PE X o (rd X.K T W fo)) (cl : Cls X.K (T.cls c)) (hm : Meth X.K (T.cls c) m f) (hn0 : m ∉ T.att c) (F : FnOk X.prog X.w X.K X.mg X.base (L2.CX X.prog X.w) k f fd ps (spF X.K T ps.length fn)) (hr : Room k X.A) (hb : Binds X.K fd ps []) (hx : ∀ σ, PassesAt (L2.CX X.prog X.w) X σ (WE W σ))
    (hn : Len (mCons (mNow (mInst c fo)) mNil) ps.length)
    {pl : Sem Bool} (ht : eval (.Call (.Attribute o m apos) [] [] pos) X.env = (do
      let ov ← eval o X.env
      standAt apos.atName
      let (f, first) ← holding [ov] (getMethod ov m pl)
      callWith pos f first (backTo pos (starEach [] X.env)) (backToKw pos (keywordEach [] X.env))) := by rfl) :
    PE X (.Call (.Attribute o m apos) [] [] pos) (rd X.K T W (mCall fn (mCons (mNow (mInst c fo)) mNil))) :=
  PE.imp (pe_methS0 (pl := pl) he cl hm F hr hb hx ht) fun σ H Q q => by
    have q1 := rdG_now (rdA_cons (rd_call (fun Γ l Γ' => hn Γ l Γ') q))
    exact rd_imp (rd_inst q1) fun x H1 ⟨a, dx, fs, e, e1, e2, z⟩ => ⟨a, dx, fs, e, e1, e2 m hn0, rdA_nil z⟩
end
end Ky
/-! Ky35: the steps of __init__; sorted(whole numbers). -/
namespace Ky
open PySem PySem.Spec PyProof.Rows L2
section
variable {X : Cx} {T : Tbl} {W : WX} {sts sts2 : List Stmt} {e c o : Expr} {pos pos' : Pos} {f : Str} {g : ME} {b : MB} {h : MS} {t : TS}
theorem jn_guard (hc : PT X c (rdT X.K T W b)) (hs : PSs X sts (rdS X.K T W h)) (hr : PSs X sts2 (tPre X.K T W t l)) : PSs X (.If c sts [] pos :: sts2) (tPre X.K T W t ((b, h) :: l)) := pss_cons (ps_if hc hs pss_nil) hr
theorem jn_fld {l : List (Str × ME)} (ho : PE X o (tVar 0)) (he : PE X e (rd X.K T W g)) (h : PSs X sts (tStores X.K T W l)) (hs : swapsWith e (some (.Attribute o f pos')) pos.line X.env = pure false := by rfl) : PSs X (.Assign [.Attribute o f pos'] e pos :: sts) (tStores X.K T W ((f, g) :: l)) := pss_cons (ps_fld ho he hs) h
theorem jn_nil : PSs X [] (tStores X.K T W []) := pss_nil
theorem jn_go (h : PSs X sts t) : PSs X sts (tPre X.K T W t []) := h
end
/-- one more number, in its place -/
def insQ (x : Int) : List Int → List Int
  | [] => [x]
  | y :: l => if x ≤ y then x :: y :: l else y :: insQ x l
def sortQ : List Int → List Int
  | [] => []
  | x :: l => insQ x (sortQ l)
theorem insQ_perm {x : Int} : ∀ l : List Int, (insQ x l).Perm (x :: l)
  | [] => .refl _
  | y :: l => by
    unfold insQ
    split
    · exact .refl _
    · exact ((insQ_perm l).cons y).trans (.swap x y l)
theorem sortQ_perm : ∀ l : List Int, (sortQ l).Perm l
  | [] => .refl _
  | x :: l => (insQ_perm _).trans ((sortQ_perm l).cons x)
theorem insQ_up {x : Int} : ∀ {l : List Int}, l.Pairwise (· ≤ ·) → (insQ x l).Pairwise (· ≤ ·)
  | [], _ => by unfold insQ; exact List.pairwise_singleton _ _
  | y :: l, h => by
    rw [List.pairwise_cons] at h
    unfold insQ
    split
    · rename_i hx
      refine List.pairwise_cons.mpr ⟨fun z hz => ?_, List.pairwise_cons.mpr h⟩
      rcases List.mem_cons.mp hz with rfl | hz
      · exact hx
      · have := h.1 z hz
        omega
    · rename_i hx
      refine List.pairwise_cons.mpr ⟨fun z hz => ?_, insQ_up h.2⟩
      rcases List.mem_cons.mp ((insQ_perm l).mem_iff.mp hz) with rfl | hz
      · omega
      · exact h.1 z hz
theorem sortQ_up : ∀ l : List Int, (sortQ l).Pairwise (· ≤ ·)
  | [] => .nil
  | x :: l => insQ_up (sortQ_up l)
theorem up_eqQ : ∀ {a b : List Int}, a.Pairwise (· ≤ ·) → b.Pairwise (· ≤ ·) → a.Perm b → a = b
  | [], b, _, _, p => (List.Perm.nil_eq p)
  | x :: a, [], _, _, p => by have := p.length_eq; simp at this
  | x :: a, y :: b, ha, hb, p => by
    rw [List.pairwise_cons] at ha hb
    have e : x = y := by
      have h1 : x ∈ y :: b := p.mem_iff.mp (.head _)
      have h2 : y ∈ x :: a := p.mem_iff.mpr (.head _)
      rcases List.mem_cons.mp h1 with h | h
      · exact h
      · rcases List.mem_cons.mp h2 with h' | h'
        · exact h'.symm
        · have := hb.1 x h
          have := ha.1 y h'
          omega
    subst e
    rw [up_eqQ ha.2 hb.2 (List.Perm.cons_inv p)]
theorem ints_D {K : PySem.W.Frag} {T : Tbl} {G : Hp} : ∀ (ns : List Int), RpA K T G (ns.map V.int) (ns.map D.int)
  | [] => .nil
  | n :: r => .cons (.int n) (ints_D r)
def bSortI : List D → Option (List D)
  | [.lst ds] => (match intsD ds with
    | some ns => if ns.length < 64 then some ((sortQ ns).map D.int) else none
    | none => none)
  | _ => none
theorem ok_sortI {K : PySem.W.Frag} {T : Tbl} : OkNL K T (rSorted K) bSortI := by
  intro ds es vs G H q e r Q k
  match ds, q with
  | [.lst xs], q =>
    have q : (match intsD xs with
      | some ns => if ns.length < 64 then some ((sortQ ns).map D.int) else none
      | none => none) = some es := q
    split at q
    · rename_i ns w
      split at q
      · rename_i hl
        cases q
        obtain ⟨v, rfl, rv⟩ := r.one
        obtain ⟨p, ys, rfl, hq, ra⟩ := rv.lst e
        rw [ints_rp ra w] at hq
        refine ⟨p, ns, rfl, hq, hl, fun ns' p' pm up hp => ?_⟩
        have e2 : ns' = sortQ ns := up_eqQ up (sortQ_up ns) (pm.trans (sortQ_perm ns).symm)
        subst e2
        exact k p' _ hp (ints_D _)
      · cases q
    · cases q
end Ky
/-! Ky36: _law_like of a value with itself, where there are own classes. -/
namespace Ky
open PySem PySem.Spec PyProof.Rows L2
def lqBody (cs : List Nat) : MS := (mSeq (mAsg (tgSeq [(tgName 3), (tgName 4)]) (mPopL 2))
    (mIfS (mTru (mNow (mIsi cs [.ty "list", .ty "tuple"] (mPk 4))))
    (mSeq (mIfS (mOr (mNot (mTru (mNow (mIsi cs [.ty "list", .ty "tuple"] (mPk 3))))) (mOr (mB (mOp (p2 oNe) (mA2 (mNow (mIsi cs [.ty "list"] (mPk 3))) (mNow (mIsi cs [.ty "list"] (mPk 4)))))) (mB (mOp (p2 oNe) (mA2 (mNow (mOp bLen (mCons (mPk 3) mNil))) (mNow (mOp bLen (mCons (mPk 4) mNil))))))))
    (mRet (mCon (.bl false)))
    mSkip)
    lkFor)
    (mIfS (mOr (mB (mOp (p2 oIs) (mA2 (mPk 4) (mNow (mCon .non))))) (mTru (mNow (mIsi cs [.ty "bool"] (mPk 4)))))
    (mIfS (mOr (mB (mOp (p2 oNe) (mA2 (mNow (mOp (p2 oIs) (mA2 (mPk 4) (mNow (mCon .non))))) (mNow (mOp (p2 oIs) (mA2 (mPk 3) (mNow (mCon .non)))))))) (mOr (mB (mOp (p2 oNe) (mA2 (mNow (mOp (p2 oIs) (mA2 (mPk 4) (mNow (mCon (.bl true)))))) (mNow (mOp (p2 oIs) (mA2 (mPk 3) (mNow (mCon (.bl true))))))))) (mB (mOp (p2 oNe) (mA2 (mNow (mOp (p2 oIs) (mA2 (mPk 4) (mNow (mCon (.bl false)))))) (mNow (mOp (p2 oIs) (mA2 (mPk 3) (mNow (mCon (.bl false)))))))))))
    (mRet (mCon (.bl false)))
    mSkip)
    (mIfS (mTru (mNow (mIsi cs [.ty "str"] (mPk 4))))
    (mIfS (mOr (mNot (mTru (mNow (mIsi cs [.ty "str"] (mPk 3))))) (mB (mOp (p2 oNe) (mA2 (mPk 3) (mPk 4)))))
    (mRet (mCon (.bl false)))
    mSkip)
    (mIfS (mOr (mNot (mTru (mNow (mIsi cs [.ty "int"] (mPk 3))))) (mOr (mTru (mNow (mIsi cs [.ty "bool"] (mPk 3)))) (mB (mOp (p2 oNe) (mA2 (mPk 3) (mPk 4))))))
    (mRet (mCon (.bl false)))
    mSkip)))))
def lqB (cs : List Nat) : MS := (mSeq (mAsgL 2 (mLst (mCons (mNow (mTup (mCons (mNow (mVar 0)) (mCons (mNow (mVar 1)) mNil)))) mNil)))
    (mSeq (mWhile 100000 lkCond (lqBody cs))
    (mRet (mCon (.bl true)))))
section
variable {cs : List Nat}
theorem lq_seq {x0 x1 : SC} {S : List (List D)} {ds todo : List D} (isL : Bool) {c3 c4 c5 : SC} (h3 : unD c3) (h4 : unD c4) (h5 : unD c5) (hd : ds.length < 50000) (ht : todo.length < 50000) :
    ∃ d' c5', unD c5' ∧ (lqBody cs) ⟨[x0, x1, .own false (todo ++ [twin (if isL then .lst ds else .tup ds)]), c3, c4, c5], S⟩ = some (.nx ⟨[x0, x1, .own false (todo ++ ds.map twin), .dat d', .dat d', c5'], S⟩) := by
  obtain ⟨c5', h5', q⟩ := lk_for (x0 := x0) (x1 := x1) (S := S) isL hd ds.length 0 todo c5 (by omega) h5 (by omega)
  refine ⟨(if isL then .lst ds else .tup ds), c5', h5', ?_⟩
  rw [List.drop_zero] at q
  have r : (List.range' 0 ds.length).map (fun i => D.int ((0 : Int) + (i : Nat))) = upTo 0 ds.length := by
    unfold upTo
    rw [List.range_eq_range']
  rw [r] at q
  have s : small62 (ds.length : Int) = true := by
    unfold small62
    rw [Bool.and_eq_true, decide_eq_true_eq, decide_eq_true_eq]
    have : (2 : Int) ^ 62 = 4611686018427387904 := by decide
    omega
  have dl : ds.length ≤ 100000 := by omega
  have rg : miRng1 (mNow (mOp bLen (mCons (mPk 4) mNil))) ⟨[x0, x1, .own false todo, .dat (if isL then .lst ds else .tup ds), .dat (if isL then .lst ds else .tup ds), c5], S⟩ = some (.ok (upTo 0 ds.length) ⟨[x0, x1, .own false todo, .dat (if isL then .lst ds else .tup ds), .dat (if isL then .lst ds else .tup ds), c5], S⟩) := by
    cases isL <;> simp [mNow, mPk, look, worth, worths, res, Ev.get_mk, Ev.set_mk, Ev.length_mk, mOp, mCons, mNil, bLen, miRng1, s, dl]
  have fr : lkFor _ = _ := mFor_of rg q
  unfold lqBody
  have g := lk_go (x0 := x0) (x1 := x1) (x2 := .own false todo) (c5 := c5) (S := S) (a := (if isL then .lst ds else .tup ds)) (b := (if isL then .lst ds else .tup ds)) h3 h4
  have p : mPopL 2 ⟨[x0, x1, .own false (todo ++ [twin (if isL then .lst ds else .tup ds)]), c3, c4, c5], S⟩ = some (.ok (.tup [(if isL then .lst ds else .tup ds), (if isL then .lst ds else .tup ds)]) ⟨[x0, x1, .own false todo, c3, c4, c5], S⟩) := by
    simp [mPopL, Ev.get_mk, Ev.set_mk, twin]
  have n1 : oNe (.int (ds.length : Int)) (.int (ds.length : Int)) = some (.bl false) := by
    rw [ne_int]
    simp
  have i0 : isiA cs (.lst ds) [.ty "list", .ty "tuple"] = some true := rfl
  have i1 : isiA cs (.tup ds) [.ty "list", .ty "tuple"] = some true := rfl
  have i2 : isiA cs (.lst ds) [.ty "list"] = some true := rfl
  have i3 : isiA cs (.tup ds) [.ty "list"] = some false := rfl
  have i4 : insIn cs (.lst ds) = true := rfl
  have i5 : insIn cs (.tup ds) = true := rfl
  have b0 : oNe (.bl true) (.bl true) = some (.bl false) := rfl
  have b1 : oNe (.bl false) (.bl false) = some (.bl false) := rfl
  cases isL <;> simp only [Bool.false_eq_true, if_false, if_true] at * <;> simp [mSeq, mAsg, p, g, mIfS, mTru, mNow, mIsi, mPk, look, worth, worths, res, Ev.get_mk, Ev.set_mk, Ev.length_mk, mOr, mNot, mB, mOp, mA2, mCons, mNil, p2, bLen, n1, i0, i1, i2, i3, i4, i5, b0, b1, truth, mSkip, fr]
theorem lq_one {x0 x1 : SC} {S : List (List D)} {todo : List D} {d : D} {c3 c4 c5 : SC} (h3 : unD c3) (h4 : unD c4) (hd : ∀ es, d ≠ .lst es) (hd2 : ∀ es, d ≠ .tup es) {n : Nat} (hn : niD n d = true) :
    (lqBody cs) ⟨[x0, x1, .own false (todo ++ [twin d]), c3, c4, c5], S⟩ = some (.nx ⟨[x0, x1, .own false todo, .dat d, .dat d, c5], S⟩) := by
  have g := lk_go (x0 := x0) (x1 := x1) (x2 := .own false todo) (c5 := c5) (S := S) (a := d) (b := d) h3 h4
  have p : mPopL 2 ⟨[x0, x1, .own false (todo ++ [twin d]), c3, c4, c5], S⟩ = some (.ok (.tup [d, d]) ⟨[x0, x1, .own false todo, c3, c4, c5], S⟩) := by
    simp [mPopL, Ev.get_mk, Ev.set_mk, twin]
  unfold lqBody
  cases d with
  | lst es => exact absurd rfl (hd es)
  | tup es => exact absurd rfl (hd2 es)
  | non => cases hn
  | ins => cases hn
  | cel => cases hn
  | dic => cases hn
  | int i =>
    have i0 : isiA cs (.int i) [.ty "list", .ty "tuple"] = some false := rfl
    have i1 : isiA cs (.int i) [.ty "bool"] = some false := rfl
    have i2 : isiA cs (.int i) [.ty "str"] = some false := rfl
    have i3 : isiA cs (.int i) [.ty "int"] = some true := rfl
    have i4 : insIn cs (.int i) = true := rfl
    simp [mSeq, mAsg, p, g, mIfS, mTru, mNow, mIsi, mPk, look, worth, worths, res, Ev.get_mk, Ev.set_mk, Ev.length_mk, mOr, mNot, mB, mOp, mA2, mCons, mNil, mCon, p2, oIs, ne_int, i0, i1, i2, i3, i4, truth, mSkip]
  | str z =>
    have i0 : isiA cs (.str z) [.ty "list", .ty "tuple"] = some false := rfl
    have i1 : isiA cs (.str z) [.ty "bool"] = some false := rfl
    have i2 : isiA cs (.str z) [.ty "str"] = some true := rfl
    have i4 : insIn cs (.str z) = true := rfl
    have n0 : oNe (.str z) (.str z) = some (.bl false) := ne_str hn
    simp [mSeq, mAsg, p, g, mIfS, mTru, mNow, mIsi, mPk, look, worth, worths, res, Ev.get_mk, Ev.set_mk, Ev.length_mk, mOr, mNot, mB, mOp, mA2, mCons, mNil, mCon, p2, oIs, n0, i0, i1, i2, i4, truth, mSkip]
  | bl b =>
    have i0 : isiA cs (.bl b) [.ty "list", .ty "tuple"] = some false := rfl
    have i1 : isiA cs (.bl b) [.ty "bool"] = some true := rfl
    have i4 : insIn cs (.bl b) = true := rfl
    simp [mSeq, mAsg, p, g, mIfS, mTru, mNow, mIsi, mPk, look, worth, worths, res, Ev.get_mk, Ev.set_mk, Ev.length_mk, mOr, mNot, mB, mOp, mA2, mCons, mNil, mCon, p2, oIs, ne_bl, i0, i1, i4, truth, mSkip]
theorem lq_while {x0 x1 : SC} {S : List (List D)} {n : Nat} (hn : n < 63) : ∀ (m fuel : Nat) (ds : List D) (c3 c4 c5 : SC), szA ds ≤ m → m < fuel → m < 50000 → niA n ds = true → unD c3 → unD c4 → unD c5 →
    ∃ c3' c4' c5', whileL lkCond (lqBody cs) fuel ⟨[x0, x1, .own false (ds.map twin), c3, c4, c5], S⟩ = some (.nx ⟨[x0, x1, .own false [], c3', c4', c5'], S⟩)
  | m, fuel, ds, c3, c4, c5, hs, hf, hm, ni, h3, h4, h5 => by
    obtain ⟨fu, rfl⟩ : ∃ k, fuel = k + 1 := ⟨fuel - 1, by omega⟩
    rcases List.eq_nil_or_concat ds with rfl | ⟨init, d, rfl⟩
    · refine ⟨c3, c4, c5, ?_⟩
      unfold whileL
      rw [lk_cond ni hn]
      rfl
    · rw [List.concat_eq_append] at *
      have nid : niD n d = true := niA_mem ni d (by simp)
      have nii : niA n init = true := niA_of fun e he => niA_mem ni e (by simp [he])
      have sz : szA init + szD d ≤ m := by
        have := szA_app init [d]
        have e : szA [d] = szD d := rfl
        omega
      have il := len_sz init
      have dp := szD_pos d
      have cd : lkCond ⟨[x0, x1, .own false ((init ++ [d]).map twin), c3, c4, c5], S⟩ = some (.ok true ⟨[x0, x1, .own false ((init ++ [d]).map twin), c3, c4, c5], S⟩) := by
        rw [lk_cond ni hn]
        cases init <;> rfl
      have am : (init ++ [d]).map twin = init.map twin ++ [twin d] := by simp
      rw [am] at cd ⊢
      obtain ⟨m', rfl⟩ : ∃ k, m = k + 1 := ⟨m - 1, by omega⟩
      have one : (∀ es, d ≠ .lst es) → (∀ es, d ≠ .tup es) → ∃ c3' c4' c5', whileL lkCond (lqBody cs) (fu + 1) ⟨[x0, x1, .own false (init.map twin ++ [twin d]), c3, c4, c5], S⟩ = some (.nx ⟨[x0, x1, .own false [], c3', c4', c5'], S⟩) := fun z1 z2 => by
        obtain ⟨c3', c4', c5', q⟩ := lq_while (x0 := x0) (x1 := x1) (S := S) hn m' fu init (.dat d) (.dat d) c5 (by omega) (by omega) (by omega) nii trivial trivial h5
        refine ⟨c3', c4', c5', ?_⟩
        unfold whileL
        rw [cd]
        simp only [lq_one (cs := cs) h3 h4 z1 z2 nid]
        exact q
      have seq : ∀ (isL : Bool) es, d = (if isL then .lst es else .tup es) → (∃ k, n = k + 1 ∧ niA k es = true) → szD d = 1 + szA es → ∃ c3' c4' c5', whileL lkCond (lqBody cs) (fu + 1) ⟨[x0, x1, .own false (init.map twin ++ [twin d]), c3, c4, c5], S⟩ = some (.nx ⟨[x0, x1, .own false [], c3', c4', c5'], S⟩) := fun isL es hd ⟨k, hk, nie⟩ se => by
        have el := len_sz es
        obtain ⟨d', c5', h5', b⟩ := lq_seq (cs := cs) (x0 := x0) (x1 := x1) (S := S) (ds := es) (todo := init.map twin) (c3 := c3) (c4 := c4) (c5 := c5) isL h3 h4 h5 (by omega) (by simp; omega)
        have sa := szA_app init es
        obtain ⟨c3'', c4'', c5'', q⟩ := lq_while (x0 := x0) (x1 := x1) (S := S) hn m' fu (init ++ es) (.dat d') (.dat d') c5' (by omega) (by omega) (by omega) (niA_app nii (niA_mono _ _ _ (by omega) nie)) trivial trivial h5'
        refine ⟨c3'', c4'', c5'', ?_⟩
        unfold whileL
        rw [cd, hd]
        simp only [b]
        rw [List.map_append] at q
        exact q
      cases d with
      | lst es =>
        refine seq true es rfl ?_ rfl
        cases n with
        | zero => cases nid
        | succ k => exact ⟨k, rfl, nid⟩
      | tup es =>
        refine seq false es rfl ?_ rfl
        cases n with
        | zero => cases nid
        | succ k => exact ⟨k, rfl, nid⟩
      | non => exact one (fun _ z => nomatch z) (fun _ z => nomatch z)
      | bl _ => exact one (fun _ z => nomatch z) (fun _ z => nomatch z)
      | int _ => exact one (fun _ z => nomatch z) (fun _ z => nomatch z)
      | str _ => exact one (fun _ z => nomatch z) (fun _ z => nomatch z)
      | ins _ _ => exact one (fun _ z => nomatch z) (fun _ z => nomatch z)
      | cel _ => exact one (fun _ z => nomatch z) (fun _ z => nomatch z)
      | dic => exact one (fun _ z => nomatch z) (fun _ z => nomatch z)
theorem likeq_ok {S : List (List D)} {d : D} {n : Nat} (hn : n < 63) (h : niD n d = true) (hs : szD d < 50000) : defG 2 6 (lqB cs) ⟨[.dat d, .dat d], S⟩ = some (.dat (.bl true), ⟨[.dat d, .dat d], S⟩) := by
  obtain ⟨c3, c4, c5, q⟩ := lq_while (cs := cs) (x0 := .dat d) (x1 := .dat d) (S := S) hn (szD d) 100000 [d] .un .un .un (Nat.le_refl _) (by omega) hs (by show (niD n d && true) = true; rw [h]; rfl) trivial trivial trivial
  rw [List.map_singleton] at q
  unfold twin at q
  unfold lqB
  simp [defG, mSeq, mAsgL, mLst, mCons, mNow, mTup, mVar, mNil, nows, pad, Ev.get_mk, Ev.set_mk, Ev.length_mk, free, mWhile, q, mRet, mCon, fin, finL]
end
end Ky
/-! Ky37: loops with what stays true; names that hold nothing of their own. -/
namespace Ky
open PySem PySem.Spec PyProof.Rows L2
/-- no caller's list: may be stored over -/
def frC : SC → Bool
  | .own true _ => false
  | _ => true
theorem free_at (Γ : Ev) (i : Nat) : free Γ i = (match Γ[i]? with | some c => frC c | none => true) := by
  unfold free
  cases Γ[i]? with
  | none => rfl
  | some c =>
    cases c with
    | own b ds => cases b <;> rfl
    | un => rfl
    | dat d => rfl
theorem frC_un : frC .un = true := rfl
theorem frC_dat (d : D) : frC (.dat d) = true := rfl
theorem frC_own (ds : List D) : frC (.own false ds) = true := rfl
theorem unD.fr {c : SC} (h : unD c) : frC c = true := by
  cases c with
  | own => cases h
  | un => rfl
  | dat => rfl
theorem unD.lend {c : SC} (h : unD c) (r : List SC) : lendL (c :: r) = c :: lendL r := by
  cases c with
  | own => cases h
  | un => rfl
  | dat => rfl
theorem unD.unlend {c : SC} (h : unD c) (e : SC) (r s : List SC) : unlendL (c :: r) (e :: s) = c :: unlendL r s := by
  cases c with
  | own => cases h
  | un => rfl
  | dat => rfl
theorem lendL_nil : lendL [] = [] := rfl
theorem lendL_un (r : List SC) : lendL (.un :: r) = .un :: lendL r := rfl
theorem lendL_dat (d : D) (r : List SC) : lendL (.dat d :: r) = .dat d :: lendL r := rfl
theorem lendL_own (b : Bool) (ds : List D) (r : List SC) : lendL (.own b ds :: r) = .own true ds :: lendL r := rfl
theorem ul_nil : unlendL [] [] = [] := rfl
theorem ul_un (e : SC) (r s : List SC) : unlendL (.un :: r) (e :: s) = .un :: unlendL r s := rfl
theorem ul_dat (d : D) (e : SC) (r s : List SC) : unlendL (.dat d :: r) (e :: s) = .dat d :: unlendL r s := rfl
theorem ul_own (b : Bool) (ds : List D) (c : Bool) (es : List D) (r s : List SC) : unlendL (.own b ds :: r) (.own c es :: s) = .own b es :: unlendL r s := rfl
/-- what a name holds behind a turn of a comprehension -/
def wipC : SC → SC
  | .own false _ => .un
  | c => c
def wipL (vs : List Nat) : Nat → List SC → List SC
  | _, [] => []
  | i, c :: r => (if vs.contains i then .un else wipC c) :: wipL vs (i + 1) r
theorem wipL_map (vs : List Nat) : ∀ (l : List SC) (i : Nat), ((l.zipIdx i).map fun p => if vs.contains p.2 then SC.un else match p.1 with
  | .own false _ => .un
  | c => c) = wipL vs i l
  | [], _ => rfl
  | c :: l, i => by
    rw [List.zipIdx_cons, List.map_cons, wipL_map vs l (i + 1)]
    rfl
theorem wipeE_mk (vs : List Nat) (l : List SC) (S : List (List D)) : wipeE vs ⟨l, S⟩ = ⟨wipL vs 0 l, S⟩ := by
  show (⟨_, _⟩ : Ev) = _
  congr 1
  exact wipL_map vs l 0
theorem unD.wip {c : SC} (h : unD c) : wipC c = c := by
  cases c with
  | own => cases h
  | un => rfl
  | dat => rfl
theorem wipC_un : wipC .un = .un := rfl
theorem wipC_dat (d : D) : wipC (.dat d) = .dat d := rfl
theorem wipC_own (ds : List D) : wipC (.own true ds) = .own true ds := rfl
theorem wipC_ownF (ds : List D) : wipC (.own false ds) = .un := rfl
theorem lend_mk (l : List SC) (S : List (List D)) : lend ⟨l, S⟩ = ⟨lendL l, S⟩ := rfl
theorem unlend_mk (l k : List SC) (S Q : List (List D)) : unlend ⟨l, S⟩ ⟨k, Q⟩ = ⟨unlendL l k, Q⟩ := rfl
theorem unD_un : unD .un := trivial
theorem unD_dat (d : D) : unD (.dat d) := trivial

/-- a loop keeps I, which may hang on what was walked -/
theorem for_inv {t : MT} {body : MS} (I : Nat → Ev → Prop) : ∀ (ds : List D) (n : Nat) (Γ : Ev), I n Γ →
    (∀ k d Γ, ds[k]? = some d → I (n + k) Γ → ∃ Γ1 Γ2, t.go d Γ = some Γ1 ∧ (body Γ1 = some (.nx Γ2) ∨ body Γ1 = some (.ct Γ2)) ∧ I (n + k + 1) Γ2) →
    ∃ Γ', forL t body ds Γ = some (.nx Γ') ∧ I (n + ds.length) Γ'
  | [], n, Γ, h, _ => ⟨Γ, rfl, h⟩
  | d :: ds, n, Γ, h, f => by
    obtain ⟨Γ1, Γ2, g, b, i⟩ := f 0 d Γ rfl h
    obtain ⟨Γ', q, j⟩ := for_inv I ds (n + 1) Γ2 i fun k e Δ he hi => by
      have := f (k + 1) e Δ (by simpa using he) (by rw [show n + (k + 1) = n + 1 + k by omega]; exact hi)
      rw [show n + (k + 1) = n + 1 + k by omega] at this
      exact this
    refine ⟨Γ', ?_, by rw [List.length_cons, show n + (ds.length + 1) = n + 1 + ds.length by omega]; exact j⟩
    unfold forL
    rw [g]
    rcases b with b | b <;> simp only [b] <;> exact q
theorem mFor_inv {src : MI} {t : MT} {body : MS} {Γ Γ1 : Ev} {ds : List D} (I : Nat → Ev → Prop) (hs : src Γ = some (.ok ds Γ1)) (h0 : I 0 Γ1)
    (f : ∀ k d Γ, ds[k]? = some d → I k Γ → ∃ Γ1 Γ2, t.go d Γ = some Γ1 ∧ (body Γ1 = some (.nx Γ2) ∨ body Γ1 = some (.ct Γ2)) ∧ I (k + 1) Γ2) :
    ∃ Γ', mFor src t body Γ = some (.nx Γ') ∧ I ds.length Γ' := by
  obtain ⟨Γ', q, i⟩ := for_inv (t := t) (body := body) I ds 0 Γ1 h0 fun k d Δ hd hi => by
    have := f k d Δ hd (by simpa using hi)
    simpa using this
  exact ⟨Γ', mFor_of hs q, by simpa using i⟩
/-- .. one that hangs on nothing -/
theorem mFor_keep {src : MI} {t : MT} {body : MS} {Γ Γ1 : Ev} {ds : List D} (I : Ev → Prop) (hs : src Γ = some (.ok ds Γ1)) (h0 : I Γ1)
    (f : ∀ d ∈ ds, ∀ Γ, I Γ → ∃ Γ1 Γ2, t.go d Γ = some Γ1 ∧ (body Γ1 = some (.nx Γ2) ∨ body Γ1 = some (.ct Γ2)) ∧ I Γ2) :
    ∃ Γ', mFor src t body Γ = some (.nx Γ') ∧ I Γ' := by
  obtain ⟨Γ', q, i⟩ := mFor_inv (t := t) (body := body) (fun _ => I) hs h0 fun k d Δ hd hi => f d (List.mem_of_getElem? hd) Δ hi
  exact ⟨Γ', q, i⟩
/-- a comprehension keeps I, which hangs on what was taken -/
theorem compL_inv {t : MT} {vs : List Nat} {c : MB} {elt : ME} (I : Nat → List D → Ev → Prop) : ∀ (ds : List D) (n : Nat) (acc : List D) (Γ : Ev), I n acc Γ →
    (∀ k d acc Γ, ds[k]? = some d → I (n + k) acc Γ → ∃ Γ1 b Γ2, t.go d Γ = some Γ1 ∧ c Γ1 = some (.ok b Γ2) ∧ (b = false → I (n + k + 1) acc (wipeE vs Γ2)) ∧ (b = true → ∃ e Γ3, elt Γ2 = some (.ok e Γ3) ∧ I (n + k + 1) (acc ++ [e]) (wipeE vs Γ3))) →
    ∃ es Γ', compL t vs c elt ds Γ = some (es, Γ') ∧ I (n + ds.length) (acc ++ es) Γ'
  | [], n, acc, Γ, h, _ => ⟨[], Γ, rfl, by rw [List.append_nil]; exact h⟩
  | d :: ds, n, acc, Γ, h, f => by
    obtain ⟨Γ1, b, Γ2, g, hc, hf, ht⟩ := f 0 d acc Γ rfl h
    have next : ∀ acc Γ, I (n + 1) acc Γ → ∃ es Γ', compL t vs c elt ds Γ = some (es, Γ') ∧ I (n + 1 + ds.length) (acc ++ es) Γ' := fun acc Γ h => compL_inv I ds (n + 1) acc Γ h fun k e a Δ he hi => by
      have := f (k + 1) e a Δ (by simpa using he) (by rw [show n + (k + 1) = n + 1 + k by omega]; exact hi)
      rw [show n + (k + 1) = n + 1 + k by omega] at this
      exact this
    rw [List.length_cons, show n + (ds.length + 1) = n + 1 + ds.length by omega]
    cases b with
    | false =>
      obtain ⟨es, Γ', q, i⟩ := next acc _ (hf rfl)
      refine ⟨es, Γ', ?_, i⟩
      unfold compL
      rw [g]
      simp only [hc, q]
    | true =>
      obtain ⟨e, Γ3, he, hi⟩ := ht rfl
      obtain ⟨es, Γ', q, i⟩ := next (acc ++ [e]) _ hi
      refine ⟨e :: es, Γ', ?_, by rw [List.append_assoc] at i; exact i⟩
      unfold compL
      rw [g]
      simp only [hc, he, q]
theorem mComp_inv {src : MI} {t : MT} {vs : List Nat} {c : MB} {elt : ME} {Γ Γ1 : Ev} {ds : List D} (I : Nat → List D → Ev → Prop) (hs : src Γ = some (.ok ds Γ1)) (hl : ds.length ≤ 100000) (h0 : I 0 [] (wipeE vs (lend Γ1)))
    (f : ∀ k d acc Γ, ds[k]? = some d → I k acc Γ → ∃ Γ1 b Γ2, t.go d Γ = some Γ1 ∧ c Γ1 = some (.ok b Γ2) ∧ (b = false → I (k + 1) acc (wipeE vs Γ2)) ∧ (b = true → ∃ e Γ3, elt Γ2 = some (.ok e Γ3) ∧ I (k + 1) (acc ++ [e]) (wipeE vs Γ3)))
    (len : ∀ acc Γ, I ds.length acc Γ → Γ.length = Γ1.length) (hsl : t.sl.all (vs.contains ·) = true := by rfl) :
    ∃ es Γ2, mComp src t vs c elt Γ = some (.ok es (unlend Γ1 Γ2)) ∧ I ds.length es Γ2 := by
  obtain ⟨es, Γ2, q, i⟩ := compL_inv (t := t) (vs := vs) (c := c) (elt := elt) I ds 0 [] _ h0 fun k d a Δ hd hi => by
    have := f k d a Δ hd (by simpa using hi)
    simpa using this
  have i : I ds.length es Γ2 := by simpa using i
  refine ⟨es, Γ2, ?_, i⟩
  unfold mComp
  simp only [hs, hsl, hl, q, len _ _ i, decide_true, Bool.and_self, if_true]
/-- a loop that ends -/
theorem while_inv {c : MB} {body : MS} (I : Nat → Ev → Prop)
    (f : ∀ m Γ, I m Γ → (∃ Γ1, c Γ = some (.ok false Γ1) ∧ I 0 Γ1) ∨ ∃ Γ1 Γ2 m', c Γ = some (.ok true Γ1) ∧ (body Γ1 = some (.nx Γ2) ∨ body Γ1 = some (.ct Γ2)) ∧ I m' Γ2 ∧ m' < m) :
    ∀ (fuel m : Nat) (Γ : Ev), m < fuel → I m Γ → ∃ Γ', whileL c body fuel Γ = some (.nx Γ') ∧ I 0 Γ'
  | 0, m, Γ, h, _ => by omega
  | n + 1, m, Γ, h, hi => by
    rcases f m Γ hi with ⟨Γ1, h1, h2⟩ | ⟨Γ1, Γ2, m', h1, h2, h3, h4⟩
    · refine ⟨Γ1, ?_, h2⟩
      unfold whileL
      simp only [h1]
    · obtain ⟨Γ', q, i⟩ := while_inv I f n m' Γ2 (by omega) h3
      refine ⟨Γ', ?_, i⟩
      unfold whileL
      rcases h2 with h2 | h2 <;> simp only [h1, h2] <;> exact q
end Ky
/-! Ky38: equality of lists and tuples of integers, of texts. -/
namespace Ky
open PySem PySem.Spec PyProof.Rows L2
theorem toPys_ints : ∀ l : List Int, toPys (l.map D.int) = some (l.map PyData.int)
  | [] => rfl
  | i :: l => by
    rw [List.map_cons, List.map_cons]
    unfold toPys
    rw [toPys_ints l]
    rfl
theorem lay_ints : ∀ l : List Int, PyData.canLayAll0 (l.map PyData.int) = true
  | [] => rfl
  | i :: l => by
    rw [List.map_cons]
    unfold PyData.canLayAll0
    rw [lay_ints l]
    rfl
theorem dep_ints : ∀ l : List Int, PyData.depthAll (l.map PyData.int) = 0
  | [] => rfl
  | i :: l => by
    rw [List.map_cons]
    unfold PyData.depthAll
    rw [dep_ints l]
    rfl
theorem eqv_ints : ∀ l m : List Int, PyData.eqvAll (l.map PyData.int) (m.map PyData.int) = decide (l = m)
  | [], [] => by simp [PyData.eqvAll]
  | [], j :: m => by simp [PyData.eqvAll]
  | i :: l, [] => by simp [PyData.eqvAll]
  | i :: l, j :: m => by
    rw [List.map_cons, List.map_cons]
    unfold PyData.eqvAll
    rw [eqv_ints l m]
    simp [PyData.eqv]
    rfl
theorem eqD_ints (l m : List Int) : eqD (.lst (l.map D.int)) (.lst (m.map D.int)) = some (decide (l = m)) := by
  unfold eqD
  have a : ∀ l : List Int, toPy (.lst (l.map D.int)) = some (.list (l.map .int)) := fun l => by unfold toPy; rw [toPys_ints]
  have s : ∀ l : List Int, SeqAt.shaped (.list (l.map .int)) = true := fun l => by
    unfold SeqAt.shaped PyData.canLay0 PyData.depth
    rw [lay_ints, dep_ints]
    rfl
  rw [a, a]
  simp only [s, Bool.and_self, if_true]
  unfold PyData.eqv
  rw [eqv_ints]
theorem eqD_intsT (l m : List Int) : eqD (.tup (l.map D.int)) (.tup (m.map D.int)) = some (decide (l = m)) := by
  unfold eqD
  have a : ∀ l : List Int, toPy (.tup (l.map D.int)) = some (.tuple (l.map .int)) := fun l => by unfold toPy; rw [toPys_ints]
  have s : ∀ l : List Int, SeqAt.shaped (.tuple (l.map .int)) = true := fun l => by
    unfold SeqAt.shaped PyData.canLay0 PyData.depth
    rw [lay_ints, dep_ints]
    rfl
  rw [a, a]
  simp only [s, Bool.and_self, if_true]
  unfold PyData.eqv
  rw [eqv_ints]
theorem eq_ints (l m : List Int) : oEq (.lst (l.map D.int)) (.lst (m.map D.int)) = some (.bl (decide (l = m))) := by
  unfold oEq
  rw [eqD_ints]
theorem ne_ints (l m : List Int) : oNe (.lst (l.map D.int)) (.lst (m.map D.int)) = some (.bl (!decide (l = m))) := by
  unfold oNe
  rw [eqD_ints]
theorem eq_intsT (l m : List Int) : oEq (.tup (l.map D.int)) (.tup (m.map D.int)) = some (.bl (decide (l = m))) := by
  unfold oEq
  rw [eqD_intsT]
theorem ne_intsT (l m : List Int) : oNe (.tup (l.map D.int)) (.tup (m.map D.int)) = some (.bl (!decide (l = m))) := by
  unfold oNe
  rw [eqD_intsT]
theorem eq_bl (a b : Bool) : oEq (.bl a) (.bl b) = some (.bl (decide (a = b))) := by
  unfold oEq eqD
  simp [toPy, SeqAt.shaped, PyData.canLay0, PyData.depth, PyData.eqv]
  cases a <;> cases b <;> rfl
theorem eq_str {a b : Str} (ha : PyData.canLay0 (.str a) = true) (hb : PyData.canLay0 (.str b) = true) : oEq (.str a) (.str b) = some (.bl (decide (a = b))) := by
  unfold oEq eqD
  simp [toPy, SeqAt.shaped, ha, hb, PyData.depth, PyData.eqv]
  rfl
theorem ne_strs {a b : Str} (ha : PyData.canLay0 (.str a) = true) (hb : PyData.canLay0 (.str b) = true) : oNe (.str a) (.str b) = some (.bl (!decide (a = b))) := by
  unfold oNe eqD
  simp [toPy, SeqAt.shaped, ha, hb, PyData.depth, PyData.eqv]
  rfl
end Ky
section
open PySem PySem.W PyProof.Rows
set_option maxHeartbeats 0 in
open_top head for PySem.Challenge.rw_stayskept_k04_questions_put_together
end
/-! The walk, printed by gen.py. -/
namespace K04
open PySem PySem.Spec PyProof.Rows L2 Ky
def top (i : Nat) : Stmt := PySem.Challenge.pw_stayskept_k04_questions_put_together.main.body.getD i (.Pass ⟨0, 0, 0, 0⟩)
abbrev s__law_box : Stmt := top 43
abbrev s__law_take : Stmt := top 44
abbrev s__law_cell : Stmt := top 42
abbrev s__law_drawn : Stmt := top 53
abbrev s__law_like : Stmt := top 47
abbrev s_bits_of : Stmt := top 12
abbrev s_Question_relations : Stmt := inClass (top 26) 2
abbrev s_is_listed : Stmt := top 7
abbrev s_are_unlike : Stmt := top 11
abbrev s_is_relation : Stmt := top 20
abbrev s_QuestionX_initX : Stmt := inClass (top 26) 0
abbrev s__law_words : Stmt := top 46
abbrev s__law_is : Stmt := top 55
abbrev s__law_mixed : Stmt := top 45
abbrev s__law_made : Stmt := top 54
abbrev s_is_question : Stmt := top 29
abbrev s_check_question : Stmt := top 30
abbrev s_question_with : Stmt := top 28
abbrev s_led : Stmt := top 36
abbrev s_mirrored_number : Stmt := top 38
abbrev s_mirrored_of : Stmt := top 40
abbrev s_check_questions : Stmt := top 31
abbrev s_both : Stmt := top 32
abbrev s_either : Stmt := top 33
abbrev s_without : Stmt := top 34
abbrev s_opposite : Stmt := top 35
abbrev s_turned_number : Stmt := top 37
abbrev s_turned_of : Stmt := top 39
abbrev s__law_called : Stmt := top 56
abbrev s__law_said : Stmt := top 57
abbrev s__law_refused_right : Stmt := top 61
abbrev s__law_rising : Stmt := top 49
abbrev s__law_ranks : Stmt := top 48
abbrev s__law_pair : Stmt := top 50
abbrev s__law_place : Stmt := top 51
abbrev s__law_relation : Stmt := top 52
abbrev s__law_moved : Stmt := top 58
abbrev s__law_dues : Stmt := top 59
abbrev s_is_tuple_of : Stmt := top 8
abbrev s_is_whole : Stmt := top 6
abbrev s_is_stay_h18 : Stmt := top 9
abbrev s_is_stay : Stmt := top 18
abbrev s_check_stays : Stmt := top 23
abbrev s_place : Stmt := top 21
abbrev s_number_of : Stmt := top 22
abbrev s_met_by : Stmt := top 27
abbrev s_Question_meets : Stmt := inClass (top 26) 3
abbrev s__law_two_right : Stmt := top 60
abbrev s_law : Stmt := top 62
def d_RELATIONS : D := (.tup [(.str "before"), (.str "meets"), (.str "overlaps"), (.str "ended"), (.str "holds"), (.str "starts"), (.str "equal"), (.str "started"), (.str "during"), (.str "ends"), (.str "lapped"), (.str "met"), (.str "after")])
def s_RELATIONS : List Str := ["before", "meets", "overlaps", "ended", "holds", "starts", "equal", "started", "during", "ends", "lapped", "met", "after"]
def d_MIRRORED : D := (.tup [(.int 12), (.int 11), (.int 10), (.int 7), (.int 4), (.int 9), (.int 6), (.int 3), (.int 8), (.int 5), (.int 2), (.int 1), (.int 0)])
def d_TURNED : D := (.tup [(.int 12), (.int 11), (.int 10), (.int 9), (.int 8), (.int 7), (.int 6), (.int 5), (.int 4), (.int 3), (.int 2), (.int 1), (.int 0)])
def d_NUMBERS : D := (.tup [(.tup [(.int 0), (.int 1), (.int 2), (.int 3), (.int 4)]), (.tup [(.int (-1)), (.int (-1)), (.int 5), (.int 6), (.int 7)]), (.tup [(.int (-1)), (.int (-1)), (.int 8), (.int 9), (.int 10)]), (.tup [(.int (-1)), (.int (-1)), (.int (-1)), (.int (-1)), (.int 11)]), (.tup [(.int (-1)), (.int (-1)), (.int (-1)), (.int (-1)), (.int 12)])])
/-- what the module holds -/
structure Txt (K : PySem.W.Frag) (mg : Str → Option Value) (T : Tbl) (ad : Nat → Addr) (fd : Nat → FuncData) (ca : Nat → Addr) : Prop where
  g_abs : mg "abs" = none
  g_all : mg "all" = none
  g_bool : mg "bool" = none
  g_int : mg "int" = none
  g_isinstance : mg "isinstance" = none
  g_len : mg "len" = none
  g_list : mg "list" = none
  g_max : mg "max" = none
  g_min : mg "min" = none
  g_range : mg "range" = none
  g_repr : mg "repr" = none
  g_set : mg "set" = none
  g_sorted : mg "sorted" = none
  g_str : mg "str" = none
  g_sum : mg "sum" = none
  g_tuple : mg "tuple" = none
  m__law_box : mg "_law_box" = some (.ref (ad 0))
  k__law_box : PySem.W.keepIn K (.ref (ad 0)) = true
  F__law_box : Fun K "_law_box" "_law_box" s__law_box (ad 0) (fd 0)
  b__law_box : Binds K (fd 0) ["great"] []
  m__law_take : mg "_law_take" = some (.ref (ad 1))
  k__law_take : PySem.W.keepIn K (.ref (ad 1)) = true
  F__law_take : Fun K "_law_take" "_law_take" s__law_take (ad 1) (fd 1)
  b__law_take : Binds K (fd 1) ["box", "many"] []
  m__law_cell : mg "_law_cell" = some (.ref (ad 2))
  k__law_cell : PySem.W.keepIn K (.ref (ad 2)) = true
  F__law_cell : Fun K "_law_cell" "_law_cell" s__law_cell (ad 2) (fd 2)
  b__law_cell : Binds K (fd 2) ["script", "k"] []
  m__law_drawn : mg "_law_drawn" = some (.ref (ad 3))
  k__law_drawn : PySem.W.keepIn K (.ref (ad 3)) = true
  F__law_drawn : Fun K "_law_drawn" "_law_drawn" s__law_drawn (ad 3) (fd 3)
  b__law_drawn : Binds K (fd 3) ["box", "some"] []
  m__law_like : mg "_law_like" = some (.ref (ad 4))
  k__law_like : PySem.W.keepIn K (.ref (ad 4)) = true
  F__law_like : Fun K "_law_like" "_law_like" s__law_like (ad 4) (fd 4)
  b__law_like : Binds K (fd 4) ["told", "due"] []
  m_bits_of : mg "bits_of" = some (.ref (ad 5))
  k_bits_of : PySem.W.keepIn K (.ref (ad 5)) = true
  F_bits_of : Fun K "bits_of" "bits_of" s_bits_of (ad 5) (fd 5)
  b_bits_of : Binds K (fd 5) ["number"] []
  k_Question_relations : PySem.W.keepIn K (.ref (ad 6)) = true
  F_Question_relations : Fun K "relations" "Question.relations" s_Question_relations (ad 6) (fd 6)
  b_Question_relations : Binds K (fd 6) ["self"] []
  mt_Question_relations : Meth K (T.cls 0) "relations" (ad 6)
  m_is_listed : mg "is_listed" = some (.ref (ad 7))
  k_is_listed : PySem.W.keepIn K (.ref (ad 7)) = true
  F_is_listed : Fun K "is_listed" "is_listed" s_is_listed (ad 7) (fd 7)
  b_is_listed : Binds K (fd 7) ["value"] []
  m_are_unlike : mg "are_unlike" = some (.ref (ad 8))
  k_are_unlike : PySem.W.keepIn K (.ref (ad 8)) = true
  F_are_unlike : Fun K "are_unlike" "are_unlike" s_are_unlike (ad 8) (fd 8)
  b_are_unlike : Binds K (fd 8) ["items"] []
  m_is_relation : mg "is_relation" = some (.ref (ad 9))
  k_is_relation : PySem.W.keepIn K (.ref (ad 9)) = true
  F_is_relation : Fun K "is_relation" "is_relation" s_is_relation (ad 9) (fd 9)
  b_is_relation : Binds K (fd 9) ["value"] []
  k_QuestionX_initX : PySem.W.keepIn K (.ref (ad 10)) = true
  F_QuestionX_initX : Fun K "__init__" "Question.__init__" s_QuestionX_initX (ad 10) (fd 10)
  b_QuestionX_initX : Binds K (fd 10) ["self", "relations"] []
  m__law_words : mg "_law_words" = some (.ref (ad 11))
  k__law_words : PySem.W.keepIn K (.ref (ad 11)) = true
  F__law_words : Fun K "_law_words" "_law_words" s__law_words (ad 11) (fd 11)
  b__law_words : Binds K (fd 11) [] []
  m__law_is : mg "_law_is" = some (.ref (ad 12))
  k__law_is : PySem.W.keepIn K (.ref (ad 12)) = true
  F__law_is : Fun K "_law_is" "_law_is" s__law_is (ad 12) (fd 12)
  b__law_is : Binds K (fd 12) ["question", "places"] []
  m__law_mixed : mg "_law_mixed" = some (.ref (ad 13))
  k__law_mixed : PySem.W.keepIn K (.ref (ad 13)) = true
  F__law_mixed : Fun K "_law_mixed" "_law_mixed" s__law_mixed (ad 13) (fd 13)
  b__law_mixed : Binds K (fd 13) ["box", "items"] []
  m__law_made : mg "_law_made" = some (.ref (ad 14))
  k__law_made : PySem.W.keepIn K (.ref (ad 14)) = true
  F__law_made : Fun K "_law_made" "_law_made" s__law_made (ad 14) (fd 14)
  b__law_made : Binds K (fd 14) ["box", "places"] []
  m_is_question : mg "is_question" = some (.ref (ad 15))
  k_is_question : PySem.W.keepIn K (.ref (ad 15)) = true
  F_is_question : Fun K "is_question" "is_question" s_is_question (ad 15) (fd 15)
  b_is_question : Binds K (fd 15) ["value"] []
  m_check_question : mg "check_question" = some (.ref (ad 16))
  k_check_question : PySem.W.keepIn K (.ref (ad 16)) = true
  F_check_question : Fun K "check_question" "check_question" s_check_question (ad 16) (fd 16)
  b_check_question : Binds K (fd 16) ["value"] []
  m_question_with : mg "question_with" = some (.ref (ad 17))
  k_question_with : PySem.W.keepIn K (.ref (ad 17)) = true
  F_question_with : Fun K "question_with" "question_with" s_question_with (ad 17) (fd 17)
  b_question_with : Binds K (fd 17) ["number"] []
  m_led : mg "led" = some (.ref (ad 18))
  k_led : PySem.W.keepIn K (.ref (ad 18)) = true
  F_led : Fun K "led" "led" s_led (ad 18) (fd 18)
  b_led : Binds K (fd 18) ["number", "table"] []
  m_mirrored_number : mg "mirrored_number" = some (.ref (ad 19))
  k_mirrored_number : PySem.W.keepIn K (.ref (ad 19)) = true
  F_mirrored_number : Fun K "mirrored_number" "mirrored_number" s_mirrored_number (ad 19) (fd 19)
  b_mirrored_number : Binds K (fd 19) ["number"] []
  m_mirrored_of : mg "mirrored_of" = some (.ref (ad 20))
  k_mirrored_of : PySem.W.keepIn K (.ref (ad 20)) = true
  F_mirrored_of : Fun K "mirrored_of" "mirrored_of" s_mirrored_of (ad 20) (fd 20)
  b_mirrored_of : Binds K (fd 20) ["question"] []
  m_check_questions : mg "check_questions" = some (.ref (ad 21))
  k_check_questions : PySem.W.keepIn K (.ref (ad 21)) = true
  F_check_questions : Fun K "check_questions" "check_questions" s_check_questions (ad 21) (fd 21)
  b_check_questions : Binds K (fd 21) ["one", "other"] []
  m_both : mg "both" = some (.ref (ad 22))
  k_both : PySem.W.keepIn K (.ref (ad 22)) = true
  F_both : Fun K "both" "both" s_both (ad 22) (fd 22)
  b_both : Binds K (fd 22) ["one", "other"] []
  m_either : mg "either" = some (.ref (ad 23))
  k_either : PySem.W.keepIn K (.ref (ad 23)) = true
  F_either : Fun K "either" "either" s_either (ad 23) (fd 23)
  b_either : Binds K (fd 23) ["one", "other"] []
  m_without : mg "without" = some (.ref (ad 24))
  k_without : PySem.W.keepIn K (.ref (ad 24)) = true
  F_without : Fun K "without" "without" s_without (ad 24) (fd 24)
  b_without : Binds K (fd 24) ["one", "other"] []
  m_opposite : mg "opposite" = some (.ref (ad 25))
  k_opposite : PySem.W.keepIn K (.ref (ad 25)) = true
  F_opposite : Fun K "opposite" "opposite" s_opposite (ad 25) (fd 25)
  b_opposite : Binds K (fd 25) ["question"] []
  m_turned_number : mg "turned_number" = some (.ref (ad 26))
  k_turned_number : PySem.W.keepIn K (.ref (ad 26)) = true
  F_turned_number : Fun K "turned_number" "turned_number" s_turned_number (ad 26) (fd 26)
  b_turned_number : Binds K (fd 26) ["number"] []
  m_turned_of : mg "turned_of" = some (.ref (ad 27))
  k_turned_of : PySem.W.keepIn K (.ref (ad 27)) = true
  F_turned_of : Fun K "turned_of" "turned_of" s_turned_of (ad 27) (fd 27)
  b_turned_of : Binds K (fd 27) ["question"] []
  m__law_called : mg "_law_called" = some (.ref (ad 28))
  k__law_called : PySem.W.keepIn K (.ref (ad 28)) = true
  F__law_called : Fun K "_law_called" "_law_called" s__law_called (ad 28) (fd 28)
  b__law_called : Binds K (fd 28) ["door", "one", "other", "named"] []
  m__law_said : mg "_law_said" = some (.ref (ad 29))
  k__law_said : PySem.W.keepIn K (.ref (ad 29)) = true
  F__law_said : Fun K "_law_said" "_law_said" s__law_said (ad 29) (fd 29)
  b__law_said : Binds K (fd 29) ["door", "one", "other", "named"] []
  m__law_refused_right : mg "_law_refused_right" = some (.ref (ad 30))
  k__law_refused_right : PySem.W.keepIn K (.ref (ad 30)) = true
  F__law_refused_right : Fun K "_law_refused_right" "_law_refused_right" s__law_refused_right (ad 30) (fd 30)
  b__law_refused_right : Binds K (fd 30) ["box", "some", "named"] []
  m__law_rising : mg "_law_rising" = some (.ref (ad 31))
  k__law_rising : PySem.W.keepIn K (.ref (ad 31)) = true
  F__law_rising : Fun K "_law_rising" "_law_rising" s__law_rising (ad 31) (fd 31)
  b__law_rising : Binds K (fd 31) ["box", "many"] []
  m__law_ranks : mg "_law_ranks" = some (.ref (ad 32))
  k__law_ranks : PySem.W.keepIn K (.ref (ad 32)) = true
  F__law_ranks : Fun K "_law_ranks" "_law_ranks" s__law_ranks (ad 32) (fd 32)
  b__law_ranks : Binds K (fd 32) [] []
  m__law_pair : mg "_law_pair" = some (.ref (ad 33))
  k__law_pair : PySem.W.keepIn K (.ref (ad 33)) = true
  F__law_pair : Fun K "_law_pair" "_law_pair" s__law_pair (ad 33) (fd 33)
  b__law_pair : Binds K (fd 33) ["box", "which"] []
  m__law_place : mg "_law_place" = some (.ref (ad 34))
  k__law_place : PySem.W.keepIn K (.ref (ad 34)) = true
  F__law_place : Fun K "_law_place" "_law_place" s__law_place (ad 34) (fd 34)
  b__law_place : Binds K (fd 34) ["moment", "start", "end"] []
  m__law_relation : mg "_law_relation" = some (.ref (ad 35))
  k__law_relation : PySem.W.keepIn K (.ref (ad 35)) = true
  F__law_relation : Fun K "_law_relation" "_law_relation" s__law_relation (ad 35) (fd 35)
  b__law_relation : Binds K (fd 35) ["one", "other"] []
  m__law_moved : mg "_law_moved" = some (.ref (ad 36))
  k__law_moved : PySem.W.keepIn K (.ref (ad 36)) = true
  F__law_moved : Fun K "_law_moved" "_law_moved" s__law_moved (ad 36) (fd 36)
  b__law_moved : Binds K (fd 36) ["which", "way"] []
  m__law_dues : mg "_law_dues" = some (.ref (ad 37))
  k__law_dues : PySem.W.keepIn K (.ref (ad 37)) = true
  F__law_dues : Fun K "_law_dues" "_law_dues" s__law_dues (ad 37) (fd 37)
  b__law_dues : Binds K (fd 37) ["some", "more"] []
  m_is_tuple_of : mg "is_tuple_of" = some (.ref (ad 38))
  k_is_tuple_of : PySem.W.keepIn K (.ref (ad 38)) = true
  F_is_tuple_of : Fun K "is_tuple_of" "is_tuple_of" s_is_tuple_of (ad 38) (fd 38)
  b_is_tuple_of : Binds K (fd 38) ["value", "many"] []
  m_is_whole : mg "is_whole" = some (.ref (ad 39))
  k_is_whole : PySem.W.keepIn K (.ref (ad 39)) = true
  F_is_whole : Fun K "is_whole" "is_whole" s_is_whole (ad 39) (fd 39)
  b_is_whole : Binds K (fd 39) ["value"] []
  k_is_stay_h18 : PySem.W.keepIn K (.ref (ad 40)) = true
  F_is_stay_h18 : Fun K "is_stay" "is_stay" s_is_stay_h18 (ad 40) (fd 40)
  b_is_stay_h18 : Binds K (fd 40) ["value"] []
  m_is_stay : mg "is_stay" = some (.ref (ad 41))
  k_is_stay : PySem.W.keepIn K (.ref (ad 41)) = true
  F_is_stay : Fun K "is_stay" "is_stay" s_is_stay (ad 41) (fd 41)
  b_is_stay : Binds K (fd 41) ["value"] []
  m_check_stays : mg "check_stays" = some (.ref (ad 42))
  k_check_stays : PySem.W.keepIn K (.ref (ad 42)) = true
  F_check_stays : Fun K "check_stays" "check_stays" s_check_stays (ad 42) (fd 42)
  b_check_stays : Binds K (fd 42) ["one", "other"] []
  m_place : mg "place" = some (.ref (ad 43))
  k_place : PySem.W.keepIn K (.ref (ad 43)) = true
  F_place : Fun K "place" "place" s_place (ad 43) (fd 43)
  b_place : Binds K (fd 43) ["moment", "stay"] []
  m_number_of : mg "number_of" = some (.ref (ad 44))
  k_number_of : PySem.W.keepIn K (.ref (ad 44)) = true
  F_number_of : Fun K "number_of" "number_of" s_number_of (ad 44) (fd 44)
  b_number_of : Binds K (fd 44) ["one", "other"] []
  m_met_by : mg "met_by" = some (.ref (ad 45))
  k_met_by : PySem.W.keepIn K (.ref (ad 45)) = true
  F_met_by : Fun K "met_by" "met_by" s_met_by (ad 45) (fd 45)
  b_met_by : Binds K (fd 45) ["number", "one", "other"] []
  k_Question_meets : PySem.W.keepIn K (.ref (ad 46)) = true
  F_Question_meets : Fun K "meets" "Question.meets" s_Question_meets (ad 46) (fd 46)
  b_Question_meets : Binds K (fd 46) ["self", "one", "other"] []
  mt_Question_meets : Meth K (T.cls 0) "meets" (ad 46)
  m__law_two_right : mg "_law_two_right" = some (.ref (ad 47))
  k__law_two_right : PySem.W.keepIn K (.ref (ad 47)) = true
  F__law_two_right : Fun K "_law_two_right" "_law_two_right" s__law_two_right (ad 47) (fd 47)
  b__law_two_right : Binds K (fd 47) ["box", "some", "more", "named"] []
  m_law : mg "law" = some (.ref (ad 48))
  k_law : PySem.W.keepIn K (.ref (ad 48)) = true
  F_law : Fun K "law" "law" s_law (ad 48) (fd 48)
  b_law : Binds K (fd 48) ["script"] []
  m_is_stay_shapes : mg "is_stay_shapes" = some (.ref (ad 40))
  m_is_stay_stays : mg "is_stay_stays" = some (.ref (ad 41))
  kb_both_0_other_one : KB K (fd 22) ["one", "other"] 0 ["other", "one"] [1, 0]
  kb_either_0_other_one : KB K (fd 23) ["one", "other"] 0 ["other", "one"] [1, 0]
  kb_without_0_other_one : KB K (fd 24) ["one", "other"] 0 ["other", "one"] [1, 0]
  kb_opposite_0_question : KB K (fd 25) ["question"] 0 ["question"] [0]
  kb_turned_of_0_question : KB K (fd 27) ["question"] 0 ["question"] [0]
  kb_mirrored_of_0_question : KB K (fd 20) ["question"] 0 ["question"] [0]
  cl_Question : Cls K (T.cls 0)
  at_Question : T.att 0 = (["number"] : List Str)
  na_Question : ∀ f ∈ T.att 0, NoAttr K (T.cls 0) f
  mc_Question : mg "Question" = some (.ref (T.cls 0))
  mk_Question : Mk K (T.cls 0) (ad 10)
  ki : KitOk K T [0]
  x_InvalidRelations : PySem.ErrX.ErrTxt K mg "InvalidRelations" "InvalidRelations.__init__" (T.cls 1) (ad 49)
  xa_InvalidRelations : T.att 1 = [("given" : Str)]
  xm_InvalidRelations : ∀ c ∈ [1, 2, 3], PySem.W.exmOne K (.ref (T.cls c)) (.ref (T.cls 1)) = some (decide (c = 1))
  x_InvalidQuestion : PySem.ErrX.ErrTxt K mg "InvalidQuestion" "InvalidQuestion.__init__" (T.cls 2) (ad 50)
  xa_InvalidQuestion : T.att 2 = [("given" : Str)]
  xm_InvalidQuestion : ∀ c ∈ [1, 2, 3], PySem.W.exmOne K (.ref (T.cls c)) (.ref (T.cls 2)) = some (decide (c = 2))
  x_InvalidStay : PySem.ErrX.ErrTxt K mg "InvalidStay" "InvalidStay.__init__" (T.cls 3) (ad 51)
  xa_InvalidStay : T.att 3 = [("given" : Str)]
  xm_InvalidStay : ∀ c ∈ [1, 2, 3], PySem.W.exmOne K (.ref (T.cls c)) (.ref (T.cls 3)) = some (decide (c = 3))
  xat : ∀ c ∈ [1, 2, 3], T.att c = [("given" : Str)]
  m_RELATIONS : mg "RELATIONS" = some (.ref (ca 0))
  c_RELATIONS : ∀ G, Rp K T G (.ref (ca 0)) d_RELATIONS
  k_RELATIONS : ∃ o, K.lookup (ca 0) = some o ∧ o.cls = .type "tuple" ∧ o.dict = none
  q_RELATIONS : ∀ H, SqT K H (ca 0) (s_RELATIONS.map V.str)
  m_MIRRORED : mg "MIRRORED" = some (.ref (ca 1))
  c_MIRRORED : ∀ G, Rp K T G (.ref (ca 1)) d_MIRRORED
  m_EVERY : ∃ t, mg "EVERY" = some (.int 8191 t)
  m_TURNED : mg "TURNED" = some (.ref (ca 3))
  c_TURNED : ∀ G, Rp K T G (.ref (ca 3)) d_TURNED
  m_NUMBERS : mg "NUMBERS" = some (.ref (ca 4))
  c_NUMBERS : ∀ G, Rp K T G (.ref (ca 4)) d_NUMBERS
section
variable {P : Program} {w : World} {K : PySem.W.Frag} {mg : Str → Option Value} {base : Heap} {T : Tbl} {ad : Nat → Addr} {fd : Nat → FuncData} {ca : Nat → Addr}
/-! ### _law_box -/
theorem sc__law_box : FnScope ["great"] ["great"] (defScope s__law_box) := ⟨rfl, rfl, rfl, by decide +kernel, rfl, by decide +kernel, by decide +kernel⟩
def b__law_box : MS := (mRetL (mLst (mCons (mNow (mOp bAbs (mCons (mPk 0) mNil))) (mCons (mNow (mOp (p2 oGe) (mA2 (mNow (mOp bAbs (mCons (mPk 0) mNil))) (mNow (mOp (p2 oPow) (mA2 (mNow (mCon (.int 10))) (mNow (mCon (.int 18))))))))) (mCons (mNow (mOp (p2 oMod) (mA2 (mNow (mOp bInt (mCons (mNow (mOp bAbs (mCons (mPk 0) mNil))) mNil))) (mNow (mCon (.int 2147483629)))))) (mCons (mNow (mCon (.int 0))) mNil))))))
def f__law_box : Fn := defG 1 1 b__law_box
theorem ok__law_box (E : Txt K mg T ad fd ca) : FnOk P w K mg base (L2.CX P w) 1 (ad 0) (fd 0) ["great"] (spF K T 1 f__law_box) :=
  fn_ok (N := ["great"]) (ps := ["great"]) (body := b__law_box) E.F__law_box sc__law_box fun cdv A outer s H Ex hr => by
    have tk : Takes (cxOf (L2.CX P w) P w K mg base ["great"] "_law_box" (defScope s__law_box) (ad 0) cdv A outer s H Ex) (fun cls d _ H => Ex cls d H) := takes_of rfl rfl rfl rfl
    exact (jss_one (js_retL (jl_lst (ja_cons (jg_now (je_cb call_abs ok_abs (by rfl) E.g_abs (by decide +kernel) (ja_cons (jg_pk (pv 0)) ja_nil))) (ja_cons (jg_now (je_cmp op_ge ok_cmp (jg_now (je_cb call_abs ok_abs (by rfl) E.g_abs (by decide +kernel) (ja_cons (jg_pk (pv 0)) ja_nil))) (jg_now (je_op2 op_pow ok_pow (jg_now je_int) (jg_now je_int))) (by rfl))) (ja_cons (jg_now (je_op2 op_modN ok_mod (jg_now (je_cty call_int1 ok_int1 (by rfl) E.g_int (by decide +kernel) (ja_cons (jg_now (je_cb call_abs ok_abs (by rfl) E.g_abs (by decide +kernel) (ja_cons (jg_pk (pv 0)) ja_nil))) ja_nil))) (jg_now je_int))) (ja_cons (jg_now je_int) ja_nil)))))))
/-! ### _law_take -/
theorem sc__law_take : FnScope ["box", "many", "mixed", "digit"] ["box", "many"] (defScope s__law_take) := ⟨rfl, rfl, rfl, by decide +kernel, rfl, by decide +kernel, by decide +kernel⟩
def b__law_take : MS := (mSeq (mIfS (mAnd (mTru (mNow (mOp (p2 oIx) (mA2 (mPk 0) (mNow (mCon (.int 1))))))) (mB (mOp (p2 oGt) (mA2 (mNow (mOp (p2 oIx) (mA2 (mPk 0) (mNow (mCon (.int 0)))))) (mNow (mCon (.int 0)))))))
    (mSeq (mAsg (tgName 3) (mOp (p2 oMod) (mA2 (mNow (mOp bInt (mCons (mNow (mOp (p2 oIx) (mA2 (mPk 0) (mNow (mCon (.int 0)))))) mNil))) (mPk 1))))
    (mSeq (mSet 0 (mCon (.int 0)) (mOp (p2 oFdiv) (mA2 (mNow (mOp (p2 oIx) (mA2 (mPk 0) (mNow (mCon (.int 0)))))) (mPk 1))))
    (mRet (mVar 3))))
    mSkip)
    (mSeq (mSet 0 (mCon (.int 3)) (mOp (p2 oAdd) (mA2 (mNow (mOp (p2 oIx) (mA2 (mPk 0) (mNow (mCon (.int 3)))))) (mNow (mCon (.int 1))))))
    (mSeq (mAsg (tgName 2) (mOp (p2 oMod) (mA2 (mNow (mOp bInt (mCons (mNow (mOp (p2 oPow) (mA2 (mNow (mOp (p2 oAdd) (mA2 (mNow (mOp (p2 oAdd) (mA2 (mNow (mOp (p2 oIx) (mA2 (mPk 0) (mNow (mCon (.int 2)))))) (mNow (mOp (p2 oMul) (mA2 (mNow (mCon (.int 15486439))) (mNow (mOp (p2 oIx) (mA2 (mPk 0) (mNow (mCon (.int 3)))))))))))) (mNow (mCon (.int 179425043)))))) (mNow (mCon (.int 5)))))) mNil))) (mNow (mCon (.int 2147483647))))))
    (mRet (mOp (p2 oMod) (mA2 (mNow (mOp bInt (mCons (mNow (mOp (p2 oFdiv) (mA2 (mNow (mOp (p2 oMod) (mA2 (mNow (mOp bInt (mCons (mNow (mOp (p2 oPow) (mA2 (mNow (mOp (p2 oAdd) (mA2 (mNow (mOp (p2 oMul) (mA2 (mPk 2) (mNow (mCon (.int 48271)))))) (mNow (mOp (p2 oMul) (mA2 (mNow (mCon (.int 104729))) (mNow (mOp (p2 oIx) (mA2 (mPk 0) (mNow (mCon (.int 3)))))))))))) (mNow (mCon (.int 3)))))) mNil))) (mNow (mCon (.int 2147483587)))))) (mNow (mCon (.int 64)))))) mNil))) (mPk 1)))))))
def f__law_take : Fn := defG 2 4 b__law_take
theorem ok__law_take (E : Txt K mg T ad fd ca) : FnOk P w K mg base (L2.CX P w) 1 (ad 1) (fd 1) ["box", "many"] (spF K T 2 f__law_take) :=
  fn_ok (N := ["box", "many", "mixed", "digit"]) (ps := ["box", "many"]) (body := b__law_take) E.F__law_take sc__law_take fun cdv A outer s H Ex hr => by
    have tk : Takes (cxOf (L2.CX P w) P w K mg base ["box", "many", "mixed", "digit"] "_law_take" (defScope s__law_take) (ad 1) cdv A outer s H Ex) (fun cls d _ H => Ex cls d H) := takes_of rfl rfl rfl rfl
    exact (jss_cons (js_if (jt_w (jw_and (jt_tru (jg_now (je_ix ix_seq ok_ix (jg_pk (pv 0)) (jg_now je_int) (fun _ _ => rfl)))) (jw_and1 (jt_cmp op_gt ok_cmp (jg_now (je_ix ix_seq ok_ix (jg_pk (pv 0)) (jg_now je_int) (fun _ _ => rfl))) (jg_now je_int) (by rfl)))))
    (jss_cons (js_set (i := 3) sc__law_take.nd rfl (by first | exact Or.inl rfl | exact Or.inr rfl) (je_op2 op_modN ok_mod (jg_now (je_cty call_int1 ok_int1 (by rfl) E.g_int (by decide +kernel) (ja_cons (jg_now (je_ix ix_seq ok_ix (jg_pk (pv 0)) (jg_now je_int) (fun _ _ => rfl))) ja_nil))) (jg_pk (pv 1))))
    (jss_cons (js_ix (pg_sub (pv 0) je_int set_list) (je_op2 op_fdivN ok_fdiv (jg_now (je_ix ix_seq ok_ix (jg_pk (pv 0)) (jg_now je_int) (fun _ _ => rfl))) (jg_pk (pv 1))))
    (jss_one (js_ret (je_var (pv 3))))))
    jss_nil)
    (jss_cons (js_ix (pg_sub (pv 0) je_int set_list) (je_op2 (or_or op_add op_add_str) ok_add (jg_now (je_ix ix_seq ok_ix (jg_pk (pv 0)) (jg_now je_int) (fun _ _ => rfl))) (jg_now je_int)))
    (jss_cons (js_set (i := 2) sc__law_take.nd rfl (by first | exact Or.inl rfl | exact Or.inr rfl) (je_op2 op_modN ok_mod (jg_now (je_cty call_int1 ok_int1 (by rfl) E.g_int (by decide +kernel) (ja_cons (jg_now (je_op2 op_pow ok_pow (jg_now (je_op2 (or_or op_add op_add_str) ok_add (jg_now (je_op2 (or_or op_add op_add_str) ok_add (jg_now (je_ix ix_seq ok_ix (jg_pk (pv 0)) (jg_now je_int) (fun _ _ => rfl))) (jg_now (je_op2 op_mul ok_mul (jg_now je_int) (jg_now (je_ix ix_seq ok_ix (jg_pk (pv 0)) (jg_now je_int) (fun _ _ => rfl))))))) (jg_now je_int))) (jg_now je_int))) ja_nil))) (jg_now je_int)))
    (jss_one (js_ret (je_op2 op_modN ok_mod (jg_now (je_cty call_int1 ok_int1 (by rfl) E.g_int (by decide +kernel) (ja_cons (jg_now (je_op2 op_fdivN ok_fdiv (jg_now (je_op2 op_modN ok_mod (jg_now (je_cty call_int1 ok_int1 (by rfl) E.g_int (by decide +kernel) (ja_cons (jg_now (je_op2 op_pow ok_pow (jg_now (je_op2 (or_or op_add op_add_str) ok_add (jg_now (je_op2 op_mul ok_mul (jg_pk (pv 2)) (jg_now je_int))) (jg_now (je_op2 op_mul ok_mul (jg_now je_int) (jg_now (je_ix ix_seq ok_ix (jg_pk (pv 0)) (jg_now je_int) (fun _ _ => rfl))))))) (jg_now je_int))) ja_nil))) (jg_now je_int))) (jg_now je_int))) ja_nil))) (jg_pk (pv 1))))))))
/-! ### _law_cell -/
theorem sc__law_cell : FnScope ["script", "k"] ["script", "k"] (defScope s__law_cell) := ⟨rfl, rfl, rfl, by decide +kernel, rfl, by decide +kernel, by decide +kernel⟩
def b__law_cell : MS := (mRet (mIf (mB (mOp (p2 oLt) (mA2 (mPk 1) (mNow (mOp bLen (mCons (mPk 0) mNil)))))) (mOp (p2 oIx) (mA2 (mPk 0) (mPk 1))) (mOp (p2 oAdd) (mA2 (mNow (mOp (p2 oMul) (mA2 (mNow (mCon (.int 6323))) (mPk 1)))) (mNow (mOp (p2 oMod) (mA2 (mNow (mOp bInt (mCons (mNow (mOp bSum (mCons (mNow (mSl (mPk 0) none (some (mCon (.int 1))))) mNil))) mNil))) (mNow (mCon (.int 1000033))))))))))
def f__law_cell : Fn := defG 2 2 b__law_cell
theorem ok__law_cell (E : Txt K mg T ad fd ca) : FnOk P w K mg base (L2.CX P w) 1 (ad 2) (fd 2) ["script", "k"] (spF K T 2 f__law_cell) :=
  fn_ok (N := ["script", "k"]) (ps := ["script", "k"]) (body := b__law_cell) E.F__law_cell sc__law_cell fun cdv A outer s H Ex hr => by
    have tk : Takes (cxOf (L2.CX P w) P w K mg base ["script", "k"] "_law_cell" (defScope s__law_cell) (ad 2) cdv A outer s H Ex) (fun cls d _ H => Ex cls d H) := takes_of rfl rfl rfl rfl
    exact (jss_one (js_ret (je_if (jt_cmp op_lt ok_cmp (jg_pk (pv 1)) (jg_now (je_cb call_len ok_len (by rfl) E.g_len (by decide +kernel) (ja_cons (jg_pk (pv 0)) ja_nil))) (by rfl)) (je_ix ix_seq ok_ix (jg_pk (pv 0)) (jg_pk (pv 1)) (fun _ _ => rfl)) (je_op2 (or_or op_add op_add_str) ok_add (jg_now (je_op2 op_mul ok_mul (jg_now je_int) (jg_pk (pv 1)))) (jg_now (je_op2 op_modN ok_mod (jg_now (je_cty call_int1 ok_int1 (by rfl) E.g_int (by decide +kernel) (ja_cons (jg_now (je_cb (cr_sum rfl) ok_sum (by rfl) E.g_sum (by decide +kernel) (ja_cons (jg_now (je_sl (jg_pk (pv 0)) jo_none (jo_some je_int))) ja_nil))) ja_nil))) (jg_now je_int)))))))
/-! ### _law_drawn -/
theorem sc__law_drawn : FnScope ["box", "some", "way", "k"] ["box", "some"] (defScope s__law_drawn) := ⟨rfl, rfl, rfl, by decide +kernel, rfl, by decide +kernel, by decide +kernel⟩
def b__law_drawn : MS := (mSeq (mAsg (tgName 2) (mCall f__law_take (mCons (mIo 0) (mCons (mNow (mCon (.int 9))) mNil))))
    (mSeq (mIfS (mB (mOp (p2 oLt) (mA2 (mPk 2) (mNow (mCon (.int 2))))))
    (mRet (mOp (p2 oIx) (mA2 (mNow (mFz (mLst (mCons (mNow (mFz (mLst mNil))) (mCons (mNow (mFz (mListRng (mNow (mCon (.int 13)))))) mNil))))) (mPk 2))))
    mSkip)
    (mSeq (mIfS (mB (mOp (p2 oLt) (mA2 (mPk 2) (mNow (mCon (.int 4))))))
    (mRetL (mComp (miRng1 (mNow (mCon (.int 13)))) (tgName 3) [3] (mB (mOp (p2 oEq) (mA2 (mNow (mOp (p2 oIn) (mA2 (mPk 3) (mPk 1)))) (mNow (mOp (p2 oEq) (mA2 (mPk 2) (mNow (mCon (.int 2))))))))) (mVar 3)))
    mSkip)
    (mSeq (mIfS (mB (mOp (p2 oEq) (mA2 (mPk 2) (mNow (mCon (.int 4))))))
    (mRetL (mComp (miSeq (mVar 1)) (tgName 3) [3] (mB (mOp (p2 oEq) (mA2 (mNow (mCall f__law_take (mCons (mIo 0) (mCons (mNow (mCon (.int 2))) mNil)))) (mNow (mCon (.int 0)))))) (mVar 3)))
    mSkip)
    (mSeq (mIfS (mB (mOp (p2 oEq) (mA2 (mPk 2) (mNow (mCon (.int 5))))))
    (mRetL (mLst (mCons (mNow (mCall f__law_take (mCons (mIo 0) (mCons (mNow (mCon (.int 13))) mNil)))) mNil)))
    mSkip)
    (mRetL (mComp (miRng1 (mNow (mCon (.int 13)))) (tgName 3) [3] (mB (mOp (p2 oEq) (mA2 (mNow (mCall f__law_take (mCons (mIo 0) (mCons (mNow (mCon (.int 2))) mNil)))) (mNow (mCon (.int 0)))))) (mVar 3))))))))
def f__law_drawn : Fn := defG 2 4 b__law_drawn
theorem ok__law_drawn (E : Txt K mg T ad fd ca) : FnOk P w K mg base (L2.CX P w) 2 (ad 3) (fd 3) ["box", "some"] (spF K T 2 f__law_drawn) :=
  fn_ok (N := ["box", "some", "way", "k"]) (ps := ["box", "some"]) (body := b__law_drawn) E.F__law_drawn sc__law_drawn fun cdv A outer s H Ex hr => by
    have tk : Takes (cxOf (L2.CX P w) P w K mg base ["box", "some", "way", "k"] "_law_drawn" (defScope s__law_drawn) (ad 3) cdv A outer s H Ex) (fun cls d _ H => Ex cls d H) := takes_of rfl rfl rfl rfl
    exact (jss_cons (js_set (i := 2) sc__law_drawn.nd rfl (by first | exact Or.inl rfl | exact Or.inr rfl) (je_call (ok__law_take E) (hr.mono (by decide)) (by rfl) E.m__law_take E.k__law_take E.b__law_take (fun σ => passAt tk σ) (len_cons (len_cons len_nil)) (ja_cons (jg_io (pv 0)) (ja_cons (jg_now je_int) ja_nil))))
    (jss_cons (js_if (jt_cmp op_lt ok_cmp (jg_pk (pv 2)) (jg_now je_int) (by rfl))
    (jss_one (js_ret (je_ix ix_seq ok_ix (jg_now (je_fz (jl_lst (ja_cons (jg_now (je_fz (jl_lst ja_nil))) (ja_cons (jg_now (je_fz (jl_listRng rfl E.g_list E.g_range (jg_now je_int)))) ja_nil))))) (jg_pk (pv 2)) (fun _ _ => rfl))))
    jss_nil)
    (jss_cons (js_if (jt_cmp op_lt ok_cmp (jg_pk (pv 2)) (jg_now je_int) (by rfl))
    (jss_one (js_retL (jl_comp (own := [("k", 3)]) rfl sc__law_drawn.nd (blkOk_by (N := ["box", "some", "way", "k"]) (sc := defScope s__law_drawn) (by decide +kernel)) (jr1 E.g_range (jg_now je_int)) (fun _ _ _ _ _ => (jg_name (pg_name (i := 3) sc__law_drawn.nd rfl (by first | exact Or.inl rfl | exact Or.inr rfl)))) (fun _ _ _ _ _ => (jts_one (jt_cmp (op_eqD hr.units) ok_eq (jg_now (je_cmp op_in_seq ok_in (jg_pk (pv 3)) (jg_pk (pv 1)) (by rfl))) (jg_now (je_cmp (op_eqD hr.units) ok_eq (jg_pk (pv 2)) (jg_now je_int) (by rfl))) (by rfl)))) (fun _ _ _ _ _ => (je_var (pv 3))))))
    jss_nil)
    (jss_cons (js_if (jt_cmp (op_eqD hr.units) ok_eq (jg_pk (pv 2)) (jg_now je_int) (by rfl))
    (jss_one (js_retL (jl_comp (own := [("k", 3)]) rfl sc__law_drawn.nd (blkOk_by (N := ["box", "some", "way", "k"]) (sc := defScope s__law_drawn) (by decide +kernel)) (jp_seq (je_var (pv 1))) (fun _ _ _ _ _ => (jg_name (pg_name (i := 3) sc__law_drawn.nd rfl (by first | exact Or.inl rfl | exact Or.inr rfl)))) (fun _ _ _ _ _ => (jts_one (jt_cmp (op_eqD hr.units) ok_eq (jg_now (je_call (ok__law_take E) (hr.mono (by decide)) (by rfl) E.m__law_take E.k__law_take E.b__law_take (fun σ => passAt takes0 σ) (len_cons (len_cons len_nil)) (ja_cons (jg_io (pv 0)) (ja_cons (jg_now je_int) ja_nil)))) (jg_now je_int) (by rfl)))) (fun _ _ _ _ _ => (je_var (pv 3))))))
    jss_nil)
    (jss_cons (js_if (jt_cmp (op_eqD hr.units) ok_eq (jg_pk (pv 2)) (jg_now je_int) (by rfl))
    (jss_one (js_retL (jl_lst (ja_cons (jg_now (je_call (ok__law_take E) (hr.mono (by decide)) (by rfl) E.m__law_take E.k__law_take E.b__law_take (fun σ => passAt tk σ) (len_cons (len_cons len_nil)) (ja_cons (jg_io (pv 0)) (ja_cons (jg_now je_int) ja_nil)))) ja_nil))))
    jss_nil)
    (jss_one (js_retL (jl_comp (own := [("k", 3)]) rfl sc__law_drawn.nd (blkOk_by (N := ["box", "some", "way", "k"]) (sc := defScope s__law_drawn) (by decide +kernel)) (jr1 E.g_range (jg_now je_int)) (fun _ _ _ _ _ => (jg_name (pg_name (i := 3) sc__law_drawn.nd rfl (by first | exact Or.inl rfl | exact Or.inr rfl)))) (fun _ _ _ _ _ => (jts_one (jt_cmp (op_eqD hr.units) ok_eq (jg_now (je_call (ok__law_take E) (hr.mono (by decide)) (by rfl) E.m__law_take E.k__law_take E.b__law_take (fun σ => passAt takes0 σ) (len_cons (len_cons len_nil)) (ja_cons (jg_io (pv 0)) (ja_cons (jg_now je_int) ja_nil)))) (jg_now je_int) (by rfl)))) (fun _ _ _ _ _ => (je_var (pv 3)))))))))))
/-! ### _law_like -/
theorem sc__law_like : FnScope ["told", "due", "todo", "one", "two", "k"] ["told", "due"] (defScope s__law_like) := ⟨rfl, rfl, rfl, by decide +kernel, rfl, by decide +kernel, by decide +kernel⟩
def b__law_like : MS := (mSeq (mAsgL 2 (mLst (mCons (mNow (mTup (mCons (mNow (mVar 0)) (mCons (mNow (mVar 1)) mNil)))) mNil)))
    (mSeq (mWhile 100000 (mB (mOp (p2 oNe) (mA2 (mPk 2) (mNow (mFz (mLst mNil))))))
    (mSeq (mAsg (tgSeq [(tgName 3), (tgName 4)]) (mPopL 2))
    (mIfS (mTru (mNow (mIsi [0] [.ty "list", .ty "tuple"] (mPk 4))))
    (mSeq (mIfS (mOr (mNot (mTru (mNow (mIsi [0] [.ty "list", .ty "tuple"] (mPk 3))))) (mOr (mB (mOp (p2 oNe) (mA2 (mNow (mIsi [0] [.ty "list"] (mPk 3))) (mNow (mIsi [0] [.ty "list"] (mPk 4)))))) (mB (mOp (p2 oNe) (mA2 (mNow (mOp bLen (mCons (mPk 3) mNil))) (mNow (mOp bLen (mCons (mPk 4) mNil))))))))
    (mRet (mCon (.bl false)))
    mSkip)
    (mFor (miRng1 (mNow (mOp bLen (mCons (mPk 4) mNil)))) (tgName 5)
    (mApp 2 (mTup (mCons (mNow (mOp (p2 oIx) (mA2 (mPk 3) (mPk 5)))) (mCons (mNow (mOp (p2 oIx) (mA2 (mPk 4) (mPk 5)))) mNil))))))
    (mIfS (mOr (mB (mOp (p2 oIs) (mA2 (mPk 4) (mNow (mCon .non))))) (mTru (mNow (mIsi [0] [.ty "bool"] (mPk 4)))))
    (mIfS (mOr (mB (mOp (p2 oNe) (mA2 (mNow (mOp (p2 oIs) (mA2 (mPk 4) (mNow (mCon .non))))) (mNow (mOp (p2 oIs) (mA2 (mPk 3) (mNow (mCon .non)))))))) (mOr (mB (mOp (p2 oNe) (mA2 (mNow (mOp (p2 oIs) (mA2 (mPk 4) (mNow (mCon (.bl true)))))) (mNow (mOp (p2 oIs) (mA2 (mPk 3) (mNow (mCon (.bl true))))))))) (mB (mOp (p2 oNe) (mA2 (mNow (mOp (p2 oIs) (mA2 (mPk 4) (mNow (mCon (.bl false)))))) (mNow (mOp (p2 oIs) (mA2 (mPk 3) (mNow (mCon (.bl false)))))))))))
    (mRet (mCon (.bl false)))
    mSkip)
    (mIfS (mTru (mNow (mIsi [0] [.ty "str"] (mPk 4))))
    (mIfS (mOr (mNot (mTru (mNow (mIsi [0] [.ty "str"] (mPk 3))))) (mB (mOp (p2 oNe) (mA2 (mPk 3) (mPk 4)))))
    (mRet (mCon (.bl false)))
    mSkip)
    (mIfS (mOr (mNot (mTru (mNow (mIsi [0] [.ty "int"] (mPk 3))))) (mOr (mTru (mNow (mIsi [0] [.ty "bool"] (mPk 3)))) (mB (mOp (p2 oNe) (mA2 (mPk 3) (mPk 4))))))
    (mRet (mCon (.bl false)))
    mSkip))))))
    (mRet (mCon (.bl true)))))
def f__law_like : Fn := defG 2 6 b__law_like
theorem ok__law_like (E : Txt K mg T ad fd ca) : FnOk P w K mg base (L2.CX P w) 1 (ad 4) (fd 4) ["told", "due"] (spF K T 2 f__law_like) :=
  fn_ok (N := ["told", "due", "todo", "one", "two", "k"]) (ps := ["told", "due"]) (body := b__law_like) E.F__law_like sc__law_like fun cdv A outer s H Ex hr => by
    have tk : Takes (cxOf (L2.CX P w) P w K mg base ["told", "due", "todo", "one", "two", "k"] "_law_like" (defScope s__law_like) (ad 4) cdv A outer s H Ex) (fun cls d _ H => Ex cls d H) := takes_of rfl rfl rfl rfl
    exact (jss_cons (js_setL (i := 2) sc__law_like.nd rfl (by first | exact Or.inl rfl | exact Or.inr rfl) (jl_lst (ja_cons (jg_now (je_tup (ja_cons (jg_now (je_var (pv 0))) (ja_cons (jg_now (je_var (pv 1))) ja_nil)))) ja_nil)))
    (jss_cons (js_while (passes_of rfl) (jt_cmp (op_neD hr.units) ok_ne (jg_pk (pv 2)) (jg_now (je_fz (jl_lst ja_nil))) (by rfl))
    (jss_cons (js_asg (je_popL (pv 2)) (jg_seq rfl (jgs_cons (jg_name (pg_name (i := 3) sc__law_like.nd rfl (by first | exact Or.inl rfl | exact Or.inr rfl))) (jgs_cons (jg_name (pg_name (i := 4) sc__law_like.nd rfl (by first | exact Or.inl rfl | exact Or.inr rfl))) jgs_nil))))
    (jss_one (js_if (jt_tru (jg_now (je_isiT (cn := [.ty "list", .ty "tuple"]) E.ki E.g_isinstance (jg_pk (pv 4)) (by decide) (pa_cons (pe_bltn (v := .ty "list") (u := .type "list") (by rfl) E.g_list (by decide +kernel) rfl) (pa_cons (pe_bltn (v := .ty "tuple") (u := .type "tuple") (by rfl) E.g_tuple (by decide +kernel) rfl) pa_nil)) (fun σ H Q q => q))))
    (jss_cons (js_if (jt_w (jw_or (jt_not (jt_tru (jg_now (je_isiT (cn := [.ty "list", .ty "tuple"]) E.ki E.g_isinstance (jg_pk (pv 3)) (by decide) (pa_cons (pe_bltn (v := .ty "list") (u := .type "list") (by rfl) E.g_list (by decide +kernel) rfl) (pa_cons (pe_bltn (v := .ty "tuple") (u := .type "tuple") (by rfl) E.g_tuple (by decide +kernel) rfl) pa_nil)) (fun σ H Q q => q))))) (jw_or (jt_cmp (op_neD hr.units) ok_ne (jg_now (je_isi1 (cn := .ty "list") E.ki E.g_isinstance (jg_pk (pv 3)) (pe_bltn (v := .ty "list") (u := .type "list") (by rfl) E.g_list (by decide +kernel) rfl))) (jg_now (je_isi1 (cn := .ty "list") E.ki E.g_isinstance (jg_pk (pv 4)) (pe_bltn (v := .ty "list") (u := .type "list") (by rfl) E.g_list (by decide +kernel) rfl))) (by rfl)) (jw_or1 (jt_cmp (op_neD hr.units) ok_ne (jg_now (je_cb call_len ok_len (by rfl) E.g_len (by decide +kernel) (ja_cons (jg_pk (pv 3)) ja_nil))) (jg_now (je_cb call_len ok_len (by rfl) E.g_len (by decide +kernel) (ja_cons (jg_pk (pv 4)) ja_nil))) (by rfl))))))
    (jss_one (js_ret je_bl))
    jss_nil)
    (jss_one (js_for (passes_of rfl) rfl (jr1 E.g_range (jg_now (je_cb call_len ok_len (by rfl) E.g_len (by decide +kernel) (ja_cons (jg_pk (pv 4)) ja_nil)))) (jg_name (pg_name (i := 5) sc__law_like.nd rfl (by first | exact Or.inl rfl | exact Or.inr rfl)))
    (jss_one (js_app (pv 2) (je_tup (ja_cons (jg_now (je_ix ix_seq ok_ix (jg_pk (pv 3)) (jg_pk (pv 5)) (fun _ _ => rfl))) (ja_cons (jg_now (je_ix ix_seq ok_ix (jg_pk (pv 4)) (jg_pk (pv 5)) (fun _ _ => rfl))) ja_nil))))))))
    (jss_one (js_if (jt_w (jw_or (jt_cmp (or_or op_isN op_isBl) ok_is (jg_pk (pv 4)) (jg_now je_non) (by rfl)) (jw_or1 (jt_tru (jg_now (je_isi1 (cn := .ty "bool") E.ki E.g_isinstance (jg_pk (pv 4)) (pe_bltn (v := .ty "bool") (u := .type "bool") (by rfl) E.g_bool (by decide +kernel) rfl)))))))
    (jss_one (js_if (jt_w (jw_or (jt_cmp (op_neD hr.units) ok_ne (jg_now (je_cmp (or_or op_isN op_isBl) ok_is (jg_pk (pv 4)) (jg_now je_non) (by rfl))) (jg_now (je_cmp (or_or op_isN op_isBl) ok_is (jg_pk (pv 3)) (jg_now je_non) (by rfl))) (by rfl)) (jw_or (jt_cmp (op_neD hr.units) ok_ne (jg_now (je_cmp (or_or op_isN op_isBl) ok_is (jg_pk (pv 4)) (jg_now je_bl) (by rfl))) (jg_now (je_cmp (or_or op_isN op_isBl) ok_is (jg_pk (pv 3)) (jg_now je_bl) (by rfl))) (by rfl)) (jw_or1 (jt_cmp (op_neD hr.units) ok_ne (jg_now (je_cmp (or_or op_isN op_isBl) ok_is (jg_pk (pv 4)) (jg_now je_bl) (by rfl))) (jg_now (je_cmp (or_or op_isN op_isBl) ok_is (jg_pk (pv 3)) (jg_now je_bl) (by rfl))) (by rfl))))))
    (jss_one (js_ret je_bl))
    jss_nil))
    (jss_one (js_if (jt_tru (jg_now (je_isi1 (cn := .ty "str") E.ki E.g_isinstance (jg_pk (pv 4)) (pe_bltn (v := .ty "str") (u := .type "str") (by rfl) E.g_str (by decide +kernel) rfl))))
    (jss_one (js_if (jt_w (jw_or (jt_not (jt_tru (jg_now (je_isi1 (cn := .ty "str") E.ki E.g_isinstance (jg_pk (pv 3)) (pe_bltn (v := .ty "str") (u := .type "str") (by rfl) E.g_str (by decide +kernel) rfl))))) (jw_or1 (jt_cmp (op_neD hr.units) ok_ne (jg_pk (pv 3)) (jg_pk (pv 4)) (by rfl)))))
    (jss_one (js_ret je_bl))
    jss_nil))
    (jss_one (js_if (jt_w (jw_or (jt_not (jt_tru (jg_now (je_isi1 (cn := .ty "int") E.ki E.g_isinstance (jg_pk (pv 3)) (pe_bltn (v := .ty "int") (u := .type "int") (by rfl) E.g_int (by decide +kernel) rfl))))) (jw_or (jt_tru (jg_now (je_isi1 (cn := .ty "bool") E.ki E.g_isinstance (jg_pk (pv 3)) (pe_bltn (v := .ty "bool") (u := .type "bool") (by rfl) E.g_bool (by decide +kernel) rfl)))) (jw_or1 (jt_cmp (op_neD hr.units) ok_ne (jg_pk (pv 3)) (jg_pk (pv 4)) (by rfl))))))
    (jss_one (js_ret je_bl))
    jss_nil))))))))))
    (jss_one (js_ret je_bl))))
/-! ### bits_of -/
theorem sc_bits_of : FnScope ["number", "found", "left", "least"] ["number"] (defScope s_bits_of) := ⟨rfl, rfl, rfl, by decide +kernel, rfl, by decide +kernel, by decide +kernel⟩
def b_bits_of : MS := (mSeq (mPars [1, 2] [(.l (mLst mNil)), (.d (mVar 0))])
    (mSeq (mWhile 100000 (mB (mOp (p2 oGt) (mA2 (mPk 2) (mNow (mCon (.int 0))))))
    (mSeq (mAsg (tgName 3) (mOp (p2 oAnd) (mA2 (mPk 2) (mNow (mOp (p1 oNeg) (mA1 (mPk 2)))))))
    (mSeq (mApp 1 (mOp (p2 oSub) (mA2 (mNow (mBits (mVar 3))) (mNow (mCon (.int 1))))))
    (mAug 2 (oInt (· - ·)) (mVar 3)))))
    (mRetO 1)))
def f_bits_of : Fn := defG 1 4 b_bits_of
theorem ok_bits_of (E : Txt K mg T ad fd ca) : FnOk P w K mg base (L2.CX P w) 1 (ad 5) (fd 5) ["number"] (spF K T 1 f_bits_of) :=
  fn_ok (N := ["number", "found", "left", "least"]) (ps := ["number"]) (body := b_bits_of) E.F_bits_of sc_bits_of fun cdv A outer s H Ex hr => by
    have tk : Takes (cxOf (L2.CX P w) P w K mg base ["number", "found", "left", "least"] "bits_of" (defScope s_bits_of) (ad 5) cdv A outer s H Ex) (fun cls d _ H => Ex cls d H) := takes_of rfl rfl rfl rfl
    exact (jss_cons (js_par (i := 1) (j := 2) rfl sc_bits_of.nd rfl rfl (by decide) rfl rfl (jx_l (jl_lst ja_nil)) (jx_d (je_var (pv 0))) (by rfl))
    (jss_cons (js_while (passes_of rfl) (jt_cmp op_gt ok_cmp (jg_pk (pv 2)) (jg_now je_int) (by rfl))
    (jss_cons (js_set (i := 3) sc_bits_of.nd rfl (by first | exact Or.inl rfl | exact Or.inr rfl) (je_op2 op_and ok_int (jg_pk (pv 2)) (jg_now (je_op1 un_neg ok_un (jg_pk (pv 2)) (fun q => pe_un un_neg q)))))
    (jss_cons (js_app (pv 1) (je_op2 op_sub ok_sub (jg_now (je_bits (je_var (pv 3)))) (jg_now je_int)))
    (jss_one (js_aug (i := 2) sc_bits_of.nd rfl (by first | exact Or.inl rfl | exact Or.inr rfl) ip_sub ok_ipI (je_var (pv 3)))))))
    (jss_one (js_retO (pv 1)))))
/-! ### Question.relations -/
theorem sc_Question_relations : FnScope ["self", "at"] ["self"] (defScope s_Question_relations) := ⟨rfl, rfl, rfl, by decide +kernel, rfl, by decide +kernel, by decide +kernel⟩
def b_Question_relations : MS := (mRetL (mComp (miSeq (mCall f_bits_of (mCons (mNow (mFld 0 0 (mVar 0))) mNil))) (tgName 1) [1] mYes (mOp (p2 oIx) (mA2 (mNow (mCon d_RELATIONS)) (mPk 1)))))
def f_Question_relations : Fn := defG 1 2 b_Question_relations
theorem ok_Question_relations (E : Txt K mg T ad fd ca) : FnOk P w K mg base (L2.CX P w) 2 (ad 6) (fd 6) ["self"] (spF K T 1 f_Question_relations) :=
  fn_ok (N := ["self", "at"]) (ps := ["self"]) (body := b_Question_relations) E.F_Question_relations sc_Question_relations fun cdv A outer s H Ex hr => by
    have tk : Takes (cxOf (L2.CX P w) P w K mg base ["self", "at"] "Question.relations" (defScope s_Question_relations) (ad 6) cdv A outer s H Ex) (fun cls d _ H => Ex cls d H) := takes_of rfl rfl rfl rfl
    exact (jss_one (js_retL (jl_comp (own := [("at", 1)]) rfl sc_Question_relations.nd (blkOk_by (N := ["self", "at"]) (sc := defScope s_Question_relations) (by decide +kernel)) (jp_seq (je_call (ok_bits_of E) (hr.mono (by decide)) (by rfl) E.m_bits_of E.k_bits_of E.b_bits_of (fun σ => passAt tk σ) (len_cons len_nil) (ja_cons (jg_now (je_fld E.cl_Question (E.na_Question _ (by simp [E.at_Question])) (by rw [E.at_Question]; decide +kernel) (by rw [E.at_Question]; rfl) (je_var (pv 0)))) ja_nil))) (fun _ _ _ _ _ => (jg_name (pg_name (i := 1) sc_Question_relations.nd rfl (by first | exact Or.inl rfl | exact Or.inr rfl)))) (fun _ _ _ _ _ => jts_nil) (fun _ _ _ _ _ => (je_ix ix_seq ok_ix (jg_now (je_cst (v := .ref (ca 0)) E.m_RELATIONS rfl E.c_RELATIONS)) (jg_pk (pv 1)) (fun _ _ => rfl))))))
/-! ### is_listed -/
theorem sc_is_listed : FnScope ["value"] ["value"] (defScope s_is_listed) := ⟨rfl, rfl, rfl, by decide +kernel, rfl, by decide +kernel, by decide +kernel⟩
def b_is_listed : MS := (mRet (mIsi [0] [.ty "list", .ty "tuple"] (mPk 0)))
def f_is_listed : Fn := defG 1 1 b_is_listed
theorem ok_is_listed (E : Txt K mg T ad fd ca) : FnOk P w K mg base (L2.CX P w) 1 (ad 7) (fd 7) ["value"] (spF K T 1 f_is_listed) :=
  fn_ok (N := ["value"]) (ps := ["value"]) (body := b_is_listed) E.F_is_listed sc_is_listed fun cdv A outer s H Ex hr => by
    have tk : Takes (cxOf (L2.CX P w) P w K mg base ["value"] "is_listed" (defScope s_is_listed) (ad 7) cdv A outer s H Ex) (fun cls d _ H => Ex cls d H) := takes_of rfl rfl rfl rfl
    exact (jss_one (js_ret (je_isiT (cn := [.ty "list", .ty "tuple"]) E.ki E.g_isinstance (jg_pk (pv 0)) (by decide) (pa_cons (pe_bltn (v := .ty "list") (u := .type "list") (by rfl) E.g_list (by decide +kernel) rfl) (pa_cons (pe_bltn (v := .ty "tuple") (u := .type "tuple") (by rfl) E.g_tuple (by decide +kernel) rfl) pa_nil)) (fun σ H Q q => q))))
/-! ### are_unlike -/
theorem sc_are_unlike : FnScope ["items"] ["items"] (defScope s_are_unlike) := ⟨rfl, rfl, rfl, by decide +kernel, rfl, by decide +kernel, by decide +kernel⟩
def b_are_unlike : MS := (mRet (mOp (p2 oEq) (mA2 (mNow (mLenSet (mPk 0))) (mNow (mOp bLen (mCons (mPk 0) mNil))))))
def f_are_unlike : Fn := defG 1 1 b_are_unlike
theorem ok_are_unlike (E : Txt K mg T ad fd ca) : FnOk P w K mg base (L2.CX P w) 1 (ad 8) (fd 8) ["items"] (spF K T 1 f_are_unlike) :=
  fn_ok (N := ["items"]) (ps := ["items"]) (body := b_are_unlike) E.F_are_unlike sc_are_unlike fun cdv A outer s H Ex hr => by
    have tk : Takes (cxOf (L2.CX P w) P w K mg base ["items"] "are_unlike" (defScope s_are_unlike) (ad 8) cdv A outer s H Ex) (fun cls d _ H => Ex cls d H) := takes_of rfl rfl rfl rfl
    exact (jss_one (js_ret (je_cmp (op_eqD hr.units) ok_eq (jg_now (je_lenSet rfl E.g_len E.g_set (jg_pk (pv 0)))) (jg_now (je_cb call_len ok_len (by rfl) E.g_len (by decide +kernel) (ja_cons (jg_pk (pv 0)) ja_nil))) (by rfl))))
/-! ### is_relation -/
theorem sc_is_relation : FnScope ["value"] ["value"] (defScope s_is_relation) := ⟨rfl, rfl, rfl, by decide +kernel, rfl, by decide +kernel, by decide +kernel⟩
def b_is_relation : MS := (mRet (mAndV (mIsi [0] [.ty "str"] (mPk 0)) (mOp (p2 oIn) (mA2 (mPk 0) (mNow (mCon d_RELATIONS))))))
def f_is_relation : Fn := defG 1 1 b_is_relation
theorem ok_is_relation (E : Txt K mg T ad fd ca) : FnOk P w K mg base (L2.CX P w) 1 (ad 9) (fd 9) ["value"] (spF K T 1 f_is_relation) :=
  fn_ok (N := ["value"]) (ps := ["value"]) (body := b_is_relation) E.F_is_relation sc_is_relation fun cdv A outer s H Ex hr => by
    have tk : Takes (cxOf (L2.CX P w) P w K mg base ["value"] "is_relation" (defScope s_is_relation) (ad 9) cdv A outer s H Ex) (fun cls d _ H => Ex cls d H) := takes_of rfl rfl rfl rfl
    exact (jss_one (js_ret (je_and (je_isi1 (cn := .ty "str") E.ki E.g_isinstance (jg_pk (pv 0)) (pe_bltn (v := .ty "str") (u := .type "str") (by rfl) E.g_str (by decide +kernel) rfl)) (je_one (je_cmp op_in_seq ok_in (jg_pk (pv 0)) (jg_now (je_cst (v := .ref (ca 0)) E.m_RELATIONS rfl E.c_RELATIONS)) (by rfl))))))
/-! ### Question.__init__ -/
theorem sc_QuestionX_initX : FnScope ["self", "relations", "one"] ["self", "relations"] (defScope s_QuestionX_initX) := ⟨rfl, rfl, rfl, by decide +kernel, rfl, by decide +kernel, by decide +kernel⟩
def gs_QuestionX_initX : List (MB × MS) := [((mOr (mNot (mTru (mNow (mCall f_is_listed (mCons (mNow (mVar 1)) mNil))))) (mOr (mNot (mTru (mNow (mOp bAll (mCons (mNow (mFz (mComp (miSeq (mVar 1)) (tgName 2) [2] mYes (mCall f_is_relation (mCons (mNow (mVar 2)) mNil))))) mNil))))) (mNot (mTru (mNow (mCall f_are_unlike (mCons (mNow (mVar 1)) mNil))))))), (mRaise 1 (mVar 1)))]
def fs_QuestionX_initX : List (Str × ME) := [("number", (mOp bSum (mCons (mNow (mFz (mComp (miSeq (mVar 1)) (tgName 2) [2] mYes (mOp (p2 oShl) (mA2 (mNow (mCon (.int 1))) (mNow (mIndexC s_RELATIONS (mVar 2)))))))) mNil)))]
def f_QuestionX_initX : Fn := initG 0 1 3 gs_QuestionX_initX (fs_QuestionX_initX.map (·.2))
theorem ok_QuestionX_initX (E : Txt K mg T ad fd ca) : FnOk P w K mg base (L2.CX P w) 2 (ad 10) (fd 10) ["self", "relations"] (spN K T 0 1 f_QuestionX_initX) :=
  init_ok (N := ["self", "relations", "one"]) (ps := ["self", "relations"]) (pre := gs_QuestionX_initX) (fs := fs_QuestionX_initX) E.F_QuestionX_initX sc_QuestionX_initX E.cl_Question E.na_Question (by rw [E.at_Question]; decide +kernel) (by rw [E.at_Question]; decide) rfl (by rw [E.at_Question]; rfl) fun cdv A outer s H Ex hr => by
    have tk : Takes (cxOf (L2.CX P w) P w K mg base ["self", "relations", "one"] "Question.__init__" (defScope s_QuestionX_initX) (ad 10) cdv A outer s H Ex) (fun cls d _ H => Ex cls d H) := takes_of rfl rfl rfl rfl
    exact (jn_guard (jt_w (jw_or (jt_not (jt_tru (jg_now (je_call (ok_is_listed E) (hr.mono (by decide)) (by rfl) E.m_is_listed E.k_is_listed E.b_is_listed (fun σ => passAt tk σ) (len_cons len_nil) (ja_cons (jg_now (je_var (pv 1))) ja_nil))))) (jw_or (jt_not (jt_tru (jg_now (je_cb (cr_all rfl) ok_all (by rfl) E.g_all (by decide +kernel) (ja_cons (jg_now (je_fz (jl_comp (own := [("one", 2)]) rfl sc_QuestionX_initX.nd (blkOk_by (N := ["self", "relations", "one"]) (sc := defScope s_QuestionX_initX) (by decide +kernel)) (jp_seq (je_var (pv 1))) (fun _ _ _ _ _ => (jg_name (pg_name (i := 2) sc_QuestionX_initX.nd rfl (by first | exact Or.inl rfl | exact Or.inr rfl)))) (fun _ _ _ _ _ => jts_nil) (fun _ _ _ _ _ => (je_call (ok_is_relation E) (hr.mono (by decide)) (by rfl) E.m_is_relation E.k_is_relation E.b_is_relation (fun σ => passAt takes0 σ) (len_cons len_nil) (ja_cons (jg_now (je_var (pv 2))) ja_nil)))))) ja_nil))))) (jw_or1 (jt_not (jt_tru (jg_now (je_call (ok_are_unlike E) (hr.mono (by decide)) (by rfl) E.m_are_unlike E.k_are_unlike E.b_are_unlike (fun σ => passAt tk σ) (len_cons len_nil) (ja_cons (jg_now (je_var (pv 1))) ja_nil))))))))) (jss_one (js_raise rfl E.x_InvalidRelations E.xa_InvalidRelations hr tk (je_var (pv 1))))
    (jn_go (jn_fld (pv 0) (je_cb (cr_sum rfl) ok_sum (by rfl) E.g_sum (by decide +kernel) (ja_cons (jg_now (je_fz (jl_comp (own := [("one", 2)]) rfl sc_QuestionX_initX.nd (blkOk_by (N := ["self", "relations", "one"]) (sc := defScope s_QuestionX_initX) (by decide +kernel)) (jp_seq (je_var (pv 1))) (fun _ _ _ _ _ => (jg_name (pg_name (i := 2) sc_QuestionX_initX.nd rfl (by first | exact Or.inl rfl | exact Or.inr rfl)))) (fun _ _ _ _ _ => jts_nil) (fun _ _ _ _ _ => (je_op2 op_shl ok_shl (jg_now je_int) (jg_now (je_index (pe_glob (v := .ref (ca 0)) (by rfl) E.m_RELATIONS rfl) E.k_RELATIONS E.q_RELATIONS (je_var (pv 2))))))))) ja_nil))
    jn_nil)))
/-! ### _law_words -/
theorem sc__law_words : FnScope [] [] (defScope s__law_words) := ⟨rfl, rfl, rfl, by decide +kernel, rfl, by decide +kernel, by decide +kernel⟩
def b__law_words : MS := (mRetL (mLst (mCons (mNow (mCon (.str "before"))) (mCons (mNow (mCon (.str "meets"))) (mCons (mNow (mCon (.str "overlaps"))) (mCons (mNow (mCon (.str "ended"))) (mCons (mNow (mCon (.str "holds"))) (mCons (mNow (mCon (.str "starts"))) (mCons (mNow (mCon (.str "equal"))) (mCons (mNow (mCon (.str "started"))) (mCons (mNow (mCon (.str "during"))) (mCons (mNow (mCon (.str "ends"))) (mCons (mNow (mCon (.str "lapped"))) (mCons (mNow (mCon (.str "met"))) (mCons (mNow (mCon (.str "after"))) mNil)))))))))))))))
def f__law_words : Fn := defG 0 0 b__law_words
theorem ok__law_words (E : Txt K mg T ad fd ca) : FnOk P w K mg base (L2.CX P w) 1 (ad 11) (fd 11) [] (spF K T 0 f__law_words) :=
  fn_ok (N := []) (ps := []) (body := b__law_words) E.F__law_words sc__law_words fun cdv A outer s H Ex hr => by
    have tk : Takes (cxOf (L2.CX P w) P w K mg base [] "_law_words" (defScope s__law_words) (ad 11) cdv A outer s H Ex) (fun cls d _ H => Ex cls d H) := takes_of rfl rfl rfl rfl
    exact (jss_one (js_retL (jl_lst (ja_cons (jg_now je_str) (ja_cons (jg_now je_str) (ja_cons (jg_now je_str) (ja_cons (jg_now je_str) (ja_cons (jg_now je_str) (ja_cons (jg_now je_str) (ja_cons (jg_now je_str) (ja_cons (jg_now je_str) (ja_cons (jg_now je_str) (ja_cons (jg_now je_str) (ja_cons (jg_now je_str) (ja_cons (jg_now je_str) (ja_cons (jg_now je_str) ja_nil))))))))))))))))
/-! ### _law_is -/
theorem sc__law_is : FnScope ["question", "places", "k"] ["question", "places"] (defScope s__law_is) := ⟨rfl, rfl, rfl, by decide +kernel, rfl, by decide +kernel, by decide +kernel⟩
def b__law_is : MS := (mSeq (mIfS (mOr (mNot (mTru (mNow (mIsi [0] [.own 0] (mPk 0))))) (mNot (mTru (mNow (mCall f__law_like (mCons (mNow (mFld 0 0 (mVar 0))) (mCons (mNow (mOp bSum (mCons (mNow (mFz (mComp (miSeq (mVar 1)) (tgName 2) [2] mYes (mOp (p2 oShl) (mA2 (mNow (mCon (.int 1))) (mPk 2)))))) mNil))) mNil)))))))
    (mRet (mCon (.bl false)))
    mSkip)
    (mRet (mCall f__law_like (mCons (mNow (mCall f_Question_relations (mCons (mNow (mInst 0 (mVar 0))) mNil))) (mCons (mNow (mFz (mComp (miSeq (mVar 1)) (tgName 2) [2] mYes (mOp (p2 oIx) (mA2 (mNow (mCall f__law_words mNil)) (mPk 2)))))) mNil)))))
def f__law_is : Fn := defG 2 3 b__law_is
theorem ok__law_is (E : Txt K mg T ad fd ca) : FnOk P w K mg base (L2.CX P w) 3 (ad 12) (fd 12) ["question", "places"] (spF K T 2 f__law_is) :=
  fn_ok (N := ["question", "places", "k"]) (ps := ["question", "places"]) (body := b__law_is) E.F__law_is sc__law_is fun cdv A outer s H Ex hr => by
    have tk : Takes (cxOf (L2.CX P w) P w K mg base ["question", "places", "k"] "_law_is" (defScope s__law_is) (ad 12) cdv A outer s H Ex) (fun cls d _ H => Ex cls d H) := takes_of rfl rfl rfl rfl
    exact (jss_cons (js_if (jt_w (jw_or (jt_not (jt_tru (jg_now (je_isi1 (cn := .own 0) E.ki E.g_isinstance (jg_pk (pv 0)) (pe_glob (v := .ref (T.cls 0)) (by rfl) E.mc_Question rfl))))) (jw_or1 (jt_not (jt_tru (jg_now (je_call (ok__law_like E) (hr.mono (by decide)) (by rfl) E.m__law_like E.k__law_like E.b__law_like (fun σ => passAt tk σ) (len_cons (len_cons len_nil)) (ja_cons (jg_now (je_fld E.cl_Question (E.na_Question _ (by simp [E.at_Question])) (by rw [E.at_Question]; decide +kernel) (by rw [E.at_Question]; rfl) (je_var (pv 0)))) (ja_cons (jg_now (je_cb (cr_sum rfl) ok_sum (by rfl) E.g_sum (by decide +kernel) (ja_cons (jg_now (je_fz (jl_comp (own := [("k", 2)]) rfl sc__law_is.nd (blkOk_by (N := ["question", "places", "k"]) (sc := defScope s__law_is) (by decide +kernel)) (jp_seq (je_var (pv 1))) (fun _ _ _ _ _ => (jg_name (pg_name (i := 2) sc__law_is.nd rfl (by first | exact Or.inl rfl | exact Or.inr rfl)))) (fun _ _ _ _ _ => jts_nil) (fun _ _ _ _ _ => (je_op2 op_shl ok_shl (jg_now je_int) (jg_pk (pv 2))))))) ja_nil))) ja_nil)))))))))
    (jss_one (js_ret je_bl))
    jss_nil)
    (jss_one (js_ret (je_call (ok__law_like E) (hr.mono (by decide)) (by rfl) E.m__law_like E.k__law_like E.b__law_like (fun σ => passAt tk σ) (len_cons (len_cons len_nil)) (ja_cons (jg_now (je_meth0 (je_var (pv 0)) E.cl_Question E.mt_Question_relations (by rw [E.at_Question]; decide +kernel) (ok_Question_relations E) (hr.mono (by decide)) E.b_Question_relations (fun σ => passAt tk σ) (len_cons len_nil))) (ja_cons (jg_now (je_fz (jl_comp (own := [("k", 2)]) rfl sc__law_is.nd (blkOk_by (N := ["question", "places", "k"]) (sc := defScope s__law_is) (by decide +kernel)) (jp_seq (je_var (pv 1))) (fun _ _ _ _ _ => (jg_name (pg_name (i := 2) sc__law_is.nd rfl (by first | exact Or.inl rfl | exact Or.inr rfl)))) (fun _ _ _ _ _ => jts_nil) (fun _ _ _ _ _ => (je_ix ix_seq ok_ix (jg_now (je_call0 (ok__law_words E) (hr.mono (by decide)) (by rfl) E.m__law_words E.k__law_words E.b__law_words (fun σ => passAt takes0 σ) len_nil)) (jg_pk (pv 2)) (fun _ _ => rfl)))))) ja_nil))))))
/-! ### _law_mixed -/
theorem sc__law_mixed : FnScope ["box", "items", "left", "found"] ["box", "items"] (defScope s__law_mixed) := ⟨rfl, rfl, rfl, by decide +kernel, rfl, by decide +kernel, by decide +kernel⟩
def b__law_mixed : MS := (mSeq (mPars [2, 3] [(.l (mOpL bLst (mCons (mPk 1) mNil))), (.l (mLst mNil))])
    (mSeq (mWhile 100000 (mB (mOp (p2 oNe) (mA2 (mPk 2) (mNow (mFz (mLst mNil))))))
    (mApp 3 (mPopAt 2 (mCall f__law_take (mCons (mIo 0) (mCons (mNow (mOp bLen (mCons (mPk 2) mNil))) mNil))))))
    (mRetO 3)))
def f__law_mixed : Fn := defG 2 4 b__law_mixed
theorem ok__law_mixed (E : Txt K mg T ad fd ca) : FnOk P w K mg base (L2.CX P w) 2 (ad 13) (fd 13) ["box", "items"] (spF K T 2 f__law_mixed) :=
  fn_ok (N := ["box", "items", "left", "found"]) (ps := ["box", "items"]) (body := b__law_mixed) E.F__law_mixed sc__law_mixed fun cdv A outer s H Ex hr => by
    have tk : Takes (cxOf (L2.CX P w) P w K mg base ["box", "items", "left", "found"] "_law_mixed" (defScope s__law_mixed) (ad 13) cdv A outer s H Ex) (fun cls d _ H => Ex cls d H) := takes_of rfl rfl rfl rfl
    exact (jss_cons (js_par (i := 2) (j := 3) rfl sc__law_mixed.nd rfl rfl (by decide) rfl rfl (jx_l (jl_cty call_list_of ok_lst (by rfl) E.g_list (by decide +kernel) (ja_cons (jg_pk (pv 1)) ja_nil))) (jx_l (jl_lst ja_nil)) (by rfl))
    (jss_cons (js_while (passes_of rfl) (jt_cmp (op_neD hr.units) ok_ne (jg_pk (pv 2)) (jg_now (je_fz (jl_lst ja_nil))) (by rfl))
    (jss_one (js_app (pv 3) (je_popAt (pv 2) (je_call (ok__law_take E) (hr.mono (by decide)) (by rfl) E.m__law_take E.k__law_take E.b__law_take (fun σ => passAt tk σ) (len_cons (len_cons len_nil)) (ja_cons (jg_io (pv 0)) (ja_cons (jg_now (je_cb call_len ok_len (by rfl) E.g_len (by decide +kernel) (ja_cons (jg_pk (pv 2)) ja_nil))) ja_nil)))))))
    (jss_one (js_retO (pv 3)))))
/-! ### _law_made -/
theorem sc__law_made : FnScope ["box", "places", "k"] ["box", "places"] (defScope s__law_made) := ⟨rfl, rfl, rfl, by decide +kernel, rfl, by decide +kernel, by decide +kernel⟩
def b__law_made : MS := (mRet (mCall f_QuestionX_initX (mCons (mNow (mFz (mComp (miSeq (mCall f__law_mixed (mCons (mIo 0) (mCons (mNow (mVar 1)) mNil)))) (tgName 2) [2] mYes (mOp (p2 oIx) (mA2 (mNow (mCall f__law_words mNil)) (mPk 2)))))) mNil)))
def f__law_made : Fn := defG 2 3 b__law_made
theorem ok__law_made (E : Txt K mg T ad fd ca) : FnOk P w K mg base (L2.CX P w) 4 (ad 14) (fd 14) ["box", "places"] (spF K T 2 f__law_made) :=
  fn_ok (N := ["box", "places", "k"]) (ps := ["box", "places"]) (body := b__law_made) E.F__law_made sc__law_made fun cdv A outer s H Ex hr => by
    have tk : Takes (cxOf (L2.CX P w) P w K mg base ["box", "places", "k"] "_law_made" (defScope s__law_made) (ad 14) cdv A outer s H Ex) (fun cls d _ H => Ex cls d H) := takes_of rfl rfl rfl rfl
    exact (jss_one (js_ret (je_makeN E.mk_Question (ok_QuestionX_initX E) initG_good (hr.mono (by decide)) (by rfl) E.mc_Question E.b_QuestionX_initX (fun σ => passAt tk σ) (len_cons len_nil) (ja_cons (jg_now (je_fz (jl_comp (own := [("k", 2)]) rfl sc__law_made.nd (blkOk_by (N := ["box", "places", "k"]) (sc := defScope s__law_made) (by decide +kernel)) (jp_seq (je_call (ok__law_mixed E) (hr.mono (by decide)) (by rfl) E.m__law_mixed E.k__law_mixed E.b__law_mixed (fun σ => passAt tk σ) (len_cons (len_cons len_nil)) (ja_cons (jg_io (pv 0)) (ja_cons (jg_now (je_var (pv 1))) ja_nil)))) (fun _ _ _ _ _ => (jg_name (pg_name (i := 2) sc__law_made.nd rfl (by first | exact Or.inl rfl | exact Or.inr rfl)))) (fun _ _ _ _ _ => jts_nil) (fun _ _ _ _ _ => (je_ix ix_seq ok_ix (jg_now (je_call0 (ok__law_words E) (hr.mono (by decide)) (by rfl) E.m__law_words E.k__law_words E.b__law_words (fun σ => passAt takes0 σ) len_nil)) (jg_pk (pv 2)) (fun _ _ => rfl)))))) ja_nil))))
/-! ### is_question -/
theorem sc_is_question : FnScope ["value"] ["value"] (defScope s_is_question) := ⟨rfl, rfl, rfl, by decide +kernel, rfl, by decide +kernel, by decide +kernel⟩
def b_is_question : MS := (mRet (mIsi [0] [.own 0] (mPk 0)))
def f_is_question : Fn := defG 1 1 b_is_question
theorem ok_is_question (E : Txt K mg T ad fd ca) : FnOk P w K mg base (L2.CX P w) 1 (ad 15) (fd 15) ["value"] (spF K T 1 f_is_question) :=
  fn_ok (N := ["value"]) (ps := ["value"]) (body := b_is_question) E.F_is_question sc_is_question fun cdv A outer s H Ex hr => by
    have tk : Takes (cxOf (L2.CX P w) P w K mg base ["value"] "is_question" (defScope s_is_question) (ad 15) cdv A outer s H Ex) (fun cls d _ H => Ex cls d H) := takes_of rfl rfl rfl rfl
    exact (jss_one (js_ret (je_isi1 (cn := .own 0) E.ki E.g_isinstance (jg_pk (pv 0)) (pe_glob (v := .ref (T.cls 0)) (by rfl) E.mc_Question rfl))))
/-! ### check_question -/
theorem sc_check_question : FnScope ["value"] ["value"] (defScope s_check_question) := ⟨rfl, rfl, rfl, by decide +kernel, rfl, by decide +kernel, by decide +kernel⟩
def b_check_question : MS := (mIfS (mNot (mTru (mNow (mCall f_is_question (mCons (mNow (mVar 0)) mNil)))))
    (mRaise 2 (mVar 0))
    mSkip)
def f_check_question : Fn := defG 1 1 b_check_question
theorem ok_check_question (E : Txt K mg T ad fd ca) : FnOk P w K mg base (L2.CX P w) 2 (ad 16) (fd 16) ["value"] (spF K T 1 f_check_question) :=
  fn_ok (N := ["value"]) (ps := ["value"]) (body := b_check_question) E.F_check_question sc_check_question fun cdv A outer s H Ex hr => by
    have tk : Takes (cxOf (L2.CX P w) P w K mg base ["value"] "check_question" (defScope s_check_question) (ad 16) cdv A outer s H Ex) (fun cls d _ H => Ex cls d H) := takes_of rfl rfl rfl rfl
    exact (jss_one (js_if (jt_not (jt_tru (jg_now (je_call (ok_is_question E) (hr.mono (by decide)) (by rfl) E.m_is_question E.k_is_question E.b_is_question (fun σ => passAt tk σ) (len_cons len_nil) (ja_cons (jg_now (je_var (pv 0))) ja_nil)))))
    (jss_one (js_raise rfl E.x_InvalidQuestion E.xa_InvalidQuestion hr tk (je_var (pv 0))))
    jss_nil))
/-! ### question_with -/
theorem sc_question_with : FnScope ["number", "at"] ["number"] (defScope s_question_with) := ⟨rfl, rfl, rfl, by decide +kernel, rfl, by decide +kernel, by decide +kernel⟩
def b_question_with : MS := (mRet (mCall f_QuestionX_initX (mCons (mNow (mFz (mComp (miSeq (mCall f_bits_of (mCons (mNow (mVar 0)) mNil))) (tgName 1) [1] mYes (mOp (p2 oIx) (mA2 (mNow (mCon d_RELATIONS)) (mPk 1)))))) mNil)))
def f_question_with : Fn := defG 1 2 b_question_with
theorem ok_question_with (E : Txt K mg T ad fd ca) : FnOk P w K mg base (L2.CX P w) 4 (ad 17) (fd 17) ["number"] (spF K T 1 f_question_with) :=
  fn_ok (N := ["number", "at"]) (ps := ["number"]) (body := b_question_with) E.F_question_with sc_question_with fun cdv A outer s H Ex hr => by
    have tk : Takes (cxOf (L2.CX P w) P w K mg base ["number", "at"] "question_with" (defScope s_question_with) (ad 17) cdv A outer s H Ex) (fun cls d _ H => Ex cls d H) := takes_of rfl rfl rfl rfl
    exact (jss_one (js_ret (je_makeN E.mk_Question (ok_QuestionX_initX E) initG_good (hr.mono (by decide)) (by rfl) E.mc_Question E.b_QuestionX_initX (fun σ => passAt tk σ) (len_cons len_nil) (ja_cons (jg_now (je_fz (jl_comp (own := [("at", 1)]) rfl sc_question_with.nd (blkOk_by (N := ["number", "at"]) (sc := defScope s_question_with) (by decide +kernel)) (jp_seq (je_call (ok_bits_of E) (hr.mono (by decide)) (by rfl) E.m_bits_of E.k_bits_of E.b_bits_of (fun σ => passAt tk σ) (len_cons len_nil) (ja_cons (jg_now (je_var (pv 0))) ja_nil))) (fun _ _ _ _ _ => (jg_name (pg_name (i := 1) sc_question_with.nd rfl (by first | exact Or.inl rfl | exact Or.inr rfl)))) (fun _ _ _ _ _ => jts_nil) (fun _ _ _ _ _ => (je_ix ix_seq ok_ix (jg_now (je_cst (v := .ref (ca 0)) E.m_RELATIONS rfl E.c_RELATIONS)) (jg_pk (pv 1)) (fun _ _ => rfl)))))) ja_nil))))
/-! ### led -/
theorem sc_led : FnScope ["number", "table", "at"] ["number", "table"] (defScope s_led) := ⟨rfl, rfl, rfl, by decide +kernel, rfl, by decide +kernel, by decide +kernel⟩
def b_led : MS := (mRet (mOp bSum (mCons (mNow (mFz (mComp (miSeq (mCall f_bits_of (mCons (mNow (mVar 0)) mNil))) (tgName 2) [2] mYes (mOp (p2 oShl) (mA2 (mNow (mCon (.int 1))) (mNow (mOp (p2 oIx) (mA2 (mPk 1) (mPk 2))))))))) mNil)))
def f_led : Fn := defG 2 3 b_led
theorem ok_led (E : Txt K mg T ad fd ca) : FnOk P w K mg base (L2.CX P w) 2 (ad 18) (fd 18) ["number", "table"] (spF K T 2 f_led) :=
  fn_ok (N := ["number", "table", "at"]) (ps := ["number", "table"]) (body := b_led) E.F_led sc_led fun cdv A outer s H Ex hr => by
    have tk : Takes (cxOf (L2.CX P w) P w K mg base ["number", "table", "at"] "led" (defScope s_led) (ad 18) cdv A outer s H Ex) (fun cls d _ H => Ex cls d H) := takes_of rfl rfl rfl rfl
    exact (jss_one (js_ret (je_cb (cr_sum rfl) ok_sum (by rfl) E.g_sum (by decide +kernel) (ja_cons (jg_now (je_fz (jl_comp (own := [("at", 2)]) rfl sc_led.nd (blkOk_by (N := ["number", "table", "at"]) (sc := defScope s_led) (by decide +kernel)) (jp_seq (je_call (ok_bits_of E) (hr.mono (by decide)) (by rfl) E.m_bits_of E.k_bits_of E.b_bits_of (fun σ => passAt tk σ) (len_cons len_nil) (ja_cons (jg_now (je_var (pv 0))) ja_nil))) (fun _ _ _ _ _ => (jg_name (pg_name (i := 2) sc_led.nd rfl (by first | exact Or.inl rfl | exact Or.inr rfl)))) (fun _ _ _ _ _ => jts_nil) (fun _ _ _ _ _ => (je_op2 op_shl ok_shl (jg_now je_int) (jg_now (je_ix ix_seq ok_ix (jg_pk (pv 1)) (jg_pk (pv 2)) (fun _ _ => rfl)))))))) ja_nil))))
/-! ### mirrored_number -/
theorem sc_mirrored_number : FnScope ["number"] ["number"] (defScope s_mirrored_number) := ⟨rfl, rfl, rfl, by decide +kernel, rfl, by decide +kernel, by decide +kernel⟩
def b_mirrored_number : MS := (mRet (mCall f_led (mCons (mNow (mVar 0)) (mCons (mNow (mCon d_MIRRORED)) mNil))))
def f_mirrored_number : Fn := defG 1 1 b_mirrored_number
theorem ok_mirrored_number (E : Txt K mg T ad fd ca) : FnOk P w K mg base (L2.CX P w) 3 (ad 19) (fd 19) ["number"] (spF K T 1 f_mirrored_number) :=
  fn_ok (N := ["number"]) (ps := ["number"]) (body := b_mirrored_number) E.F_mirrored_number sc_mirrored_number fun cdv A outer s H Ex hr => by
    have tk : Takes (cxOf (L2.CX P w) P w K mg base ["number"] "mirrored_number" (defScope s_mirrored_number) (ad 19) cdv A outer s H Ex) (fun cls d _ H => Ex cls d H) := takes_of rfl rfl rfl rfl
    exact (jss_one (js_ret (je_call (ok_led E) (hr.mono (by decide)) (by rfl) E.m_led E.k_led E.b_led (fun σ => passAt tk σ) (len_cons (len_cons len_nil)) (ja_cons (jg_now (je_var (pv 0))) (ja_cons (jg_now (je_cst (v := .ref (ca 1)) E.m_MIRRORED rfl E.c_MIRRORED)) ja_nil)))))
/-! ### mirrored_of -/
theorem sc_mirrored_of : FnScope ["question"] ["question"] (defScope s_mirrored_of) := ⟨rfl, rfl, rfl, by decide +kernel, rfl, by decide +kernel, by decide +kernel⟩
def b_mirrored_of : MS := (mSeq (mExpr (mCall f_check_question (mCons (mNow (mVar 0)) mNil)))
    (mRet (mCall f_question_with (mCons (mNow (mCall f_mirrored_number (mCons (mNow (mFld 0 0 (mVar 0))) mNil))) mNil))))
def f_mirrored_of : Fn := defG 1 1 b_mirrored_of
theorem ok_mirrored_of (E : Txt K mg T ad fd ca) : FnOk P w K mg base (L2.CX P w) 5 (ad 20) (fd 20) ["question"] (spF K T 1 f_mirrored_of) :=
  fn_ok (N := ["question"]) (ps := ["question"]) (body := b_mirrored_of) E.F_mirrored_of sc_mirrored_of fun cdv A outer s H Ex hr => by
    have tk : Takes (cxOf (L2.CX P w) P w K mg base ["question"] "mirrored_of" (defScope s_mirrored_of) (ad 20) cdv A outer s H Ex) (fun cls d _ H => Ex cls d H) := takes_of rfl rfl rfl rfl
    exact (jss_cons (js_expr (je_call (ok_check_question E) (hr.mono (by decide)) (by rfl) E.m_check_question E.k_check_question E.b_check_question (fun σ => passAt tk σ) (len_cons len_nil) (ja_cons (jg_now (je_var (pv 0))) ja_nil)))
    (jss_one (js_ret (je_call (ok_question_with E) (hr.mono (by decide)) (by rfl) E.m_question_with E.k_question_with E.b_question_with (fun σ => passAt tk σ) (len_cons len_nil) (ja_cons (jg_now (je_call (ok_mirrored_number E) (hr.mono (by decide)) (by rfl) E.m_mirrored_number E.k_mirrored_number E.b_mirrored_number (fun σ => passAt tk σ) (len_cons len_nil) (ja_cons (jg_now (je_fld E.cl_Question (E.na_Question _ (by simp [E.at_Question])) (by rw [E.at_Question]; decide +kernel) (by rw [E.at_Question]; rfl) (je_var (pv 0)))) ja_nil))) ja_nil)))))
/-! ### check_questions -/
theorem sc_check_questions : FnScope ["one", "other"] ["one", "other"] (defScope s_check_questions) := ⟨rfl, rfl, rfl, by decide +kernel, rfl, by decide +kernel, by decide +kernel⟩
def b_check_questions : MS := (mSeq (mExpr (mCall f_check_question (mCons (mNow (mVar 0)) mNil)))
    (mExpr (mCall f_check_question (mCons (mNow (mVar 1)) mNil))))
def f_check_questions : Fn := defG 2 2 b_check_questions
theorem ok_check_questions (E : Txt K mg T ad fd ca) : FnOk P w K mg base (L2.CX P w) 3 (ad 21) (fd 21) ["one", "other"] (spF K T 2 f_check_questions) :=
  fn_ok (N := ["one", "other"]) (ps := ["one", "other"]) (body := b_check_questions) E.F_check_questions sc_check_questions fun cdv A outer s H Ex hr => by
    have tk : Takes (cxOf (L2.CX P w) P w K mg base ["one", "other"] "check_questions" (defScope s_check_questions) (ad 21) cdv A outer s H Ex) (fun cls d _ H => Ex cls d H) := takes_of rfl rfl rfl rfl
    exact (jss_cons (js_expr (je_call (ok_check_question E) (hr.mono (by decide)) (by rfl) E.m_check_question E.k_check_question E.b_check_question (fun σ => passAt tk σ) (len_cons len_nil) (ja_cons (jg_now (je_var (pv 0))) ja_nil)))
    (jss_one (js_expr (je_call (ok_check_question E) (hr.mono (by decide)) (by rfl) E.m_check_question E.k_check_question E.b_check_question (fun σ => passAt tk σ) (len_cons len_nil) (ja_cons (jg_now (je_var (pv 1))) ja_nil)))))
/-! ### both -/
theorem sc_both : FnScope ["one", "other"] ["one", "other"] (defScope s_both) := ⟨rfl, rfl, rfl, by decide +kernel, rfl, by decide +kernel, by decide +kernel⟩
def b_both : MS := (mSeq (mExpr (mCall f_check_questions (mCons (mNow (mVar 0)) (mCons (mNow (mVar 1)) mNil))))
    (mRet (mCall f_question_with (mCons (mNow (mOp (p2 oAnd) (mA2 (mNow (mFld 0 0 (mVar 0))) (mNow (mFld 0 0 (mVar 1)))))) mNil))))
def f_both : Fn := defG 2 2 b_both
theorem ok_both (E : Txt K mg T ad fd ca) : FnOk P w K mg base (L2.CX P w) 5 (ad 22) (fd 22) ["one", "other"] (spF K T 2 f_both) :=
  fn_ok (N := ["one", "other"]) (ps := ["one", "other"]) (body := b_both) E.F_both sc_both fun cdv A outer s H Ex hr => by
    have tk : Takes (cxOf (L2.CX P w) P w K mg base ["one", "other"] "both" (defScope s_both) (ad 22) cdv A outer s H Ex) (fun cls d _ H => Ex cls d H) := takes_of rfl rfl rfl rfl
    exact (jss_cons (js_expr (je_call (ok_check_questions E) (hr.mono (by decide)) (by rfl) E.m_check_questions E.k_check_questions E.b_check_questions (fun σ => passAt tk σ) (len_cons (len_cons len_nil)) (ja_cons (jg_now (je_var (pv 0))) (ja_cons (jg_now (je_var (pv 1))) ja_nil))))
    (jss_one (js_ret (je_call (ok_question_with E) (hr.mono (by decide)) (by rfl) E.m_question_with E.k_question_with E.b_question_with (fun σ => passAt tk σ) (len_cons len_nil) (ja_cons (jg_now (je_op2 op_and ok_int (jg_now (je_fld E.cl_Question (E.na_Question _ (by simp [E.at_Question])) (by rw [E.at_Question]; decide +kernel) (by rw [E.at_Question]; rfl) (je_var (pv 0)))) (jg_now (je_fld E.cl_Question (E.na_Question _ (by simp [E.at_Question])) (by rw [E.at_Question]; decide +kernel) (by rw [E.at_Question]; rfl) (je_var (pv 1)))))) ja_nil)))))
/-! ### either -/
theorem sc_either : FnScope ["one", "other"] ["one", "other"] (defScope s_either) := ⟨rfl, rfl, rfl, by decide +kernel, rfl, by decide +kernel, by decide +kernel⟩
def b_either : MS := (mSeq (mExpr (mCall f_check_questions (mCons (mNow (mVar 0)) (mCons (mNow (mVar 1)) mNil))))
    (mRet (mCall f_question_with (mCons (mNow (mOp (p2 oOr) (mA2 (mNow (mFld 0 0 (mVar 0))) (mNow (mFld 0 0 (mVar 1)))))) mNil))))
def f_either : Fn := defG 2 2 b_either
theorem ok_either (E : Txt K mg T ad fd ca) : FnOk P w K mg base (L2.CX P w) 5 (ad 23) (fd 23) ["one", "other"] (spF K T 2 f_either) :=
  fn_ok (N := ["one", "other"]) (ps := ["one", "other"]) (body := b_either) E.F_either sc_either fun cdv A outer s H Ex hr => by
    have tk : Takes (cxOf (L2.CX P w) P w K mg base ["one", "other"] "either" (defScope s_either) (ad 23) cdv A outer s H Ex) (fun cls d _ H => Ex cls d H) := takes_of rfl rfl rfl rfl
    exact (jss_cons (js_expr (je_call (ok_check_questions E) (hr.mono (by decide)) (by rfl) E.m_check_questions E.k_check_questions E.b_check_questions (fun σ => passAt tk σ) (len_cons (len_cons len_nil)) (ja_cons (jg_now (je_var (pv 0))) (ja_cons (jg_now (je_var (pv 1))) ja_nil))))
    (jss_one (js_ret (je_call (ok_question_with E) (hr.mono (by decide)) (by rfl) E.m_question_with E.k_question_with E.b_question_with (fun σ => passAt tk σ) (len_cons len_nil) (ja_cons (jg_now (je_op2 op_or ok_int (jg_now (je_fld E.cl_Question (E.na_Question _ (by simp [E.at_Question])) (by rw [E.at_Question]; decide +kernel) (by rw [E.at_Question]; rfl) (je_var (pv 0)))) (jg_now (je_fld E.cl_Question (E.na_Question _ (by simp [E.at_Question])) (by rw [E.at_Question]; decide +kernel) (by rw [E.at_Question]; rfl) (je_var (pv 1)))))) ja_nil)))))
/-! ### without -/
theorem sc_without : FnScope ["one", "other"] ["one", "other"] (defScope s_without) := ⟨rfl, rfl, rfl, by decide +kernel, rfl, by decide +kernel, by decide +kernel⟩
def b_without : MS := (mSeq (mExpr (mCall f_check_questions (mCons (mNow (mVar 0)) (mCons (mNow (mVar 1)) mNil))))
    (mRet (mCall f_question_with (mCons (mNow (mOp (p2 oAnd) (mA2 (mNow (mFld 0 0 (mVar 0))) (mNow (mOp (p2 oSub) (mA2 (mNow (mCon (.int 8191))) (mNow (mFld 0 0 (mVar 1))))))))) mNil))))
def f_without : Fn := defG 2 2 b_without
theorem ok_without (E : Txt K mg T ad fd ca) : FnOk P w K mg base (L2.CX P w) 5 (ad 24) (fd 24) ["one", "other"] (spF K T 2 f_without) :=
  fn_ok (N := ["one", "other"]) (ps := ["one", "other"]) (body := b_without) E.F_without sc_without fun cdv A outer s H Ex hr => by
    have tk : Takes (cxOf (L2.CX P w) P w K mg base ["one", "other"] "without" (defScope s_without) (ad 24) cdv A outer s H Ex) (fun cls d _ H => Ex cls d H) := takes_of rfl rfl rfl rfl
    exact (jss_cons (js_expr (je_call (ok_check_questions E) (hr.mono (by decide)) (by rfl) E.m_check_questions E.k_check_questions E.b_check_questions (fun σ => passAt tk σ) (len_cons (len_cons len_nil)) (ja_cons (jg_now (je_var (pv 0))) (ja_cons (jg_now (je_var (pv 1))) ja_nil))))
    (jss_one (js_ret (je_call (ok_question_with E) (hr.mono (by decide)) (by rfl) E.m_question_with E.k_question_with E.b_question_with (fun σ => passAt tk σ) (len_cons len_nil) (ja_cons (jg_now (je_op2 op_and ok_int (jg_now (je_fld E.cl_Question (E.na_Question _ (by simp [E.at_Question])) (by rw [E.at_Question]; decide +kernel) (by rw [E.at_Question]; rfl) (je_var (pv 0)))) (jg_now (je_op2 op_sub ok_sub (jg_now (je_cstI E.m_EVERY)) (jg_now (je_fld E.cl_Question (E.na_Question _ (by simp [E.at_Question])) (by rw [E.at_Question]; decide +kernel) (by rw [E.at_Question]; rfl) (je_var (pv 1)))))))) ja_nil)))))
/-! ### opposite -/
theorem sc_opposite : FnScope ["question"] ["question"] (defScope s_opposite) := ⟨rfl, rfl, rfl, by decide +kernel, rfl, by decide +kernel, by decide +kernel⟩
def b_opposite : MS := (mSeq (mExpr (mCall f_check_question (mCons (mNow (mVar 0)) mNil)))
    (mRet (mCall f_question_with (mCons (mNow (mOp (p2 oSub) (mA2 (mNow (mCon (.int 8191))) (mNow (mFld 0 0 (mVar 0)))))) mNil))))
def f_opposite : Fn := defG 1 1 b_opposite
theorem ok_opposite (E : Txt K mg T ad fd ca) : FnOk P w K mg base (L2.CX P w) 5 (ad 25) (fd 25) ["question"] (spF K T 1 f_opposite) :=
  fn_ok (N := ["question"]) (ps := ["question"]) (body := b_opposite) E.F_opposite sc_opposite fun cdv A outer s H Ex hr => by
    have tk : Takes (cxOf (L2.CX P w) P w K mg base ["question"] "opposite" (defScope s_opposite) (ad 25) cdv A outer s H Ex) (fun cls d _ H => Ex cls d H) := takes_of rfl rfl rfl rfl
    exact (jss_cons (js_expr (je_call (ok_check_question E) (hr.mono (by decide)) (by rfl) E.m_check_question E.k_check_question E.b_check_question (fun σ => passAt tk σ) (len_cons len_nil) (ja_cons (jg_now (je_var (pv 0))) ja_nil)))
    (jss_one (js_ret (je_call (ok_question_with E) (hr.mono (by decide)) (by rfl) E.m_question_with E.k_question_with E.b_question_with (fun σ => passAt tk σ) (len_cons len_nil) (ja_cons (jg_now (je_op2 op_sub ok_sub (jg_now (je_cstI E.m_EVERY)) (jg_now (je_fld E.cl_Question (E.na_Question _ (by simp [E.at_Question])) (by rw [E.at_Question]; decide +kernel) (by rw [E.at_Question]; rfl) (je_var (pv 0)))))) ja_nil)))))
/-! ### turned_number -/
theorem sc_turned_number : FnScope ["number"] ["number"] (defScope s_turned_number) := ⟨rfl, rfl, rfl, by decide +kernel, rfl, by decide +kernel, by decide +kernel⟩
def b_turned_number : MS := (mRet (mCall f_led (mCons (mNow (mVar 0)) (mCons (mNow (mCon d_TURNED)) mNil))))
def f_turned_number : Fn := defG 1 1 b_turned_number
theorem ok_turned_number (E : Txt K mg T ad fd ca) : FnOk P w K mg base (L2.CX P w) 3 (ad 26) (fd 26) ["number"] (spF K T 1 f_turned_number) :=
  fn_ok (N := ["number"]) (ps := ["number"]) (body := b_turned_number) E.F_turned_number sc_turned_number fun cdv A outer s H Ex hr => by
    have tk : Takes (cxOf (L2.CX P w) P w K mg base ["number"] "turned_number" (defScope s_turned_number) (ad 26) cdv A outer s H Ex) (fun cls d _ H => Ex cls d H) := takes_of rfl rfl rfl rfl
    exact (jss_one (js_ret (je_call (ok_led E) (hr.mono (by decide)) (by rfl) E.m_led E.k_led E.b_led (fun σ => passAt tk σ) (len_cons (len_cons len_nil)) (ja_cons (jg_now (je_var (pv 0))) (ja_cons (jg_now (je_cst (v := .ref (ca 3)) E.m_TURNED rfl E.c_TURNED)) ja_nil)))))
/-! ### turned_of -/
theorem sc_turned_of : FnScope ["question"] ["question"] (defScope s_turned_of) := ⟨rfl, rfl, rfl, by decide +kernel, rfl, by decide +kernel, by decide +kernel⟩
def b_turned_of : MS := (mSeq (mExpr (mCall f_check_question (mCons (mNow (mVar 0)) mNil)))
    (mRet (mCall f_question_with (mCons (mNow (mCall f_turned_number (mCons (mNow (mFld 0 0 (mVar 0))) mNil))) mNil))))
def f_turned_of : Fn := defG 1 1 b_turned_of
theorem ok_turned_of (E : Txt K mg T ad fd ca) : FnOk P w K mg base (L2.CX P w) 5 (ad 27) (fd 27) ["question"] (spF K T 1 f_turned_of) :=
  fn_ok (N := ["question"]) (ps := ["question"]) (body := b_turned_of) E.F_turned_of sc_turned_of fun cdv A outer s H Ex hr => by
    have tk : Takes (cxOf (L2.CX P w) P w K mg base ["question"] "turned_of" (defScope s_turned_of) (ad 27) cdv A outer s H Ex) (fun cls d _ H => Ex cls d H) := takes_of rfl rfl rfl rfl
    exact (jss_cons (js_expr (je_call (ok_check_question E) (hr.mono (by decide)) (by rfl) E.m_check_question E.k_check_question E.b_check_question (fun σ => passAt tk σ) (len_cons len_nil) (ja_cons (jg_now (je_var (pv 0))) ja_nil)))
    (jss_one (js_ret (je_call (ok_question_with E) (hr.mono (by decide)) (by rfl) E.m_question_with E.k_question_with E.b_question_with (fun σ => passAt tk σ) (len_cons len_nil) (ja_cons (jg_now (je_call (ok_turned_number E) (hr.mono (by decide)) (by rfl) E.m_turned_number E.k_turned_number E.b_turned_number (fun σ => passAt tk σ) (len_cons len_nil) (ja_cons (jg_now (je_fld E.cl_Question (E.na_Question _ (by simp [E.at_Question])) (by rw [E.at_Question]; decide +kernel) (by rw [E.at_Question]; rfl) (je_var (pv 0)))) ja_nil))) ja_nil)))))
/-! ### _law_called -/
theorem sc__law_called : FnScope ["door", "one", "other", "named"] ["door", "one", "other", "named"] (defScope s__law_called) := ⟨rfl, rfl, rfl, by decide +kernel, rfl, by decide +kernel, by decide +kernel⟩
def b__law_called : MS := (mSeq (mIfS (mB (mOp (p2 oEq) (mA2 (mPk 0) (mNow (mCon (.int 0))))))
    (mRet (mIf (mB (mOp (p2 oEq) (mA2 (mPk 3) (mNow (mCon (.int 0)))))) (mCall f_both (mCons (mNow (mVar 1)) (mCons (mNow (mVar 2)) mNil))) (mCall f_both (mPick [1, 0] (mCons (mNow (mVar 2)) (mCons (mNow (mVar 1)) mNil))))))
    mSkip)
    (mSeq (mIfS (mB (mOp (p2 oEq) (mA2 (mPk 0) (mNow (mCon (.int 1))))))
    (mRet (mIf (mB (mOp (p2 oEq) (mA2 (mPk 3) (mNow (mCon (.int 0)))))) (mCall f_either (mCons (mNow (mVar 1)) (mCons (mNow (mVar 2)) mNil))) (mCall f_either (mPick [1, 0] (mCons (mNow (mVar 2)) (mCons (mNow (mVar 1)) mNil))))))
    mSkip)
    (mSeq (mIfS (mB (mOp (p2 oEq) (mA2 (mPk 0) (mNow (mCon (.int 2))))))
    (mRet (mIf (mB (mOp (p2 oEq) (mA2 (mPk 3) (mNow (mCon (.int 0)))))) (mCall f_without (mCons (mNow (mVar 1)) (mCons (mNow (mVar 2)) mNil))) (mCall f_without (mPick [1, 0] (mCons (mNow (mVar 2)) (mCons (mNow (mVar 1)) mNil))))))
    mSkip)
    (mSeq (mIfS (mB (mOp (p2 oEq) (mA2 (mPk 0) (mNow (mCon (.int 3))))))
    (mRet (mIf (mB (mOp (p2 oEq) (mA2 (mPk 3) (mNow (mCon (.int 0)))))) (mCall f_opposite (mCons (mNow (mVar 1)) mNil)) (mCall f_opposite (mPick [0] (mCons (mNow (mVar 1)) mNil)))))
    mSkip)
    (mSeq (mIfS (mB (mOp (p2 oEq) (mA2 (mPk 0) (mNow (mCon (.int 4))))))
    (mRet (mIf (mB (mOp (p2 oEq) (mA2 (mPk 3) (mNow (mCon (.int 0)))))) (mCall f_turned_of (mCons (mNow (mVar 1)) mNil)) (mCall f_turned_of (mPick [0] (mCons (mNow (mVar 1)) mNil)))))
    mSkip)
    (mRet (mIf (mB (mOp (p2 oEq) (mA2 (mPk 3) (mNow (mCon (.int 0)))))) (mCall f_mirrored_of (mCons (mNow (mVar 1)) mNil)) (mCall f_mirrored_of (mPick [0] (mCons (mNow (mVar 1)) mNil))))))))))
def f__law_called : Fn := defG 4 4 b__law_called
theorem ok__law_called (E : Txt K mg T ad fd ca) : FnOk P w K mg base (L2.CX P w) 6 (ad 28) (fd 28) ["door", "one", "other", "named"] (spF K T 4 f__law_called) :=
  fn_ok (N := ["door", "one", "other", "named"]) (ps := ["door", "one", "other", "named"]) (body := b__law_called) E.F__law_called sc__law_called fun cdv A outer s H Ex hr => by
    have tk : Takes (cxOf (L2.CX P w) P w K mg base ["door", "one", "other", "named"] "_law_called" (defScope s__law_called) (ad 28) cdv A outer s H Ex) (fun cls d _ H => Ex cls d H) := takes_of rfl rfl rfl rfl
    exact (jss_cons (js_if (jt_cmp (op_eqD hr.units) ok_eq (jg_pk (pv 0)) (jg_now je_int) (by rfl))
    (jss_one (js_ret (je_if (jt_cmp (op_eqD hr.units) ok_eq (jg_pk (pv 3)) (jg_now je_int) (by rfl)) (je_call (ok_both E) (hr.mono (by decide)) (by rfl) E.m_both E.k_both E.b_both (fun σ => passAt tk σ) (len_cons (len_cons len_nil)) (ja_cons (jg_now (je_var (pv 1))) (ja_cons (jg_now (je_var (pv 2))) ja_nil))) (je_callKW0 (ok_both E) (hr.mono (by decide)) (by rfl) E.m_both E.k_both E.kb_both_0_other_one (fun σ => passAt tk σ) (jk_cons (jg_now (je_var (pv 2))) (jk_cons (jg_now (je_var (pv 1))) jk_nil)) (len_cons (len_cons len_nil)) (by decide) (by decide)))))
    jss_nil)
    (jss_cons (js_if (jt_cmp (op_eqD hr.units) ok_eq (jg_pk (pv 0)) (jg_now je_int) (by rfl))
    (jss_one (js_ret (je_if (jt_cmp (op_eqD hr.units) ok_eq (jg_pk (pv 3)) (jg_now je_int) (by rfl)) (je_call (ok_either E) (hr.mono (by decide)) (by rfl) E.m_either E.k_either E.b_either (fun σ => passAt tk σ) (len_cons (len_cons len_nil)) (ja_cons (jg_now (je_var (pv 1))) (ja_cons (jg_now (je_var (pv 2))) ja_nil))) (je_callKW0 (ok_either E) (hr.mono (by decide)) (by rfl) E.m_either E.k_either E.kb_either_0_other_one (fun σ => passAt tk σ) (jk_cons (jg_now (je_var (pv 2))) (jk_cons (jg_now (je_var (pv 1))) jk_nil)) (len_cons (len_cons len_nil)) (by decide) (by decide)))))
    jss_nil)
    (jss_cons (js_if (jt_cmp (op_eqD hr.units) ok_eq (jg_pk (pv 0)) (jg_now je_int) (by rfl))
    (jss_one (js_ret (je_if (jt_cmp (op_eqD hr.units) ok_eq (jg_pk (pv 3)) (jg_now je_int) (by rfl)) (je_call (ok_without E) (hr.mono (by decide)) (by rfl) E.m_without E.k_without E.b_without (fun σ => passAt tk σ) (len_cons (len_cons len_nil)) (ja_cons (jg_now (je_var (pv 1))) (ja_cons (jg_now (je_var (pv 2))) ja_nil))) (je_callKW0 (ok_without E) (hr.mono (by decide)) (by rfl) E.m_without E.k_without E.kb_without_0_other_one (fun σ => passAt tk σ) (jk_cons (jg_now (je_var (pv 2))) (jk_cons (jg_now (je_var (pv 1))) jk_nil)) (len_cons (len_cons len_nil)) (by decide) (by decide)))))
    jss_nil)
    (jss_cons (js_if (jt_cmp (op_eqD hr.units) ok_eq (jg_pk (pv 0)) (jg_now je_int) (by rfl))
    (jss_one (js_ret (je_if (jt_cmp (op_eqD hr.units) ok_eq (jg_pk (pv 3)) (jg_now je_int) (by rfl)) (je_call (ok_opposite E) (hr.mono (by decide)) (by rfl) E.m_opposite E.k_opposite E.b_opposite (fun σ => passAt tk σ) (len_cons len_nil) (ja_cons (jg_now (je_var (pv 1))) ja_nil)) (je_callKW0 (ok_opposite E) (hr.mono (by decide)) (by rfl) E.m_opposite E.k_opposite E.kb_opposite_0_question (fun σ => passAt tk σ) (jk_cons (jg_now (je_var (pv 1))) jk_nil) (len_cons len_nil) (by decide) (by decide)))))
    jss_nil)
    (jss_cons (js_if (jt_cmp (op_eqD hr.units) ok_eq (jg_pk (pv 0)) (jg_now je_int) (by rfl))
    (jss_one (js_ret (je_if (jt_cmp (op_eqD hr.units) ok_eq (jg_pk (pv 3)) (jg_now je_int) (by rfl)) (je_call (ok_turned_of E) (hr.mono (by decide)) (by rfl) E.m_turned_of E.k_turned_of E.b_turned_of (fun σ => passAt tk σ) (len_cons len_nil) (ja_cons (jg_now (je_var (pv 1))) ja_nil)) (je_callKW0 (ok_turned_of E) (hr.mono (by decide)) (by rfl) E.m_turned_of E.k_turned_of E.kb_turned_of_0_question (fun σ => passAt tk σ) (jk_cons (jg_now (je_var (pv 1))) jk_nil) (len_cons len_nil) (by decide) (by decide)))))
    jss_nil)
    (jss_one (js_ret (je_if (jt_cmp (op_eqD hr.units) ok_eq (jg_pk (pv 3)) (jg_now je_int) (by rfl)) (je_call (ok_mirrored_of E) (hr.mono (by decide)) (by rfl) E.m_mirrored_of E.k_mirrored_of E.b_mirrored_of (fun σ => passAt tk σ) (len_cons len_nil) (ja_cons (jg_now (je_var (pv 1))) ja_nil)) (je_callKW0 (ok_mirrored_of E) (hr.mono (by decide)) (by rfl) E.m_mirrored_of E.k_mirrored_of E.kb_mirrored_of_0_question (fun σ => passAt tk σ) (jk_cons (jg_now (je_var (pv 1))) jk_nil) (len_cons len_nil) (by decide) (by decide))))))))))
/-! ### _law_said -/
theorem sc__law_said : FnScope ["door", "one", "other", "named", "e"] ["door", "one", "other", "named"] (defScope s__law_said) := ⟨rfl, rfl, rfl, by decide +kernel, rfl, by decide +kernel, by decide +kernel⟩
def b__law_said : MS := (mTryL [1, 2, 3]
    (mRetL (mLst (mCons (mNow (mCon (.str "told"))) (mCons (mNow (mCall f__law_called (mCons (mNow (mVar 0)) (mCons (mNow (mVar 1)) (mCons (mNow (mVar 2)) (mCons (mNow (mVar 3)) mNil)))))) mNil))))
    2 4 [.lit (.str "question"), .giv])
def f__law_said : Fn := defG 4 5 b__law_said
theorem ok__law_said (E : Txt K mg T ad fd ca) : FnOk P w K mg base (L2.CX P w) 7 (ad 29) (fd 29) ["door", "one", "other", "named"] (spF K T 4 f__law_said) :=
  fn_ok (N := ["door", "one", "other", "named", "e"]) (ps := ["door", "one", "other", "named"]) (body := b__law_said) E.F__law_said sc__law_said fun cdv A outer s H Ex hr => by
    have tk : Takes (cxOf (L2.CX P w) P w K mg base ["door", "one", "other", "named", "e"] "_law_said" (defScope s__law_said) (ad 29) cdv A outer s H Ex) (fun cls d _ H => Ex cls d H) := takes_of rfl rfl rfl rfl
    exact (jss_one (js_try1 (cs := [1, 2, 3]) rfl rfl sc__law_said.nd rfl rfl ⟨rfl, by decide, Or.inl E.x_InvalidQuestion.gC⟩ tk E.xat E.xm_InvalidQuestion (fun W pn xe tk pw => (jss_one (js_retL (jl_lst (ja_cons (jg_now je_str) (ja_cons (jg_now (je_call (ok__law_called E) (hr.mono (by decide)) (by rfl) E.m__law_called E.k__law_called E.b__law_called (fun σ => passAt tk σ) (len_cons (len_cons (len_cons (len_cons len_nil)))) (ja_cons (jg_now (je_var (pv 0))) (ja_cons (jg_now (je_var (pv 1))) (ja_cons (jg_now (je_var (pv 2))) (ja_cons (jg_now (je_var (pv 3))) ja_nil)))))) ja_nil))))))
    (fun a oe cls d pn hz hf => pss_one (ps_ret (pe_lst (pa_cons pe_str (pa_cons (pe_given E.x_InvalidQuestion hz hf (pv 4)) pa_nil)))))))
/-! ### _law_refused_right -/
theorem sc__law_refused_right : FnScope ["box", "some", "named", "question", "words", "wrong", "door", "value", "further", "place_v", "copies", "given", "told", "first", "item"] ["box", "some", "named"] (defScope s__law_refused_right) := ⟨rfl, rfl, rfl, by decide +kernel, rfl, by decide +kernel, by decide +kernel⟩
def b__law_refused_right : MS := (mSeq (mPars [3, 4] [(.d (mCall f__law_made (mCons (mIo 0) (mCons (mNow (mVar 1)) mNil)))), (.d (mCall f__law_words mNil))])
    (mSeq (mAsg (tgName 5) (mFz (mLst (mCons (mNow (mCon .non)) (mCons (mNow (mCon (.int 0))) (mCons (mNow (mCon (.bl true))) (mCons (mNow (mCon (.str "before"))) (mCons (mNow (mSl (mPk 4) none (some (mCon (.int 2))))) (mCons (mNow (mFz (mLst mNil))) (mCons (mNow (mTup mNil)) (mCons (mNow mDic) (mCons (mNow (mCon (.int 8191))) (mCons (mNow (mTup (mCons (mNow (mCon (.str "before"))) mNil))) mNil)))))))))))))
    (mSeq (mFor (miRng1 (mNow (mCon (.int 6)))) (tgName 6)
    (mSeq (mPars [7, 8] [(.d (mOp (p2 oIx) (mA2 (mPk 5) (mNow (mCall f__law_take (mCons (mIo 0) (mCons (mNow (mCon (.int 10))) mNil))))))), (.d (mOp (p2 oIx) (mA2 (mPk 5) (mNow (mCall f__law_take (mCons (mIo 0) (mCons (mNow (mCon (.int 10))) mNil)))))))])
    (mFor (miRng1 (mNow (mIf (mB (mOp (p2 oLt) (mA2 (mPk 6) (mNow (mCon (.int 3)))))) (mCon (.int 3)) (mCon (.int 1))))) (tgName 9)
    (mSeq (mAsg (tgName 10) (mFz (mComp (miSeq (mFz (mLst (mCons (mNow (mVar 7)) (mCons (mNow (mVar 8)) mNil))))) (tgName 14) [14] mYes (mIf (mTru (mNow (mIsi [0] [.ty "list"] (mPk 14)))) (mCel (mOpL bLst (mCons (mPk 14) mNil))) (mVar 14)))))
    (mSeq (mAsg (tgName 11) (mFz (mLst (mCons (mNow (mIf (mB (mOp (p2 oNe) (mA2 (mPk 9) (mNow (mCon (.int 1)))))) (mOp (p2 oIx) (mA2 (mPk 10) (mNow (mCon (.int 0))))) (mVar 3))) (mCons (mNow (mOp (p2 oIx) (mA2 (mNow (mFz (mLst (mCons (mNow (mVar 3)) (mCons (mNow (mOp (p2 oIx) (mA2 (mPk 10) (mNow (mCon (.int 0)))))) (mCons (mNow (mOp (p2 oIx) (mA2 (mPk 10) (mNow (mCon (.int 1)))))) mNil)))))) (mPk 9)))) mNil)))))
    (mSeq (mAsg (tgName 12) (mCall f__law_said (mCons (mNow (mVar 6)) (mCons (mNow (mOp (p2 oIx) (mA2 (mPk 11) (mNow (mCon (.int 0)))))) (mCons (mNow (mOp (p2 oIx) (mA2 (mPk 11) (mNow (mCon (.int 1)))))) (mCons (mNow (mOp (p2 oMod) (mA2 (mNow (mOp bInt (mCons (mNow (mOp (p2 oAdd) (mA2 (mPk 2) (mPk 9)))) mNil))) (mNow (mCon (.int 2)))))) mNil))))))
    (mSeq (mAsg (tgName 13) (mIf (mB (mOp (p2 oEq) (mA2 (mPk 9) (mNow (mCon (.int 1)))))) (mOp (p2 oIx) (mA2 (mPk 11) (mNow (mCon (.int 1))))) (mOp (p2 oIx) (mA2 (mPk 11) (mNow (mCon (.int 0)))))))
    (mSeq (mIfS (mTru (mNow (mIsi [0] [.ty "list"] (mPk 13))))
    (mCIns (mVar 13) (mCon (.int 0)) (mCon (.str "more")))
    mSkip)
    (mIfS (mOr (mB (mOp (p2 oNe) (mA2 (mNow (mOp (p2 oIx) (mA2 (mPk 12) (mNow (mCon (.int 0)))))) (mNow (mCon (.str "question")))))) (mOr (mB (mOp (p2 oNeF) (mA2 (mNow (mOp bRepr (mCons (mNow (mOp (p2 oIx) (mA2 (mPk 12) (mNow (mCon (.int 1)))))) mNil))) (mNow (mOp bRepr (mCons (mPk 13) mNil)))))) (mB (mOp (p2 oNe) (mA2 (mNow (mIsi [0] [.ty "bool"] (mNow (mOp (p2 oIx) (mA2 (mPk 12) (mNow (mCon (.int 1)))))))) (mNow (mIsi [0] [.ty "bool"] (mPk 13))))))))
    (mRet (mCon (.bl false)))
    mSkip)))))))))
    (mRet (mCall f__law_is (mCons (mNow (mVar 3)) (mCons (mNow (mVar 1)) mNil)))))))
def f__law_refused_right : Fn := defG 3 15 b__law_refused_right
theorem ok__law_refused_right (E : Txt K mg T ad fd ca) : FnG P w K mg base (L2.CX P w) 8 (ad 30) (fd 30) ["box", "some", "named"] (spF K T 3 f__law_refused_right) :=
  fn_okG (N := ["box", "some", "named", "question", "words", "wrong", "door", "value", "further", "place_v", "copies", "given", "told", "first", "item"]) (ps := ["box", "some", "named"]) (body := b__law_refused_right) E.F__law_refused_right sc__law_refused_right fun cdv A outer s H Ex hr hg => by
    have tk : Takes (cxOf (L2.CX P w) P w K mg base ["box", "some", "named", "question", "words", "wrong", "door", "value", "further", "place_v", "copies", "given", "told", "first", "item"] "_law_refused_right" (defScope s__law_refused_right) (ad 30) cdv A outer s H Ex) (fun cls d _ H => Ex cls d H) := takes_of rfl rfl rfl rfl
    exact (jss_cons (js_par (i := 3) (j := 4) rfl sc__law_refused_right.nd rfl rfl (by decide) rfl rfl (jx_d (je_call (ok__law_made E) (hr.mono (by decide)) (by rfl) E.m__law_made E.k__law_made E.b__law_made (fun σ => passAt tk σ) (len_cons (len_cons len_nil)) (ja_cons (jg_io (pv 0)) (ja_cons (jg_now (je_var (pv 1))) ja_nil)))) (jx_d (je_call0 (ok__law_words E) (hr.mono (by decide)) (by rfl) E.m__law_words E.k__law_words E.b__law_words (fun σ => passAt tk σ) len_nil)) (by rfl))
    (jss_cons (js_set (i := 5) sc__law_refused_right.nd rfl (by first | exact Or.inl rfl | exact Or.inr rfl) (je_fz (jl_lst (ja_cons (jg_now je_non) (ja_cons (jg_now je_int) (ja_cons (jg_now je_bl) (ja_cons (jg_now je_str) (ja_cons (jg_now (je_sl (jg_pk (pv 4)) jo_none (jo_some je_int))) (ja_cons (jg_now (je_fz (jl_lst ja_nil))) (ja_cons (jg_now (je_tup ja_nil)) (ja_cons (jg_now je_dic) (ja_cons (jg_now je_int) (ja_cons (jg_now (je_tup (ja_cons (jg_now je_str) ja_nil))) ja_nil)))))))))))))
    (jss_cons (js_for (passes_of rfl) rfl (jr1 E.g_range (jg_now je_int)) (jg_name (pg_name (i := 6) sc__law_refused_right.nd rfl (by first | exact Or.inl rfl | exact Or.inr rfl)))
    (jss_cons (js_par (i := 7) (j := 8) rfl sc__law_refused_right.nd rfl rfl (by decide) rfl rfl (jx_d (je_ix ix_seq ok_ix (jg_pk (pv 5)) (jg_now (je_call (ok__law_take E) (hr.mono (by decide)) (by rfl) E.m__law_take E.k__law_take E.b__law_take (fun σ => passAt tk σ) (len_cons (len_cons len_nil)) (ja_cons (jg_io (pv 0)) (ja_cons (jg_now je_int) ja_nil)))) (fun _ _ => rfl))) (jx_d (je_ix ix_seq ok_ix (jg_pk (pv 5)) (jg_now (je_call (ok__law_take E) (hr.mono (by decide)) (by rfl) E.m__law_take E.k__law_take E.b__law_take (fun σ => passAt tk σ) (len_cons (len_cons len_nil)) (ja_cons (jg_io (pv 0)) (ja_cons (jg_now je_int) ja_nil)))) (fun _ _ => rfl))) (by rfl))
    (jss_one (js_for (passes_of rfl) rfl (jr1 E.g_range (jg_now (je_if (jt_cmp op_lt ok_cmp (jg_pk (pv 6)) (jg_now je_int) (by rfl)) je_int je_int))) (jg_name (pg_name (i := 9) sc__law_refused_right.nd rfl (by first | exact Or.inl rfl | exact Or.inr rfl)))
    (jss_cons (js_setLcF (i := 10) (own := [("item", 14)]) rfl sc__law_refused_right.nd rfl rfl (sw_true rfl rfl rfl (by decide +kernel)) (blkOk_by (N := ["box", "some", "named", "question", "words", "wrong", "door", "value", "further", "place_v", "copies", "given", "told", "first", "item"]) (sc := defScope s__law_refused_right) (by decide +kernel)) (jp_seq (je_fz (jl_lst (ja_cons (jg_now (je_var (pv 7))) (ja_cons (jg_now (je_var (pv 8))) ja_nil))))) (fun _ _ _ _ _ => (jg_name (pg_name (i := 14) sc__law_refused_right.nd rfl (by first | exact Or.inl rfl | exact Or.inr rfl)))) (fun _ _ _ _ _ => jts_nil) (fun _ _ _ _ _ => (je_if (jt_tru (jg_now (je_isi1 (cn := .ty "list") E.ki E.g_isinstance (jg_pk (pv 14)) (pe_bltn (v := .ty "list") (u := .type "list") (by rfl) E.g_list (by decide +kernel) rfl)))) (je_cel (jl_cty call_list_of ok_lst (by rfl) E.g_list (by decide +kernel) (ja_cons (jg_pk (pv 14)) ja_nil))) (je_var (pv 14)))))
    (jss_cons (js_set (i := 11) sc__law_refused_right.nd rfl (by first | exact Or.inl rfl | exact Or.inr rfl) (je_fz (jl_lst (ja_cons (jg_now (je_if (jt_cmp (op_neD hr.units) ok_ne (jg_pk (pv 9)) (jg_now je_int) (by rfl)) (je_ix ix_seq ok_ix (jg_pk (pv 10)) (jg_now je_int) (fun _ _ => rfl)) (je_var (pv 3)))) (ja_cons (jg_now (je_ix ix_seq ok_ix (jg_now (je_fz (jl_lst (ja_cons (jg_now (je_var (pv 3))) (ja_cons (jg_now (je_ix ix_seq ok_ix (jg_pk (pv 10)) (jg_now je_int) (fun _ _ => rfl))) (ja_cons (jg_now (je_ix ix_seq ok_ix (jg_pk (pv 10)) (jg_now je_int) (fun _ _ => rfl))) ja_nil)))))) (jg_pk (pv 9)) (fun _ _ => rfl))) ja_nil)))))
    (jss_cons (js_set (i := 12) sc__law_refused_right.nd rfl (by first | exact Or.inl rfl | exact Or.inr rfl) (je_call (ok__law_said E) (hr.mono (by decide)) (by rfl) E.m__law_said E.k__law_said E.b__law_said (fun σ => passAt tk σ) (len_cons (len_cons (len_cons (len_cons len_nil)))) (ja_cons (jg_now (je_var (pv 6))) (ja_cons (jg_now (je_ix ix_seq ok_ix (jg_pk (pv 11)) (jg_now je_int) (fun _ _ => rfl))) (ja_cons (jg_now (je_ix ix_seq ok_ix (jg_pk (pv 11)) (jg_now je_int) (fun _ _ => rfl))) (ja_cons (jg_now (je_op2 op_modN ok_mod (jg_now (je_cty call_int1 ok_int1 (by rfl) E.g_int (by decide +kernel) (ja_cons (jg_now (je_op2 (or_or op_add op_add_str) ok_add (jg_pk (pv 2)) (jg_pk (pv 9)))) ja_nil))) (jg_now je_int))) ja_nil))))))
    (jss_cons (js_set (i := 13) sc__law_refused_right.nd rfl (by first | exact Or.inl rfl | exact Or.inr rfl) (je_if (jt_cmp (op_eqD hr.units) ok_eq (jg_pk (pv 9)) (jg_now je_int) (by rfl)) (je_ix ix_seq ok_ix (jg_pk (pv 11)) (jg_now je_int) (fun _ _ => rfl)) (je_ix ix_seq ok_ix (jg_pk (pv 11)) (jg_now je_int) (fun _ _ => rfl))))
    (jss_cons (js_if (jt_tru (jg_now (je_isi1 (cn := .ty "list") E.ki E.g_isinstance (jg_pk (pv 13)) (pe_bltn (v := .ty "list") (u := .type "list") (by rfl) E.g_list (by decide +kernel) rfl))))
    (jss_one (js_cins (je_var (pv 13)) je_int je_str))
    jss_nil)
    (jss_one (js_if (jt_w (jw_or (jt_cmp (op_neD hr.units) ok_ne (jg_now (je_ix ix_seq ok_ix (jg_pk (pv 12)) (jg_now je_int) (fun _ _ => rfl))) (jg_now je_str) (by rfl)) (jw_or (jt_cmp op_ne ok_neF (jg_now (je_cb (cr_repr hg (room65 hr)) ok_repr (by rfl) E.g_repr (by decide +kernel) (ja_cons (jg_now (je_ix ix_seq ok_ix (jg_pk (pv 12)) (jg_now je_int) (fun _ _ => rfl))) ja_nil))) (jg_now (je_cb (cr_repr hg (room65 hr)) ok_repr (by rfl) E.g_repr (by decide +kernel) (ja_cons (jg_pk (pv 13)) ja_nil))) (by rfl)) (jw_or1 (jt_cmp (op_neD hr.units) ok_ne (jg_now (je_isi1 (cn := .ty "bool") E.ki E.g_isinstance (jg_now (je_ix ix_seq ok_ix (jg_pk (pv 12)) (jg_now je_int) (fun _ _ => rfl))) (pe_bltn (v := .ty "bool") (u := .type "bool") (by rfl) E.g_bool (by decide +kernel) rfl))) (jg_now (je_isi1 (cn := .ty "bool") E.ki E.g_isinstance (jg_pk (pv 13)) (pe_bltn (v := .ty "bool") (u := .type "bool") (by rfl) E.g_bool (by decide +kernel) rfl))) (by rfl))))))
    (jss_one (js_ret je_bl))
    jss_nil)))))))))))
    (jss_one (js_ret (je_call (ok__law_is E) (hr.mono (by decide)) (by rfl) E.m__law_is E.k__law_is E.b__law_is (fun σ => passAt tk σ) (len_cons (len_cons len_nil)) (ja_cons (jg_now (je_var (pv 3))) (ja_cons (jg_now (je_var (pv 1))) ja_nil))))))))
/-! ### _law_rising -/
theorem sc__law_rising : FnScope ["box", "many", "way", "found", "at", "k", "gap"] ["box", "many"] (defScope s__law_rising) := ⟨rfl, rfl, rfl, by decide +kernel, rfl, by decide +kernel, by decide +kernel⟩
def b__law_rising : MS := (mSeq (mPars [2, 3] [(.d (mCall f__law_take (mCons (mIo 0) (mCons (mNow (mCon (.int 6))) mNil)))), (.l (mLst mNil))])
    (mSeq (mAsg (tgName 4) (mOp (p2 oIx) (mA2 (mNow (mFz (mLst (mCons (mNow (mCon (.int 0))) (mCons (mNow (mOp (p1 oNeg) (mA1 (mNow (mCon (.int 3)))))) (mCons (mNow (mOp (p1 oNeg) (mA1 (mNow (mOp (p2 oPow) (mA2 (mNow (mCon (.int 10))) (mNow (mCon (.int 18))))))))) (mCons (mNow (mOp (p2 oPow) (mA2 (mNow (mCon (.int 10))) (mNow (mCon (.int 17)))))) (mCons (mNow (mOp (p2 oSub) (mA2 (mNow (mCall f__law_take (mCons (mIo 0) (mCons (mNow (mCon (.int 1000))) mNil)))) (mNow (mCon (.int 500)))))) (mCons (mNow (mOp (p1 oNeg) (mA1 (mNow (mCon (.int 1)))))) mNil))))))))) (mPk 2))))
    (mSeq (mFor (miRng1 (mPk 1)) (tgName 5)
    (mSeq (mAsg (tgName 6) (mOp (p2 oIx) (mA2 (mNow (mFz (mLst (mCons (mNow (mCon (.int 1))) (mCons (mNow (mCon (.int 2))) (mCons (mNow (mOp (p2 oAdd) (mA2 (mNow (mCon (.int 1))) (mNow (mCall f__law_take (mCons (mIo 0) (mCons (mNow (mCon (.int 9))) mNil))))))) (mCons (mNow (mOp (p2 oAdd) (mA2 (mNow (mOp (p2 oPow) (mA2 (mNow (mCon (.int 10))) (mNow (mCon (.int 15)))))) (mNow (mCall f__law_take (mCons (mIo 0) (mCons (mNow (mCon (.int 1000))) mNil))))))) mNil))))))) (mNow (mCall f__law_take (mCons (mIo 0) (mCons (mNow (mCon (.int 4))) mNil)))))))
    (mSeq (mApp 3 (mVar 4))
    (mAsg (tgName 4) (mOp (p2 oAdd) (mA2 (mPk 4) (mNow (mIf (mB (mOp (p2 oEq) (mA2 (mPk 2) (mNow (mCon (.int 5)))))) (mCon (.int 1)) (mVar 6)))))))))
    (mRetO 3))))
def f__law_rising : Fn := defG 2 7 b__law_rising
theorem ok__law_rising (E : Txt K mg T ad fd ca) : FnOk P w K mg base (L2.CX P w) 2 (ad 31) (fd 31) ["box", "many"] (spF K T 2 f__law_rising) :=
  fn_ok (N := ["box", "many", "way", "found", "at", "k", "gap"]) (ps := ["box", "many"]) (body := b__law_rising) E.F__law_rising sc__law_rising fun cdv A outer s H Ex hr => by
    have tk : Takes (cxOf (L2.CX P w) P w K mg base ["box", "many", "way", "found", "at", "k", "gap"] "_law_rising" (defScope s__law_rising) (ad 31) cdv A outer s H Ex) (fun cls d _ H => Ex cls d H) := takes_of rfl rfl rfl rfl
    exact (jss_cons (js_par (i := 2) (j := 3) rfl sc__law_rising.nd rfl rfl (by decide) rfl rfl (jx_d (je_call (ok__law_take E) (hr.mono (by decide)) (by rfl) E.m__law_take E.k__law_take E.b__law_take (fun σ => passAt tk σ) (len_cons (len_cons len_nil)) (ja_cons (jg_io (pv 0)) (ja_cons (jg_now je_int) ja_nil)))) (jx_l (jl_lst ja_nil)) (by rfl))
    (jss_cons (js_set (i := 4) sc__law_rising.nd rfl (by first | exact Or.inl rfl | exact Or.inr rfl) (je_ix ix_seq ok_ix (jg_now (je_fz (jl_lst (ja_cons (jg_now je_int) (ja_cons (jg_now (je_op1 un_neg ok_un (jg_now je_int) (fun q => pe_un un_neg q))) (ja_cons (jg_now (je_op1 un_neg ok_un (jg_now (je_op2 op_pow ok_pow (jg_now je_int) (jg_now je_int))) (fun q => pe_un un_neg q))) (ja_cons (jg_now (je_op2 op_pow ok_pow (jg_now je_int) (jg_now je_int))) (ja_cons (jg_now (je_op2 op_sub ok_sub (jg_now (je_call (ok__law_take E) (hr.mono (by decide)) (by rfl) E.m__law_take E.k__law_take E.b__law_take (fun σ => passAt tk σ) (len_cons (len_cons len_nil)) (ja_cons (jg_io (pv 0)) (ja_cons (jg_now je_int) ja_nil)))) (jg_now je_int))) (ja_cons (jg_now (je_op1 un_neg ok_un (jg_now je_int) (fun q => pe_un un_neg q))) ja_nil))))))))) (jg_pk (pv 2)) (fun _ _ => rfl)))
    (jss_cons (js_for (passes_of rfl) rfl (jr1 E.g_range (jg_pk (pv 1))) (jg_name (pg_name (i := 5) sc__law_rising.nd rfl (by first | exact Or.inl rfl | exact Or.inr rfl)))
    (jss_cons (js_set (i := 6) sc__law_rising.nd rfl (by first | exact Or.inl rfl | exact Or.inr rfl) (je_ix ix_seq ok_ix (jg_now (je_fz (jl_lst (ja_cons (jg_now je_int) (ja_cons (jg_now je_int) (ja_cons (jg_now (je_op2 (or_or op_add op_add_str) ok_add (jg_now je_int) (jg_now (je_call (ok__law_take E) (hr.mono (by decide)) (by rfl) E.m__law_take E.k__law_take E.b__law_take (fun σ => passAt tk σ) (len_cons (len_cons len_nil)) (ja_cons (jg_io (pv 0)) (ja_cons (jg_now je_int) ja_nil)))))) (ja_cons (jg_now (je_op2 (or_or op_add op_add_str) ok_add (jg_now (je_op2 op_pow ok_pow (jg_now je_int) (jg_now je_int))) (jg_now (je_call (ok__law_take E) (hr.mono (by decide)) (by rfl) E.m__law_take E.k__law_take E.b__law_take (fun σ => passAt tk σ) (len_cons (len_cons len_nil)) (ja_cons (jg_io (pv 0)) (ja_cons (jg_now je_int) ja_nil)))))) ja_nil))))))) (jg_now (je_call (ok__law_take E) (hr.mono (by decide)) (by rfl) E.m__law_take E.k__law_take E.b__law_take (fun σ => passAt tk σ) (len_cons (len_cons len_nil)) (ja_cons (jg_io (pv 0)) (ja_cons (jg_now je_int) ja_nil)))) (fun _ _ => rfl)))
    (jss_cons (js_app (pv 3) (je_var (pv 4)))
    (jss_one (js_set (i := 4) sc__law_rising.nd rfl (by first | exact Or.inl rfl | exact Or.inr rfl) (je_op2 (or_or op_add op_add_str) ok_add (jg_pk (pv 4)) (jg_now (je_if (jt_cmp (op_eqD hr.units) ok_eq (jg_pk (pv 2)) (jg_now je_int) (by rfl)) je_int (je_var (pv 6))))))))))
    (jss_one (js_retO (pv 3))))))
/-! ### _law_ranks -/
theorem sc__law_ranks : FnScope ["found"] [] (defScope s__law_ranks) := ⟨rfl, rfl, rfl, by decide +kernel, rfl, by decide +kernel, by decide +kernel⟩
def b__law_ranks : MS := (mSeq (mAsg (tgName 0) (mFz (mLst (mCons (mNow (mTup (mCons (mNow (mCon (.int 0))) (mCons (mNow (mCon (.int 1))) (mCons (mNow (mCon (.int 2))) (mCons (mNow (mCon (.int 3))) mNil)))))) (mCons (mNow (mTup (mCons (mNow (mCon (.int 0))) (mCons (mNow (mCon (.int 1))) (mCons (mNow (mCon (.int 1))) (mCons (mNow (mCon (.int 2))) mNil)))))) (mCons (mNow (mTup (mCons (mNow (mCon (.int 0))) (mCons (mNow (mCon (.int 2))) (mCons (mNow (mCon (.int 1))) (mCons (mNow (mCon (.int 3))) mNil)))))) (mCons (mNow (mTup (mCons (mNow (mCon (.int 0))) (mCons (mNow (mCon (.int 2))) (mCons (mNow (mCon (.int 1))) (mCons (mNow (mCon (.int 2))) mNil)))))) (mCons (mNow (mTup (mCons (mNow (mCon (.int 0))) (mCons (mNow (mCon (.int 3))) (mCons (mNow (mCon (.int 1))) (mCons (mNow (mCon (.int 2))) mNil)))))) (mCons (mNow (mTup (mCons (mNow (mCon (.int 0))) (mCons (mNow (mCon (.int 1))) (mCons (mNow (mCon (.int 0))) (mCons (mNow (mCon (.int 2))) mNil)))))) (mCons (mNow (mTup (mCons (mNow (mCon (.int 0))) (mCons (mNow (mCon (.int 1))) (mCons (mNow (mCon (.int 0))) (mCons (mNow (mCon (.int 1))) mNil)))))) mNil))))))))))
    (mRet (mFz (mOpL (p2 oCat) (mA2 (mPk 0) (mNow (mFz (mLst (mCons (mNow (mTup (mCons (mNow (mCon (.int 0))) (mCons (mNow (mCon (.int 2))) (mCons (mNow (mCon (.int 0))) (mCons (mNow (mCon (.int 1))) mNil)))))) (mCons (mNow (mTup (mCons (mNow (mCon (.int 1))) (mCons (mNow (mCon (.int 2))) (mCons (mNow (mCon (.int 0))) (mCons (mNow (mCon (.int 3))) mNil)))))) (mCons (mNow (mTup (mCons (mNow (mCon (.int 1))) (mCons (mNow (mCon (.int 2))) (mCons (mNow (mCon (.int 0))) (mCons (mNow (mCon (.int 2))) mNil)))))) (mCons (mNow (mTup (mCons (mNow (mCon (.int 1))) (mCons (mNow (mCon (.int 3))) (mCons (mNow (mCon (.int 0))) (mCons (mNow (mCon (.int 2))) mNil)))))) (mCons (mNow (mTup (mCons (mNow (mCon (.int 1))) (mCons (mNow (mCon (.int 2))) (mCons (mNow (mCon (.int 0))) (mCons (mNow (mCon (.int 1))) mNil)))))) (mCons (mNow (mTup (mCons (mNow (mCon (.int 2))) (mCons (mNow (mCon (.int 3))) (mCons (mNow (mCon (.int 0))) (mCons (mNow (mCon (.int 1))) mNil)))))) mNil))))))))))))))
def f__law_ranks : Fn := defG 0 1 b__law_ranks
theorem ok__law_ranks (E : Txt K mg T ad fd ca) : FnOk P w K mg base (L2.CX P w) 1 (ad 32) (fd 32) [] (spF K T 0 f__law_ranks) :=
  fn_ok (N := ["found"]) (ps := []) (body := b__law_ranks) E.F__law_ranks sc__law_ranks fun cdv A outer s H Ex hr => by
    have tk : Takes (cxOf (L2.CX P w) P w K mg base ["found"] "_law_ranks" (defScope s__law_ranks) (ad 32) cdv A outer s H Ex) (fun cls d _ H => Ex cls d H) := takes_of rfl rfl rfl rfl
    exact (jss_cons (js_set (i := 0) sc__law_ranks.nd rfl (by first | exact Or.inl rfl | exact Or.inr rfl) (je_fz (jl_lst (ja_cons (jg_now (je_tup (ja_cons (jg_now je_int) (ja_cons (jg_now je_int) (ja_cons (jg_now je_int) (ja_cons (jg_now je_int) ja_nil)))))) (ja_cons (jg_now (je_tup (ja_cons (jg_now je_int) (ja_cons (jg_now je_int) (ja_cons (jg_now je_int) (ja_cons (jg_now je_int) ja_nil)))))) (ja_cons (jg_now (je_tup (ja_cons (jg_now je_int) (ja_cons (jg_now je_int) (ja_cons (jg_now je_int) (ja_cons (jg_now je_int) ja_nil)))))) (ja_cons (jg_now (je_tup (ja_cons (jg_now je_int) (ja_cons (jg_now je_int) (ja_cons (jg_now je_int) (ja_cons (jg_now je_int) ja_nil)))))) (ja_cons (jg_now (je_tup (ja_cons (jg_now je_int) (ja_cons (jg_now je_int) (ja_cons (jg_now je_int) (ja_cons (jg_now je_int) ja_nil)))))) (ja_cons (jg_now (je_tup (ja_cons (jg_now je_int) (ja_cons (jg_now je_int) (ja_cons (jg_now je_int) (ja_cons (jg_now je_int) ja_nil)))))) (ja_cons (jg_now (je_tup (ja_cons (jg_now je_int) (ja_cons (jg_now je_int) (ja_cons (jg_now je_int) (ja_cons (jg_now je_int) ja_nil)))))) ja_nil))))))))))
    (jss_one (js_ret (je_fz (jl_op2 op_catL ok_cat (jg_pk (pv 0)) (jg_now (je_fz (jl_lst (ja_cons (jg_now (je_tup (ja_cons (jg_now je_int) (ja_cons (jg_now je_int) (ja_cons (jg_now je_int) (ja_cons (jg_now je_int) ja_nil)))))) (ja_cons (jg_now (je_tup (ja_cons (jg_now je_int) (ja_cons (jg_now je_int) (ja_cons (jg_now je_int) (ja_cons (jg_now je_int) ja_nil)))))) (ja_cons (jg_now (je_tup (ja_cons (jg_now je_int) (ja_cons (jg_now je_int) (ja_cons (jg_now je_int) (ja_cons (jg_now je_int) ja_nil)))))) (ja_cons (jg_now (je_tup (ja_cons (jg_now je_int) (ja_cons (jg_now je_int) (ja_cons (jg_now je_int) (ja_cons (jg_now je_int) ja_nil)))))) (ja_cons (jg_now (je_tup (ja_cons (jg_now je_int) (ja_cons (jg_now je_int) (ja_cons (jg_now je_int) (ja_cons (jg_now je_int) ja_nil)))))) (ja_cons (jg_now (je_tup (ja_cons (jg_now je_int) (ja_cons (jg_now je_int) (ja_cons (jg_now je_int) (ja_cons (jg_now je_int) ja_nil)))))) ja_nil))))))))))))))
/-! ### _law_pair -/
theorem sc__law_pair : FnScope ["box", "which", "at", "a", "b", "s", "e", "rank"] ["box", "which"] (defScope s__law_pair) := ⟨rfl, rfl, rfl, by decide +kernel, rfl, by decide +kernel, by decide +kernel⟩
def b__law_pair : MS := (mSeq (mAsg (tgName 2) (mCall f__law_rising (mCons (mIo 0) (mCons (mNow (mCon (.int 4))) mNil))))
    (mSeq (mAsg (tgSeq [(tgName 3), (tgName 4), (tgName 5), (tgName 6)]) (mFz (mComp (miSeq (mOp (p2 oIx) (mA2 (mNow (mCall f__law_ranks mNil)) (mPk 1)))) (tgName 7) [7] mYes (mOp (p2 oIx) (mA2 (mPk 2) (mPk 7))))))
    (mRetL (mLst (mCons (mNow (mTup (mCons (mNow (mVar 3)) (mCons (mNow (mVar 4)) mNil)))) (mCons (mNow (mTup (mCons (mNow (mVar 5)) (mCons (mNow (mVar 6)) mNil)))) mNil))))))
def f__law_pair : Fn := defG 2 8 b__law_pair
theorem ok__law_pair (E : Txt K mg T ad fd ca) : FnOk P w K mg base (L2.CX P w) 3 (ad 33) (fd 33) ["box", "which"] (spF K T 2 f__law_pair) :=
  fn_ok (N := ["box", "which", "at", "a", "b", "s", "e", "rank"]) (ps := ["box", "which"]) (body := b__law_pair) E.F__law_pair sc__law_pair fun cdv A outer s H Ex hr => by
    have tk : Takes (cxOf (L2.CX P w) P w K mg base ["box", "which", "at", "a", "b", "s", "e", "rank"] "_law_pair" (defScope s__law_pair) (ad 33) cdv A outer s H Ex) (fun cls d _ H => Ex cls d H) := takes_of rfl rfl rfl rfl
    exact (jss_cons (js_set (i := 2) sc__law_pair.nd rfl (by first | exact Or.inl rfl | exact Or.inr rfl) (je_call (ok__law_rising E) (hr.mono (by decide)) (by rfl) E.m__law_rising E.k__law_rising E.b__law_rising (fun σ => passAt tk σ) (len_cons (len_cons len_nil)) (ja_cons (jg_io (pv 0)) (ja_cons (jg_now je_int) ja_nil))))
    (jss_cons (js_asg (je_fz (jl_comp (own := [("rank", 7)]) rfl sc__law_pair.nd (blkOk_by (N := ["box", "which", "at", "a", "b", "s", "e", "rank"]) (sc := defScope s__law_pair) (by decide +kernel)) (jp_seq (je_ix ix_seq ok_ix (jg_now (je_call0 (ok__law_ranks E) (hr.mono (by decide)) (by rfl) E.m__law_ranks E.k__law_ranks E.b__law_ranks (fun σ => passAt tk σ) len_nil)) (jg_pk (pv 1)) (fun _ _ => rfl))) (fun _ _ _ _ _ => (jg_name (pg_name (i := 7) sc__law_pair.nd rfl (by first | exact Or.inl rfl | exact Or.inr rfl)))) (fun _ _ _ _ _ => jts_nil) (fun _ _ _ _ _ => (je_ix ix_seq ok_ix (jg_pk (pv 2)) (jg_pk (pv 7)) (fun _ _ => rfl))))) (jg_seq rfl (jgs_cons (jg_name (pg_name (i := 3) sc__law_pair.nd rfl (by first | exact Or.inl rfl | exact Or.inr rfl))) (jgs_cons (jg_name (pg_name (i := 4) sc__law_pair.nd rfl (by first | exact Or.inl rfl | exact Or.inr rfl))) (jgs_cons (jg_name (pg_name (i := 5) sc__law_pair.nd rfl (by first | exact Or.inl rfl | exact Or.inr rfl))) (jgs_cons (jg_name (pg_name (i := 6) sc__law_pair.nd rfl (by first | exact Or.inl rfl | exact Or.inr rfl))) jgs_nil))))))
    (jss_one (js_retL (jl_lst (ja_cons (jg_now (je_tup (ja_cons (jg_now (je_var (pv 3))) (ja_cons (jg_now (je_var (pv 4))) ja_nil)))) (ja_cons (jg_now (je_tup (ja_cons (jg_now (je_var (pv 5))) (ja_cons (jg_now (je_var (pv 6))) ja_nil)))) ja_nil)))))))
/-! ### _law_place -/
theorem sc__law_place : FnScope ["moment", "start", "end"] ["moment", "start", "end"] (defScope s__law_place) := ⟨rfl, rfl, rfl, by decide +kernel, rfl, by decide +kernel, by decide +kernel⟩
def b__law_place : MS := (mSeq (mIfS (mB (mOp (p2 oLe) (mA2 (mPk 0) (mPk 1))))
    (mRet (mIf (mB (mOp (p2 oLt) (mA2 (mPk 0) (mPk 1)))) (mCon (.int 0)) (mCon (.int 1))))
    mSkip)
    (mRet (mIf (mB (mOp (p2 oLt) (mA2 (mPk 0) (mPk 2)))) (mCon (.int 2)) (mIf (mB (mOp (p2 oEq) (mA2 (mPk 0) (mPk 2)))) (mCon (.int 3)) (mCon (.int 4))))))
def f__law_place : Fn := defG 3 3 b__law_place
theorem ok__law_place (E : Txt K mg T ad fd ca) : FnOk P w K mg base (L2.CX P w) 1 (ad 34) (fd 34) ["moment", "start", "end"] (spF K T 3 f__law_place) :=
  fn_ok (N := ["moment", "start", "end"]) (ps := ["moment", "start", "end"]) (body := b__law_place) E.F__law_place sc__law_place fun cdv A outer s H Ex hr => by
    have tk : Takes (cxOf (L2.CX P w) P w K mg base ["moment", "start", "end"] "_law_place" (defScope s__law_place) (ad 34) cdv A outer s H Ex) (fun cls d _ H => Ex cls d H) := takes_of rfl rfl rfl rfl
    exact (jss_cons (js_if (jt_cmp op_le ok_cmp (jg_pk (pv 0)) (jg_pk (pv 1)) (by rfl))
    (jss_one (js_ret (je_if (jt_cmp op_lt ok_cmp (jg_pk (pv 0)) (jg_pk (pv 1)) (by rfl)) je_int je_int)))
    jss_nil)
    (jss_one (js_ret (je_if (jt_cmp op_lt ok_cmp (jg_pk (pv 0)) (jg_pk (pv 2)) (by rfl)) je_int (je_if (jt_cmp (op_eqD hr.units) ok_eq (jg_pk (pv 0)) (jg_pk (pv 2)) (by rfl)) je_int je_int)))))
/-! ### _law_relation -/
theorem sc__law_relation : FnScope ["one", "other", "pair"] ["one", "other"] (defScope s__law_relation) := ⟨rfl, rfl, rfl, by decide +kernel, rfl, by decide +kernel, by decide +kernel⟩
def b__law_relation : MS := (mSeq (mAsg (tgName 2) (mFz (mLst (mCons (mNow (mCall f__law_place (mCons (mNow (mOp (p2 oIx) (mA2 (mPk 0) (mNow (mCon (.int 0)))))) (mCons (mNow (mOp (p2 oIx) (mA2 (mPk 1) (mNow (mCon (.int 0)))))) (mCons (mNow (mOp (p2 oIx) (mA2 (mPk 1) (mNow (mCon (.int 1)))))) mNil))))) (mCons (mNow (mCall f__law_place (mCons (mNow (mOp (p2 oIx) (mA2 (mPk 0) (mNow (mCon (.int 1)))))) (mCons (mNow (mOp (p2 oIx) (mA2 (mPk 1) (mNow (mCon (.int 0)))))) (mCons (mNow (mOp (p2 oIx) (mA2 (mPk 1) (mNow (mCon (.int 1)))))) mNil))))) mNil)))))
    (mRet (mIndexD (mFz (mLst (mCons (mNow (mFz (mLst (mCons (mNow (mCon (.int 0))) (mCons (mNow (mCon (.int 0))) mNil))))) (mCons (mNow (mFz (mLst (mCons (mNow (mCon (.int 0))) (mCons (mNow (mCon (.int 1))) mNil))))) (mCons (mNow (mFz (mLst (mCons (mNow (mCon (.int 0))) (mCons (mNow (mCon (.int 2))) mNil))))) (mCons (mNow (mFz (mLst (mCons (mNow (mCon (.int 0))) (mCons (mNow (mCon (.int 3))) mNil))))) (mCons (mNow (mFz (mLst (mCons (mNow (mCon (.int 0))) (mCons (mNow (mCon (.int 4))) mNil))))) (mCons (mNow (mFz (mLst (mCons (mNow (mCon (.int 1))) (mCons (mNow (mCon (.int 2))) mNil))))) (mCons (mNow (mFz (mLst (mCons (mNow (mCon (.int 1))) (mCons (mNow (mCon (.int 3))) mNil))))) (mCons (mNow (mFz (mLst (mCons (mNow (mCon (.int 1))) (mCons (mNow (mCon (.int 4))) mNil))))) (mCons (mNow (mFz (mLst (mCons (mNow (mCon (.int 2))) (mCons (mNow (mCon (.int 2))) mNil))))) (mCons (mNow (mFz (mLst (mCons (mNow (mCon (.int 2))) (mCons (mNow (mCon (.int 3))) mNil))))) (mCons (mNow (mFz (mLst (mCons (mNow (mCon (.int 2))) (mCons (mNow (mCon (.int 4))) mNil))))) (mCons (mNow (mFz (mLst (mCons (mNow (mCon (.int 3))) (mCons (mNow (mCon (.int 4))) mNil))))) (mCons (mNow (mFz (mLst (mCons (mNow (mCon (.int 4))) (mCons (mNow (mCon (.int 4))) mNil))))) mNil))))))))))))))) (mVar 2))))
def f__law_relation : Fn := defG 2 3 b__law_relation
theorem ok__law_relation (E : Txt K mg T ad fd ca) : FnOk P w K mg base (L2.CX P w) 2 (ad 35) (fd 35) ["one", "other"] (spF K T 2 f__law_relation) :=
  fn_ok (N := ["one", "other", "pair"]) (ps := ["one", "other"]) (body := b__law_relation) E.F__law_relation sc__law_relation fun cdv A outer s H Ex hr => by
    have tk : Takes (cxOf (L2.CX P w) P w K mg base ["one", "other", "pair"] "_law_relation" (defScope s__law_relation) (ad 35) cdv A outer s H Ex) (fun cls d _ H => Ex cls d H) := takes_of rfl rfl rfl rfl
    exact (jss_cons (js_set (i := 2) sc__law_relation.nd rfl (by first | exact Or.inl rfl | exact Or.inr rfl) (je_fz (jl_lst (ja_cons (jg_now (je_call (ok__law_place E) (hr.mono (by decide)) (by rfl) E.m__law_place E.k__law_place E.b__law_place (fun σ => passAt tk σ) (len_cons (len_cons (len_cons len_nil))) (ja_cons (jg_now (je_ix ix_seq ok_ix (jg_pk (pv 0)) (jg_now je_int) (fun _ _ => rfl))) (ja_cons (jg_now (je_ix ix_seq ok_ix (jg_pk (pv 1)) (jg_now je_int) (fun _ _ => rfl))) (ja_cons (jg_now (je_ix ix_seq ok_ix (jg_pk (pv 1)) (jg_now je_int) (fun _ _ => rfl))) ja_nil))))) (ja_cons (jg_now (je_call (ok__law_place E) (hr.mono (by decide)) (by rfl) E.m__law_place E.k__law_place E.b__law_place (fun σ => passAt tk σ) (len_cons (len_cons (len_cons len_nil))) (ja_cons (jg_now (je_ix ix_seq ok_ix (jg_pk (pv 0)) (jg_now je_int) (fun _ _ => rfl))) (ja_cons (jg_now (je_ix ix_seq ok_ix (jg_pk (pv 1)) (jg_now je_int) (fun _ _ => rfl))) (ja_cons (jg_now (je_ix ix_seq ok_ix (jg_pk (pv 1)) (jg_now je_int) (fun _ _ => rfl))) ja_nil))))) ja_nil)))))
    (jss_one (js_ret (je_indexD (room65 hr) (je_fz (jl_lst (ja_cons (jg_now (je_fz (jl_lst (ja_cons (jg_now je_int) (ja_cons (jg_now je_int) ja_nil))))) (ja_cons (jg_now (je_fz (jl_lst (ja_cons (jg_now je_int) (ja_cons (jg_now je_int) ja_nil))))) (ja_cons (jg_now (je_fz (jl_lst (ja_cons (jg_now je_int) (ja_cons (jg_now je_int) ja_nil))))) (ja_cons (jg_now (je_fz (jl_lst (ja_cons (jg_now je_int) (ja_cons (jg_now je_int) ja_nil))))) (ja_cons (jg_now (je_fz (jl_lst (ja_cons (jg_now je_int) (ja_cons (jg_now je_int) ja_nil))))) (ja_cons (jg_now (je_fz (jl_lst (ja_cons (jg_now je_int) (ja_cons (jg_now je_int) ja_nil))))) (ja_cons (jg_now (je_fz (jl_lst (ja_cons (jg_now je_int) (ja_cons (jg_now je_int) ja_nil))))) (ja_cons (jg_now (je_fz (jl_lst (ja_cons (jg_now je_int) (ja_cons (jg_now je_int) ja_nil))))) (ja_cons (jg_now (je_fz (jl_lst (ja_cons (jg_now je_int) (ja_cons (jg_now je_int) ja_nil))))) (ja_cons (jg_now (je_fz (jl_lst (ja_cons (jg_now je_int) (ja_cons (jg_now je_int) ja_nil))))) (ja_cons (jg_now (je_fz (jl_lst (ja_cons (jg_now je_int) (ja_cons (jg_now je_int) ja_nil))))) (ja_cons (jg_now (je_fz (jl_lst (ja_cons (jg_now je_int) (ja_cons (jg_now je_int) ja_nil))))) (ja_cons (jg_now (je_fz (jl_lst (ja_cons (jg_now je_int) (ja_cons (jg_now je_int) ja_nil))))) ja_nil))))))))))))))) (je_var (pv 2))))))
/-! ### _law_moved -/
theorem sc__law_moved : FnScope ["which", "way", "a", "b", "s", "e"] ["which", "way"] (defScope s__law_moved) := ⟨rfl, rfl, rfl, by decide +kernel, rfl, by decide +kernel, by decide +kernel⟩
def b__law_moved : MS := (mSeq (mAsg (tgSeq [(tgName 2), (tgName 3), (tgName 4), (tgName 5)]) (mOp (p2 oIx) (mA2 (mNow (mCall f__law_ranks mNil)) (mPk 0))))
    (mRet (mIf (mB (mOp (p2 oEq) (mA2 (mPk 1) (mNow (mCon (.int 0)))))) (mCall f__law_relation (mCons (mNow (mTup (mCons (mNow (mVar 4)) (mCons (mNow (mVar 5)) mNil)))) (mCons (mNow (mTup (mCons (mNow (mVar 2)) (mCons (mNow (mVar 3)) mNil)))) mNil))) (mCall f__law_relation (mCons (mNow (mTup (mCons (mNow (mOp (p1 oNeg) (mA1 (mPk 3)))) (mCons (mNow (mOp (p1 oNeg) (mA1 (mPk 2)))) mNil)))) (mCons (mNow (mTup (mCons (mNow (mOp (p1 oNeg) (mA1 (mPk 5)))) (mCons (mNow (mOp (p1 oNeg) (mA1 (mPk 4)))) mNil)))) mNil))))))
def f__law_moved : Fn := defG 2 6 b__law_moved
theorem ok__law_moved (E : Txt K mg T ad fd ca) : FnOk P w K mg base (L2.CX P w) 3 (ad 36) (fd 36) ["which", "way"] (spF K T 2 f__law_moved) :=
  fn_ok (N := ["which", "way", "a", "b", "s", "e"]) (ps := ["which", "way"]) (body := b__law_moved) E.F__law_moved sc__law_moved fun cdv A outer s H Ex hr => by
    have tk : Takes (cxOf (L2.CX P w) P w K mg base ["which", "way", "a", "b", "s", "e"] "_law_moved" (defScope s__law_moved) (ad 36) cdv A outer s H Ex) (fun cls d _ H => Ex cls d H) := takes_of rfl rfl rfl rfl
    exact (jss_cons (js_asg (je_ix ix_seq ok_ix (jg_now (je_call0 (ok__law_ranks E) (hr.mono (by decide)) (by rfl) E.m__law_ranks E.k__law_ranks E.b__law_ranks (fun σ => passAt tk σ) len_nil)) (jg_pk (pv 0)) (fun _ _ => rfl)) (jg_seq rfl (jgs_cons (jg_name (pg_name (i := 2) sc__law_moved.nd rfl (by first | exact Or.inl rfl | exact Or.inr rfl))) (jgs_cons (jg_name (pg_name (i := 3) sc__law_moved.nd rfl (by first | exact Or.inl rfl | exact Or.inr rfl))) (jgs_cons (jg_name (pg_name (i := 4) sc__law_moved.nd rfl (by first | exact Or.inl rfl | exact Or.inr rfl))) (jgs_cons (jg_name (pg_name (i := 5) sc__law_moved.nd rfl (by first | exact Or.inl rfl | exact Or.inr rfl))) jgs_nil))))))
    (jss_one (js_ret (je_if (jt_cmp (op_eqD hr.units) ok_eq (jg_pk (pv 1)) (jg_now je_int) (by rfl)) (je_call (ok__law_relation E) (hr.mono (by decide)) (by rfl) E.m__law_relation E.k__law_relation E.b__law_relation (fun σ => passAt tk σ) (len_cons (len_cons len_nil)) (ja_cons (jg_now (je_tup (ja_cons (jg_now (je_var (pv 4))) (ja_cons (jg_now (je_var (pv 5))) ja_nil)))) (ja_cons (jg_now (je_tup (ja_cons (jg_now (je_var (pv 2))) (ja_cons (jg_now (je_var (pv 3))) ja_nil)))) ja_nil))) (je_call (ok__law_relation E) (hr.mono (by decide)) (by rfl) E.m__law_relation E.k__law_relation E.b__law_relation (fun σ => passAt tk σ) (len_cons (len_cons len_nil)) (ja_cons (jg_now (je_tup (ja_cons (jg_now (je_op1 un_neg ok_un (jg_pk (pv 3)) (fun q => pe_un un_neg q))) (ja_cons (jg_now (je_op1 un_neg ok_un (jg_pk (pv 2)) (fun q => pe_un un_neg q))) ja_nil)))) (ja_cons (jg_now (je_tup (ja_cons (jg_now (je_op1 un_neg ok_un (jg_pk (pv 5)) (fun q => pe_un un_neg q))) (ja_cons (jg_now (je_op1 un_neg ok_un (jg_pk (pv 4)) (fun q => pe_un un_neg q))) ja_nil)))) ja_nil)))))))
/-! ### _law_dues -/
theorem sc__law_dues : FnScope ["some", "more", "turned", "mirror", "every", "dues", "k"] ["some", "more"] (defScope s__law_dues) := ⟨rfl, rfl, rfl, by decide +kernel, rfl, by decide +kernel, by decide +kernel⟩
def b__law_dues : MS := (mSeq (mPars [2, 3] [(.d (mFz (mOpL bSortI (mCons (mNow (mFz (mComp (miSeq (mVar 0)) (tgName 6) [6] mYes (mCall f__law_moved (mCons (mNow (mVar 6)) (mCons (mNow (mCon (.int 0))) mNil)))))) mNil)))), (.d (mFz (mOpL bSortI (mCons (mNow (mFz (mComp (miSeq (mVar 0)) (tgName 6) [6] mYes (mCall f__law_moved (mCons (mNow (mVar 6)) (mCons (mNow (mCon (.int 1))) mNil)))))) mNil))))])
    (mSeq (mAsg (tgName 4) (mFz (mListRng (mNow (mCon (.int 13))))))
    (mSeq (mAsg (tgName 5) (mFz (mLst (mCons (mNow (mFz (mComp (miSeq (mVar 4)) (tgName 6) [6] (mAnd (mB (mOp (p2 oIn) (mA2 (mPk 6) (mPk 0)))) (mB (mOp (p2 oIn) (mA2 (mPk 6) (mPk 1))))) (mVar 6)))) (mCons (mNow (mFz (mComp (miSeq (mVar 4)) (tgName 6) [6] (mOr (mB (mOp (p2 oIn) (mA2 (mPk 6) (mPk 0)))) (mB (mOp (p2 oIn) (mA2 (mPk 6) (mPk 1))))) (mVar 6)))) (mCons (mNow (mFz (mComp (miSeq (mVar 4)) (tgName 6) [6] (mAnd (mB (mOp (p2 oIn) (mA2 (mPk 6) (mPk 0)))) (mB (mOp (p2 oNi) (mA2 (mPk 6) (mPk 1))))) (mVar 6)))) mNil))))))
    (mRet (mFz (mOpL (p2 oCat) (mA2 (mPk 5) (mNow (mFz (mLst (mCons (mNow (mFz (mComp (miSeq (mVar 4)) (tgName 6) [6] (mB (mOp (p2 oNi) (mA2 (mPk 6) (mPk 0)))) (mVar 6)))) (mCons (mNow (mVar 2)) (mCons (mNow (mVar 3)) mNil)))))))))))))
def f__law_dues : Fn := defG 2 7 b__law_dues
theorem ok__law_dues (E : Txt K mg T ad fd ca) : FnOk P w K mg base (L2.CX P w) 4 (ad 37) (fd 37) ["some", "more"] (spF K T 2 f__law_dues) :=
  fn_ok (N := ["some", "more", "turned", "mirror", "every", "dues", "k"]) (ps := ["some", "more"]) (body := b__law_dues) E.F__law_dues sc__law_dues fun cdv A outer s H Ex hr => by
    have tk : Takes (cxOf (L2.CX P w) P w K mg base ["some", "more", "turned", "mirror", "every", "dues", "k"] "_law_dues" (defScope s__law_dues) (ad 37) cdv A outer s H Ex) (fun cls d _ H => Ex cls d H) := takes_of rfl rfl rfl rfl
    exact (jss_cons (js_par (i := 2) (j := 3) rfl sc__law_dues.nd rfl rfl (by decide) rfl rfl (jx_d (je_fz (jl_cb cr_sorted ok_sortI (by rfl) E.g_sorted (by decide +kernel) (ja_cons (jg_now (je_fz (jl_comp (own := [("k", 6)]) rfl sc__law_dues.nd (blkOk_by (N := ["some", "more", "turned", "mirror", "every", "dues", "k"]) (sc := defScope s__law_dues) (by decide +kernel)) (jp_seq (je_var (pv 0))) (fun _ _ _ _ _ => (jg_name (pg_name (i := 6) sc__law_dues.nd rfl (by first | exact Or.inl rfl | exact Or.inr rfl)))) (fun _ _ _ _ _ => jts_nil) (fun _ _ _ _ _ => (je_call (ok__law_moved E) (hr.mono (by decide)) (by rfl) E.m__law_moved E.k__law_moved E.b__law_moved (fun σ => passAt takes0 σ) (len_cons (len_cons len_nil)) (ja_cons (jg_now (je_var (pv 6))) (ja_cons (jg_now je_int) ja_nil))))))) ja_nil)))) (jx_d (je_fz (jl_cb cr_sorted ok_sortI (by rfl) E.g_sorted (by decide +kernel) (ja_cons (jg_now (je_fz (jl_comp (own := [("k", 6)]) rfl sc__law_dues.nd (blkOk_by (N := ["some", "more", "turned", "mirror", "every", "dues", "k"]) (sc := defScope s__law_dues) (by decide +kernel)) (jp_seq (je_var (pv 0))) (fun _ _ _ _ _ => (jg_name (pg_name (i := 6) sc__law_dues.nd rfl (by first | exact Or.inl rfl | exact Or.inr rfl)))) (fun _ _ _ _ _ => jts_nil) (fun _ _ _ _ _ => (je_call (ok__law_moved E) (hr.mono (by decide)) (by rfl) E.m__law_moved E.k__law_moved E.b__law_moved (fun σ => passAt takes0 σ) (len_cons (len_cons len_nil)) (ja_cons (jg_now (je_var (pv 6))) (ja_cons (jg_now je_int) ja_nil))))))) ja_nil)))) (by rfl))
    (jss_cons (js_set (i := 4) sc__law_dues.nd rfl (by first | exact Or.inl rfl | exact Or.inr rfl) (je_fz (jl_listRng rfl E.g_list E.g_range (jg_now je_int))))
    (jss_cons (js_set (i := 5) sc__law_dues.nd rfl (by first | exact Or.inl rfl | exact Or.inr rfl) (je_fz (jl_lst (ja_cons (jg_now (je_fz (jl_comp (own := [("k", 6)]) rfl sc__law_dues.nd (blkOk_by (N := ["some", "more", "turned", "mirror", "every", "dues", "k"]) (sc := defScope s__law_dues) (by decide +kernel)) (jp_seq (je_var (pv 4))) (fun _ _ _ _ _ => (jg_name (pg_name (i := 6) sc__law_dues.nd rfl (by first | exact Or.inl rfl | exact Or.inr rfl)))) (fun _ _ _ _ _ => (jts_one (jt_w (jw_and (jt_cmp op_in_seq ok_in (jg_pk (pv 6)) (jg_pk (pv 0)) (by rfl)) (jw_and1 (jt_cmp op_in_seq ok_in (jg_pk (pv 6)) (jg_pk (pv 1)) (by rfl))))))) (fun _ _ _ _ _ => (je_var (pv 6)))))) (ja_cons (jg_now (je_fz (jl_comp (own := [("k", 6)]) rfl sc__law_dues.nd (blkOk_by (N := ["some", "more", "turned", "mirror", "every", "dues", "k"]) (sc := defScope s__law_dues) (by decide +kernel)) (jp_seq (je_var (pv 4))) (fun _ _ _ _ _ => (jg_name (pg_name (i := 6) sc__law_dues.nd rfl (by first | exact Or.inl rfl | exact Or.inr rfl)))) (fun _ _ _ _ _ => (jts_one (jt_w (jw_or (jt_cmp op_in_seq ok_in (jg_pk (pv 6)) (jg_pk (pv 0)) (by rfl)) (jw_or1 (jt_cmp op_in_seq ok_in (jg_pk (pv 6)) (jg_pk (pv 1)) (by rfl))))))) (fun _ _ _ _ _ => (je_var (pv 6)))))) (ja_cons (jg_now (je_fz (jl_comp (own := [("k", 6)]) rfl sc__law_dues.nd (blkOk_by (N := ["some", "more", "turned", "mirror", "every", "dues", "k"]) (sc := defScope s__law_dues) (by decide +kernel)) (jp_seq (je_var (pv 4))) (fun _ _ _ _ _ => (jg_name (pg_name (i := 6) sc__law_dues.nd rfl (by first | exact Or.inl rfl | exact Or.inr rfl)))) (fun _ _ _ _ _ => (jts_one (jt_w (jw_and (jt_cmp op_in_seq ok_in (jg_pk (pv 6)) (jg_pk (pv 0)) (by rfl)) (jw_and1 (jt_cmp op_notIn_seq ok_ni (jg_pk (pv 6)) (jg_pk (pv 1)) (by rfl))))))) (fun _ _ _ _ _ => (je_var (pv 6)))))) ja_nil))))))
    (jss_one (js_ret (je_fz (jl_op2 op_catL ok_cat (jg_pk (pv 5)) (jg_now (je_fz (jl_lst (ja_cons (jg_now (je_fz (jl_comp (own := [("k", 6)]) rfl sc__law_dues.nd (blkOk_by (N := ["some", "more", "turned", "mirror", "every", "dues", "k"]) (sc := defScope s__law_dues) (by decide +kernel)) (jp_seq (je_var (pv 4))) (fun _ _ _ _ _ => (jg_name (pg_name (i := 6) sc__law_dues.nd rfl (by first | exact Or.inl rfl | exact Or.inr rfl)))) (fun _ _ _ _ _ => (jts_one (jt_cmp op_notIn_seq ok_ni (jg_pk (pv 6)) (jg_pk (pv 0)) (by rfl)))) (fun _ _ _ _ _ => (je_var (pv 6)))))) (ja_cons (jg_now (je_var (pv 2))) (ja_cons (jg_now (je_var (pv 3))) ja_nil)))))))))))))
/-! ### is_tuple_of -/
theorem sc_is_tuple_of : FnScope ["value", "many"] ["value", "many"] (defScope s_is_tuple_of) := ⟨rfl, rfl, rfl, by decide +kernel, rfl, by decide +kernel, by decide +kernel⟩
def b_is_tuple_of : MS := (mRet (mAndV (mIsi [0] [.ty "tuple"] (mPk 0)) (mOp (p2 oEq) (mA2 (mNow (mOp bLen (mCons (mPk 0) mNil))) (mPk 1)))))
def f_is_tuple_of : Fn := defG 2 2 b_is_tuple_of
theorem ok_is_tuple_of (E : Txt K mg T ad fd ca) : FnOk P w K mg base (L2.CX P w) 1 (ad 38) (fd 38) ["value", "many"] (spF K T 2 f_is_tuple_of) :=
  fn_ok (N := ["value", "many"]) (ps := ["value", "many"]) (body := b_is_tuple_of) E.F_is_tuple_of sc_is_tuple_of fun cdv A outer s H Ex hr => by
    have tk : Takes (cxOf (L2.CX P w) P w K mg base ["value", "many"] "is_tuple_of" (defScope s_is_tuple_of) (ad 38) cdv A outer s H Ex) (fun cls d _ H => Ex cls d H) := takes_of rfl rfl rfl rfl
    exact (jss_one (js_ret (je_and (je_isi1 (cn := .ty "tuple") E.ki E.g_isinstance (jg_pk (pv 0)) (pe_bltn (v := .ty "tuple") (u := .type "tuple") (by rfl) E.g_tuple (by decide +kernel) rfl)) (je_one (je_cmp (op_eqD hr.units) ok_eq (jg_now (je_cb call_len ok_len (by rfl) E.g_len (by decide +kernel) (ja_cons (jg_pk (pv 0)) ja_nil))) (jg_pk (pv 1)) (by rfl))))))
/-! ### is_whole -/
theorem sc_is_whole : FnScope ["value"] ["value"] (defScope s_is_whole) := ⟨rfl, rfl, rfl, by decide +kernel, rfl, by decide +kernel, by decide +kernel⟩
def b_is_whole : MS := (mRet (mAndV (mIsi [0] [.ty "int"] (mPk 0)) (mNotV (mNow (mIsi [0] [.ty "bool"] (mPk 0))))))
def f_is_whole : Fn := defG 1 1 b_is_whole
theorem ok_is_whole (E : Txt K mg T ad fd ca) : FnOk P w K mg base (L2.CX P w) 1 (ad 39) (fd 39) ["value"] (spF K T 1 f_is_whole) :=
  fn_ok (N := ["value"]) (ps := ["value"]) (body := b_is_whole) E.F_is_whole sc_is_whole fun cdv A outer s H Ex hr => by
    have tk : Takes (cxOf (L2.CX P w) P w K mg base ["value"] "is_whole" (defScope s_is_whole) (ad 39) cdv A outer s H Ex) (fun cls d _ H => Ex cls d H) := takes_of rfl rfl rfl rfl
    exact (jss_one (js_ret (je_and (je_isi1 (cn := .ty "int") E.ki E.g_isinstance (jg_pk (pv 0)) (pe_bltn (v := .ty "int") (u := .type "int") (by rfl) E.g_int (by decide +kernel) rfl)) (je_one (je_not (jg_now (je_isi1 (cn := .ty "bool") E.ki E.g_isinstance (jg_pk (pv 0)) (pe_bltn (v := .ty "bool") (u := .type "bool") (by rfl) E.g_bool (by decide +kernel) rfl))))))))
/-! ### is_stay_h18 -/
theorem sc_is_stay_h18 : FnScope ["value", "item"] ["value"] (defScope s_is_stay_h18) := ⟨rfl, rfl, rfl, by decide +kernel, rfl, by decide +kernel, by decide +kernel⟩
def b_is_stay_h18 : MS := (mRet (mAndV (mCall f_is_tuple_of (mCons (mNow (mVar 0)) (mCons (mNow (mCon (.int 2))) mNil))) (mAndV (mOp bAll (mCons (mNow (mFz (mComp (miSeq (mVar 0)) (tgName 1) [1] mYes (mCall f_is_whole (mCons (mNow (mVar 1)) mNil))))) mNil)) (mOp (p2 oLt) (mA2 (mNow (mOp (p2 oIx) (mA2 (mPk 0) (mNow (mCon (.int 0)))))) (mNow (mOp (p2 oIx) (mA2 (mPk 0) (mNow (mCon (.int 1)))))))))))
def f_is_stay_h18 : Fn := defG 1 2 b_is_stay_h18
theorem ok_is_stay_h18 (E : Txt K mg T ad fd ca) : FnOk P w K mg base (L2.CX P w) 2 (ad 40) (fd 40) ["value"] (spF K T 1 f_is_stay_h18) :=
  fn_ok (N := ["value", "item"]) (ps := ["value"]) (body := b_is_stay_h18) E.F_is_stay_h18 sc_is_stay_h18 fun cdv A outer s H Ex hr => by
    have tk : Takes (cxOf (L2.CX P w) P w K mg base ["value", "item"] "is_stay" (defScope s_is_stay_h18) (ad 40) cdv A outer s H Ex) (fun cls d _ H => Ex cls d H) := takes_of rfl rfl rfl rfl
    exact (jss_one (js_ret (je_and (je_call (ok_is_tuple_of E) (hr.mono (by decide)) (by rfl) E.m_is_tuple_of E.k_is_tuple_of E.b_is_tuple_of (fun σ => passAt tk σ) (len_cons (len_cons len_nil)) (ja_cons (jg_now (je_var (pv 0))) (ja_cons (jg_now je_int) ja_nil))) (je_and (je_cb (cr_all rfl) ok_all (by rfl) E.g_all (by decide +kernel) (ja_cons (jg_now (je_fz (jl_comp (own := [("item", 1)]) rfl sc_is_stay_h18.nd (blkOk_by (N := ["value", "item"]) (sc := defScope s_is_stay_h18) (by decide +kernel)) (jp_seq (je_var (pv 0))) (fun _ _ _ _ _ => (jg_name (pg_name (i := 1) sc_is_stay_h18.nd rfl (by first | exact Or.inl rfl | exact Or.inr rfl)))) (fun _ _ _ _ _ => jts_nil) (fun _ _ _ _ _ => (je_call (ok_is_whole E) (hr.mono (by decide)) (by rfl) E.m_is_whole E.k_is_whole E.b_is_whole (fun σ => passAt takes0 σ) (len_cons len_nil) (ja_cons (jg_now (je_var (pv 1))) ja_nil)))))) ja_nil)) (je_one (je_cmp op_lt ok_cmp (jg_now (je_ix ix_seq ok_ix (jg_pk (pv 0)) (jg_now je_int) (fun _ _ => rfl))) (jg_now (je_ix ix_seq ok_ix (jg_pk (pv 0)) (jg_now je_int) (fun _ _ => rfl))) (by rfl)))))))
/-! ### is_stay -/
theorem sc_is_stay : FnScope ["value"] ["value"] (defScope s_is_stay) := ⟨rfl, rfl, rfl, by decide +kernel, rfl, by decide +kernel, by decide +kernel⟩
def b_is_stay : MS := (mRet (mCall f_is_stay_h18 (mCons (mNow (mVar 0)) mNil)))
def f_is_stay : Fn := defG 1 1 b_is_stay
theorem ok_is_stay (E : Txt K mg T ad fd ca) : FnOk P w K mg base (L2.CX P w) 3 (ad 41) (fd 41) ["value"] (spF K T 1 f_is_stay) :=
  fn_ok (N := ["value"]) (ps := ["value"]) (body := b_is_stay) E.F_is_stay sc_is_stay fun cdv A outer s H Ex hr => by
    have tk : Takes (cxOf (L2.CX P w) P w K mg base ["value"] "is_stay" (defScope s_is_stay) (ad 41) cdv A outer s H Ex) (fun cls d _ H => Ex cls d H) := takes_of rfl rfl rfl rfl
    exact (jss_one (js_ret (je_call (ok_is_stay_h18 E) (hr.mono (by decide)) (by rfl) E.m_is_stay_shapes E.k_is_stay_h18 E.b_is_stay_h18 (fun σ => passAt tk σ) (len_cons len_nil) (ja_cons (jg_now (je_var (pv 0))) ja_nil))))
/-! ### check_stays -/
theorem sc_check_stays : FnScope ["one", "other"] ["one", "other"] (defScope s_check_stays) := ⟨rfl, rfl, rfl, by decide +kernel, rfl, by decide +kernel, by decide +kernel⟩
def b_check_stays : MS := (mSeq (mIfS (mNot (mTru (mNow (mCall f_is_stay (mCons (mNow (mVar 0)) mNil)))))
    (mRaise 3 (mVar 0))
    mSkip)
    (mIfS (mNot (mTru (mNow (mCall f_is_stay (mCons (mNow (mVar 1)) mNil)))))
    (mRaise 3 (mVar 1))
    mSkip))
def f_check_stays : Fn := defG 2 2 b_check_stays
theorem ok_check_stays (E : Txt K mg T ad fd ca) : FnOk P w K mg base (L2.CX P w) 4 (ad 42) (fd 42) ["one", "other"] (spF K T 2 f_check_stays) :=
  fn_ok (N := ["one", "other"]) (ps := ["one", "other"]) (body := b_check_stays) E.F_check_stays sc_check_stays fun cdv A outer s H Ex hr => by
    have tk : Takes (cxOf (L2.CX P w) P w K mg base ["one", "other"] "check_stays" (defScope s_check_stays) (ad 42) cdv A outer s H Ex) (fun cls d _ H => Ex cls d H) := takes_of rfl rfl rfl rfl
    exact (jss_cons (js_if (jt_not (jt_tru (jg_now (je_call (ok_is_stay E) (hr.mono (by decide)) (by rfl) E.m_is_stay_stays E.k_is_stay E.b_is_stay (fun σ => passAt tk σ) (len_cons len_nil) (ja_cons (jg_now (je_var (pv 0))) ja_nil)))))
    (jss_one (js_raise rfl E.x_InvalidStay E.xa_InvalidStay hr tk (je_var (pv 0))))
    jss_nil)
    (jss_one (js_if (jt_not (jt_tru (jg_now (je_call (ok_is_stay E) (hr.mono (by decide)) (by rfl) E.m_is_stay_stays E.k_is_stay E.b_is_stay (fun σ => passAt tk σ) (len_cons len_nil) (ja_cons (jg_now (je_var (pv 1))) ja_nil)))))
    (jss_one (js_raise rfl E.x_InvalidStay E.xa_InvalidStay hr tk (je_var (pv 1))))
    jss_nil)))
/-! ### place -/
theorem sc_place : FnScope ["moment", "stay", "start", "end"] ["moment", "stay"] (defScope s_place) := ⟨rfl, rfl, rfl, by decide +kernel, rfl, by decide +kernel, by decide +kernel⟩
def b_place : MS := (mSeq (mAsg (tgSeq [(tgName 2), (tgName 3)]) (mVar 1))
    (mSeq (mIfS (mB (mOp (p2 oLe) (mA2 (mPk 0) (mPk 2))))
    (mRet (mIf (mB (mOp (p2 oLt) (mA2 (mPk 0) (mPk 2)))) (mCon (.int 0)) (mCon (.int 1))))
    mSkip)
    (mSeq (mIfS (mB (mOp (p2 oLt) (mA2 (mPk 0) (mPk 3))))
    (mRet (mCon (.int 2)))
    mSkip)
    (mRet (mIf (mB (mOp (p2 oEq) (mA2 (mPk 0) (mPk 3)))) (mCon (.int 3)) (mCon (.int 4)))))))
def f_place : Fn := defG 2 4 b_place
theorem ok_place (E : Txt K mg T ad fd ca) : FnOk P w K mg base (L2.CX P w) 1 (ad 43) (fd 43) ["moment", "stay"] (spF K T 2 f_place) :=
  fn_ok (N := ["moment", "stay", "start", "end"]) (ps := ["moment", "stay"]) (body := b_place) E.F_place sc_place fun cdv A outer s H Ex hr => by
    have tk : Takes (cxOf (L2.CX P w) P w K mg base ["moment", "stay", "start", "end"] "place" (defScope s_place) (ad 43) cdv A outer s H Ex) (fun cls d _ H => Ex cls d H) := takes_of rfl rfl rfl rfl
    exact (jss_cons (js_asg (je_var (pv 1)) (jg_seq rfl (jgs_cons (jg_name (pg_name (i := 2) sc_place.nd rfl (by first | exact Or.inl rfl | exact Or.inr rfl))) (jgs_cons (jg_name (pg_name (i := 3) sc_place.nd rfl (by first | exact Or.inl rfl | exact Or.inr rfl))) jgs_nil))))
    (jss_cons (js_if (jt_cmp op_le ok_cmp (jg_pk (pv 0)) (jg_pk (pv 2)) (by rfl))
    (jss_one (js_ret (je_if (jt_cmp op_lt ok_cmp (jg_pk (pv 0)) (jg_pk (pv 2)) (by rfl)) je_int je_int)))
    jss_nil)
    (jss_cons (js_if (jt_cmp op_lt ok_cmp (jg_pk (pv 0)) (jg_pk (pv 3)) (by rfl))
    (jss_one (js_ret je_int))
    jss_nil)
    (jss_one (js_ret (je_if (jt_cmp (op_eqD hr.units) ok_eq (jg_pk (pv 0)) (jg_pk (pv 3)) (by rfl)) je_int je_int))))))
/-! ### number_of -/
theorem sc_number_of : FnScope ["one", "other"] ["one", "other"] (defScope s_number_of) := ⟨rfl, rfl, rfl, by decide +kernel, rfl, by decide +kernel, by decide +kernel⟩
def b_number_of : MS := (mRet (mOp (p2 oIx) (mA2 (mNow (mOp (p2 oIx) (mA2 (mNow (mCon d_NUMBERS)) (mNow (mCall f_place (mCons (mNow (mOp (p2 oIx) (mA2 (mPk 0) (mNow (mCon (.int 0)))))) (mCons (mNow (mVar 1)) mNil))))))) (mNow (mCall f_place (mCons (mNow (mOp (p2 oIx) (mA2 (mPk 0) (mNow (mCon (.int 1)))))) (mCons (mNow (mVar 1)) mNil)))))))
def f_number_of : Fn := defG 2 2 b_number_of
theorem ok_number_of (E : Txt K mg T ad fd ca) : FnOk P w K mg base (L2.CX P w) 2 (ad 44) (fd 44) ["one", "other"] (spF K T 2 f_number_of) :=
  fn_ok (N := ["one", "other"]) (ps := ["one", "other"]) (body := b_number_of) E.F_number_of sc_number_of fun cdv A outer s H Ex hr => by
    have tk : Takes (cxOf (L2.CX P w) P w K mg base ["one", "other"] "number_of" (defScope s_number_of) (ad 44) cdv A outer s H Ex) (fun cls d _ H => Ex cls d H) := takes_of rfl rfl rfl rfl
    exact (jss_one (js_ret (je_ix ix_seq ok_ix (jg_now (je_ix ix_seq ok_ix (jg_now (je_cst (v := .ref (ca 4)) E.m_NUMBERS rfl E.c_NUMBERS)) (jg_now (je_call (ok_place E) (hr.mono (by decide)) (by rfl) E.m_place E.k_place E.b_place (fun σ => passAt tk σ) (len_cons (len_cons len_nil)) (ja_cons (jg_now (je_ix ix_seq ok_ix (jg_pk (pv 0)) (jg_now je_int) (fun _ _ => rfl))) (ja_cons (jg_now (je_var (pv 1))) ja_nil)))) (fun _ _ => rfl))) (jg_now (je_call (ok_place E) (hr.mono (by decide)) (by rfl) E.m_place E.k_place E.b_place (fun σ => passAt tk σ) (len_cons (len_cons len_nil)) (ja_cons (jg_now (je_ix ix_seq ok_ix (jg_pk (pv 0)) (jg_now je_int) (fun _ _ => rfl))) (ja_cons (jg_now (je_var (pv 1))) ja_nil)))) (fun _ _ => rfl))))
/-! ### met_by -/
theorem sc_met_by : FnScope ["number", "one", "other"] ["number", "one", "other"] (defScope s_met_by) := ⟨rfl, rfl, rfl, by decide +kernel, rfl, by decide +kernel, by decide +kernel⟩
def b_met_by : MS := (mRet (mOp (p2 oEq) (mA2 (mNow (mOp (p2 oAnd) (mA2 (mNow (mOp (p2 oShr) (mA2 (mPk 0) (mNow (mCall f_number_of (mCons (mNow (mVar 1)) (mCons (mNow (mVar 2)) mNil))))))) (mNow (mCon (.int 1)))))) (mNow (mCon (.int 1))))))
def f_met_by : Fn := defG 3 3 b_met_by
theorem ok_met_by (E : Txt K mg T ad fd ca) : FnOk P w K mg base (L2.CX P w) 3 (ad 45) (fd 45) ["number", "one", "other"] (spF K T 3 f_met_by) :=
  fn_ok (N := ["number", "one", "other"]) (ps := ["number", "one", "other"]) (body := b_met_by) E.F_met_by sc_met_by fun cdv A outer s H Ex hr => by
    have tk : Takes (cxOf (L2.CX P w) P w K mg base ["number", "one", "other"] "met_by" (defScope s_met_by) (ad 45) cdv A outer s H Ex) (fun cls d _ H => Ex cls d H) := takes_of rfl rfl rfl rfl
    exact (jss_one (js_ret (je_cmp (op_eqD hr.units) ok_eq (jg_now (je_op2 op_and ok_int (jg_now (je_op2 op_shr ok_shr (jg_pk (pv 0)) (jg_now (je_call (ok_number_of E) (hr.mono (by decide)) (by rfl) E.m_number_of E.k_number_of E.b_number_of (fun σ => passAt tk σ) (len_cons (len_cons len_nil)) (ja_cons (jg_now (je_var (pv 1))) (ja_cons (jg_now (je_var (pv 2))) ja_nil)))))) (jg_now je_int))) (jg_now je_int) (by rfl))))
/-! ### Question.meets -/
theorem sc_Question_meets : FnScope ["self", "one", "other"] ["self", "one", "other"] (defScope s_Question_meets) := ⟨rfl, rfl, rfl, by decide +kernel, rfl, by decide +kernel, by decide +kernel⟩
def b_Question_meets : MS := (mSeq (mExpr (mCall f_check_stays (mCons (mNow (mVar 1)) (mCons (mNow (mVar 2)) mNil))))
    (mRet (mCall f_met_by (mCons (mNow (mFld 0 0 (mVar 0))) (mCons (mNow (mVar 1)) (mCons (mNow (mVar 2)) mNil))))))
def f_Question_meets : Fn := defG 3 3 b_Question_meets
theorem ok_Question_meets (E : Txt K mg T ad fd ca) : FnOk P w K mg base (L2.CX P w) 5 (ad 46) (fd 46) ["self", "one", "other"] (spF K T 3 f_Question_meets) :=
  fn_ok (N := ["self", "one", "other"]) (ps := ["self", "one", "other"]) (body := b_Question_meets) E.F_Question_meets sc_Question_meets fun cdv A outer s H Ex hr => by
    have tk : Takes (cxOf (L2.CX P w) P w K mg base ["self", "one", "other"] "Question.meets" (defScope s_Question_meets) (ad 46) cdv A outer s H Ex) (fun cls d _ H => Ex cls d H) := takes_of rfl rfl rfl rfl
    exact (jss_cons (js_expr (je_call (ok_check_stays E) (hr.mono (by decide)) (by rfl) E.m_check_stays E.k_check_stays E.b_check_stays (fun σ => passAt tk σ) (len_cons (len_cons len_nil)) (ja_cons (jg_now (je_var (pv 1))) (ja_cons (jg_now (je_var (pv 2))) ja_nil))))
    (jss_one (js_ret (je_call (ok_met_by E) (hr.mono (by decide)) (by rfl) E.m_met_by E.k_met_by E.b_met_by (fun σ => passAt tk σ) (len_cons (len_cons (len_cons len_nil))) (ja_cons (jg_now (je_fld E.cl_Question (E.na_Question _ (by simp [E.at_Question])) (by rw [E.at_Question]; decide +kernel) (by rw [E.at_Question]; rfl) (je_var (pv 0)))) (ja_cons (jg_now (je_var (pv 1))) (ja_cons (jg_now (je_var (pv 2))) ja_nil)))))))
/-! ### _law_two_right -/
theorem sc__law_two_right : FnScope ["box", "some", "more", "named", "one", "other", "dues", "which", "x", "z", "door", "told"] ["box", "some", "more", "named"] (defScope s__law_two_right) := ⟨rfl, rfl, rfl, by decide +kernel, rfl, by decide +kernel, by decide +kernel⟩
def b__law_two_right : MS := (mSeq (mAsg (tgName 4) (mCall f__law_made (mCons (mIo 0) (mCons (mNow (mVar 1)) mNil))))
    (mSeq (mAsg (tgName 5) (mIf (mAnd (mB (mOp (p2 oEq) (mA2 (mPk 1) (mPk 2)))) (mB (mOp (p2 oEq) (mA2 (mNow (mCall f__law_take (mCons (mIo 0) (mCons (mNow (mCon (.int 2))) mNil)))) (mNow (mCon (.int 0))))))) (mVar 4) (mCall f__law_made (mCons (mIo 0) (mCons (mNow (mVar 2)) mNil)))))
    (mSeq (mPars [6, 7] [(.d (mCall f__law_dues (mCons (mNow (mVar 1)) (mCons (mNow (mVar 2)) mNil)))), (.d (mCall f__law_take (mCons (mIo 0) (mCons (mNow (mCon (.int 13))) mNil))))])
    (mSeq (mAsg (tgSeq [(tgName 8), (tgName 9)]) (mCall f__law_pair (mCons (mIo 0) (mCons (mNow (mVar 7)) mNil))))
    (mSeq (mFor (miSeq (mCall f__law_mixed (mCons (mIo 0) (mCons (mNow (mFz (mListRng (mNow (mCon (.int 6)))))) mNil)))) (tgName 10)
    (mSeq (mAsg (tgName 11) (mCall f__law_said (mCons (mNow (mVar 10)) (mCons (mNow (mVar 4)) (mCons (mNow (mVar 5)) (mCons (mNow (mOp (p2 oMod) (mA2 (mNow (mOp bInt (mCons (mNow (mOp (p2 oAdd) (mA2 (mPk 3) (mPk 10)))) mNil))) (mNow (mCon (.int 2)))))) mNil))))))
    (mSeq (mIfS (mOr (mB (mOp (p2 oNe) (mA2 (mNow (mOp (p2 oIx) (mA2 (mPk 11) (mNow (mCon (.int 0)))))) (mNow (mCon (.str "told")))))) (mOr (mNot (mTru (mNow (mCall f__law_is (mCons (mNow (mOp (p2 oIx) (mA2 (mPk 11) (mNow (mCon (.int 1)))))) (mCons (mNow (mOp (p2 oIx) (mA2 (mPk 6) (mPk 10)))) mNil)))))) (mOr (mNot (mTru (mNow (mCall f__law_is (mCons (mNow (mVar 4)) (mCons (mNow (mVar 1)) mNil)))))) (mNot (mTru (mNow (mCall f__law_is (mCons (mNow (mVar 5)) (mCons (mNow (mVar 2)) mNil)))))))))
    (mRet (mCon (.bl false)))
    mSkip)
    (mSeq (mIfS (mNot (mTru (mNow (mCall f__law_like (mCons (mNow (mCall f_Question_meets (mCons (mNow (mInst 0 (mOp (p2 oIx) (mA2 (mPk 11) (mNow (mCon (.int 1))))))) (mCons (mNow (mVar 8)) (mCons (mNow (mVar 9)) mNil))))) (mCons (mNow (mOp (p2 oIn) (mA2 (mPk 7) (mNow (mOp (p2 oIx) (mA2 (mPk 6) (mPk 10))))))) mNil))))))
    (mRet (mCon (.bl false)))
    mSkip)
    (mSeq (mIfS (mAnd (mB (mOp (p2 oEq) (mA2 (mPk 10) (mNow (mCon (.int 4)))))) (mNot (mTru (mNow (mCall f__law_like (mCons (mNow (mCall f_Question_meets (mCons (mNow (mInst 0 (mOp (p2 oIx) (mA2 (mPk 11) (mNow (mCon (.int 1))))))) (mCons (mNow (mVar 9)) (mCons (mNow (mVar 8)) mNil))))) (mCons (mNow (mOp (p2 oIn) (mA2 (mPk 7) (mPk 1)))) mNil)))))))
    (mRet (mCon (.bl false)))
    mSkip)
    (mSeq (mIfS (mAnd (mB (mOp (p2 oEq) (mA2 (mPk 10) (mNow (mCon (.int 5)))))) (mNot (mTru (mNow (mCall f__law_like (mCons (mNow (mCall f_Question_meets (mCons (mNow (mInst 0 (mOp (p2 oIx) (mA2 (mPk 11) (mNow (mCon (.int 1))))))) (mCons (mNow (mTup (mCons (mNow (mOp (p1 oNeg) (mA1 (mNow (mOp (p2 oIx) (mA2 (mPk 8) (mNow (mCon (.int 1))))))))) (mCons (mNow (mOp (p1 oNeg) (mA1 (mNow (mOp (p2 oIx) (mA2 (mPk 8) (mNow (mCon (.int 0))))))))) mNil)))) (mCons (mNow (mTup (mCons (mNow (mOp (p1 oNeg) (mA1 (mNow (mOp (p2 oIx) (mA2 (mPk 9) (mNow (mCon (.int 1))))))))) (mCons (mNow (mOp (p1 oNeg) (mA1 (mNow (mOp (p2 oIx) (mA2 (mPk 9) (mNow (mCon (.int 0))))))))) mNil)))) mNil))))) (mCons (mNow (mOp (p2 oIn) (mA2 (mPk 7) (mPk 1)))) mNil)))))))
    (mRet (mCon (.bl false)))
    mSkip)
    (mIfS (mAnd (mB (mOp (p2 oGt) (mA2 (mPk 10) (mNow (mCon (.int 2)))))) (mNot (mTru (mNow (mCall f__law_is (mCons (mNow (mCall f__law_called (mCons (mNow (mVar 10)) (mCons (mNow (mOp (p2 oIx) (mA2 (mPk 11) (mNow (mCon (.int 1)))))) (mCons (mNow (mCon .non)) (mCons (mNow (mVar 3)) mNil)))))) (mCons (mNow (mVar 1)) mNil)))))))
    (mRet (mCon (.bl false)))
    mSkip)))))))
    (mRet (mCon (.bl true))))))))
def f__law_two_right : Fn := defG 4 12 b__law_two_right
theorem ok__law_two_right (E : Txt K mg T ad fd ca) : FnOk P w K mg base (L2.CX P w) 8 (ad 47) (fd 47) ["box", "some", "more", "named"] (spF K T 4 f__law_two_right) :=
  fn_ok (N := ["box", "some", "more", "named", "one", "other", "dues", "which", "x", "z", "door", "told"]) (ps := ["box", "some", "more", "named"]) (body := b__law_two_right) E.F__law_two_right sc__law_two_right fun cdv A outer s H Ex hr => by
    have tk : Takes (cxOf (L2.CX P w) P w K mg base ["box", "some", "more", "named", "one", "other", "dues", "which", "x", "z", "door", "told"] "_law_two_right" (defScope s__law_two_right) (ad 47) cdv A outer s H Ex) (fun cls d _ H => Ex cls d H) := takes_of rfl rfl rfl rfl
    exact (jss_cons (js_set (i := 4) sc__law_two_right.nd rfl (by first | exact Or.inl rfl | exact Or.inr rfl) (je_call (ok__law_made E) (hr.mono (by decide)) (by rfl) E.m__law_made E.k__law_made E.b__law_made (fun σ => passAt tk σ) (len_cons (len_cons len_nil)) (ja_cons (jg_io (pv 0)) (ja_cons (jg_now (je_var (pv 1))) ja_nil))))
    (jss_cons (js_set (i := 5) sc__law_two_right.nd rfl (by first | exact Or.inl rfl | exact Or.inr rfl) (je_if (jt_w (jw_and (jt_cmp (op_eqD hr.units) ok_eq (jg_pk (pv 1)) (jg_pk (pv 2)) (by rfl)) (jw_and1 (jt_cmp (op_eqD hr.units) ok_eq (jg_now (je_call (ok__law_take E) (hr.mono (by decide)) (by rfl) E.m__law_take E.k__law_take E.b__law_take (fun σ => passAt tk σ) (len_cons (len_cons len_nil)) (ja_cons (jg_io (pv 0)) (ja_cons (jg_now je_int) ja_nil)))) (jg_now je_int) (by rfl))))) (je_var (pv 4)) (je_call (ok__law_made E) (hr.mono (by decide)) (by rfl) E.m__law_made E.k__law_made E.b__law_made (fun σ => passAt tk σ) (len_cons (len_cons len_nil)) (ja_cons (jg_io (pv 0)) (ja_cons (jg_now (je_var (pv 2))) ja_nil)))))
    (jss_cons (js_par (i := 6) (j := 7) rfl sc__law_two_right.nd rfl rfl (by decide) rfl rfl (jx_d (je_call (ok__law_dues E) (hr.mono (by decide)) (by rfl) E.m__law_dues E.k__law_dues E.b__law_dues (fun σ => passAt tk σ) (len_cons (len_cons len_nil)) (ja_cons (jg_now (je_var (pv 1))) (ja_cons (jg_now (je_var (pv 2))) ja_nil)))) (jx_d (je_call (ok__law_take E) (hr.mono (by decide)) (by rfl) E.m__law_take E.k__law_take E.b__law_take (fun σ => passAt tk σ) (len_cons (len_cons len_nil)) (ja_cons (jg_io (pv 0)) (ja_cons (jg_now je_int) ja_nil)))) (by rfl))
    (jss_cons (js_asg (je_call (ok__law_pair E) (hr.mono (by decide)) (by rfl) E.m__law_pair E.k__law_pair E.b__law_pair (fun σ => passAt tk σ) (len_cons (len_cons len_nil)) (ja_cons (jg_io (pv 0)) (ja_cons (jg_now (je_var (pv 7))) ja_nil))) (jg_seq rfl (jgs_cons (jg_name (pg_name (i := 8) sc__law_two_right.nd rfl (by first | exact Or.inl rfl | exact Or.inr rfl))) (jgs_cons (jg_name (pg_name (i := 9) sc__law_two_right.nd rfl (by first | exact Or.inl rfl | exact Or.inr rfl))) jgs_nil))))
    (jss_cons (js_for (passes_of rfl) rfl (jp_seq (je_call (ok__law_mixed E) (hr.mono (by decide)) (by rfl) E.m__law_mixed E.k__law_mixed E.b__law_mixed (fun σ => passAt tk σ) (len_cons (len_cons len_nil)) (ja_cons (jg_io (pv 0)) (ja_cons (jg_now (je_fz (jl_listRng rfl E.g_list E.g_range (jg_now je_int)))) ja_nil)))) (jg_name (pg_name (i := 10) sc__law_two_right.nd rfl (by first | exact Or.inl rfl | exact Or.inr rfl)))
    (jss_cons (js_set (i := 11) sc__law_two_right.nd rfl (by first | exact Or.inl rfl | exact Or.inr rfl) (je_call (ok__law_said E) (hr.mono (by decide)) (by rfl) E.m__law_said E.k__law_said E.b__law_said (fun σ => passAt tk σ) (len_cons (len_cons (len_cons (len_cons len_nil)))) (ja_cons (jg_now (je_var (pv 10))) (ja_cons (jg_now (je_var (pv 4))) (ja_cons (jg_now (je_var (pv 5))) (ja_cons (jg_now (je_op2 op_modN ok_mod (jg_now (je_cty call_int1 ok_int1 (by rfl) E.g_int (by decide +kernel) (ja_cons (jg_now (je_op2 (or_or op_add op_add_str) ok_add (jg_pk (pv 3)) (jg_pk (pv 10)))) ja_nil))) (jg_now je_int))) ja_nil))))))
    (jss_cons (js_if (jt_w (jw_or (jt_cmp (op_neD hr.units) ok_ne (jg_now (je_ix ix_seq ok_ix (jg_pk (pv 11)) (jg_now je_int) (fun _ _ => rfl))) (jg_now je_str) (by rfl)) (jw_or (jt_not (jt_tru (jg_now (je_call (ok__law_is E) (hr.mono (by decide)) (by rfl) E.m__law_is E.k__law_is E.b__law_is (fun σ => passAt tk σ) (len_cons (len_cons len_nil)) (ja_cons (jg_now (je_ix ix_seq ok_ix (jg_pk (pv 11)) (jg_now je_int) (fun _ _ => rfl))) (ja_cons (jg_now (je_ix ix_seq ok_ix (jg_pk (pv 6)) (jg_pk (pv 10)) (fun _ _ => rfl))) ja_nil)))))) (jw_or (jt_not (jt_tru (jg_now (je_call (ok__law_is E) (hr.mono (by decide)) (by rfl) E.m__law_is E.k__law_is E.b__law_is (fun σ => passAt tk σ) (len_cons (len_cons len_nil)) (ja_cons (jg_now (je_var (pv 4))) (ja_cons (jg_now (je_var (pv 1))) ja_nil)))))) (jw_or1 (jt_not (jt_tru (jg_now (je_call (ok__law_is E) (hr.mono (by decide)) (by rfl) E.m__law_is E.k__law_is E.b__law_is (fun σ => passAt tk σ) (len_cons (len_cons len_nil)) (ja_cons (jg_now (je_var (pv 5))) (ja_cons (jg_now (je_var (pv 2))) ja_nil)))))))))))
    (jss_one (js_ret je_bl))
    jss_nil)
    (jss_cons (js_if (jt_not (jt_tru (jg_now (je_call (ok__law_like E) (hr.mono (by decide)) (by rfl) E.m__law_like E.k__law_like E.b__law_like (fun σ => passAt tk σ) (len_cons (len_cons len_nil)) (ja_cons (jg_now (je_meth (je_ix ix_seq ok_ix (jg_pk (pv 11)) (jg_now je_int) (fun _ _ => rfl)) E.cl_Question E.mt_Question_meets (by rw [E.at_Question]; decide +kernel) (ok_Question_meets E) (hr.mono (by decide)) E.b_Question_meets (fun σ => passAt tk σ) (len_cons (len_cons (len_cons len_nil))) (ja_cons (jg_now (je_var (pv 8))) (ja_cons (jg_now (je_var (pv 9))) ja_nil)))) (ja_cons (jg_now (je_cmp op_in_seq ok_in (jg_pk (pv 7)) (jg_now (je_ix ix_seq ok_ix (jg_pk (pv 6)) (jg_pk (pv 10)) (fun _ _ => rfl))) (by rfl))) ja_nil))))))
    (jss_one (js_ret je_bl))
    jss_nil)
    (jss_cons (js_if (jt_w (jw_and (jt_cmp (op_eqD hr.units) ok_eq (jg_pk (pv 10)) (jg_now je_int) (by rfl)) (jw_and1 (jt_not (jt_tru (jg_now (je_call (ok__law_like E) (hr.mono (by decide)) (by rfl) E.m__law_like E.k__law_like E.b__law_like (fun σ => passAt tk σ) (len_cons (len_cons len_nil)) (ja_cons (jg_now (je_meth (je_ix ix_seq ok_ix (jg_pk (pv 11)) (jg_now je_int) (fun _ _ => rfl)) E.cl_Question E.mt_Question_meets (by rw [E.at_Question]; decide +kernel) (ok_Question_meets E) (hr.mono (by decide)) E.b_Question_meets (fun σ => passAt tk σ) (len_cons (len_cons (len_cons len_nil))) (ja_cons (jg_now (je_var (pv 9))) (ja_cons (jg_now (je_var (pv 8))) ja_nil)))) (ja_cons (jg_now (je_cmp op_in_seq ok_in (jg_pk (pv 7)) (jg_pk (pv 1)) (by rfl))) ja_nil)))))))))
    (jss_one (js_ret je_bl))
    jss_nil)
    (jss_cons (js_if (jt_w (jw_and (jt_cmp (op_eqD hr.units) ok_eq (jg_pk (pv 10)) (jg_now je_int) (by rfl)) (jw_and1 (jt_not (jt_tru (jg_now (je_call (ok__law_like E) (hr.mono (by decide)) (by rfl) E.m__law_like E.k__law_like E.b__law_like (fun σ => passAt tk σ) (len_cons (len_cons len_nil)) (ja_cons (jg_now (je_meth (je_ix ix_seq ok_ix (jg_pk (pv 11)) (jg_now je_int) (fun _ _ => rfl)) E.cl_Question E.mt_Question_meets (by rw [E.at_Question]; decide +kernel) (ok_Question_meets E) (hr.mono (by decide)) E.b_Question_meets (fun σ => passAt tk σ) (len_cons (len_cons (len_cons len_nil))) (ja_cons (jg_now (je_tup (ja_cons (jg_now (je_op1 un_neg ok_un (jg_now (je_ix ix_seq ok_ix (jg_pk (pv 8)) (jg_now je_int) (fun _ _ => rfl))) (fun q => pe_un un_neg q))) (ja_cons (jg_now (je_op1 un_neg ok_un (jg_now (je_ix ix_seq ok_ix (jg_pk (pv 8)) (jg_now je_int) (fun _ _ => rfl))) (fun q => pe_un un_neg q))) ja_nil)))) (ja_cons (jg_now (je_tup (ja_cons (jg_now (je_op1 un_neg ok_un (jg_now (je_ix ix_seq ok_ix (jg_pk (pv 9)) (jg_now je_int) (fun _ _ => rfl))) (fun q => pe_un un_neg q))) (ja_cons (jg_now (je_op1 un_neg ok_un (jg_now (je_ix ix_seq ok_ix (jg_pk (pv 9)) (jg_now je_int) (fun _ _ => rfl))) (fun q => pe_un un_neg q))) ja_nil)))) ja_nil)))) (ja_cons (jg_now (je_cmp op_in_seq ok_in (jg_pk (pv 7)) (jg_pk (pv 1)) (by rfl))) ja_nil)))))))))
    (jss_one (js_ret je_bl))
    jss_nil)
    (jss_one (js_if (jt_w (jw_and (jt_cmp op_gt ok_cmp (jg_pk (pv 10)) (jg_now je_int) (by rfl)) (jw_and1 (jt_not (jt_tru (jg_now (je_call (ok__law_is E) (hr.mono (by decide)) (by rfl) E.m__law_is E.k__law_is E.b__law_is (fun σ => passAt tk σ) (len_cons (len_cons len_nil)) (ja_cons (jg_now (je_call (ok__law_called E) (hr.mono (by decide)) (by rfl) E.m__law_called E.k__law_called E.b__law_called (fun σ => passAt tk σ) (len_cons (len_cons (len_cons (len_cons len_nil)))) (ja_cons (jg_now (je_var (pv 10))) (ja_cons (jg_now (je_ix ix_seq ok_ix (jg_pk (pv 11)) (jg_now je_int) (fun _ _ => rfl))) (ja_cons (jg_now je_non) (ja_cons (jg_now (je_var (pv 3))) ja_nil)))))) (ja_cons (jg_now (je_var (pv 1))) ja_nil)))))))))
    (jss_one (js_ret je_bl))
    jss_nil))))))))
    (jss_one (js_ret je_bl)))))))
/-! ### law -/
theorem sc_law : FnScope ["script", "k", "box", "named", "turn", "some"] ["script"] (defScope s_law) := ⟨rfl, rfl, rfl, by decide +kernel, rfl, by decide +kernel, by decide +kernel⟩
def b_law : MS := (mSeq (mFor (miRng1 (mNow (mOp bMax2 (mCons (mNow (mCon (.int 2))) (mCons (mNow (mOp bMin2 (mCons (mNow (mCon (.int 3))) (mCons (mNow (mOp bLen (mCons (mPk 0) mNil))) mNil)))) mNil))))) (tgName 1)
    (mSeq (mAsgL 2 (mCallL f__law_box (mCons (mNow (mCall f__law_cell (mCons (mNow (mVar 0)) (mCons (mNow (mVar 1)) mNil)))) mNil)))
    (mSeq (mAsg (tgName 3) (mCall f__law_take (mCons (mIo 2) (mCons (mNow (mCon (.int 2))) mNil))))
    (mSeq (mFor (miRng1 (mNow (mCon (.int 4)))) (tgName 4)
    (mSeq (mAsg (tgName 5) (mCall f__law_drawn (mCons (mIo 2) (mCons (mNow (mFz (mLst (mCons (mNow (mCall f__law_take (mCons (mIo 2) (mCons (mNow (mCon (.int 13))) mNil)))) mNil)))) mNil))))
    (mIfS (mNot (mTru (mNow (mCall f__law_two_right (mCons (mIo 2) (mCons (mNow (mVar 5)) (mCons (mNow (mCall f__law_drawn (mCons (mIo 2) (mCons (mNow (mVar 5)) mNil)))) (mCons (mNow (mOp (p2 oMod) (mA2 (mNow (mOp bInt (mCons (mNow (mOp (p2 oAdd) (mA2 (mPk 3) (mPk 4)))) mNil))) (mNow (mCon (.int 2)))))) mNil))))))))
    (mRet (mCon (.bl false)))
    mSkip)))
    (mIfS (mNot (mTru (mNow (mCall f__law_refused_right (mCons (mIo 2) (mCons (mNow (mVar 5)) (mCons (mNow (mVar 3)) mNil)))))))
    (mRet (mCon (.bl false)))
    mSkip)))))
    (mRet (mCon (.bl true))))
def f_law : Fn := defG 1 6 b_law
theorem ok_law (E : Txt K mg T ad fd ca) : FnG P w K mg base (L2.CX P w) 9 (ad 48) (fd 48) ["script"] (spF K T 1 f_law) :=
  fn_okG (N := ["script", "k", "box", "named", "turn", "some"]) (ps := ["script"]) (body := b_law) E.F_law sc_law fun cdv A outer s H Ex hr hg => by
    have tk : Takes (cxOf (L2.CX P w) P w K mg base ["script", "k", "box", "named", "turn", "some"] "law" (defScope s_law) (ad 48) cdv A outer s H Ex) (fun cls d _ H => Ex cls d H) := takes_of rfl rfl rfl rfl
    exact (jss_cons (js_for (passes_of rfl) rfl (jr1 E.g_range (jg_now (je_cb (call_max2 rfl) ok_max2 (by rfl) E.g_max (by decide +kernel) (ja_cons (jg_now je_int) (ja_cons (jg_now (je_cb (call_min2 rfl) ok_min2 (by rfl) E.g_min (by decide +kernel) (ja_cons (jg_now je_int) (ja_cons (jg_now (je_cb call_len ok_len (by rfl) E.g_len (by decide +kernel) (ja_cons (jg_pk (pv 0)) ja_nil))) ja_nil)))) ja_nil))))) (jg_name (pg_name (i := 1) sc_law.nd rfl (by first | exact Or.inl rfl | exact Or.inr rfl)))
    (jss_cons (js_setL (i := 2) sc_law.nd rfl (by first | exact Or.inl rfl | exact Or.inr rfl) (jl_call (ok__law_box E) (hr.mono (by decide)) (by rfl) E.m__law_box E.k__law_box E.b__law_box (fun σ => passAt tk σ) (len_cons len_nil) (ja_cons (jg_now (je_call (ok__law_cell E) (hr.mono (by decide)) (by rfl) E.m__law_cell E.k__law_cell E.b__law_cell (fun σ => passAt tk σ) (len_cons (len_cons len_nil)) (ja_cons (jg_now (je_var (pv 0))) (ja_cons (jg_now (je_var (pv 1))) ja_nil)))) ja_nil)))
    (jss_cons (js_set (i := 3) sc_law.nd rfl (by first | exact Or.inl rfl | exact Or.inr rfl) (je_call (ok__law_take E) (hr.mono (by decide)) (by rfl) E.m__law_take E.k__law_take E.b__law_take (fun σ => passAt tk σ) (len_cons (len_cons len_nil)) (ja_cons (jg_io (pv 2)) (ja_cons (jg_now je_int) ja_nil))))
    (jss_cons (js_for (passes_of rfl) rfl (jr1 E.g_range (jg_now je_int)) (jg_name (pg_name (i := 4) sc_law.nd rfl (by first | exact Or.inl rfl | exact Or.inr rfl)))
    (jss_cons (js_set (i := 5) sc_law.nd rfl (by first | exact Or.inl rfl | exact Or.inr rfl) (je_call (ok__law_drawn E) (hr.mono (by decide)) (by rfl) E.m__law_drawn E.k__law_drawn E.b__law_drawn (fun σ => passAt tk σ) (len_cons (len_cons len_nil)) (ja_cons (jg_io (pv 2)) (ja_cons (jg_now (je_fz (jl_lst (ja_cons (jg_now (je_call (ok__law_take E) (hr.mono (by decide)) (by rfl) E.m__law_take E.k__law_take E.b__law_take (fun σ => passAt tk σ) (len_cons (len_cons len_nil)) (ja_cons (jg_io (pv 2)) (ja_cons (jg_now je_int) ja_nil)))) ja_nil)))) ja_nil))))
    (jss_one (js_if (jt_not (jt_tru (jg_now (je_call (ok__law_two_right E) (hr.mono (by decide)) (by rfl) E.m__law_two_right E.k__law_two_right E.b__law_two_right (fun σ => passAt tk σ) (len_cons (len_cons (len_cons (len_cons len_nil)))) (ja_cons (jg_io (pv 2)) (ja_cons (jg_now (je_var (pv 5))) (ja_cons (jg_now (je_call (ok__law_drawn E) (hr.mono (by decide)) (by rfl) E.m__law_drawn E.k__law_drawn E.b__law_drawn (fun σ => passAt tk σ) (len_cons (len_cons len_nil)) (ja_cons (jg_io (pv 2)) (ja_cons (jg_now (je_var (pv 5))) ja_nil)))) (ja_cons (jg_now (je_op2 op_modN ok_mod (jg_now (je_cty call_int1 ok_int1 (by rfl) E.g_int (by decide +kernel) (ja_cons (jg_now (je_op2 (or_or op_add op_add_str) ok_add (jg_pk (pv 3)) (jg_pk (pv 4)))) ja_nil))) (jg_now je_int))) ja_nil))))))))
    (jss_one (js_ret je_bl))
    jss_nil))))
    (jss_one (js_if (jt_not (jt_tru (jg_now (je_callG (ok__law_refused_right E) (hr.mono (by decide)) hg (by rfl) E.m__law_refused_right E.k__law_refused_right E.b__law_refused_right (fun σ => passAt tk σ) (len_cons (len_cons (len_cons len_nil))) (ja_cons (jg_io (pv 2)) (ja_cons (jg_now (je_var (pv 5))) (ja_cons (jg_now (je_var (pv 3))) ja_nil)))))))
    (jss_one (js_ret je_bl))
    jss_nil))))))
    (jss_one (js_ret je_bl)))
end
end K04
namespace K04
open PySem PySem.Spec PyProof.Rows L2 Ky
theorem fm_lo {a b : Int} (h : 0 < b) : 0 ≤ a.fmod b := Int.fmod_nonneg_of_pos a h
theorem fm_hi {a b : Int} (h : 0 < b) : a.fmod b < b := Int.fmod_lt_of_pos a h
theorem take_ok {a c n many : Int} {b : Bool} {S : List (List D)} (hm : 0 < many) (hm2 : many < 536870912) (hn : 0 ≤ n) (hn2 : n < 1073741824) (hc : 0 ≤ c) (hc2 : c < 2147483629) :
    ∃ r a' n', f__law_take ⟨[.own true [.int a, .bl b, .int c, .int n], .dat (.int many)], S⟩ = some (.dat (.int r), ⟨[.own true [.int a', .bl b, .int c, .int n'], .dat (.int many)], S⟩) ∧ 0 ≤ r ∧ r < many ∧ 0 ≤ n' ∧ n' ≤ n + 1 := by
  have hm0 : many ≠ 0 := by omega
  have hmn : many.natAbs < 1073741824 := by omega
  by_cases hb : b = true ∧ 0 < a
  · obtain ⟨rfl, ha⟩ := hb
    refine ⟨a.fmod many, a.fdiv many, n, ?_, fm_lo hm, fm_hi hm, hn, by omega⟩
    unfold f__law_take b__law_take
    simp [defG, pad, finL, res, Ev.get_mk, Ev.set_mk, Ev.length_mk, mSeq, mIfS, mAnd, mTru, mNow, mOp, mA2, mCons, mNil, mPk, look, worths, worth, p2, oIx, mCon, truth, mB, oCmp, atI, ixN, oInt, oIntIf, oUn, mAsg, tgName, free, mRet, mVar, mSet, bInt, mSkip, fin, hm0, hmn, ha]
  · have h1 : (c + 15486439 * (n + 1) + 179425043).natAbs < 2 ^ 64 := by
      have e : (2 : Nat) ^ 64 = 18446744073709551616 := by decide
      rw [e]
      omega
    have k0 := fm_lo (a := (c + 15486439 * (n + 1) + 179425043) ^ 5) (b := 2147483647) (by decide)
    have k1 := fm_hi (a := (c + 15486439 * (n + 1) + 179425043) ^ 5) (b := 2147483647) (by decide)
    have h2 : (((c + 15486439 * (n + 1) + 179425043) ^ 5).fmod 2147483647 * 48271 + 104729 * (n + 1)).natAbs < 2 ^ 64 := by
      have e : (2 : Nat) ^ 64 = 18446744073709551616 := by decide
      rw [e]
      omega
    refine ⟨((((((c + 15486439 * (n + 1) + 179425043) ^ 5).fmod 2147483647 * 48271 + 104729 * (n + 1)) ^ 3).fmod 2147483587).fdiv 64).fmod many, a, n + 1, ?_, fm_lo hm, fm_hi hm, by omega, by omega⟩
    unfold f__law_take b__law_take
    rcases Bool.eq_false_or_eq_true b with rfl | rfl
    · have ha : ¬ 0 < a := fun z => hb ⟨rfl, z⟩
      simp [defG, pad, finL, res, Ev.get_mk, Ev.set_mk, Ev.length_mk, mSeq, mIfS, mAnd, mTru, mNow, mOp, mA2, mCons, mNil, mPk, look, worths, worth, p2, oIx, mCon, truth, mB, oCmp, oAdd, atI, ixN, oInt, oIntIf, oUn, mAsg, tgName, free, mRet, mVar, mSet, bInt, mSkip, fin, hm0, hmn, ha, Ky.small64, h1, h2]
    · simp [defG, pad, finL, res, Ev.get_mk, Ev.set_mk, Ev.length_mk, mSeq, mIfS, mAnd, mTru, mNow, mOp, mA2, mCons, mNil, mPk, look, worths, worth, p2, oIx, mCon, truth, mB, oCmp, oAdd, atI, ixN, oInt, oIntIf, oUn, mAsg, tgName, free, mRet, mVar, mSet, bInt, mSkip, fin, hm0, hmn, Ky.small64, h1, h2]
end K04
namespace K04
open PySem PySem.Spec PyProof.Rows L2 Ky
/-- a box after at most N draws -/
def Bx (N : Nat) (ds : List D) : Prop := ∃ a b c n, ds = [.int a, .bl b, .int c, .int n] ∧ 0 ≤ c ∧ c < 2147483629 ∧ 0 ≤ n ∧ n ≤ (N : Int)
theorem Bx.mono {N M : Nat} {ds : List D} (h : Bx N ds) (hl : N ≤ M) : Bx M ds := by
  obtain ⟨a, b, c, n, e, h1, h2, h3, h4⟩ := h
  exact ⟨a, b, c, n, e, h1, h2, h3, by omega⟩
theorem take_bx {S : List (List D)} {N : Nat} {bx : List D} {many : Int} (h : Bx N bx) (hN : N < 1000000000) (hm : 0 < many) (hm2 : many < 536870912) :
    ∃ r bx', f__law_take ⟨[.own true bx, .dat (.int many)], S⟩ = some (.dat (.int r), ⟨[.own true bx', .dat (.int many)], S⟩) ∧ Bx (N + 1) bx' ∧ 0 ≤ r ∧ r < many := by
  obtain ⟨a, b, c, n, rfl, h1, h2, h3, h4⟩ := h
  obtain ⟨r, a', n', e, r1, r2, q1, q2⟩ := take_ok (a := a) (b := b) (S := S) hm hm2 h3 (by omega) h1 h2
  exact ⟨r, _, e, ⟨a', b, c, n', rfl, h1, h2, q1, by omega⟩, r1, r2⟩
/-- flat, to be compared -/
def Flat (d : D) : Prop := ∃ x, toPy d = some x ∧ PyData.canLay0 x = true ∧ PyData.depth x = 0
theorem flat_all : ∀ {ds : List D}, (∀ d ∈ ds, Flat d) → ∃ xs, toPys ds = some xs ∧ PyData.canLayAll0 xs = true ∧ PyData.depthAll xs = 0 ∧ xs.length = ds.length
  | [], _ => ⟨[], rfl, rfl, rfl, rfl⟩
  | d :: ds, h => by
    obtain ⟨x, h1, h2, h3⟩ := h d (.head _)
    obtain ⟨xs, k1, k2, k3, k4⟩ := flat_all (ds := ds) fun e he => h e (.tail _ he)
    refine ⟨x :: xs, by unfold toPys; rw [h1, k1], by unfold PyData.canLayAll0; rw [h2, k2]; rfl, by unfold PyData.depthAll; rw [h3, k3]; rfl, by simp [k4]⟩
theorem ne_nil {ds : List D} (h : ∀ d ∈ ds, Flat d) : oNe (.lst ds) (.lst []) = some (.bl (!ds.isEmpty)) := by
  obtain ⟨xs, k1, k2, k3, k4⟩ := flat_all h
  have e1 : toPy (.lst ds) = some (.list xs) := by unfold toPy; rw [k1]
  have e2 : toPy (.lst []) = some (.list []) := rfl
  have s1 : SeqAt.shaped (.list xs) = true := by
    unfold SeqAt.shaped PyData.canLay0 PyData.depth
    rw [k2, k3]
    rfl
  have s2 : SeqAt.shaped (.list []) = true := by decide
  unfold oNe eqD
  rw [e1, e2]
  simp only [s1, s2, Bool.and_self, if_true]
  cases xs with
  | nil =>
    cases ds with
    | nil => rfl
    | cons d ds => simp at k4
  | cons x xs =>
    cases ds with
    | nil => simp at k4
    | cons d ds => rfl
theorem erase_perm {α : Type} : ∀ (l : List α) (i : Nat) (h : i < l.length), (l[i] :: l.eraseIdx i).Perm l
  | a :: l, 0, _ => .refl _
  | a :: l, i + 1, h => (List.Perm.swap a _ _).trans ((erase_perm l i (by simpa using h)).cons a)
theorem mixed_loop {items : D} {S : List (List D)} : ∀ (m : Nat) (fuel N : Nat) (left found bx : List D), left.length = m → m < fuel → N + m < 1000000000 → found.length + m < 1000 → (∀ d ∈ left, Flat d) → Bx N bx →
    ∃ es bx', whileL (mB (mOp (p2 oNe) (mA2 (mPk 2) (mNow (mFz (mLst mNil)))))) (mApp 3 (mPopAt 2 (mCall f__law_take (mCons (mIo 0) (mCons (mNow (mOp bLen (mCons (mPk 2) mNil))) mNil))))) fuel
      ⟨[.own true bx, .dat items, .own false left, .own false found], S⟩ = some (.nx ⟨[.own true bx', .dat items, .own false [], .own false (found ++ es)], S⟩) ∧ es.Perm left ∧ Bx (N + m) bx'
  | 0, fuel, N, left, found, bx, hl, hf, hN, hs, fl, hb => by
    obtain rfl : left = [] := by simpa using hl
    obtain ⟨k, rfl⟩ : ∃ k, fuel = k + 1 := ⟨fuel - 1, by omega⟩
    refine ⟨[], bx, ?_, .nil, hb⟩
    have e : oNe (.lst []) (.lst []) = some (.bl false) := ne_nil fl
    simp [whileL, Ev.get_mk, Ev.set_mk, Ev.length_mk, res, pad, finL, argsOf, argsL, putBack, putL, mB, mOp, mA2, mCons, mPk, mNow, mFz, mLst, mNil, nows, look, worths, worth, p2, e]
  | m + 1, fuel, N, left, found, bx, hl, hf, hN, hs, fl, hb => by
    obtain ⟨k, rfl⟩ : ∃ k, fuel = k + 1 := ⟨fuel - 1, by omega⟩
    obtain ⟨r, bx1, e1, b1, r1, r2⟩ := take_bx (S := S) (many := (left.length : Int)) hb (by omega) (by omega) (by omega)
    have e0 : oNe (.lst left) (.lst []) = some (.bl true) := by
      rw [ne_nil fl]
      cases left with
      | nil => simp at hl
      | cons d ds => rfl
    have hr : r.toNat < left.length := by omega
    have ix : ixN left.length r = some r.toNat := by
      unfold ixN
      rw [if_pos r1, if_pos (by omega)]
    have lt : left.length < 100000 := by omega
    have lt2 : found.length < 100000 := by omega
    have per : (left[r.toNat] :: left.eraseIdx r.toNat).Perm left := erase_perm left r.toNat hr
    obtain ⟨es, bx', q1, q2, q3⟩ := mixed_loop (items := items) (S := S) m k (N + 1) (left.eraseIdx r.toNat) (found ++ [left[r.toNat]]) bx1 (by rw [List.length_eraseIdx_of_lt hr]; omega) (by omega) (by omega) (by simp; omega)
      (fun d hd => fl d (List.mem_of_mem_eraseIdx hd)) b1
    refine ⟨left[r.toNat] :: es, bx', ?_, (q2.cons _).trans per, q3.mono (by omega)⟩
    rw [List.append_assoc] at q1
    rw [← show [left[r.toNat]] ++ es = left[r.toNat] :: es from rfl, ← q1]
    conv => lhs; unfold whileL
    simp [Ev.get_mk, Ev.set_mk, Ev.length_mk, res, pad, finL, argsOf, argsL, putBack, putL, mB, mOp, mA2, mCons, mPk, mNow, mFz, mLst, mNil, nows, look, worths, worth, p2, e0, mApp, mPopAt, mCall, mIo, bLen, ios, e1, setO, ix, lt, lt2, hr]
theorem mixed_ok {S : List (List D)} {N : Nat} {bx ds : List D} (h : Bx N bx) (hN : N + ds.length < 1000000000) (hs : ds.length < 1000) (fl : ∀ d ∈ ds, Flat d) :
    ∃ es bx', f__law_mixed ⟨[.own true bx, .dat (.lst ds)], S⟩ = some (.own es, ⟨[.own true bx', .dat (.lst ds)], S⟩) ∧ es.Perm ds ∧ Bx (N + ds.length) bx' := by
  obtain ⟨es, bx', q1, q2, q3⟩ := mixed_loop (items := .lst ds) (S := S) ds.length 100000 N ds [] bx rfl (by omega) hN (by simpa using hs) fl h
  refine ⟨es, bx', ?_, q2, q3⟩
  unfold f__law_mixed b__law_mixed
  simp [defG, Ev.get_mk, Ev.set_mk, Ev.length_mk, res, pad, finL, argsOf, argsL, putBack, putL, mSeq, mPars, evP, mOpL, mCons, mPk, mNil, look, worths, worth, bLst, mLst, nows, storeP, scOf, free, mWhile, q1, mRetO, fin]
end K04
namespace K04
open PySem PySem.Spec PyProof.Rows L2 Ky
theorem eq_int {a b : Int} : oEq (.int a) (.int b) = some (.bl (decide (a = b))) := by
  unfold oEq eqD
  simp [toPy, SeqAt.shaped, PyData.canLay0, PyData.depth, PyData.eqv]
  rfl
theorem ne_int {a b : Int} : oNe (.int a) (.int b) = some (.bl (!decide (a = b))) := by
  unfold oNe eqD
  simp [toPy, SeqAt.shaped, PyData.canLay0, PyData.depth, PyData.eqv]
  rfl
def riseB : MS := (mSeq (mAsg (tgName 6) (mOp (p2 oIx) (mA2 (mNow (mFz (mLst (mCons (mNow (mCon (.int 1))) (mCons (mNow (mCon (.int 2))) (mCons (mNow (mOp (p2 oAdd) (mA2 (mNow (mCon (.int 1))) (mNow (mCall f__law_take (mCons (mIo 0) (mCons (mNow (mCon (.int 9))) mNil))))))) (mCons (mNow (mOp (p2 oAdd) (mA2 (mNow (mOp (p2 oPow) (mA2 (mNow (mCon (.int 10))) (mNow (mCon (.int 15)))))) (mNow (mCall f__law_take (mCons (mIo 0) (mCons (mNow (mCon (.int 1000))) mNil))))))) mNil))))))) (mNow (mCall f__law_take (mCons (mIo 0) (mCons (mNow (mCon (.int 4))) mNil)))))))
    (mSeq (mApp 3 (mVar 4))
    (mAsg (tgName 4) (mOp (p2 oAdd) (mA2 (mPk 4) (mNow (mIf (mB (mOp (p2 oEq) (mA2 (mPk 2) (mNow (mCon (.int 5)))))) (mCon (.int 1)) (mVar 6))))))))
def unD : SC → Prop
  | .un => True
  | .dat _ => True
  | _ => False
theorem rise_step {S : List (List D)} {N : Nat} {bx found : List D} {way at' : Int} {d1 dk : D} {c6 : SC} (hc6 : unD c6) (h : Bx N bx) (hN : N < 900000000) (hf : found.length < 90) :
    ∃ g e bx', riseB ⟨[.own true bx, .dat d1, .dat (.int way), .own false found, .dat (.int at'), .dat dk, c6], S⟩
    = some (.nx ⟨[.own true bx', .dat d1, .dat (.int way), .own false (found ++ [.int at']), .dat (.int (at' + g)), .dat dk, .dat e], S⟩) ∧ (1 ≤ g ∧ g ≤ 2000000000000000) ∧ Bx (N + 3) bx' := by
  obtain ⟨r1, b1, e1, h1, u1, v1⟩ := take_bx (S := S) (many := 9) h (by omega) (by decide) (by decide)
  obtain ⟨r2, b2, e2, h2, u2, v2⟩ := take_bx (S := S) (many := 1000) h1 (by omega) (by decide) (by decide)
  obtain ⟨r3, b3, e3, h3, u3, v3⟩ := take_bx (S := S) (many := 4) h2 (by omega) (by decide) (by decide)
  have hfl : found.length < 100000 := by omega
  have key : ∀ g : Int, (([.int 1, .int 2, .int (1 + r1), .int (1000000000000000 + r2)] : List D)[r3.toNat]?) = some (.int g) → ∃ g' e bx', riseB ⟨[.own true bx, .dat d1, .dat (.int way), .own false found, .dat (.int at'), .dat dk, c6], S⟩
    = some (.nx ⟨[.own true bx', .dat d1, .dat (.int way), .own false (found ++ [.int at']), .dat (.int (at' + g')), .dat dk, .dat e], S⟩) ∧ (g' = g ∨ g' = 1) ∧ Bx (N + 3) bx' := by
    intro g hg
    have ix : ixN 4 r3 = some r3.toNat := by
      unfold ixN
      rw [if_pos u3, if_pos (by omega)]
    obtain ⟨hb, hg'⟩ := List.getElem?_eq_some_iff.mp hg
    by_cases w5 : way = 5
    · refine ⟨1, .int g, b3, ?_, .inr rfl, h3⟩
      unfold riseB
      cases c6 with
      | own => cases hc6
      | un => simp [defG, mSeq, mIfS, mAnd, mOr, mNot, mTru, mNow, mOp, mOpL, mA2, mA1, mCons, mNil, mPk, mIo, mFz, mLst, mTup, mApp, mCall, nows, look, worths, worth, p2, p1, oIx, mCon, truth, mB, oCmp, oAdd, atI, ixN, oInt, oIntIf, oUn, mAsg, tgName, free, mRet, mVar, mSet, bInt, mSkip, fin, finL, pad, res, Ev.get_mk, Ev.set_mk, Ev.length_mk, argsOf, argsL, putBack, putL, ios, setO, mIf, mPars, evP, storeP, scOf, mRetO, e1, e2, e3, eq_int, w5, hfl, u3, v3, hg']
      | dat d => simp [defG, mSeq, mIfS, mAnd, mOr, mNot, mTru, mNow, mOp, mOpL, mA2, mA1, mCons, mNil, mPk, mIo, mFz, mLst, mTup, mApp, mCall, nows, look, worths, worth, p2, p1, oIx, mCon, truth, mB, oCmp, oAdd, atI, ixN, oInt, oIntIf, oUn, mAsg, tgName, free, mRet, mVar, mSet, bInt, mSkip, fin, finL, pad, res, Ev.get_mk, Ev.set_mk, Ev.length_mk, argsOf, argsL, putBack, putL, ios, setO, mIf, mPars, evP, storeP, scOf, mRetO, e1, e2, e3, eq_int, w5, hfl, u3, v3, hg']
    · refine ⟨g, .int g, b3, ?_, .inl rfl, h3⟩
      unfold riseB
      cases c6 with
      | own => cases hc6
      | un => simp [defG, mSeq, mIfS, mAnd, mOr, mNot, mTru, mNow, mOp, mOpL, mA2, mA1, mCons, mNil, mPk, mIo, mFz, mLst, mTup, mApp, mCall, nows, look, worths, worth, p2, p1, oIx, mCon, truth, mB, oCmp, oAdd, atI, ixN, oInt, oIntIf, oUn, mAsg, tgName, free, mRet, mVar, mSet, bInt, mSkip, fin, finL, pad, res, Ev.get_mk, Ev.set_mk, Ev.length_mk, argsOf, argsL, putBack, putL, ios, setO, mIf, mPars, evP, storeP, scOf, mRetO, e1, e2, e3, eq_int, w5, hfl, u3, v3, hg']
      | dat d => simp [defG, mSeq, mIfS, mAnd, mOr, mNot, mTru, mNow, mOp, mOpL, mA2, mA1, mCons, mNil, mPk, mIo, mFz, mLst, mTup, mApp, mCall, nows, look, worths, worth, p2, p1, oIx, mCon, truth, mB, oCmp, oAdd, atI, ixN, oInt, oIntIf, oUn, mAsg, tgName, free, mRet, mVar, mSet, bInt, mSkip, fin, finL, pad, res, Ev.get_mk, Ev.set_mk, Ev.length_mk, argsOf, argsL, putBack, putL, ios, setO, mIf, mPars, evP, storeP, scOf, mRetO, e1, e2, e3, eq_int, w5, hfl, u3, v3, hg']
  have ge : ∃ g : Int, (([.int 1, .int 2, .int (1 + r1), .int (1000000000000000 + r2)] : List D)[r3.toNat]?) = some (.int g) ∧ 1 ≤ g ∧ g ≤ 2000000000000000 := by
    obtain rfl | rfl | rfl | rfl : r3 = 0 ∨ r3 = 1 ∨ r3 = 2 ∨ r3 = 3 := by omega
    · exact ⟨1, rfl, by omega, by omega⟩
    · exact ⟨2, rfl, by omega, by omega⟩
    · exact ⟨1 + r1, rfl, by omega, by omega⟩
    · exact ⟨1000000000000000 + r2, rfl, by omega, by omega⟩
  obtain ⟨g, g1, g2⟩ := ge
  obtain ⟨g', e, bx', k1, k2, k3⟩ := key g g1
  exact ⟨g', e, bx', k1, ⟨by omega, by omega⟩, k3⟩
/-- numbers that are not far away -/
def Near (i : Int) : Prop := -2000000000000000000 ≤ i ∧ i ≤ 2000000000000000000
theorem rising_gen {S : List (List D)} {N : Nat} {bx : List D} (h : Bx N bx) (hN : N < 800000000) (m : Nat) (hm : m = 2 ∨ m = 4) :
    ∃ xs bx', f__law_rising ⟨[.own true bx, .dat (.int (m : Nat))], S⟩ = some (.own (xs.map D.int), ⟨[.own true bx', .dat (.int (m : Nat))], S⟩) ∧ (∀ x ∈ xs, Near x) ∧ ((m = 2 ∧ ∃ a b, xs = [a, b] ∧ a < b) ∨ (m = 4 ∧ ∃ a b c d, xs = [a, b, c, d] ∧ a < b ∧ b < c ∧ c < d)) ∧ Bx (N + 14) bx' := by
  obtain ⟨r1, b1, e1, h1, u1, v1⟩ := take_bx (S := S) (many := 6) h (by omega) (by decide) (by decide)
  obtain ⟨r2, b2, e2, h2, u2, v2⟩ := take_bx (S := S) (many := 1000) h1 (by omega) (by decide) (by decide)
  obtain ⟨a, ha, ha2⟩ : ∃ a : Int, (([.int 0, .int (-3), .int (-1000000000000000000), .int 100000000000000000, .int (r2 - 500), .int (-1)] : List D)[r1.toNat]?) = some (.int a) ∧ -1000000000000000000 ≤ a ∧ a ≤ 100000000000000000 := by
    obtain rfl | rfl | rfl | rfl | rfl | rfl : r1 = 0 ∨ r1 = 1 ∨ r1 = 2 ∨ r1 = 3 ∨ r1 = 4 ∨ r1 = 5 := by omega
    · exact ⟨_, rfl, by omega, by omega⟩
    · exact ⟨_, rfl, by omega, by omega⟩
    · exact ⟨_, rfl, by omega, by omega⟩
    · exact ⟨_, rfl, by omega, by omega⟩
    · exact ⟨_, rfl, by omega, by omega⟩
    · exact ⟨_, rfl, by omega, by omega⟩
  obtain ⟨hb, ha'⟩ := List.getElem?_eq_some_iff.mp ha
  obtain ⟨g1, x1, c1, q1, l1, k1⟩ := rise_step (S := S) (d1 := .int (m : Nat)) (dk := .int 0) (way := r1) (at' := a) (found := []) (c6 := .un) trivial h2 (by omega) (by simp)
  obtain ⟨g2, x2, c2, q2, l2, k2⟩ := rise_step (S := S) (d1 := .int (m : Nat)) (dk := .int 1) (way := r1) (at' := a + g1) (found := [.int a]) (c6 := .dat x1) trivial k1 (by omega) (by simp)
  rcases hm with rfl | rfl
  · refine ⟨[a, a + g1], c2, ?_, ?_, .inl ⟨rfl, _, _, rfl, by omega⟩, k2.mono (by omega)⟩
    rotate_left
    · intro x hx
      simp only [List.mem_cons, List.not_mem_nil, or_false] at hx
      unfold Near
      rcases hx with rfl | rfl <;> omega
    · have u : upTo 0 2 = [.int 0, .int 1] := rfl
      unfold f__law_rising b__law_rising
      change defG 2 7 (mSeq _ (mSeq _ (mSeq (mFor _ _ riseB) _))) _ = _
      simp only [List.nil_append, List.cons_append, show ((2 : Nat) : Int) = 2 from rfl] at q1 q2
      simp [defG, mSeq, mIfS, mAnd, mOr, mNot, mTru, mNow, mOp, mOpL, mA2, mA1, mCons, mNil, mPk, mIo, mFz, mLst, mTup, mApp, mCall, nows, look, worths, worth, p2, p1, oIx, mCon, truth, mB, oCmp, oAdd, atI, ixN, oInt, oIntIf, oUn, mAsg, tgName, free, mRet, mVar, mSet, bInt, mSkip, fin, finL, pad, res, Ev.get_mk, Ev.set_mk, Ev.length_mk, argsOf, argsL, putBack, putL, ios, setO, mIf, mPars, evP, storeP, scOf, mRetO, e1, e2, u1, v1, ha', mFor, miRng1, small62, forL, u, q1, q2]
  · obtain ⟨g3, x3, c3, q3, l3, k3⟩ := rise_step (S := S) (d1 := .int (4 : Nat)) (dk := .int 2) (way := r1) (at' := a + g1 + g2) (found := [.int a, .int (a + g1)]) (c6 := .dat x2) trivial k2 (by omega) (by simp)
    obtain ⟨g4, x4, c4, q4, l4, k4⟩ := rise_step (S := S) (d1 := .int (4 : Nat)) (dk := .int 3) (way := r1) (at' := a + g1 + g2 + g3) (found := [.int a, .int (a + g1), .int (a + g1 + g2)]) (c6 := .dat x3) trivial k3 (by omega) (by simp)
    refine ⟨[a, a + g1, a + g1 + g2, a + g1 + g2 + g3], c4, ?_, ?_, .inr ⟨rfl, _, _, _, _, rfl, by omega, by omega, by omega⟩, k4⟩
    rotate_left
    · intro x hx
      simp only [List.mem_cons, List.not_mem_nil, or_false] at hx
      unfold Near
      rcases hx with rfl | rfl | rfl | rfl <;> omega
    · have u : upTo 0 4 = [.int 0, .int 1, .int 2, .int 3] := rfl
      unfold f__law_rising b__law_rising
      change defG 2 7 (mSeq _ (mSeq _ (mSeq (mFor _ _ riseB) _))) _ = _
      simp only [List.nil_append, List.cons_append, show ((4 : Nat) : Int) = 4 from rfl] at q1 q2 q3 q4
      simp [defG, mSeq, mIfS, mAnd, mOr, mNot, mTru, mNow, mOp, mOpL, mA2, mA1, mCons, mNil, mPk, mIo, mFz, mLst, mTup, mApp, mCall, nows, look, worths, worth, p2, p1, oIx, mCon, truth, mB, oCmp, oAdd, atI, ixN, oInt, oIntIf, oUn, mAsg, tgName, free, mRet, mVar, mSet, bInt, mSkip, fin, finL, pad, res, Ev.get_mk, Ev.set_mk, Ev.length_mk, argsOf, argsL, putBack, putL, ios, setO, mIf, mPars, evP, storeP, scOf, mRetO, e1, e2, u1, v1, ha', mFor, miRng1, small62, forL, u, q1, q2, q3, q4]
end K04
namespace K04
open PySem PySem.Spec PyProof.Rows L2 Ky
theorem like_is : f__law_like = defG 2 6 (lqB [0]) := rfl
theorem like_self {S : List (List D)} {d : D} (h : niD 9 d = true) (hs : szD d < 50000) : f__law_like ⟨[.dat d, .dat d], S⟩ = some (.dat (.bl true), ⟨[.dat d, .dat d], S⟩) := likeq_ok (by decide) h hs
def plc (m s e : Int) : Int := if m ≤ s then (if m < s then 0 else 1) else if m < e then 2 else if m = e then 3 else 4
theorem place_ok {S : List (List D)} {m s e : Int} : f_place ⟨[.dat (.int m), .dat (.tup [.int s, .int e])], S⟩ = some (.dat (.int (plc m s e)), ⟨[.dat (.int m), .dat (.tup [.int s, .int e])], S⟩) := by
  unfold f_place b_place plc
  have g : (tgSeq [(tgName 2), (tgName 3)]).go (.tup [.int s, .int e]) ⟨[.dat (.int m), .dat (.tup [.int s, .int e]), .un, .un], S⟩ = some ⟨[.dat (.int m), .dat (.tup [.int s, .int e]), .dat (.int s), .dat (.int e)], S⟩ := rfl
  by_cases h1 : m ≤ s
  · by_cases h2 : m < s
    · simp [defG, mSeq, mIfS, mAnd, mOr, mNot, mTru, mNow, mOp, mOpL, mA2_ap, mA1_ap, mCons, mNil, mPk, mIo, mFz, mLst, mTup, mApp, mCall, nows, look, worths, worth, p2, p1, ix_l, ix_t, mCon, tr_b, mB, cm_i, ad_i, atI, ixN, in_i, if_i, un_i, mAsg, go_name, sl_name, free, mRet, mVar, mSet, bInt, mSkip, fin, finL, pad, res_int, res_str, res_bl, res_non, res_dic, res_lst, res_tup, Ev.get_mk, Ev.set_mk, Ev.length_mk, argsOf, argsL, putBack, putL, ios, setO, mIf, mPars, evP, storeP, scOf, mRetO, g, h1, h2]
    · simp [defG, mSeq, mIfS, mAnd, mOr, mNot, mTru, mNow, mOp, mOpL, mA2_ap, mA1_ap, mCons, mNil, mPk, mIo, mFz, mLst, mTup, mApp, mCall, nows, look, worths, worth, p2, p1, ix_l, ix_t, mCon, tr_b, mB, cm_i, ad_i, atI, ixN, in_i, if_i, un_i, mAsg, go_name, sl_name, free, mRet, mVar, mSet, bInt, mSkip, fin, finL, pad, res_int, res_str, res_bl, res_non, res_dic, res_lst, res_tup, Ev.get_mk, Ev.set_mk, Ev.length_mk, argsOf, argsL, putBack, putL, ios, setO, mIf, mPars, evP, storeP, scOf, mRetO, g, h1, h2]
  · by_cases h2 : m < e
    · simp [defG, mSeq, mIfS, mAnd, mOr, mNot, mTru, mNow, mOp, mOpL, mA2_ap, mA1_ap, mCons, mNil, mPk, mIo, mFz, mLst, mTup, mApp, mCall, nows, look, worths, worth, p2, p1, ix_l, ix_t, mCon, tr_b, mB, cm_i, ad_i, atI, ixN, in_i, if_i, un_i, mAsg, go_name, sl_name, free, mRet, mVar, mSet, bInt, mSkip, fin, finL, pad, res_int, res_str, res_bl, res_non, res_dic, res_lst, res_tup, Ev.get_mk, Ev.set_mk, Ev.length_mk, argsOf, argsL, putBack, putL, ios, setO, mIf, mPars, evP, storeP, scOf, mRetO, g, h1, h2]
    · by_cases h3 : m = e
      · subst h3
        simp [defG, mSeq, mIfS, mAnd, mOr, mNot, mTru, mNow, mOp, mOpL, mA2_ap, mA1_ap, mCons, mNil, mPk, mIo, mFz, mLst, mTup, mApp, mCall, nows, look, worths, worth, p2, p1, ix_l, ix_t, mCon, tr_b, mB, cm_i, ad_i, atI, ixN, in_i, if_i, un_i, mAsg, go_name, sl_name, free, mRet, mVar, mSet, bInt, mSkip, fin, finL, pad, res_int, res_str, res_bl, res_non, res_dic, res_lst, res_tup, Ev.get_mk, Ev.set_mk, Ev.length_mk, argsOf, argsL, putBack, putL, ios, setO, mIf, mPars, evP, storeP, scOf, mRetO, g, h1, K04.eq_int]
      · simp [defG, mSeq, mIfS, mAnd, mOr, mNot, mTru, mNow, mOp, mOpL, mA2_ap, mA1_ap, mCons, mNil, mPk, mIo, mFz, mLst, mTup, mApp, mCall, nows, look, worths, worth, p2, p1, ix_l, ix_t, mCon, tr_b, mB, cm_i, ad_i, atI, ixN, in_i, if_i, un_i, mAsg, go_name, sl_name, free, mRet, mVar, mSet, bInt, mSkip, fin, finL, pad, res_int, res_str, res_bl, res_non, res_dic, res_lst, res_tup, Ev.get_mk, Ev.set_mk, Ev.length_mk, argsOf, argsL, putBack, putL, ios, setO, mIf, mPars, evP, storeP, scOf, mRetO, g, h1, h2, h3, K04.eq_int]
/-- the number of a relation by the places of the two ends -/
def relT : List (Int × Int × Nat) := [(0, 0, 0), (0, 1, 1), (0, 2, 2), (0, 3, 3), (0, 4, 4), (1, 2, 5), (1, 3, 6), (1, 4, 7), (2, 2, 8), (2, 3, 9), (2, 4, 10), (3, 4, 11), (4, 4, 12)]
def names : List Str := ["before", "meets", "overlaps", "ended", "holds", "starts", "equal", "started", "during", "ends", "lapped", "met", "after"]
theorem is_stay_ok {S : List (List D)} {a b : Int} (h : a < b) : f_is_stay ⟨[.dat (.tup [.int a, .int b])], S⟩ = some (.dat (.bl true), ⟨[.dat (.tup [.int a, .int b])], S⟩) := by
  have w : ∀ (i : Int) S, f_is_whole ⟨[.dat (.int i)], S⟩ = some (.dat (.bl true), ⟨[.dat (.int i)], S⟩) := fun i S => rfl
  have t : f_is_tuple_of ⟨[.dat (.tup [.int a, .int b]), .dat (.int 2)], S⟩ = some (.dat (.bl true), ⟨[.dat (.tup [.int a, .int b]), .dat (.int 2)], S⟩) := rfl
  have h14 : f_is_stay_h18 ⟨[.dat (.tup [.int a, .int b])], S⟩ = some (.dat (.bl true), ⟨[.dat (.tup [.int a, .int b])], S⟩) := by
    have c : mComp (miSeq (mVar 0)) (tgName 1) [1] mYes (mCall f_is_whole (mCons (mNow (mVar 1)) mNil)) ⟨[.dat (.tup [.int a, .int b]), .un], S⟩ = some (.ok [.bl true, .bl true] ⟨[.dat (.tup [.int a, .int b]), .un], S⟩) := rfl
    unfold f_is_stay_h18 b_is_stay_h18
    simp [defG, mSeq, mIfS, mAnd, mOr, mNot, mTru, mNow, mOp, mOpL, mA2_ap, mA1_ap, mCons, mNil, mPk, mIo, mFz, mLst, mTup, mApp, mCall, nows, look, worths, worth, p2, p1, ix_l, ix_t, mCon, tr_b, mB, cm_i, ad_i, atI, ixN, in_i, if_i, un_i, mAsg, go_name, sl_name, free, mRet, mVar, mSet, bInt, mSkip, fin, finL, pad, res_int, res_str, res_bl, res_non, res_dic, res_lst, res_tup, Ev.get_mk, Ev.set_mk, Ev.length_mk, argsOf, argsL, putBack, putL, ios, setO, mIf, mPars, evP, storeP, scOf, mRetO, t, c, mAndV, bAll, boolsD, h]
  unfold f_is_stay b_is_stay
  simp [defG, mSeq, mIfS, mAnd, mOr, mNot, mTru, mNow, mOp, mOpL, mA2_ap, mA1_ap, mCons, mNil, mPk, mIo, mFz, mLst, mTup, mApp, mCall, nows, look, worths, worth, p2, p1, ix_l, ix_t, mCon, tr_b, mB, cm_i, ad_i, atI, ixN, in_i, if_i, un_i, mAsg, go_name, sl_name, free, mRet, mVar, mSet, bInt, mSkip, fin, finL, pad, res_int, res_str, res_bl, res_non, res_dic, res_lst, res_tup, Ev.get_mk, Ev.set_mk, Ev.length_mk, argsOf, argsL, putBack, putL, ios, setO, mIf, mPars, evP, storeP, scOf, mRetO, h14]
theorem num_ok {S : List (List D)} {a b s e p q : Int} {r : Nat} (hp : plc a s e = p) (hq : plc b s e = q) (h : (p, q, r) ∈ relT) :
    f_number_of ⟨[.dat (.tup [.int a, .int b]), .dat (.tup [.int s, .int e])], S⟩ = some (.dat (.int (r : Nat)), ⟨[.dat (.tup [.int a, .int b]), .dat (.tup [.int s, .int e])], S⟩) := by
  have e1 := place_ok (S := S) (m := a) (s := s) (e := e)
  have e2 := place_ok (S := S) (m := b) (s := s) (e := e)
  rw [hp] at e1
  rw [hq] at e2
  have k : ∃ d, oIx d_NUMBERS (.int p) = some d ∧ oIx d (.int q) = some (.int (r : Nat)) ∧ (∀ S, res S d = d) := by
    clear e1 e2 hp hq
    unfold relT at h
    repeat
      rcases List.mem_cons.mp h with z | h
      · cases z
        exact ⟨_, rfl, rfl, fun _ => rfl⟩
    cases h
  obtain ⟨d, k1, k2, k3⟩ := k
  have o1 : mOp (p2 oIx) (mA2 (mNow (mCon d_NUMBERS)) (mNow (mCall f_place (mCons (mNow (mOp (p2 oIx) (mA2 (mPk 0) (mNow (mCon (.int 0)))))) (mCons (mNow (mVar 1)) mNil))))) ⟨[.dat (.tup [.int a, .int b]), .dat (.tup [.int s, .int e])], S⟩ = some (.ok d ⟨[.dat (.tup [.int a, .int b]), .dat (.tup [.int s, .int e])], S⟩) := by
    have nr : ∀ Γ, res Γ d_NUMBERS = d_NUMBERS := fun _ => rfl
    generalize d_NUMBERS = N at k1 nr ⊢
    simp [defG, mSeq, mIfS, mAnd, mOr, mNot, mTru, mNow, mOp, mOpL, mA2_ap, mA1_ap, mCons, mNil, mPk, mIo, mFz, mLst, mTup, mApp, mCall, nows, look, worths, worth, p2, p1, ix_l, ix_t, mCon, tr_b, mB, cm_i, ad_i, atI, ixN, in_i, if_i, un_i, mAsg, go_name, sl_name, free, mRet, mVar, mSet, bInt, mSkip, fin, finL, pad, res_int, res_str, res_bl, res_non, res_dic, res_lst, res_tup, Ev.get_mk, Ev.set_mk, Ev.length_mk, argsOf, argsL, putBack, putL, ios, setO, mIf, mPars, evP, storeP, scOf, mRetO, e1, nr, k1]
  unfold f_number_of b_number_of
  generalize mOp (p2 oIx) (mA2 (mNow (mCon d_NUMBERS)) _) = O at o1 ⊢
  simp [defG, mSeq, mIfS, mAnd, mOr, mNot, mTru, mNow, mOp, mOpL, mA2_ap, mA1_ap, mCons, mNil, mPk, mIo, mFz, mLst, mTup, mApp, mCall, nows, look, worths, worth, p2, p1, ix_l, ix_t, mCon, tr_b, mB, cm_i, ad_i, atI, ixN, in_i, if_i, un_i, mAsg, go_name, sl_name, free, mRet, mVar, mSet, bInt, mSkip, fin, finL, pad, res_int, res_str, res_bl, res_non, res_dic, res_lst, res_tup, Ev.get_mk, Ev.set_mk, Ev.length_mk, argsOf, argsL, putBack, putL, ios, setO, mIf, mPars, evP, storeP, scOf, mRetO, o1, e2, k3, k2]
theorem check_ok {S : List (List D)} {a b s e : Int} (h1 : a < b) (h2 : s < e) : f_check_stays ⟨[.dat (.tup [.int a, .int b]), .dat (.tup [.int s, .int e])], S⟩ = some (.dat .non, ⟨[.dat (.tup [.int a, .int b]), .dat (.tup [.int s, .int e])], S⟩) := by
  have s1 := is_stay_ok (S := S) h1
  have s2 := is_stay_ok (S := S) h2
  unfold f_check_stays b_check_stays
  simp [defG, mSeq, mIfS, mAnd, mOr, mNot, mTru, mNow, mOp, mOpL, mA2_ap, mA1_ap, mCons, mNil, mPk, mIo, mFz, mLst, mTup, mApp, mCall, nows, look, worths, worth, p2, p1, ix_l, ix_t, mCon, tr_b, mB, cm_i, ad_i, atI, ixN, in_i, if_i, un_i, mAsg, go_name, sl_name, free, mRet, mVar, mSet, bInt, mSkip, fin, finL, pad, res_int, res_str, res_bl, res_non, res_dic, res_lst, res_tup, Ev.get_mk, Ev.set_mk, Ev.length_mk, argsOf, argsL, putBack, putL, ios, setO, mIf, mPars, evP, storeP, scOf, mRetO, s1, s2]
end K04
namespace K04
open PySem PySem.Spec PyProof.Rows L2 Ky
def nm (i : Nat) : Str := names.getD i ""
theorem nm_some {r : Nat} (h : r < 13) : names[r]? = some (nm r) := by
  unfold nm
  rw [List.getD_eq_getElem?_getD, List.getElem?_eq_getElem (show r < names.length from h)]
  rfl
theorem nm_ok {r : Nat} (h : r < 13) : PyData.canLay0 (.str (nm r)) = true := match r, h with
  | 0, _ => by decide +kernel
  | 1, _ => by decide +kernel
  | 2, _ => by decide +kernel
  | 3, _ => by decide +kernel
  | 4, _ => by decide +kernel
  | 5, _ => by decide +kernel
  | 6, _ => by decide +kernel
  | 7, _ => by decide +kernel
  | 8, _ => by decide +kernel
  | 9, _ => by decide +kernel
  | 10, _ => by decide +kernel
  | 11, _ => by decide +kernel
  | 12, _ => by decide +kernel
  | r + 13, h => absurd h (by omega)
def wordsD : List D := names.map D.str
theorem words_ok {S : List (List D)} : f__law_words ⟨[], S⟩ = some (.own wordsD, ⟨[], S⟩) := rfl
theorem words_ix {r : Nat} (h : r < 13) : oIx (.lst wordsD) (.int (r : Nat)) = some (.str (nm r)) := match r, h with
  | 0, _ => rfl
  | 1, _ => rfl
  | 2, _ => rfl
  | 3, _ => rfl
  | 4, _ => rfl
  | 5, _ => rfl
  | 6, _ => rfl
  | 7, _ => rfl
  | 8, _ => rfl
  | 9, _ => rfl
  | 10, _ => rfl
  | 11, _ => rfl
  | 12, _ => rfl
  | r + 13, h => absurd h (by omega)
def nt (i : Nat) : D := .lst [.str "told", .str (nm i)]
theorem nt_ni {r : Nat} (n : Nat) (h : r < 13) : niD (n + 1) (nt r) = true := by
  show (PyData.canLay0 (.str "told") && (PyData.canLay0 (.str (nm r)) && true)) = true
  rw [nm_ok h]
  decide +kernel
def rkD : List D := [.tup [.int 0, .int 1, .int 2, .int 3], .tup [.int 0, .int 1, .int 1, .int 2], .tup [.int 0, .int 2, .int 1, .int 3], .tup [.int 0, .int 2, .int 1, .int 2], .tup [.int 0, .int 3, .int 1, .int 2], .tup [.int 0, .int 1, .int 0, .int 2], .tup [.int 0, .int 1, .int 0, .int 1], .tup [.int 0, .int 2, .int 0, .int 1], .tup [.int 1, .int 2, .int 0, .int 3], .tup [.int 1, .int 2, .int 0, .int 2], .tup [.int 1, .int 3, .int 0, .int 2], .tup [.int 1, .int 2, .int 0, .int 1], .tup [.int 2, .int 3, .int 0, .int 1]]
theorem ranks_ok {S : List (List D)} : f__law_ranks ⟨[], S⟩ = some (.dat (.lst rkD), ⟨[], S⟩) := rfl
theorem pair_gen {S : List (List D)} {N : Nat} {bx : List D} {w : Nat} {i j k l : Nat} (h : Bx N bx) (hN : N < 800000000) (hw : oIx (.lst rkD) (.int (w : Nat)) = some (.tup [.int (i : Nat), .int (j : Nat), .int (k : Nat), .int (l : Nat)])) (hi : i < 4) (hj : j < 4) (hk : k < 4) (hl : l < 4) :
    ∃ a b c d bx', f__law_pair ⟨[.own true bx, .dat (.int (w : Nat))], S⟩ = some (.own [.tup [([.int a, .int b, .int c, .int d] : List D).getD i .non, ([.int a, .int b, .int c, .int d] : List D).getD j .non], .tup [([.int a, .int b, .int c, .int d] : List D).getD k .non, ([.int a, .int b, .int c, .int d] : List D).getD l .non]], ⟨[.own true bx', .dat (.int (w : Nat))], S⟩) ∧ a < b ∧ b < c ∧ c < d ∧ Bx (N + 14) bx' := by
  obtain ⟨xs, bx', e, _, z, h'⟩ := rising_gen (S := S) h hN 4 (.inr rfl)
  obtain ⟨z, _⟩ | ⟨_, a, b, c, d, rfl, l1, l2, l3⟩ := z
  · cases z
  simp only [List.map_cons, List.map_nil, show ((4 : Nat) : Int) = 4 from rfl] at e
  refine ⟨a, b, c, d, bx', ?_, l1, l2, l3, h'⟩
  have rk := ranks_ok (S := S)
  have nr : ∀ Γ, res Γ (.lst rkD) = .lst rkD := fun _ => rfl
  have ix : ∀ m : Nat, m < 4 → oIx (.lst [.int a, .int b, .int c, .int d]) (.int (m : Nat)) = some (([.int a, .int b, .int c, .int d] : List D).getD m .non) := by
    intro m hm
    match m, hm with
    | 0, _ => rfl
    | 1, _ => rfl
    | 2, _ => rfl
    | 3, _ => rfl
    | m + 4, hm => omega
  have i1 := ix i hi
  have i2 := ix j hj
  have i3 := ix k hk
  have i4 := ix l hl
  generalize ([.int a, .int b, .int c, .int d] : List D).getD i .non = x1 at i1 ⊢
  generalize ([.int a, .int b, .int c, .int d] : List D).getD j .non = x2 at i2 ⊢
  generalize ([.int a, .int b, .int c, .int d] : List D).getD k .non = x3 at i3 ⊢
  generalize ([.int a, .int b, .int c, .int d] : List D).getD l .non = x4 at i4 ⊢
  clear ix
  have cc : mComp (miSeq (mOp (p2 oIx) (mA2 (mNow (mCall f__law_ranks mNil)) (mPk 1)))) (tgName 7) [7] mYes (mOp (p2 oIx) (mA2 (mPk 2) (mPk 7))) ⟨[.own true bx', .dat (.int (w : Nat)), .dat (.lst [.int a, .int b, .int c, .int d]), .un, .un, .un, .un, .un], S⟩
    = some (.ok [x1, x2, x3, x4] ⟨[.own true bx', .dat (.int (w : Nat)), .dat (.lst [.int a, .int b, .int c, .int d]), .un, .un, .un, .un, .un], S⟩) := by
    generalize rkD = R at rk hw nr
    generalize ([.int a, .int b, .int c, .int d] : List D) = L at i1 i2 i3 i4 ⊢
    have sq : miSeq (mOp (p2 oIx) (mA2 (mNow (mCall f__law_ranks mNil)) (mPk 1))) ⟨[.own true bx', .dat (.int (w : Nat)), .dat (.lst L), .un, .un, .un, .un, .un], S⟩ = some (.ok [.int (i : Nat), .int (j : Nat), .int (k : Nat), .int (l : Nat)] ⟨[.own true bx', .dat (.int (w : Nat)), .dat (.lst L), .un, .un, .un, .un, .un], S⟩) := by
      simp [miSeq, defG, mSeq, mIfS, mAnd, mOr, mNot, mTru, mNow, mOp, mOpL, mA2_ap, mA1_ap, mCons, mNil, mPk, mIo, mFz, mLst, mTup, mApp, mCall, nows, look, worths, worth, p2, p1, ix_l, ix_t, mCon, tr_b, mB, cm_i, ad_i, atI, ixN, in_i, if_i, un_i, mAsg, go_name, sl_name, free, mRet, mVar, mSet, bInt, mSkip, fin, finL, pad, res_int, res_str, res_bl, res_non, res_dic, res_lst, res_tup, Ev.get_mk, Ev.set_mk, Ev.length_mk, argsOf, argsL, putBack, putL, ios, setO, mIf, mPars, evP, storeP, scOf, mRetO, rk, hw, nr, seqD]
    unfold mComp
    simp [sq, compL, mYes, lend, lendL, unlend, unlendL, wipeE, defG, mSeq, mIfS, mAnd, mOr, mNot, mTru, mNow, mOp, mOpL, mA2_ap, mA1_ap, mCons, mNil, mPk, mIo, mFz, mLst, mTup, mApp, mCall, nows, look, worths, worth, p2, p1, ix_l, ix_t, mCon, tr_b, mB, cm_i, ad_i, atI, ixN, in_i, if_i, un_i, mAsg, go_name, sl_name, free, mRet, mVar, mSet, bInt, mSkip, fin, finL, pad, res_int, res_str, res_bl, res_non, res_dic, res_lst, res_tup, Ev.get_mk, Ev.set_mk, Ev.length_mk, argsOf, argsL, putBack, putL, ios, setO, mIf, mPars, evP, storeP, scOf, mRetO, i1, i2, i3, i4]
  generalize ([.int a, .int b, .int c, .int d] : List D) = L at cc e ⊢
  have g : ∀ x1 x2 x3 x4 : D, (tgSeq [(tgName 3), (tgName 4), (tgName 5), (tgName 6)]).go (.lst [x1, x2, x3, x4]) ⟨[.own true bx', .dat (.int (w : Nat)), .dat (.lst L), .un, .un, .un, .un, .un], S⟩ = some ⟨[.own true bx', .dat (.int (w : Nat)), .dat (.lst L), .dat x1, .dat x2, .dat x3, .dat x4, .un], S⟩ := fun _ _ _ _ => rfl
  unfold f__law_pair b__law_pair
  simp [defG, mSeq, mIfS, mAnd, mOr, mNot, mTru, mNow, mOp, mOpL, mA2_ap, mA1_ap, mCons, mNil, mPk, mIo, mFz, mLst, mTup, mApp, mCall, nows, look, worths, worth, p2, p1, ix_l, ix_t, mCon, tr_b, mB, cm_i, ad_i, atI, ixN, in_i, if_i, un_i, mAsg, go_name, sl_name, free, mRet, mVar, mSet, bInt, mSkip, fin, finL, pad, res_int, res_str, res_bl, res_non, res_dic, res_lst, res_tup, Ev.get_mk, Ev.set_mk, Ev.length_mk, argsOf, argsL, putBack, putL, ios, setO, mIf, mPars, evP, storeP, scOf, mRetO, e, cc, g, mRetL]
theorem plc_is (m s e p : Int) (h : (m < s ∧ p = 0) ∨ (m = s ∧ p = 1) ∨ (s < m ∧ m < e ∧ p = 2) ∨ (s < m ∧ m = e ∧ p = 3) ∨ (s < m ∧ e < m ∧ p = 4)) : plc m s e = p := by
  unfold plc
  split
  · split <;> omega
  · split
    · omega
    · split <;> omega
end K04
namespace K04
open PySem PySem.Spec PyProof.Rows L2 Ky
theorem odd_part : ∀ n : Nat, 0 < n → ∃ k a, n = 2 ^ k * (2 * a + 1)
  | 0, h => absurd h (Nat.lt_irrefl _)
  | n + 1, _ => by
    by_cases e : (n + 1) % 2 = 1
    · exact ⟨0, n / 2, by omega⟩
    · obtain ⟨k, a, h⟩ := odd_part ((n + 1) / 2) (by omega)
      exact ⟨k + 1, a, by rw [Nat.pow_succ, Nat.mul_right_comm, ← h]; omega⟩
/-- the places of the ones, from the lowest, below m -/
def bitsB (m n : Nat) : List Nat := (List.range m).filter (n.testBit ·)
theorem bitsB_zero (m : Nat) : bitsB m 0 = [] := by
  unfold bitsB
  rw [List.filter_eq_nil_iff]
  intro a _
  simp
theorem tb_low {k a i : Nat} (h : i < k) : (2 ^ k * a).testBit i = false := by
  rw [Nat.testBit_two_pow_mul]
  have e : ¬ k ≤ i := by omega
  simp [e]
theorem tb_at {k a : Nat} : (2 ^ k * (2 * a + 1)).testBit k = true := by
  rw [Nat.testBit_two_pow_mul]
  simp
theorem tb_up {k a i : Nat} (h : k < i) : (2 ^ k * (2 * a + 1)).testBit i = (2 ^ k * (2 * a)).testBit i := by
  rw [Nat.testBit_two_pow_mul, Nat.testBit_two_pow_mul]
  obtain ⟨j, rfl⟩ : ∃ j, i = k + (j + 1) := ⟨i - k - 1, by omega⟩
  have e : k + (j + 1) - k = j + 1 := by omega
  rw [e, Nat.testBit_succ, Nat.testBit_succ]
  have e1 : (2 * a + 1) / 2 = a := by omega
  have e2 : 2 * a / 2 = a := by omega
  rw [e1, e2]
theorem tb_at0 {k a : Nat} : (2 ^ k * (2 * a)).testBit k = false := by
  rw [Nat.testBit_two_pow_mul]
  simp
theorem bitsB_cons {m k a : Nat} (hk : k < m) : bitsB m (2 ^ k * (2 * a + 1)) = k :: bitsB m (2 ^ k * (2 * a)) := by
  have e : List.range m = List.range k ++ k :: (List.range' (k + 1) (m - k - 1)) := by
    rw [List.range_eq_range', List.range_eq_range', show k :: List.range' (k + 1) (m - k - 1) = List.range' k (m - k) from by
      obtain ⟨j, hj⟩ : ∃ j, m - k = j + 1 := ⟨m - k - 1, by omega⟩
      rw [hj, List.range'_succ, Nat.add_sub_cancel]]
    have q := List.range'_append_1 (s := 0) (m := k) (n := m - k)
    rw [Nat.zero_add, show k + (m - k) = m by omega] at q
    exact q.symm
  unfold bitsB
  rw [e, List.filter_append, List.filter_append, List.filter_cons, List.filter_cons, if_pos tb_at, if_neg (by rw [tb_at0]; decide)]
  have lo : ∀ b, (List.range k).filter ((2 ^ k * b).testBit ·) = [] := fun b => by
    rw [List.filter_eq_nil_iff]
    intro i hi
    rw [tb_low (List.mem_range.mp hi)]
    decide
  rw [lo, lo, List.nil_append, List.nil_append]
  congr 1
  apply List.filter_congr
  intro i hi
  rw [List.mem_range'_1] at hi
  exact tb_up (by omega)
def intD (n : Nat) : D := .int (n : Int)
theorem bits_step {S : List (List D)} (n : D) : ∀ (fuel : Nat) (m x : Nat) (found : List D) (c : SC), x < 2 ^ m → m ≤ 1000 → found.length + (bitsB m x).length < 1000 → (bitsB m x).length < fuel → (c = .un ∨ ∃ d, c = .dat d) →
    ∃ c', whileL (mB (mOp (p2 oGt) (mA2 (mPk 2) (mNow (mCon (.int 0)))))) (mSeq (mAsg (tgName 3) (mOp (p2 oAnd) (mA2 (mPk 2) (mNow (mOp (p1 oNeg) (mA1 (mPk 2)))))))
    (mSeq (mApp 1 (mOp (p2 oSub) (mA2 (mNow (mBits (mVar 3))) (mNow (mCon (.int 1))))))
    (mAug 2 (oInt (· - ·)) (mVar 3)))) fuel ⟨[.dat n, .own false found, .dat (intD x), c], S⟩ = some (.nx ⟨[.dat n, .own false (found ++ (bitsB m x).map intD), .dat (intD 0), c'], S⟩)
  | 0, m, x, found, c, hx, hm, hl, hf, hc => absurd hf (Nat.not_lt_zero _)
  | fuel + 1, m, x, found, c, hx, hm, hl, hf, hc => by
    by_cases h0 : x = 0
    · subst h0
      refine ⟨c, ?_⟩
      rw [bitsB_zero]
      simp [whileL, intD, defG, mSeq, mIfS, mAnd, mOr, mNot, mTru, mNow, mOp, mOpL, mA2_ap, mA1_ap, mCons, mNil, mPk, mIo, mFz, mLst, mTup, mApp, mCall, nows, look, worths, worth, p2, p1, ix_l, ix_t, mCon, tr_b, mB, cm_i, ad_i, atI, ixN, in_i, if_i, un_i, mAsg, go_name, sl_name, free, mRet, mVar, mSet, bInt, mSkip, fin, finL, pad, res_int, res_str, res_bl, res_non, res_dic, res_lst, res_tup, Ev.get_mk, Ev.set_mk, Ev.length_mk, argsOf, argsL, putBack, putL, ios, setO, mIf, mPars, evP, storeP, scOf, mRetO]
    · obtain ⟨k, a, e⟩ := odd_part x (by omega)
      have hk : k < m := by
        refine (Nat.pow_lt_pow_iff_right (a := 2) (by decide)).mp (Nat.lt_of_le_of_lt ?_ hx)
        rw [e]
        exact Nat.le_mul_of_pos_right _ (by omega)
      have ex : (x : Int) = 2 ^ k * (2 * (a : Int) + 1) := by rw [e]; push_cast; rfl
      have low : Builtin.bitAnd (x : Int) (-(x : Int)) = 2 ^ k := by rw [ex]; exact PySem.W.kbt_low k a
      have rest : (x : Int) - 2 ^ k = ((2 ^ k * (2 * a) : Nat) : Int) := by
        rw [ex]
        push_cast
        rw [Int.mul_add, Int.mul_one, Int.add_sub_cancel]
      have hbits : (Builtin.Int.intBits (2 ^ k : Int) : Int) - 1 = (k : Nat) := by
        have h1 := (PySem.intBits_le_iff (m := k + 1) (x := (2 ^ k : Int))).mpr (by
          rw [Int.natAbs_pow, Nat.pow_succ]
          have := Nat.two_pow_pos k
          show 2 ^ k < 2 ^ k * 2
          omega)
        have h2 : ¬ Builtin.Int.intBits (2 ^ k : Int) ≤ k := fun z => by
          have h3 := PySem.intBits_le_iff.mp z
          rw [Int.natAbs_pow] at h3
          exact Nat.lt_irrefl _ h3
        omega
      have pos : 0 < x := by omega
      rw [e, bitsB_cons hk] at hl hf
      obtain ⟨c', q⟩ := bits_step (S := S) n fuel m (2 ^ k * (2 * a)) (found ++ [intD k]) (.dat (.int (2 ^ k))) (Nat.lt_of_le_of_lt (by rw [e]; exact Nat.mul_le_mul_left _ (by omega)) hx) hm (by simp at hl ⊢; omega) (by simp at hf ⊢; omega) (.inr ⟨_, rfl⟩)
      refine ⟨c', ?_⟩
      have fr : free ⟨[.dat n, .own false found, .dat (intD x), c], S⟩ 3 = true := by
        rcases hc with rfl | ⟨d, rfl⟩ <;> rfl
      have lf : found.length < 100000 := by simp at hl; omega
      have eb : found ++ (bitsB m x).map intD = found ++ [intD k] ++ (bitsB m (2 ^ k * (2 * a))).map intD := by
        rw [e, bitsB_cons hk]
        simp
      rw [eb, ← q]
      unfold intD at fr
      conv => lhs; unfold whileL
      rcases hc with rfl | ⟨d, rfl⟩
      · simp [intD, defG, mSeq, mIfS, mAnd, mOr, mNot, mTru, mNow, mOp, mOpL, mA2_ap, mA1_ap, mCons, mNil, mPk, mIo, mFz, mLst, mTup, mApp, mCall, nows, look, worths, worth, p2, p1, ix_l, ix_t, mCon, tr_b, mB, cm_i, ad_i, atI, ixN, in_i, if_i, un_i, mAsg, go_name, sl_name, free, mRet, mVar, mSet, bInt, mSkip, fin, finL, pad, res_int, res_str, res_bl, res_non, res_dic, res_lst, res_tup, Ev.get_mk, Ev.set_mk, Ev.length_mk, argsOf, argsL, putBack, putL, ios, setO, mIf, mPars, evP, storeP, scOf, mRetO, pos, low, mBits, hbits, lf, mAug, rest]
      · simp [intD, defG, mSeq, mIfS, mAnd, mOr, mNot, mTru, mNow, mOp, mOpL, mA2_ap, mA1_ap, mCons, mNil, mPk, mIo, mFz, mLst, mTup, mApp, mCall, nows, look, worths, worth, p2, p1, ix_l, ix_t, mCon, tr_b, mB, cm_i, ad_i, atI, ixN, in_i, if_i, un_i, mAsg, go_name, sl_name, free, mRet, mVar, mSet, bInt, mSkip, fin, finL, pad, res_int, res_str, res_bl, res_non, res_dic, res_lst, res_tup, Ev.get_mk, Ev.set_mk, Ev.length_mk, argsOf, argsL, putBack, putL, ios, setO, mIf, mPars, evP, storeP, scOf, mRetO, pos, low, mBits, hbits, lf, mAug, rest]
theorem bits_len (m n : Nat) : (bitsB m n).length ≤ m := by
  unfold bitsB
  exact Nat.le_trans (List.length_filter_le _ _) (by simp)
theorem bits_ok {S : List (List D)} {x : Nat} (hx : x < 2 ^ 13) : f_bits_of ⟨[.dat (intD x)], S⟩ = some (.own ((bitsB 13 x).map intD), ⟨[.dat (intD x)], S⟩) := by
  have hl := bits_len 13 x
  obtain ⟨c', q⟩ := bits_step (S := S) (intD x) 100000 13 x [] .un hx (by omega) (by simp; omega) (by omega) (.inl rfl)
  unfold f_bits_of b_bits_of
  rw [List.nil_append] at q
  simp [defG, mSeq, mIfS, mAnd, mOr, mNot, mTru, mNow, mOp, mOpL, mA2_ap, mA1_ap, mCons, mNil, mPk, mIo, mFz, mLst, mTup, mApp, mCall, nows, look, worths, worth, p2, p1, ix_l, ix_t, mCon, tr_b, mB, cm_i, ad_i, atI, ixN, in_i, if_i, un_i, mAsg, go_name, sl_name, free, mRet, mVar, mSet, bInt, mSkip, fin, finL, pad, res_int, res_str, res_bl, res_non, res_dic, res_lst, res_tup, Ev.get_mk, Ev.set_mk, Ev.length_mk, argsOf, argsL, putBack, putL, ios, setO, mIf, mPars, evP, storeP, scOf, mRetO, mWhile, q]
/-- the sum of the powers -/
def sum2 (ks : List Nat) : Nat := (ks.map (2 ^ ·)).sum
theorem sum2_bits {m : Nat} : ∀ (f n : Nat), n < f → n < 2 ^ m → sum2 (bitsB m n) = n
  | 0, _, h, _ => absurd h (Nat.not_lt_zero _)
  | f + 1, n, hf, hn => by
    by_cases h0 : n = 0
    · subst h0
      rw [bitsB_zero]
      rfl
    · obtain ⟨k, a, e⟩ := odd_part n (by omega)
      have pk := Nat.two_pow_pos k
      have lt : 2 ^ k * (2 * a) < n := by
        rw [e]
        exact Nat.mul_lt_mul_of_pos_left (by omega) pk
      have hk : k < m := by
        refine (Nat.pow_lt_pow_iff_right (a := 2) (by decide)).mp (Nat.lt_of_le_of_lt ?_ hn)
        rw [e]
        exact Nat.le_mul_of_pos_right _ (by omega)
      have ih := sum2_bits (m := m) f (2 ^ k * (2 * a)) (by omega) (Nat.lt_trans lt hn)
      have e2 : bitsB m n = k :: bitsB m (2 ^ k * (2 * a)) := by rw [e, bitsB_cons hk]
      rw [e2]
      unfold sum2 at ih ⊢
      rw [List.map_cons, List.sum_cons, ih, e, Nat.mul_add, Nat.mul_one]
      omega
theorem sum2_perm {a b : List Nat} (h : a.Perm b) : sum2 a = sum2 b := by
  unfold sum2
  exact (h.map _).sum_nat
end K04
namespace K04
open PySem PySem.Spec PyProof.Rows L2 Ky
def nmD (k : Nat) : D := .str (nm k)
theorem nm_find {k : Nat} (h : k < 13) : findS (nm k) 0 s_RELATIONS = some k := by
  have q : ∀ k < 13, findS (nm k) 0 s_RELATIONS = some k := by decide +kernel
  exact q k h
theorem nm_rel {S : List (List D)} {k : Nat} (h : k < 13) : f_is_relation ⟨[.dat (nmD k)], S⟩ = some (.dat (.bl true), ⟨[.dat (nmD k)], S⟩) := by
  match k, h with
  | 0, _ => rfl
  | 1, _ => rfl
  | 2, _ => rfl
  | 3, _ => rfl
  | 4, _ => rfl
  | 5, _ => rfl
  | 6, _ => rfl
  | 7, _ => rfl
  | 8, _ => rfl
  | 9, _ => rfl
  | 10, _ => rfl
  | 11, _ => rfl
  | 12, _ => rfl
theorem nm_inj {j k : Nat} (hj : j < 13) (hk : k < 13) (h : nm j = nm k) : j = k := by
  have a := nm_find hj
  rw [h, nm_find hk] at a
  exact (Option.some.inj a).symm
theorem nm_nodup : ∀ {ks : List Nat}, ks.Nodup → (∀ k ∈ ks, k < 13) → (ks.map nm).Nodup
  | [], _, _ => .nil
  | k :: ks, h, hb => by
    rw [List.nodup_cons] at h
    rw [List.map_cons, List.nodup_cons]
    refine ⟨fun z => ?_, nm_nodup h.2 fun j hj => hb j (.tail _ hj)⟩
    obtain ⟨j, hj, e⟩ := List.mem_map.mp z
    exact h.1 (nm_inj (hb k (.head _)) (hb j (.tail _ hj)) e.symm ▸ hj)
theorem sum_cast (ks : List Nat) : (ks.map fun k => ((2 : Int) ^ k)).sum = ((sum2 ks : Nat) : Int) := by
  unfold sum2
  induction ks with
  | nil => rfl
  | cons k ks ih =>
    rw [List.map_cons, List.map_cons, List.sum_cons, List.sum_cons, ih]
    push_cast
    rfl
/-- a question of these, in whatever order -/
theorem init_of {S : List (List D)} {ks : List Nat} {w : D} (hw : w = .lst (ks.map nmD) ∨ w = .tup (ks.map nmD)) (nd : ks.Nodup) (hb : ∀ k ∈ ks, k < 13) (hl : ks.length ≤ 100) : f_QuestionX_initX ⟨[.dat w], S⟩ = some (.dat (.ins 0 [intD (sum2 ks)]), ⟨[.dat w], S⟩) := by
  have rw_ : ∀ Γ, res Γ w = w := fun Γ => by rcases hw with rfl | rfl <;> rfl
  have e1 : f_is_listed ⟨[.dat w], S⟩ = some (.dat (.bl true), ⟨[.dat w], S⟩) := by
    rcases hw with rfl | rfl <;> rfl
  have sq : ∀ x y, miSeq (mVar 1) ⟨[x, .dat w, y], S⟩ = some (.ok (ks.map nmD) ⟨[x, .dat w, y], S⟩) := fun x y => by
    rcases hw with rfl | rfl <;> rfl
  have c1 : mComp (miSeq (mVar 1)) (tgName 2) [2] mYes (mCall f_is_relation (mCons (mNow (mVar 2)) mNil)) ⟨[.un, .dat w, .un], S⟩ = some (.ok (ks.map fun _ => D.bl true) ⟨[.un, .dat w, .un], S⟩) := by
    rw [show (ks.map fun _ => D.bl true) = (ks.map nmD).map fun _ => D.bl true by rw [List.map_map]; rfl]
    refine mComp_map (fun _ => .bl true) (sq _ _) (by simp; omega) fun d hd => ?_
    obtain ⟨k, hk, rfl⟩ := List.mem_map.mp hd
    refine ⟨⟨[.un, .dat w, .dat (nmD k)], S⟩, ⟨[.un, .dat w, .dat (nmD k)], S⟩, rfl, ?_, rfl⟩
    simp [defG, mSeq, mIfS, mAnd, mOr, mNot, mTru, mNow, mOp, mOpL, mA2_ap, mA1_ap, mCons, mNil, mPk, mIo, mFz, mLst, mTup, mApp, mCall, nows, look, worths, worth, p2, p1, ix_l, ix_t, mCon, tr_b, mB, cm_i, ad_i, atI, ixN, in_i, if_i, un_i, mAsg, go_name, sl_name, free, mRet, mVar, mSet, bInt, mSkip, fin, finL, pad, res_int, res_str, res_bl, res_non, res_dic, res_lst, res_tup, Ev.get_mk, Ev.set_mk, Ev.length_mk, argsOf, argsL, putBack, putL, ios, setO, mIf, mPars, evP, storeP, scOf, mRetO, nm_rel (hb k hk)]
  have a1 : bAll [.lst (ks.map fun _ => D.bl true)] = some (.bl true) := by
    rw [bAll_map (fun _ => true) ks]
    simp
  have sd : strsD (ks.map nmD) = some (ks.map nm) := strsD_map nm ks
  have ct : cntS (ks.map nm) ks.length = ks.length := cntS_nodup (nm_nodup nd hb) _ (by simp)
  have e2 : f_are_unlike ⟨[.dat w], S⟩ = some (.dat (.bl true), ⟨[.dat w], S⟩) := by
    have l1 : ks.length ≤ 4000 := by omega
    unfold f_are_unlike b_are_unlike
    rcases hw with rfl | rfl
    · simp [defG, mSeq, mIfS, mAnd, mOr, mNot, mTru, mNow, mOp, mOpL, mA2_ap, mA1_ap, mCons, mNil, mPk, mIo, mFz, mLst, mTup, mApp, mCall, nows, look, worths, worth, p2, p1, ix_l, ix_t, mCon, tr_b, mB, cm_i, ad_i, atI, ixN, in_i, if_i, un_i, mAsg, go_name, sl_name, free, mRet, mVar, mSet, bInt, mSkip, fin, finL, pad, res_int, res_str, res_bl, res_non, res_dic, res_lst, res_tup, Ev.get_mk, Ev.set_mk, Ev.length_mk, argsOf, argsL, putBack, putL, ios, setO, mIf, mPars, evP, storeP, scOf, mRetO, mLenSet, seqD, sd, ct, l1, bLen, Ky.eq_int]
    · simp [defG, mSeq, mIfS, mAnd, mOr, mNot, mTru, mNow, mOp, mOpL, mA2_ap, mA1_ap, mCons, mNil, mPk, mIo, mFz, mLst, mTup, mApp, mCall, nows, look, worths, worth, p2, p1, ix_l, ix_t, mCon, tr_b, mB, cm_i, ad_i, atI, ixN, in_i, if_i, un_i, mAsg, go_name, sl_name, free, mRet, mVar, mSet, bInt, mSkip, fin, finL, pad, res_int, res_str, res_bl, res_non, res_dic, res_lst, res_tup, Ev.get_mk, Ev.set_mk, Ev.length_mk, argsOf, argsL, putBack, putL, ios, setO, mIf, mPars, evP, storeP, scOf, mRetO, mLenSet, seqD, sd, ct, l1, bLen, Ky.eq_int]
  have c2 : mComp (miSeq (mVar 1)) (tgName 2) [2] mYes (mOp (p2 oShl) (mA2 (mNow (mCon (.int 1))) (mNow (mIndexC s_RELATIONS (mVar 2))))) ⟨[.un, .dat w, .un], S⟩ = some (.ok (ks.map fun k => D.int ((2 : Int) ^ k)) ⟨[.un, .dat w, .un], S⟩) := by
    have q := mComp_map (t := tgName 2) (vs := [2]) (elt := mOp (p2 oShl) (mA2 (mNow (mCon (.int 1))) (mNow (mIndexC s_RELATIONS (mVar 2)))))
      (fun d => match d with | .str z => D.int ((2 : Int) ^ ((findS z 0 s_RELATIONS).getD 0)) | _ => .non) (sq .un .un) (by simp; omega) fun d hd => by
        obtain ⟨k, hk, rfl⟩ := List.mem_map.mp hd
        have hk13 := hb k hk
        have h6 : (k : Int) ≤ 1000000 := by omega
        refine ⟨⟨[.un, .dat w, .dat (nmD k)], S⟩, ⟨[.un, .dat w, .dat (nmD k)], S⟩, rfl, ?_, rfl⟩
        simp [defG, mSeq, mIfS, mAnd, mOr, mNot, mTru, mNow, mOp, mOpL, mA2_ap, mA1_ap, mCons, mNil, mPk, mIo, mFz, mLst, mTup, mApp, mCall, nows, look, worths, worth, p2, p1, ix_l, ix_t, mCon, tr_b, mB, cm_i, ad_i, atI, ixN, in_i, if_i, un_i, mAsg, go_name, sl_name, free, mRet, mVar, mSet, bInt, mSkip, fin, finL, pad, res_int, res_str, res_bl, res_non, res_dic, res_lst, res_tup, Ev.get_mk, Ev.set_mk, Ev.length_mk, argsOf, argsL, putBack, putL, ios, setO, mIf, mPars, evP, storeP, scOf, mRetO, mIndexC, nmD, nm_find hk13, h6]
    rw [q, List.map_map]
    congr 2
    apply List.map_congr_left
    intro k hk
    show D.int ((2 : Int) ^ ((findS (nm k) 0 s_RELATIONS).getD 0)) = _
    rw [nm_find (hb k hk)]
    rfl
  have s1 : bSum [.lst (ks.map fun k => D.int ((2 : Int) ^ k))] = some (intD (sum2 ks)) := by
    rw [bSum_map (fun k => (2 : Int) ^ k) ks, sum_cast]
    rfl
  generalize hs : s_RELATIONS = SR at c2
  unfold f_QuestionX_initX gs_QuestionX_initX fs_QuestionX_initX
  rw [hs]
  simp [defG, mSeq, mIfS, mAnd, mOr, mNot, mTru, mNow, mOp, mOpL, mA2_ap, mA1_ap, mCons, mNil, mPk, mIo, mFz, mLst, mTup, mApp, mCall, nows, look, worths, worth, p2, p1, ix_l, ix_t, mCon, tr_b, mB, cm_i, ad_i, atI, ixN, in_i, if_i, un_i, mAsg, go_name, sl_name, free, mRet, mVar, mSet, bInt, mSkip, fin, finL, pad, res_int, res_str, res_bl, res_non, res_dic, res_lst, res_tup, Ev.get_mk, Ev.set_mk, Ev.length_mk, argsOf, argsL, putBack, putL, ios, setO, mIf, mPars, evP, storeP, scOf, mRetO, initG, evPre, evSt, selfEv, finS, e1, c1, a1, e2, c2, s1]
theorem bits_lt {m n k : Nat} (h : k ∈ bitsB m n) : k < m := by
  unfold bitsB at h
  exact List.mem_range.mp (List.mem_filter.mp h).1
theorem bits_nd (m n : Nat) : (bitsB m n).Nodup := List.Nodup.sublist List.filter_sublist List.nodup_range
theorem ix_nm {k : Nat} (h : k < 13) : oIx d_RELATIONS (intD k) = some (nmD k) := by
  match k, h with
  | 0, _ => rfl
  | 1, _ => rfl
  | 2, _ => rfl
  | 3, _ => rfl
  | 4, _ => rfl
  | 5, _ => rfl
  | 6, _ => rfl
  | 7, _ => rfl
  | 8, _ => rfl
  | 9, _ => rfl
  | 10, _ => rfl
  | 11, _ => rfl
  | 12, _ => rfl
def qD (n : Nat) : D := .ins 0 [intD n]
theorem names_of {S : List (List D)} {n : Nat} {d : D} {f : ME} (hn : n < 2 ^ 13) (hf : f ⟨[.dat d, .un], S⟩ = some (.ok (intD n) ⟨[.dat d, .un], S⟩)) : mComp (miSeq (mCall f_bits_of (mCons (mNow f) mNil))) (tgName 1) [1] mYes (mOp (p2 oIx) (mA2 (mNow (mCon d_RELATIONS)) (mPk 1))) ⟨[.dat d, .un], S⟩ = some (.ok ((bitsB 13 n).map nmD) ⟨[.dat d, .un], S⟩) := by
  have nr : ∀ Γ, res Γ d_RELATIONS = d_RELATIONS := fun _ => rfl
  refine mComp_each intD nmD ?_ (Nat.le_trans (bits_len 13 n) (by decide)) fun k hk => ⟨⟨[.dat d, .dat (intD k)], S⟩, ⟨[.dat d, .dat (intD k)], S⟩, rfl, ?_, rfl⟩
  · simp [miSeq, defG, mSeq, mIfS, mAnd, mOr, mNot, mTru, mNow, mOp, mOpL, mA2_ap, mA1_ap, mCons, mNil, mPk, mIo, mFz, mLst, mTup, mApp, mCall, nows, look, worths, worth, p2, p1, ix_l, ix_t, mCon, tr_b, mB, cm_i, ad_i, atI, ixN, in_i, if_i, un_i, mAsg, go_name, sl_name, free, mRet, mVar, mSet, bInt, mSkip, fin, finL, pad, res_int, res_str, res_bl, res_non, res_dic, res_lst, res_tup, Ev.get_mk, Ev.set_mk, Ev.length_mk, argsOf, argsL, putBack, putL, ios, setO, mIf, mPars, evP, storeP, scOf, mRetO, hf, bits_ok hn]
  · have ix := ix_nm (bits_lt hk)
    have ri : ∀ Γ, res Γ (intD k) = intD k := fun _ => rfl
    generalize d_RELATIONS = R at nr ix ⊢
    simp [defG, mSeq, mIfS, mAnd, mOr, mNot, mTru, mNow, mOp, mOpL, mA2_ap, mA1_ap, mCons, mNil, mPk, mIo, mFz, mLst, mTup, mApp, mCall, nows, look, worths, worth, p2, p1, ix_l, ix_t, mCon, tr_b, mB, cm_i, ad_i, atI, ixN, in_i, if_i, un_i, mAsg, go_name, sl_name, free, mRet, mVar, mSet, bInt, mSkip, fin, finL, pad, res_int, res_str, res_bl, res_non, res_dic, res_lst, res_tup, Ev.get_mk, Ev.set_mk, Ev.length_mk, argsOf, argsL, putBack, putL, ios, setO, mIf, mPars, evP, storeP, scOf, mRetO, nr, ix, ri]
theorem question_ok {S : List (List D)} {n : Nat} (hn : n < 2 ^ 13) : f_question_with ⟨[.dat (intD n)], S⟩ = some (.dat (qD n), ⟨[.dat (intD n)], S⟩) := by
  have c1 := names_of (S := S) (d := intD n) (f := mVar 0) hn rfl
  have i1 := init_of (S := S) (w := .lst ((bitsB 13 n).map nmD)) (.inl rfl) (bits_nd 13 n) (fun k hk => bits_lt hk) (Nat.le_trans (bits_len 13 n) (by decide))
  rw [sum2_bits (n + 1) n (by omega) hn] at i1
  unfold f_question_with b_question_with
  generalize d_RELATIONS = R at c1 ⊢
  simp [defG, mSeq, mIfS, mAnd, mOr, mNot, mTru, mNow, mOp, mOpL, mA2_ap, mA1_ap, mCons, mNil, mPk, mIo, mFz, mLst, mTup, mApp, mCall, nows, look, worths, worth, p2, p1, ix_l, ix_t, mCon, tr_b, mB, cm_i, ad_i, atI, ixN, in_i, if_i, un_i, mAsg, go_name, sl_name, free, mRet, mVar, mSet, bInt, mSkip, fin, finL, pad, res_int, res_str, res_bl, res_non, res_dic, res_lst, res_tup, Ev.get_mk, Ev.set_mk, Ev.length_mk, argsOf, argsL, putBack, putL, ios, setO, mIf, mPars, evP, storeP, scOf, mRetO, c1, i1, qD]
theorem relations_ok {S : List (List D)} {n : Nat} (hn : n < 2 ^ 13) : f_Question_relations ⟨[.dat (qD n)], S⟩ = some (.own ((bitsB 13 n).map nmD), ⟨[.dat (qD n)], S⟩) := by
  have c1 := names_of (S := S) (d := qD n) (f := mFld 0 0 (mVar 0)) hn rfl
  unfold f_Question_relations b_Question_relations
  generalize d_RELATIONS = R at c1 ⊢
  simp [defG, mSeq, mIfS, mAnd, mOr, mNot, mTru, mNow, mOp, mOpL, mA2_ap, mA1_ap, mCons, mNil, mPk, mIo, mFz, mLst, mTup, mApp, mCall, nows, look, worths, worth, p2, p1, ix_l, ix_t, mCon, tr_b, mB, cm_i, ad_i, atI, ixN, in_i, if_i, un_i, mAsg, go_name, sl_name, free, mRet, mVar, mSet, bInt, mSkip, fin, finL, pad, res_int, res_str, res_bl, res_non, res_dic, res_lst, res_tup, Ev.get_mk, Ev.set_mk, Ev.length_mk, argsOf, argsL, putBack, putL, ios, setO, mIf, mPars, evP, storeP, scOf, mRetO, mRetL, c1]
/-- led by a table -/
def ledN (tb : Nat → Nat) (n : Nat) : Nat := sum2 ((bitsB 13 n).map tb)
theorem led_ok {S : List (List D)} {n : Nat} {tD : D} {tb : Nat → Nat} (hn : n < 2 ^ 13) (hr : ∀ Γ, res Γ tD = tD) (ht : ∀ k < 13, oIx tD (intD k) = some (intD (tb k)) ∧ tb k < 13) : f_led ⟨[.dat (intD n), .dat tD], S⟩ = some (.dat (intD (ledN tb n)), ⟨[.dat (intD n), .dat tD], S⟩) := by
  have c1 : mComp (miSeq (mCall f_bits_of (mCons (mNow (mVar 0)) mNil))) (tgName 2) [2] mYes (mOp (p2 oShl) (mA2 (mNow (mCon (.int 1))) (mNow (mOp (p2 oIx) (mA2 (mPk 1) (mPk 2)))))) ⟨[.dat (intD n), .dat tD, .un], S⟩ = some (.ok ((bitsB 13 n).map fun k => D.int ((2 : Int) ^ (tb k))) ⟨[.dat (intD n), .dat tD, .un], S⟩) := by
    refine mComp_each intD _ ?_ (Nat.le_trans (bits_len 13 n) (by decide)) fun k hk => ⟨⟨[.dat (intD n), .dat tD, .dat (intD k)], S⟩, ⟨[.dat (intD n), .dat tD, .dat (intD k)], S⟩, rfl, ?_, rfl⟩
    · simp [miSeq, defG, mSeq, mIfS, mAnd, mOr, mNot, mTru, mNow, mOp, mOpL, mA2_ap, mA1_ap, mCons, mNil, mPk, mIo, mFz, mLst, mTup, mApp, mCall, nows, look, worths, worth, p2, p1, ix_l, ix_t, mCon, tr_b, mB, cm_i, ad_i, atI, ixN, in_i, if_i, un_i, mAsg, go_name, sl_name, free, mRet, mVar, mSet, bInt, mSkip, fin, finL, pad, res_int, res_str, res_bl, res_non, res_dic, res_lst, res_tup, Ev.get_mk, Ev.set_mk, Ev.length_mk, argsOf, argsL, putBack, putL, ios, setO, mIf, mPars, evP, storeP, scOf, mRetO, bits_ok hn]
    · obtain ⟨h1, h2⟩ := ht k (bits_lt hk)
      have h6 : (tb k : Int) ≤ 1000000 := by omega
      have ri : ∀ Γ, res Γ (intD k) = intD k := fun _ => rfl
      simp [defG, mSeq, mIfS, mAnd, mOr, mNot, mTru, mNow, mOp, mOpL, mA2_ap, mA1_ap, mCons, mNil, mPk, mIo, mFz, mLst, mTup, mApp, mCall, nows, look, worths, worth, p2, p1, ix_l, ix_t, mCon, tr_b, mB, cm_i, ad_i, atI, ixN, in_i, if_i, un_i, mAsg, go_name, sl_name, free, mRet, mVar, mSet, bInt, mSkip, fin, finL, pad, res_int, res_str, res_bl, res_non, res_dic, res_lst, res_tup, Ev.get_mk, Ev.set_mk, Ev.length_mk, argsOf, argsL, putBack, putL, ios, setO, mIf, mPars, evP, storeP, scOf, mRetO, hr, ri, h1]
      simp [intD, defG, mSeq, mIfS, mAnd, mOr, mNot, mTru, mNow, mOp, mOpL, mA2_ap, mA1_ap, mCons, mNil, mPk, mIo, mFz, mLst, mTup, mApp, mCall, nows, look, worths, worth, p2, p1, ix_l, ix_t, mCon, tr_b, mB, cm_i, ad_i, atI, ixN, in_i, if_i, un_i, mAsg, go_name, sl_name, free, mRet, mVar, mSet, bInt, mSkip, fin, finL, pad, res_int, res_str, res_bl, res_non, res_dic, res_lst, res_tup, Ev.get_mk, Ev.set_mk, Ev.length_mk, argsOf, argsL, putBack, putL, ios, setO, mIf, mPars, evP, storeP, scOf, mRetO, h6]
  have s1 : bSum [.lst ((bitsB 13 n).map fun k => D.int ((2 : Int) ^ (tb k)))] = some (intD (ledN tb n)) := by
    rw [bSum_map (fun k => (2 : Int) ^ (tb k))]
    have q := sum_cast ((bitsB 13 n).map tb)
    rw [List.map_map] at q
    show some (D.int ((bitsB 13 n).map ((fun k => (2 : Int) ^ k) ∘ tb)).sum) = _
    rw [q]
    rfl
  unfold f_led b_led
  simp [defG, mSeq, mIfS, mAnd, mOr, mNot, mTru, mNow, mOp, mOpL, mA2_ap, mA1_ap, mCons, mNil, mPk, mIo, mFz, mLst, mTup, mApp, mCall, nows, look, worths, worth, p2, p1, ix_l, ix_t, mCon, tr_b, mB, cm_i, ad_i, atI, ixN, in_i, if_i, un_i, mAsg, go_name, sl_name, free, mRet, mVar, mSet, bInt, mSkip, fin, finL, pad, res_int, res_str, res_bl, res_non, res_dic, res_lst, res_tup, Ev.get_mk, Ev.set_mk, Ev.length_mk, argsOf, argsL, putBack, putL, ios, setO, mIf, mPars, evP, storeP, scOf, mRetO, c1, s1]
end K04
namespace K04
open PySem PySem.Spec PyProof.Rows L2 Ky
def setN (m : Nat) (p : Nat → Bool) : Nat := sum2 ((List.range m).filter p)
theorem setN_succ (m : Nat) (p : Nat → Bool) : setN (m + 1) p = setN m p + if p m then 2 ^ m else 0 := by
  unfold setN sum2
  rw [List.range_succ, List.filter_append, List.map_append, List.sum_append]
  cases h : p m <;> simp [h]
theorem setN_lt (p : Nat → Bool) : ∀ m, setN m p < 2 ^ m
  | 0 => show (0 : Nat) < 1 from Nat.one_pos
  | m + 1 => by
    have ih := setN_lt p m
    rw [setN_succ, Nat.pow_succ]
    split <;> omega
theorem setN_bit (p : Nat → Bool) : ∀ m k, k < m → (setN m p).testBit k = p k
  | 0, k, h => absurd h (Nat.not_lt_zero _)
  | m + 1, k, h => by
    have lt := setN_lt p m
    rw [setN_succ]
    by_cases e : k = m
    · subst e
      cases hp : p k with
      | true => rw [if_pos rfl, Nat.add_comm, Nat.testBit_two_pow_add_eq, Nat.testBit_lt_two_pow lt]; rfl
      | false => rw [if_neg (by decide), Nat.add_zero, Nat.testBit_lt_two_pow lt]
    · have hk : k < m := by omega
      cases hp : p m with
      | true => rw [if_pos rfl, Nat.add_comm, Nat.testBit_two_pow_add_gt hk, setN_bit p m k hk]
      | false => rw [if_neg (by decide), Nat.add_zero, setN_bit p m k hk]
theorem set_eta {n : Nat} (h : n < 2 ^ 13) : setN 13 n.testBit = n := sum2_bits (n + 1) n (by omega) h
theorem setN_congr {p q : Nat → Bool} {m : Nat} (h : ∀ k < m, p k = q k) : setN m p = setN m q := by
  unfold setN
  rw [List.filter_congr fun k hk => h k (List.mem_range.mp hk)]
theorem set_ext {a b : Nat} (ha : a < 2 ^ 13) (hb : b < 2 ^ 13) (h : ∀ k < 13, a.testBit k = b.testBit k) : a = b := by
  rw [← set_eta ha, ← set_eta hb]
  exact setN_congr h
theorem mem_bits {m n k : Nat} : k ∈ bitsB m n ↔ k < m ∧ n.testBit k = true := by
  unfold bitsB
  rw [List.mem_filter, List.mem_range]
theorem bits_setN (p : Nat → Bool) : bitsB 13 (setN 13 p) = (List.range 13).filter p := by
  unfold bitsB
  exact List.filter_congr fun k hk => setN_bit p 13 k (List.mem_range.mp hk)
theorem sub_filter {α : Type} [DecidableEq α] : ∀ {s l : List α}, s.Sublist l → l.Nodup → l.filter (fun x => decide (x ∈ s)) = s
  | _, _, .slnil, _ => rfl
  | s, a :: l, .cons _ h, nd => by
    rw [List.nodup_cons] at nd
    have na : a ∉ s := fun z => nd.1 (h.subset z)
    rw [List.filter_cons, if_neg (by simpa using na)]
    exact sub_filter h nd.2
  | a :: s, _ :: l, .cons₂ _ h, nd => by
    rw [List.nodup_cons] at nd
    rw [List.filter_cons, if_pos (by simp)]
    congr 1
    have ih := sub_filter h nd.2
    conv => rhs; rw [← ih]
    apply List.filter_congr
    intro x hx
    have hxa : x ≠ a := fun z => nd.1 (z ▸ hx)
    simp [hxa]
/-- places, as the law holds them -/
def Pl (n : Nat) (d : D) : Prop := n < 2 ^ 13 ∧ d = .lst ((bitsB 13 n).map intD)
theorem pl_sub {ks : List Nat} (h : ks.Sublist (List.range 13)) : Pl (setN 13 fun k => decide (k ∈ ks)) (.lst (ks.map intD)) := by
  refine ⟨setN_lt _ _, ?_⟩
  rw [bits_setN, sub_filter h List.nodup_range]
theorem pl_filter (p : Nat → Bool) : Pl (setN 13 p) (.lst (((List.range 13).filter p).map intD)) := ⟨setN_lt _ _, by rw [bits_setN]⟩
theorem bits_sub (n : Nat) : (bitsB 13 n).Sublist (List.range 13) := List.filter_sublist
theorem flats_int : ∀ ks : List Nat, flats (ks.map intD) = some (ks.map fun k : Nat => V.int (k : Int))
  | [] => rfl
  | k :: ks => by
    show (match flatD (intD k), flats (ks.map intD) with | some v, some vs => some (v :: vs) | _, _ => none) = _
    rw [flats_int ks]
    rfl
theorem inV_int (k : Nat) : ∀ ks : List Nat, inV (V.int (k : Int)) (ks.map fun k : Nat => V.int (k : Int)) = decide (k ∈ ks)
  | [] => rfl
  | j :: ks => by
    have ih := inV_int k ks
    unfold inV at ih ⊢
    rw [List.map_cons, List.any_cons, ih]
    have e : eqV (V.int (j : Int)) (V.int (k : Int)) = decide (j = k) := by
      show decide ((j : Int) = (k : Int)) = decide (j = k)
      by_cases h : j = k
      · rw [decide_eq_true h, decide_eq_true (by omega)]
      · rw [decide_eq_false h, decide_eq_false (by omega)]
    rw [e]
    by_cases h : j = k
    · subst h
      simp
    · have h2 : ¬ k = j := fun z => h z.symm
      simp [h, h2]
theorem in_ok (k : Nat) (ks : List Nat) : oIn (intD k) (.lst (ks.map intD)) = some (.bl (decide (k ∈ ks))) := by
  unfold oIn inD intD flatD
  have f := flats_int ks
  unfold intD at f
  simp only [f, inV_int]
theorem ni_ok (k : Nat) (ks : List Nat) : oNi (intD k) (.lst (ks.map intD)) = some (.bl (!decide (k ∈ ks))) := by
  unfold oNi inD intD flatD
  have f := flats_int ks
  unfold intD at f
  simp only [f, inV_int]
theorem in_bits {k n : Nat} (hk : k < 13) : decide (k ∈ bitsB 13 n) = n.testBit k := by
  cases h : n.testBit k with
  | true => exact decide_eq_true (mem_bits.mpr ⟨hk, h⟩)
  | false => exact decide_eq_false fun z => by rw [(mem_bits.mp z).2] at h; cases h
theorem niA_nm {m : Nat} : ∀ {ks : List Nat}, (∀ k ∈ ks, k < 13) → niA m (ks.map nmD) = true
  | [], _ => rfl
  | k :: ks, h => by
    show (PyData.canLay0 (.str (nm k)) && niA m (ks.map nmD)) = true
    rw [nm_ok (h k (.head _)), niA_nm fun j hj => h j (.tail _ hj)]
    rfl
theorem szA_nm : ∀ ks : List Nat, szA (ks.map nmD) = ks.length
  | [] => rfl
  | k :: ks => by
    show 1 + szA (ks.map nmD) = ks.length + 1
    rw [szA_nm ks]
    omega
theorem shl_ok {k : Nat} (hk : k < 13) : oShl (.int 1) (intD k) = some (.int ((2 : Int) ^ k)) := by
  have h6 : (k : Int) ≤ 1000000 := by omega
  unfold intD
  simp [oIntIf, h6]
theorem is_ok {S : List (List D)} {n : Nat} (hn : n < 2 ^ 13) : f__law_is ⟨[.dat (qD n), .dat (.lst ((bitsB 13 n).map intD))], S⟩ = some (.dat (.bl true), ⟨[.dat (qD n), .dat (.lst ((bitsB 13 n).map intD))], S⟩) := by
  have rel := relations_ok (S := S) hn
  have l1 := like_self (S := S) (d := intD n) rfl (show 1 < 50000 by decide)
  have l2 := like_self (S := S) (d := .lst ((bitsB 13 n).map nmD)) (by show niA 8 ((bitsB 13 n).map nmD) = true; exact niA_nm fun k hk => bits_lt hk) (by show 1 + szA ((bitsB 13 n).map nmD) < 50000; rw [szA_nm]; have := bits_len 13 n; omega)
  have bl := bits_len 13 n
  have ri : ∀ Γ k, res Γ (intD k) = intD k := fun _ _ => rfl
  have c1 : mComp (miSeq (mVar 1)) (tgName 2) [2] mYes (mOp (p2 oShl) (mA2 (mNow (mCon (.int 1))) (mPk 2))) ⟨[.dat (qD n), .dat (.lst ((bitsB 13 n).map intD)), .un], S⟩ = some (.ok ((bitsB 13 n).map fun k => D.int ((2 : Int) ^ k)) ⟨[.dat (qD n), .dat (.lst ((bitsB 13 n).map intD)), .un], S⟩) := by
    refine mComp_each intD _ rfl (Nat.le_trans bl (by decide)) fun k hk => ⟨⟨[.dat (qD n), .dat (.lst ((bitsB 13 n).map intD)), .dat (intD k)], S⟩, ⟨[.dat (qD n), .dat (.lst ((bitsB 13 n).map intD)), .dat (intD k)], S⟩, rfl, ?_, rfl⟩
    have sh := shl_ok (bits_lt hk)
    generalize (.lst ((bitsB 13 n).map intD) : D) = L
    simp [defG, mSeq, mIfS, mAnd, mOr, mNot, mTru, mNow, mOp, mOpL, mA2_ap, mA1_ap, mCons, mNil, mPk, mIo, mFz, mLst, mTup, mApp, mCall, nows, look, worths, worth, p2, p1, ix_l, ix_t, mCon, tr_b, mB, cm_i, ad_i, atI, ixN, in_i, if_i, un_i, mAsg, go_name, sl_name, free, mRet, mVar, mSet, bInt, mSkip, fin, finL, pad, res_int, res_str, res_bl, res_non, res_dic, res_lst, res_tup, Ev.get_mk, Ev.set_mk, Ev.length_mk, argsOf, argsL, putBack, putL, ios, setO, mIf, mPars, evP, storeP, scOf, mRetO, ri, sh]
  have s1 : bSum [.lst ((bitsB 13 n).map fun k => D.int ((2 : Int) ^ k))] = some (intD n) := by
    rw [bSum_map (fun k => (2 : Int) ^ k), sum_cast, sum2_bits (n + 1) n (by omega) hn]
    rfl
  have wd := words_ok (S := S)
  have c2 : mComp (miSeq (mVar 1)) (tgName 2) [2] mYes (mOp (p2 oIx) (mA2 (mNow (mCall f__law_words mNil)) (mPk 2))) ⟨[.dat (qD n), .dat (.lst ((bitsB 13 n).map intD)), .un], S⟩ = some (.ok ((bitsB 13 n).map nmD) ⟨[.dat (qD n), .dat (.lst ((bitsB 13 n).map intD)), .un], S⟩) := by
    refine mComp_each intD nmD rfl (Nat.le_trans bl (by decide)) fun k hk => ⟨⟨[.dat (qD n), .dat (.lst ((bitsB 13 n).map intD)), .dat (intD k)], S⟩, ⟨[.dat (qD n), .dat (.lst ((bitsB 13 n).map intD)), .dat (intD k)], S⟩, rfl, ?_, rfl⟩
    have ix : oIx (.lst wordsD) (intD k) = some (nmD k) := words_ix (bits_lt hk)
    generalize (.lst ((bitsB 13 n).map intD) : D) = L
    generalize wordsD = W at wd ix
    simp [defG, mSeq, mIfS, mAnd, mOr, mNot, mTru, mNow, mOp, mOpL, mA2_ap, mA1_ap, mCons, mNil, mPk, mIo, mFz, mLst, mTup, mApp, mCall, nows, look, worths, worth, p2, p1, ix_l, ix_t, mCon, tr_b, mB, cm_i, ad_i, atI, ixN, in_i, if_i, un_i, mAsg, go_name, sl_name, free, mRet, mVar, mSet, bInt, mSkip, fin, finL, pad, res_int, res_str, res_bl, res_non, res_dic, res_lst, res_tup, Ev.get_mk, Ev.set_mk, Ev.length_mk, argsOf, argsL, putBack, putL, ios, setO, mIf, mPars, evP, storeP, scOf, mRetO, wd, ri, ix]
  have i0 : isiA [0] (qD n) [.own 0] = some true := rfl
  have i1 : insIn [0] (qD n) = true := rfl
  have rq : ∀ Γ, res Γ (qD n) = qD n := fun _ => rfl
  have fl : ∀ x y, mFld 0 0 (mVar 0) ⟨[.dat (qD n), x, y], S⟩ = some (.ok (intD n) ⟨[.dat (qD n), x, y], S⟩) := fun _ _ => rfl
  have fi : ∀ x y, mInst 0 (mVar 0) ⟨[.dat (qD n), x, y], S⟩ = some (.ok (qD n) ⟨[.dat (qD n), x, y], S⟩) := fun _ _ => rfl
  unfold f__law_is b__law_is
  generalize (.lst ((bitsB 13 n).map intD) : D) = L at c1 c2
  generalize mComp (miSeq (mVar 1)) (tgName 2) [2] mYes (mOp (p2 oShl) _) = C1 at c1 ⊢
  generalize mComp (miSeq (mVar 1)) (tgName 2) [2] mYes (mOp (p2 oIx) _) = C2 at c2 ⊢
  generalize qD n = q at *
  simp [defG, mSeq, mIfS, mAnd, mOr, mNot, mTru, mNow, mOp, mOpL, mA2_ap, mA1_ap, mCons, mNil, mPk, mIo, mFz, mLst, mTup, mApp, mCall, nows, look, worths, worth, p2, p1, ix_l, ix_t, mCon, tr_b, mB, cm_i, ad_i, atI, ixN, in_i, if_i, un_i, mAsg, go_name, sl_name, free, mRet, mVar, mSet, bInt, mSkip, fin, finL, pad, res_int, res_str, res_bl, res_non, res_dic, res_lst, res_tup, Ev.get_mk, Ev.set_mk, Ev.length_mk, argsOf, argsL, putBack, putL, ios, setO, mIf, mPars, evP, storeP, scOf, mRetO, mIsi, rq, i0, i1, fl, fi, c1, s1, l1, rel, c2, l2]
/-- asked for by the names of places, in a drawn order -/
theorem made_ok {S : List (List D)} {N : Nat} {bx : List D} {n : Nat} (h : Bx N bx) (hN : N < 800000000) (hn : n < 2 ^ 13) : ∃ bx', f__law_made ⟨[.own true bx, .dat (.lst ((bitsB 13 n).map intD))], S⟩ = some (.dat (qD n), ⟨[.own true bx', .dat (.lst ((bitsB 13 n).map intD))], S⟩) ∧ Bx (N + 13) bx' := by
  have bl := bits_len 13 n
  obtain ⟨es, bx', em, pm, b1⟩ := mixed_ok (S := S) (ds := (bitsB 13 n).map intD) h (by simp; omega) (by simp; omega) fun d hd => by
    obtain ⟨k, _, rfl⟩ := List.mem_map.mp hd
    exact ⟨_, rfl, rfl, rfl⟩
  obtain ⟨ks, hks, pk⟩ : ∃ ks : List Nat, es = ks.map intD ∧ ks.Perm (bitsB 13 n) := by
    refine ⟨es.map fun d => match d with | .int i => i.toNat | _ => 0, ?_, ?_⟩
    · rw [List.map_map]
      have : ∀ d ∈ es, d = intD (match d with | .int i => i.toNat | _ => 0) := fun d hd => by
        obtain ⟨k, _, rfl⟩ := List.mem_map.mp (pm.mem_iff.mp hd)
        show intD k = intD ((k : Int).toNat)
        rw [Int.toNat_natCast]
      conv => lhs; rw [← List.map_id es]
      exact List.map_congr_left this
    · have := pm.map fun d => match d with | D.int i => i.toNat | _ => 0
      rw [List.map_map] at this
      refine this.trans ?_
      rw [show (bitsB 13 n).map ((fun d => match d with | D.int i => i.toNat | _ => 0) ∘ intD) = bitsB 13 n from ?_]
      conv => rhs; rw [← List.map_id (bitsB 13 n)]
      apply List.map_congr_left
      intro k _
      show ((k : Int)).toNat = k
      exact Int.toNat_natCast k
  subst hks
  have hb : ∀ k ∈ ks, k < 13 := fun k hk => bits_lt (pk.mem_iff.mp hk)
  have nd : ks.Nodup := pk.nodup_iff.mpr (bits_nd 13 n)
  have kl : ks.length ≤ 13 := by rw [pk.length_eq]; exact bl
  have i1 := init_of (S := S) (w := .lst (ks.map nmD)) (.inl rfl) nd hb (by omega)
  rw [sum2_perm pk, sum2_bits (n + 1) n (by omega) hn] at i1
  have ri : ∀ Γ k, res Γ (intD k) = intD k := fun _ _ => rfl
  have wd := words_ok (S := S)
  refine ⟨bx', ?_, b1.mono (by simp; omega)⟩
  generalize hL : (.lst ((bitsB 13 n).map intD) : D) = L at em
  have c2 : mComp (miSeq (mCall f__law_mixed (mCons (mIo 0) (mCons (mNow (mVar 1)) mNil)))) (tgName 2) [2] mYes (mOp (p2 oIx) (mA2 (mNow (mCall f__law_words mNil)) (mPk 2))) ⟨[.own true bx, .dat L, .un], S⟩ = some (.ok (ks.map nmD) ⟨[.own true bx', .dat L, .un], S⟩) := by
    refine mComp_each intD nmD ?_ (Nat.le_trans kl (by decide)) fun k hk => ⟨⟨[.own true bx', .dat L, .dat (intD k)], S⟩, ⟨[.own true bx', .dat L, .dat (intD k)], S⟩, rfl, ?_, rfl⟩
    · simp [miSeq, defG, mSeq, mIfS, mAnd, mOr, mNot, mTru, mNow, mOp, mOpL, mA2_ap, mA1_ap, mCons, mNil, mPk, mIo, mFz, mLst, mTup, mApp, mCall, nows, look, worths, worth, p2, p1, ix_l, ix_t, mCon, tr_b, mB, cm_i, ad_i, atI, ixN, in_i, if_i, un_i, mAsg, go_name, sl_name, free, mRet, mVar, mSet, bInt, mSkip, fin, finL, pad, res_int, res_str, res_bl, res_non, res_dic, res_lst, res_tup, Ev.get_mk, Ev.set_mk, Ev.length_mk, argsOf, argsL, putBack, putL, ios, setO, mIf, mPars, evP, storeP, scOf, mRetO, em]
    · have ix : oIx (.lst wordsD) (intD k) = some (nmD k) := words_ix (hb k hk)
      generalize wordsD = W at wd ix
      simp [defG, mSeq, mIfS, mAnd, mOr, mNot, mTru, mNow, mOp, mOpL, mA2_ap, mA1_ap, mCons, mNil, mPk, mIo, mFz, mLst, mTup, mApp, mCall, nows, look, worths, worth, p2, p1, ix_l, ix_t, mCon, tr_b, mB, cm_i, ad_i, atI, ixN, in_i, if_i, un_i, mAsg, go_name, sl_name, free, mRet, mVar, mSet, bInt, mSkip, fin, finL, pad, res_int, res_str, res_bl, res_non, res_dic, res_lst, res_tup, Ev.get_mk, Ev.set_mk, Ev.length_mk, argsOf, argsL, putBack, putL, ios, setO, mIf, mPars, evP, storeP, scOf, mRetO, wd, ri, ix]
  unfold f__law_made b__law_made
  generalize mComp _ (tgName 2) [2] mYes _ = C2 at c2 ⊢
  simp [defG, mSeq, mIfS, mAnd, mOr, mNot, mTru, mNow, mOp, mOpL, mA2_ap, mA1_ap, mCons, mNil, mPk, mIo, mFz, mLst, mTup, mApp, mCall, nows, look, worths, worth, p2, p1, ix_l, ix_t, mCon, tr_b, mB, cm_i, ad_i, atI, ixN, in_i, if_i, un_i, mAsg, go_name, sl_name, free, mRet, mVar, mSet, bInt, mSkip, fin, finL, pad, res_int, res_str, res_bl, res_non, res_dic, res_lst, res_tup, Ev.get_mk, Ev.set_mk, Ev.length_mk, argsOf, argsL, putBack, putL, ios, setO, mIf, mPars, evP, storeP, scOf, mRetO, c2, i1, qD]
end K04
namespace K04
open PySem PySem.Spec PyProof.Rows L2 Ky
def drC : MB := (mB (mOp (p2 oEq) (mA2 (mNow (mCall f__law_take (mCons (mIo 0) (mCons (mNow (mCon (.int 2))) mNil)))) (mNow (mCon (.int 0))))))
theorem res_intD (Γ : Ev) (k : Nat) : res Γ (intD k) = intD k := rfl
theorem comp_draw {S : List (List D)} {d1 d2 : D} : ∀ (ks : List Nat) (N : Nat) (bx : List D), Bx N bx → N + ks.length < 800000000 → ∃ (es : List Nat) (bx' : List D), compL (tgName 3) [3] drC (mVar 3) (ks.map intD) ⟨[.own true bx, .dat d1, .dat d2, .un], S⟩ = some (es.map intD, ⟨[.own true bx', .dat d1, .dat d2, .un], S⟩) ∧ es.Sublist ks ∧ Bx (N + ks.length) bx'
  | [], N, bx, h, _ => ⟨[], bx, rfl, .slnil, h⟩
  | k :: ks, N, bx, h, hN => by
    rw [List.length_cons] at hN
    obtain ⟨r, bx1, e, b1, r0, r1⟩ := take_bx (S := S) (many := 2) h (by omega) (by decide) (by decide)
    obtain ⟨es, bx', q, sl, b2⟩ := comp_draw (S := S) (d1 := d1) (d2 := d2) ks (N + 1) bx1 b1 (by omega)
    have g : (tgName 3).go (intD k) ⟨[.own true bx, .dat d1, .dat d2, .un], S⟩ = some ⟨[.own true bx, .dat d1, .dat d2, .dat (intD k)], S⟩ := rfl
    have c : drC ⟨[.own true bx, .dat d1, .dat d2, .dat (intD k)], S⟩ = some (.ok (decide (r = 0)) ⟨[.own true bx1, .dat d1, .dat d2, .dat (intD k)], S⟩) := by
      unfold drC
      simp [defG, mSeq, mIfS, mAnd, mOr, mNot, mTru, mNow, mOp, mOpL, mA2_ap, mA1_ap, mCons, mNil, mPk, mIo, mFz, mLst, mTup, mApp, mCall, nows, look, worths, worth, p2, p1, ix_l, ix_t, mCon, tr_b, mB, cm_i, ad_i, atI, ixN, in_i, if_i, un_i, mAsg, go_name, sl_name, free, mRet, mVar, mSet, bInt, mSkip, fin, finL, pad, res_int, res_str, res_bl, res_non, res_dic, res_lst, res_tup, Ev.get_mk, Ev.set_mk, Ev.length_mk, argsOf, argsL, putBack, putL, ios, setO, mIf, mPars, evP, storeP, scOf, mRetO, e, Ky.eq_int]
    have w : wipeE [3] ⟨[.own true bx1, .dat d1, .dat d2, .dat (intD k)], S⟩ = ⟨[.own true bx1, .dat d1, .dat d2, .un], S⟩ := rfl
    by_cases hr : r = 0
    · refine ⟨k :: es, bx', ?_, sl.cons₂ _, b2.mono (by simp; omega)⟩
      rw [List.map_cons, List.map_cons]
      unfold compL
      rw [g]
      simp only [c, decide_eq_true hr]
      rw [show mVar 3 ⟨[.own true bx1, .dat d1, .dat d2, .dat (intD k)], S⟩ = some (.ok (intD k) ⟨[.own true bx1, .dat d1, .dat d2, .dat (intD k)], S⟩) from rfl]
      simp only [w, q]
    · refine ⟨es, bx', ?_, sl.cons _, b2.mono (by simp; omega)⟩
      rw [List.map_cons]
      unfold compL
      rw [g]
      simp only [c, decide_eq_false hr, w, q]
theorem mcomp_draw {S : List (List D)} {d1 d2 : D} {src : MI} {ks : List Nat} {N : Nat} {bx : List D} (hs : src ⟨[.own true bx, .dat d1, .dat d2, .un], S⟩ = some (.ok (ks.map intD) ⟨[.own true bx, .dat d1, .dat d2, .un], S⟩)) (hl : ks.length ≤ 100) (h : Bx N bx) (hN : N < 700000000) :
    ∃ (es : List Nat) (bx' : List D), mComp src (tgName 3) [3] drC (mVar 3) ⟨[.own true bx, .dat d1, .dat d2, .un], S⟩ = some (.ok (es.map intD) ⟨[.own true bx', .dat d1, .dat d2, .un], S⟩) ∧ es.Sublist ks ∧ Bx (N + ks.length) bx' := by
  obtain ⟨es, bx', q, sl, b⟩ := comp_draw (S := S) (d1 := d1) (d2 := d2) ks N bx h (by omega)
  refine ⟨es, bx', ?_, sl, b⟩
  have l : ks.length ≤ 100000 := by omega
  have w : wipeE [3] (lend ⟨[.own true bx, .dat d1, .dat d2, .un], S⟩) = ⟨[.own true bx, .dat d1, .dat d2, .un], S⟩ := rfl
  unfold mComp
  rw [hs]
  simp only [w, q]
  simp [sl_name, l, unlend, unlendL, Ev.length_mk]
theorem rng13 (Γ : Ev) : miRng1 (mNow (mCon (.int 13))) Γ = some (.ok ((List.range 13).map intD) Γ) := by
  cases Γ
  rfl
theorem bl_eq (a b : Bool) : oEq (.bl a) (.bl b) = some (.bl (decide (a = b))) := by
  cases a <;> cases b <;> rfl
/-- a drawn list of places -/
def Drawn (R : FR) (m : Nat) : Prop := (∃ d, R = .dat d ∧ Pl m d) ∨ ∃ ds, R = .own ds ∧ Pl m (.lst ds)
theorem drawn_ok {S : List (List D)} {N : Nat} {bx : List D} {d : D} {n : Nat} (h : Bx N bx) (hN : N < 600000000) (hd : Pl n d) : ∃ bx' m R, f__law_drawn ⟨[.own true bx, .dat d], S⟩ = some (R, ⟨[.own true bx', .dat d], S⟩) ∧ Drawn R m ∧ Bx (N + 20) bx' := by
  obtain ⟨hn, rfl⟩ := hd
  obtain ⟨w, bx1, e, b1, w0, w1⟩ := take_bx (S := S) (many := 9) h (by omega) (by decide) (by decide)
  have r13 : Ky.upTo 0 13 = (List.range 13).map intD := rfl
  generalize hL : (.lst ((bitsB 13 n).map intD) : D) = L
  have rL : ∀ Γ, res Γ L = L := fun Γ => by rw [← hL]; rfl
  unfold f__law_drawn b__law_drawn
  by_cases h0 : w = 0
  · subst h0
    refine ⟨bx1, 0, .dat (.lst []), ?_, .inl ⟨_, rfl, by decide, by rw [bitsB_zero]; rfl⟩, b1.mono (by omega)⟩
    simp [defG, mSeq, mIfS, mAnd, mOr, mNot, mTru, mNow, mOp, mOpL, mA2_ap, mA1_ap, mCons, mNil, mPk, mIo, mFz, mLst, mTup, mApp, mCall, nows, look, worths, worth, p2, p1, ix_l, ix_t, mCon, tr_b, mB, cm_i, ad_i, atI, ixN, in_i, if_i, un_i, mAsg, go_name, sl_name, free, mRet, mVar, mSet, bInt, mSkip, fin, finL, pad, res_int, res_str, res_bl, res_non, res_dic, res_lst, res_tup, Ev.get_mk, Ev.set_mk, Ev.length_mk, argsOf, argsL, putBack, putL, ios, setO, mIf, mPars, evP, storeP, scOf, mRetO, e, mListRng]
  by_cases h1 : w = 1
  · subst h1
    refine ⟨bx1, setN 13 (fun _ => true), .dat (.lst ((List.range 13).map intD)), ?_, .inl ⟨_, rfl, ?_⟩, b1.mono (by omega)⟩
    · simp [defG, mSeq, mIfS, mAnd, mOr, mNot, mTru, mNow, mOp, mOpL, mA2_ap, mA1_ap, mCons, mNil, mPk, mIo, mFz, mLst, mTup, mApp, mCall, nows, look, worths, worth, p2, p1, ix_l, ix_t, mCon, tr_b, mB, cm_i, ad_i, atI, ixN, in_i, if_i, un_i, mAsg, go_name, sl_name, free, mRet, mVar, mSet, bInt, mSkip, fin, finL, pad, res_int, res_str, res_bl, res_non, res_dic, res_lst, res_tup, Ev.get_mk, Ev.set_mk, Ev.length_mk, argsOf, argsL, putBack, putL, ios, setO, mIf, mPars, evP, storeP, scOf, mRetO, e, mListRng]
      exact r13
    · have q := pl_filter fun _ => true
      rw [List.filter_eq_self.mpr fun _ _ => rfl] at q
      exact q
  have h2 : ¬ w < 2 := by omega
  by_cases h3 : w < 4
  · refine ⟨bx1, setN 13 (fun k => decide (n.testBit k = decide (w = 2))), .own (((List.range 13).filter fun k => decide (n.testBit k = decide (w = 2))).map intD), ?_, .inr ⟨_, rfl, pl_filter _⟩, b1.mono (by omega)⟩
    have c : mComp (miRng1 (mNow (mCon (.int 13)))) (tgName 3) [3] (mB (mOp (p2 oEq) (mA2 (mNow (mOp (p2 oIn) (mA2 (mPk 3) (mPk 1)))) (mNow (mOp (p2 oEq) (mA2 (mPk 2) (mNow (mCon (.int 2))))))))) (mVar 3) ⟨[.own true bx1, .dat L, .dat (.int w), .un], S⟩ = some (.ok (((List.range 13).filter fun k => decide (n.testBit k = decide (w = 2))).map intD) ⟨[.own true bx1, .dat L, .dat (.int w), .un], S⟩) := by
      refine mComp_over intD (fun k => decide (n.testBit k = decide (w = 2))) intD (rng13 _) (by simp) fun k hk => ?_
      have hk := List.mem_range.mp hk
      have i1 : oIn (intD k) L = some (.bl (n.testBit k)) := by rw [← hL, in_ok, in_bits hk]
      refine ⟨⟨[.own true bx1, .dat L, .dat (.int w), .dat (intD k)], S⟩, ⟨[.own true bx1, .dat L, .dat (.int w), .dat (intD k)], S⟩, ⟨[.own true bx1, .dat L, .dat (.int w), .dat (intD k)], S⟩, rfl, ?_, fun _ => rfl, fun _ => ⟨rfl, rfl⟩⟩
      simp [defG, mSeq, mIfS, mAnd, mOr, mNot, mTru, mNow, mOp, mOpL, mA2_ap, mA1_ap, mCons, mNil, mPk, mIo, mFz, mLst, mTup, mApp, mCall, nows, look, worths, worth, p2, p1, ix_l, ix_t, mCon, tr_b, mB, cm_i, ad_i, atI, ixN, in_i, if_i, un_i, mAsg, go_name, sl_name, free, mRet, mVar, mSet, bInt, mSkip, fin, finL, pad, res_int, res_str, res_bl, res_non, res_dic, res_lst, res_tup, Ev.get_mk, Ev.set_mk, Ev.length_mk, argsOf, argsL, putBack, putL, ios, setO, mIf, mPars, evP, storeP, scOf, mRetO, res_intD, rL, i1, Ky.eq_int, bl_eq]
    generalize mComp (miRng1 (mNow (mCon (.int 13)))) (tgName 3) [3] (mB (mOp (p2 oEq) (mA2 (mNow (mOp (p2 oIn) _)) _))) (mVar 3) = C at c ⊢
    simp [defG, mSeq, mIfS, mAnd, mOr, mNot, mTru, mNow, mOp, mOpL, mA2_ap, mA1_ap, mCons, mNil, mPk, mIo, mFz, mLst, mTup, mApp, mCall, nows, look, worths, worth, p2, p1, ix_l, ix_t, mCon, tr_b, mB, cm_i, ad_i, atI, ixN, in_i, if_i, un_i, mAsg, go_name, sl_name, free, mRet, mVar, mSet, bInt, mSkip, fin, finL, pad, res_int, res_str, res_bl, res_non, res_dic, res_lst, res_tup, Ev.get_mk, Ev.set_mk, Ev.length_mk, argsOf, argsL, putBack, putL, ios, setO, mIf, mPars, evP, storeP, scOf, mRetO, e, h2, h3, mRetL, c]
  by_cases h4 : w = 4
  · subst h4
    obtain ⟨es, bx', q, sl, b2⟩ := mcomp_draw (S := S) (d1 := L) (d2 := .int 4) (src := miSeq (mVar 1)) (ks := bitsB 13 n) (by rw [← hL]; rfl) (Nat.le_trans (bits_len 13 n) (by decide)) b1 (by omega)
    refine ⟨bx', _, .own (es.map intD), ?_, .inr ⟨_, rfl, pl_sub (sl.trans (bits_sub n))⟩, b2.mono (by have := bits_len 13 n; omega)⟩
    change defG 2 4 (mSeq _ (mSeq _ (mSeq _ (mSeq (mIfS _ (mRetL (mComp (miSeq (mVar 1)) (tgName 3) [3] drC (mVar 3))) _) (mSeq _ (mRetL (mComp _ (tgName 3) [3] drC _))))))) _ = _
    generalize mComp (miSeq (mVar 1)) (tgName 3) [3] drC (mVar 3) = C at q ⊢
    simp [defG, mSeq, mIfS, mAnd, mOr, mNot, mTru, mNow, mOp, mOpL, mA2_ap, mA1_ap, mCons, mNil, mPk, mIo, mFz, mLst, mTup, mApp, mCall, nows, look, worths, worth, p2, p1, ix_l, ix_t, mCon, tr_b, mB, cm_i, ad_i, atI, ixN, in_i, if_i, un_i, mAsg, go_name, sl_name, free, mRet, mVar, mSet, bInt, mSkip, fin, finL, pad, res_int, res_str, res_bl, res_non, res_dic, res_lst, res_tup, Ev.get_mk, Ev.set_mk, Ev.length_mk, argsOf, argsL, putBack, putL, ios, setO, mIf, mPars, evP, storeP, scOf, mRetO, e, Ky.eq_int, mRetL, q]
  by_cases h5 : w = 5
  · subst h5
    obtain ⟨k, bx2, e2, b2, k0, k1⟩ := take_bx (S := S) (many := 13) b1 (by omega) (by decide) (by decide)
    obtain ⟨k, rfl⟩ : ∃ j : Nat, k = (j : Int) := ⟨k.toNat, by omega⟩
    refine ⟨bx2, _, .own [intD k], ?_, .inr ⟨_, rfl, pl_sub (ks := [k]) (List.singleton_sublist.mpr (List.mem_range.mpr (by omega)))⟩, b2.mono (by omega)⟩
    simp [defG, mSeq, mIfS, mAnd, mOr, mNot, mTru, mNow, mOp, mOpL, mA2_ap, mA1_ap, mCons, mNil, mPk, mIo, mFz, mLst, mTup, mApp, mCall, nows, look, worths, worth, p2, p1, ix_l, ix_t, mCon, tr_b, mB, cm_i, ad_i, atI, ixN, in_i, if_i, un_i, mAsg, go_name, sl_name, free, mRet, mVar, mSet, bInt, mSkip, fin, finL, pad, res_int, res_str, res_bl, res_non, res_dic, res_lst, res_tup, Ev.get_mk, Ev.set_mk, Ev.length_mk, argsOf, argsL, putBack, putL, ios, setO, mIf, mPars, evP, storeP, scOf, mRetO, e, Ky.eq_int, mRetL, e2, intD]
  · obtain ⟨es, bx', q, sl, b2⟩ := mcomp_draw (S := S) (d1 := L) (d2 := .int w) (src := miRng1 (mNow (mCon (.int 13)))) (ks := List.range 13) (rng13 _) (by simp) b1 (by omega)
    refine ⟨bx', _, .own (es.map intD), ?_, .inr ⟨_, rfl, pl_sub sl⟩, b2.mono (by simp)⟩
    change defG 2 4 (mSeq _ (mSeq _ (mSeq _ (mSeq (mIfS _ (mRetL (mComp (miSeq (mVar 1)) (tgName 3) [3] drC (mVar 3))) _) (mSeq _ (mRetL (mComp (miRng1 (mNow (mCon (.int 13)))) (tgName 3) [3] drC (mVar 3)))))))) _ = _
    generalize mComp (miRng1 (mNow (mCon (.int 13)))) (tgName 3) [3] drC (mVar 3) = C at q ⊢
    simp [defG, mSeq, mIfS, mAnd, mOr, mNot, mTru, mNow, mOp, mOpL, mA2_ap, mA1_ap, mCons, mNil, mPk, mIo, mFz, mLst, mTup, mApp, mCall, nows, look, worths, worth, p2, p1, ix_l, ix_t, mCon, tr_b, mB, cm_i, ad_i, atI, ixN, in_i, if_i, un_i, mAsg, go_name, sl_name, free, mRet, mVar, mSet, bInt, mSkip, fin, finL, pad, res_int, res_str, res_bl, res_non, res_dic, res_lst, res_tup, Ev.get_mk, Ev.set_mk, Ev.length_mk, argsOf, argsL, putBack, putL, ios, setO, mIf, mPars, evP, storeP, scOf, mRetO, e, h2, h3, h4, h5, Ky.eq_int, mRetL, q]
end K04
namespace K04
open PySem PySem.Spec PyProof.Rows L2 Ky
def mir (i : Nat) : Nat := [12, 11, 10, 7, 4, 9, 6, 3, 8, 5, 2, 1, 0].getD i 0
theorem mir_lt {r : Nat} (h : r < 13) : mir r < 13 := match r, h with
  | 0, _ => by decide +kernel
  | 1, _ => by decide +kernel
  | 2, _ => by decide +kernel
  | 3, _ => by decide +kernel
  | 4, _ => by decide +kernel
  | 5, _ => by decide +kernel
  | 6, _ => by decide +kernel
  | 7, _ => by decide +kernel
  | 8, _ => by decide +kernel
  | 9, _ => by decide +kernel
  | 10, _ => by decide +kernel
  | 11, _ => by decide +kernel
  | 12, _ => by decide +kernel
theorem mir_mir {r : Nat} (h : r < 13) : mir (mir r) = r := match r, h with
  | 0, _ => rfl
  | 1, _ => rfl
  | 2, _ => rfl
  | 3, _ => rfl
  | 4, _ => rfl
  | 5, _ => rfl
  | 6, _ => rfl
  | 7, _ => rfl
  | 8, _ => rfl
  | 9, _ => rfl
  | 10, _ => rfl
  | 11, _ => rfl
  | 12, _ => rfl
theorem tur_lt {r : Nat} (h : r < 13) : 12 - r < 13 := by omega
/-- the numbers behind the six doors -/
def num (door n m : Nat) : Nat := match door with
  | 0 => n &&& m
  | 1 => n ||| m
  | 2 => n &&& (8191 - m)
  | 3 => 8191 - n
  | 4 => ledN (fun k => 12 - k) n
  | _ => ledN mir n
theorem perm_led {n : Nat} {tb : Nat → Nat} (ht : ∀ k < 13, tb k < 13) (hi : ∀ j < 13, ∀ k < 13, tb j = tb k → j = k) : ((bitsB 13 n).map tb).Perm (bitsB 13 (ledN tb n)) ∧ ledN tb n < 2 ^ 13 := by
  have nd : ((bitsB 13 n).map tb).Nodup := by
    have q := bits_nd 13 n
    rw [List.nodup_iff_pairwise_ne, List.pairwise_map]
    refine List.Pairwise.imp_of_mem (fun {a b} ha hb hne e => hne (hi a (bits_lt ha) b (bits_lt hb) e)) (List.nodup_iff_pairwise_ne.mp q)
  have pf : ((bitsB 13 n).map tb).Perm ((List.range 13).filter fun k => decide (k ∈ (bitsB 13 n).map tb)) := by
    refine (List.perm_ext_iff_of_nodup nd (List.Nodup.sublist List.filter_sublist List.nodup_range)).mpr fun x => ?_
    rw [List.mem_filter, List.mem_range, decide_eq_true_eq]
    refine ⟨fun h => ⟨?_, h⟩, fun h => h.2⟩
    obtain ⟨k, hk, rfl⟩ := List.mem_map.mp h
    exact ht k (bits_lt hk)
  have e : ledN tb n = setN 13 fun k => decide (k ∈ (bitsB 13 n).map tb) := sum2_perm pf
  rw [e, bits_setN]
  exact ⟨pf, setN_lt _ _⟩
theorem led_bit {n k : Nat} {tb : Nat → Nat} (ht : ∀ k < 13, tb k < 13) (hi : ∀ j < 13, ∀ k < 13, tb j = tb k → j = k) (hk : k < 13) : (ledN tb n).testBit (tb k) = n.testBit k := by
  have p := (perm_led (n := n) ht hi).1
  have a : tb k ∈ bitsB 13 (ledN tb n) ↔ k ∈ bitsB 13 n := by
    rw [← p.mem_iff, List.mem_map]
    refine ⟨fun ⟨j, hj, e⟩ => hi j (bits_lt hj) k hk e ▸ hj, fun h => ⟨k, h, rfl⟩⟩
  rw [mem_bits, mem_bits] at a
  have ht' := ht k hk
  cases h1 : (ledN tb n).testBit (tb k) <;> cases h2 : n.testBit k
  · rfl
  · exact absurd (a.mpr ⟨hk, h2⟩).2 (by rw [h1]; decide)
  · exact absurd (a.mp ⟨ht', h1⟩).2 (by rw [h2]; decide)
  · rfl
theorem tur_inj : ∀ j < 13, ∀ k < 13, 12 - j = 12 - k → j = k := by decide
theorem mir_inj : ∀ j < 13, ∀ k < 13, mir j = mir k → j = k := fun j hj k hk e => by rw [← mir_mir hj, e, mir_mir hk]
theorem opp_bit {n k : Nat} (hn : n < 2 ^ 13) (hk : k < 13) : (8191 - n).testBit k = !n.testBit k := by
  have q := Nat.testBit_two_pow_sub_succ hn k
  rw [show 2 ^ 13 - (n + 1) = 8191 - n by omega] at q
  rw [q]
  simp [hk]
theorem num_lt {door n m : Nat} (hn : n < 2 ^ 13) (hm : m < 2 ^ 13) : num door n m < 2 ^ 13 := by
  unfold num
  split
  · exact Nat.and_lt_two_pow _ hm
  · exact Nat.or_lt_two_pow hn hm
  · exact Nat.and_lt_two_pow _ (by omega)
  · omega
  · exact (perm_led (fun k hk => tur_lt hk) tur_inj).2
  · exact (perm_led (fun k hk => mir_lt hk) mir_inj).2
theorem pw_bits (n : Nat) : (bitsB 13 n).Pairwise (· < ·) := List.Pairwise.sublist List.filter_sublist (List.pairwise_lt_range)
theorem intsD_nat : ∀ ks : List Nat, intsD (ks.map intD) = some (ks.map fun k : Nat => (k : Int))
  | [] => rfl
  | k :: ks => by
    show (match intsD (ks.map intD) with | some is => some ((k : Int) :: is) | none => none) = _
    rw [intsD_nat ks]
    rfl
theorem sort_led {n : Nat} {tb : Nat → Nat} (ht : ∀ k < 13, tb k < 13) (hi : ∀ j < 13, ∀ k < 13, tb j = tb k → j = k) : bSortI [.lst ((bitsB 13 n).map fun k => intD (tb k))] = some ((bitsB 13 (ledN tb n)).map intD) := by
  have p := (perm_led (n := n) ht hi).1
  have e : ((bitsB 13 n).map fun k => intD (tb k)) = ((bitsB 13 n).map tb).map intD := by rw [List.map_map]; rfl
  have l : (((bitsB 13 n).map tb).map fun k : Nat => (k : Int)).length < 64 := by simp; have := bits_len 13 n; omega
  have q : sortQ (((bitsB 13 n).map tb).map fun k : Nat => (k : Int)) = (bitsB 13 (ledN tb n)).map fun k : Nat => (k : Int) := by
    refine up_eqQ (sortQ_up _) ?_ ((sortQ_perm _).trans (p.map _))
    rw [List.pairwise_map]
    exact (pw_bits _).imp fun h => by omega
  unfold bSortI
  rw [e]
  simp only [intsD_nat]
  rw [if_pos l, q, List.map_map]
  rfl
theorem moved0 {S : List (List D)} {k : Nat} (h : k < 13) : f__law_moved ⟨[.dat (intD k), .dat (.int 0)], S⟩ = some (.dat (intD (12 - k)), ⟨[.dat (intD k), .dat (.int 0)], S⟩) := match k, h with
  | 0, _ => by with_unfolding_all rfl
  | 1, _ => by with_unfolding_all rfl
  | 2, _ => by with_unfolding_all rfl
  | 3, _ => by with_unfolding_all rfl
  | 4, _ => by with_unfolding_all rfl
  | 5, _ => by with_unfolding_all rfl
  | 6, _ => by with_unfolding_all rfl
  | 7, _ => by with_unfolding_all rfl
  | 8, _ => by with_unfolding_all rfl
  | 9, _ => by with_unfolding_all rfl
  | 10, _ => by with_unfolding_all rfl
  | 11, _ => by with_unfolding_all rfl
  | 12, _ => by with_unfolding_all rfl
theorem moved1 {S : List (List D)} {k : Nat} (h : k < 13) : f__law_moved ⟨[.dat (intD k), .dat (.int 1)], S⟩ = some (.dat (intD (mir k)), ⟨[.dat (intD k), .dat (.int 1)], S⟩) := match k, h with
  | 0, _ => by with_unfolding_all rfl
  | 1, _ => by with_unfolding_all rfl
  | 2, _ => by with_unfolding_all rfl
  | 3, _ => by with_unfolding_all rfl
  | 4, _ => by with_unfolding_all rfl
  | 5, _ => by with_unfolding_all rfl
  | 6, _ => by with_unfolding_all rfl
  | 7, _ => by with_unfolding_all rfl
  | 8, _ => by with_unfolding_all rfl
  | 9, _ => by with_unfolding_all rfl
  | 10, _ => by with_unfolding_all rfl
  | 11, _ => by with_unfolding_all rfl
  | 12, _ => by with_unfolding_all rfl
end K04
namespace K04
open PySem PySem.Spec PyProof.Rows L2 Ky
theorem and_int (a b : Nat) : Builtin.bitAnd (a : Int) (b : Int) = ((a &&& b : Nat) : Int) := rfl
theorem or_int (a b : Nat) : Builtin.bitOr (a : Int) (b : Int) = ((a ||| b : Nat) : Int) := by
  rw [bitOr_nn (by omega) (by omega)]
  simp
theorem isq_ok {S : List (List D)} {n : Nat} : f_is_question ⟨[.dat (qD n)], S⟩ = some (.dat (.bl true), ⟨[.dat (qD n)], S⟩) := rfl
theorem checkq_ok {S : List (List D)} {n : Nat} : f_check_question ⟨[.dat (qD n)], S⟩ = some (.dat .non, ⟨[.dat (qD n)], S⟩) := by
  have q := isq_ok (S := S) (n := n)
  unfold f_check_question b_check_question
  generalize qD n = x at *
  simp [defG, mSeq, mIfS, mAnd, mOr, mNot, mTru, mNow, mOp, mOpL, mA2_ap, mA1_ap, mCons, mNil, mPk, mIo, mFz, mLst, mTup, mApp, mCall, nows, look, worths, worth, p2, p1, ix_l, ix_t, mCon, tr_b, mB, cm_i, ad_i, atI, ixN, in_i, if_i, un_i, mAsg, go_name, sl_name, free, mRet, mVar, mSet, bInt, mSkip, fin, finL, pad, res_int, res_str, res_bl, res_non, res_dic, res_lst, res_tup, Ev.get_mk, Ev.set_mk, Ev.length_mk, argsOf, argsL, putBack, putL, ios, setO, mIf, mPars, evP, storeP, scOf, mRetO, q]
theorem checkqs_ok {S : List (List D)} {n m : Nat} : f_check_questions ⟨[.dat (qD n), .dat (qD m)], S⟩ = some (.dat .non, ⟨[.dat (qD n), .dat (qD m)], S⟩) := by
  have q := checkq_ok (S := S) (n := n)
  have q2 := checkq_ok (S := S) (n := m)
  unfold f_check_questions b_check_questions
  generalize qD n = x at *
  generalize qD m = y at *
  simp [defG, mSeq, mIfS, mAnd, mOr, mNot, mTru, mNow, mOp, mOpL, mA2_ap, mA1_ap, mCons, mNil, mPk, mIo, mFz, mLst, mTup, mApp, mCall, nows, look, worths, worth, p2, p1, ix_l, ix_t, mCon, tr_b, mB, cm_i, ad_i, atI, ixN, in_i, if_i, un_i, mAsg, go_name, sl_name, free, mRet, mVar, mSet, bInt, mSkip, fin, finL, pad, res_int, res_str, res_bl, res_non, res_dic, res_lst, res_tup, Ev.get_mk, Ev.set_mk, Ev.length_mk, argsOf, argsL, putBack, putL, ios, setO, mIf, mPars, evP, storeP, scOf, mRetO, mExpr, q, q2]
theorem fld {S : List (List D)} {n : Nat} {l : List SC} {i : Nat} (h : l[i]? = some (.dat (qD n))) : mFld 0 0 (mVar i) ⟨l, S⟩ = some (.ok (intD n) ⟨l, S⟩) := by
  have v : mVar i ⟨l, S⟩ = some (.ok (qD n) ⟨l, S⟩) := by
    unfold mVar
    rw [Ev.get_mk, h]
  unfold mFld
  rw [v]
  rfl
theorem both_ok {S : List (List D)} {n m : Nat} (hn : n < 2 ^ 13) (hm : m < 2 ^ 13) : f_both ⟨[.dat (qD n), .dat (qD m)], S⟩ = some (.dat (qD (num 0 n m)), ⟨[.dat (qD n), .dat (qD m)], S⟩) := by
  have q := checkqs_ok (S := S) (n := n) (m := m)
  have w := question_ok (S := S) (n := num 0 n m) (num_lt hn hm)
  have f0 := fld (S := S) (n := n) (l := [.dat (qD n), .dat (qD m)]) (i := 0) rfl
  have f1 := fld (S := S) (n := m) (l := [.dat (qD n), .dat (qD m)]) (i := 1) rfl
  have o : oAnd (intD n) (intD m) = some (intD (num 0 n m)) := rfl
  unfold f_both b_both
  generalize hx : qD n = x at *
  generalize hy : qD m = y at *
  simp [defG, mSeq, mIfS, mAnd, mOr, mNot, mTru, mNow, mOp, mOpL, mA2_ap, mA1_ap, mCons, mNil, mPk, mIo, mFz, mLst, mTup, mApp, mCall, nows, look, worths, worth, p2, p1, ix_l, ix_t, mCon, tr_b, mB, cm_i, ad_i, atI, ixN, in_i, if_i, un_i, mAsg, go_name, sl_name, free, mRet, mVar, mSet, bInt, mSkip, fin, finL, pad, res_int, res_str, res_bl, res_non, res_dic, res_lst, res_tup, Ev.get_mk, Ev.set_mk, Ev.length_mk, argsOf, argsL, putBack, putL, ios, setO, mIf, mPars, evP, storeP, scOf, mRetO, mExpr, q, f0, f1, o, res_intD, w]
theorem either_ok {S : List (List D)} {n m : Nat} (hn : n < 2 ^ 13) (hm : m < 2 ^ 13) : f_either ⟨[.dat (qD n), .dat (qD m)], S⟩ = some (.dat (qD (num 1 n m)), ⟨[.dat (qD n), .dat (qD m)], S⟩) := by
  have q := checkqs_ok (S := S) (n := n) (m := m)
  have w := question_ok (S := S) (n := num 1 n m) (num_lt hn hm)
  have f0 := fld (S := S) (n := n) (l := [.dat (qD n), .dat (qD m)]) (i := 0) rfl
  have f1 := fld (S := S) (n := m) (l := [.dat (qD n), .dat (qD m)]) (i := 1) rfl
  have o : oOr (intD n) (intD m) = some (intD (num 1 n m)) := by
    show some (D.int (Builtin.bitOr (n : Int) (m : Int))) = _
    rw [or_int]
    rfl
  unfold f_either b_either
  generalize hx : qD n = x at *
  generalize hy : qD m = y at *
  simp [defG, mSeq, mIfS, mAnd, mOr, mNot, mTru, mNow, mOp, mOpL, mA2_ap, mA1_ap, mCons, mNil, mPk, mIo, mFz, mLst, mTup, mApp, mCall, nows, look, worths, worth, p2, p1, ix_l, ix_t, mCon, tr_b, mB, cm_i, ad_i, atI, ixN, in_i, if_i, un_i, mAsg, go_name, sl_name, free, mRet, mVar, mSet, bInt, mSkip, fin, finL, pad, res_int, res_str, res_bl, res_non, res_dic, res_lst, res_tup, Ev.get_mk, Ev.set_mk, Ev.length_mk, argsOf, argsL, putBack, putL, ios, setO, mIf, mPars, evP, storeP, scOf, mRetO, mExpr, q, f0, f1, o, res_intD, w]
theorem sub_int {m : Nat} (hm : m < 2 ^ 13) : oSub (.int 8191) (intD m) = some (intD (8191 - m)) := by
  show some (D.int (8191 - (m : Int))) = some (D.int ((8191 - m : Nat) : Int))
  congr 2
  omega
theorem without_ok {S : List (List D)} {n m : Nat} (hn : n < 2 ^ 13) (hm : m < 2 ^ 13) : f_without ⟨[.dat (qD n), .dat (qD m)], S⟩ = some (.dat (qD (num 2 n m)), ⟨[.dat (qD n), .dat (qD m)], S⟩) := by
  have q := checkqs_ok (S := S) (n := n) (m := m)
  have w := question_ok (S := S) (n := num 2 n m) (num_lt hn hm)
  have f0 := fld (S := S) (n := n) (l := [.dat (qD n), .dat (qD m)]) (i := 0) rfl
  have f1 := fld (S := S) (n := m) (l := [.dat (qD n), .dat (qD m)]) (i := 1) rfl
  have s := sub_int hm
  have o : oAnd (intD n) (intD (8191 - m)) = some (intD (num 2 n m)) := rfl
  unfold f_without b_without
  generalize hx : qD n = x at *
  generalize hy : qD m = y at *
  simp [defG, mSeq, mIfS, mAnd, mOr, mNot, mTru, mNow, mOp, mOpL, mA2_ap, mA1_ap, mCons, mNil, mPk, mIo, mFz, mLst, mTup, mApp, mCall, nows, look, worths, worth, p2, p1, ix_l, ix_t, mCon, tr_b, mB, cm_i, ad_i, atI, ixN, in_i, if_i, un_i, mAsg, go_name, sl_name, free, mRet, mVar, mSet, bInt, mSkip, fin, finL, pad, res_int, res_str, res_bl, res_non, res_dic, res_lst, res_tup, Ev.get_mk, Ev.set_mk, Ev.length_mk, argsOf, argsL, putBack, putL, ios, setO, mIf, mPars, evP, storeP, scOf, mRetO, mExpr, q, f0, f1, s, o, res_intD, w]
theorem opposite_ok {S : List (List D)} {n m : Nat} (hn : n < 2 ^ 13) : f_opposite ⟨[.dat (qD n)], S⟩ = some (.dat (qD (num 3 n m)), ⟨[.dat (qD n)], S⟩) := by
  have q := checkq_ok (S := S) (n := n)
  have w := question_ok (S := S) (n := num 3 n m) (show 8191 - n < 2 ^ 13 by omega)
  have f0 := fld (S := S) (n := n) (l := [.dat (qD n)]) (i := 0) rfl
  have s : oSub (.int 8191) (intD n) = some (intD (num 3 n m)) := sub_int hn
  unfold f_opposite b_opposite
  generalize hx : qD n = x at *
  simp [defG, mSeq, mIfS, mAnd, mOr, mNot, mTru, mNow, mOp, mOpL, mA2_ap, mA1_ap, mCons, mNil, mPk, mIo, mFz, mLst, mTup, mApp, mCall, nows, look, worths, worth, p2, p1, ix_l, ix_t, mCon, tr_b, mB, cm_i, ad_i, atI, ixN, in_i, if_i, un_i, mAsg, go_name, sl_name, free, mRet, mVar, mSet, bInt, mSkip, fin, finL, pad, res_int, res_str, res_bl, res_non, res_dic, res_lst, res_tup, Ev.get_mk, Ev.set_mk, Ev.length_mk, argsOf, argsL, putBack, putL, ios, setO, mIf, mPars, evP, storeP, scOf, mRetO, mExpr, q, f0, s, res_intD, w]
theorem turned_ok {S : List (List D)} {n m : Nat} (hn : n < 2 ^ 13) : f_turned_of ⟨[.dat (qD n)], S⟩ = some (.dat (qD (num 4 n m)), ⟨[.dat (qD n)], S⟩) := by
  have q := checkq_ok (S := S) (n := n)
  have w := question_ok (S := S) (n := num 4 n m) (perm_led (fun k hk => tur_lt hk) tur_inj).2
  have f0 := fld (S := S) (n := n) (l := [.dat (qD n)]) (i := 0) rfl
  have ld := led_ok (S := S) (n := n) (tD := d_TURNED) (tb := fun k => 12 - k) hn (fun _ => rfl) fun k hk => ⟨match k, hk with
    | 0, _ => rfl
    | 1, _ => rfl
    | 2, _ => rfl
    | 3, _ => rfl
    | 4, _ => rfl
    | 5, _ => rfl
    | 6, _ => rfl
    | 7, _ => rfl
    | 8, _ => rfl
    | 9, _ => rfl
    | 10, _ => rfl
    | 11, _ => rfl
    | 12, _ => rfl
    , tur_lt hk⟩
  have t : f_turned_number ⟨[.dat (intD n)], S⟩ = some (.dat (intD (num 4 n m)), ⟨[.dat (intD n)], S⟩) := by
    have ld : f_led ⟨[.dat (intD n), .dat d_TURNED], S⟩ = some (.dat (intD (num 4 n m)), ⟨[.dat (intD n), .dat d_TURNED], S⟩) := ld
    unfold f_turned_number b_turned_number
    generalize d_TURNED = TT at ld ⊢
    simp [defG, mSeq, mIfS, mAnd, mOr, mNot, mTru, mNow, mOp, mOpL, mA2_ap, mA1_ap, mCons, mNil, mPk, mIo, mFz, mLst, mTup, mApp, mCall, nows, look, worths, worth, p2, p1, ix_l, ix_t, mCon, tr_b, mB, cm_i, ad_i, atI, ixN, in_i, if_i, un_i, mAsg, go_name, sl_name, free, mRet, mVar, mSet, bInt, mSkip, fin, finL, pad, res_int, res_str, res_bl, res_non, res_dic, res_lst, res_tup, Ev.get_mk, Ev.set_mk, Ev.length_mk, argsOf, argsL, putBack, putL, ios, setO, mIf, mPars, evP, storeP, scOf, mRetO, ld]
  unfold f_turned_of b_turned_of
  generalize hx : qD n = x at *
  simp [defG, mSeq, mIfS, mAnd, mOr, mNot, mTru, mNow, mOp, mOpL, mA2_ap, mA1_ap, mCons, mNil, mPk, mIo, mFz, mLst, mTup, mApp, mCall, nows, look, worths, worth, p2, p1, ix_l, ix_t, mCon, tr_b, mB, cm_i, ad_i, atI, ixN, in_i, if_i, un_i, mAsg, go_name, sl_name, free, mRet, mVar, mSet, bInt, mSkip, fin, finL, pad, res_int, res_str, res_bl, res_non, res_dic, res_lst, res_tup, Ev.get_mk, Ev.set_mk, Ev.length_mk, argsOf, argsL, putBack, putL, ios, setO, mIf, mPars, evP, storeP, scOf, mRetO, mExpr, q, f0, t, w]
theorem mirrored_ok {S : List (List D)} {n m : Nat} (hn : n < 2 ^ 13) : f_mirrored_of ⟨[.dat (qD n)], S⟩ = some (.dat (qD (num 5 n m)), ⟨[.dat (qD n)], S⟩) := by
  have q := checkq_ok (S := S) (n := n)
  have w := question_ok (S := S) (n := num 5 n m) (perm_led (fun k hk => mir_lt hk) mir_inj).2
  have f0 := fld (S := S) (n := n) (l := [.dat (qD n)]) (i := 0) rfl
  have ld := led_ok (S := S) (n := n) (tD := d_MIRRORED) (tb := mir) hn (fun _ => rfl) fun k hk => ⟨match k, hk with
    | 0, _ => rfl
    | 1, _ => rfl
    | 2, _ => rfl
    | 3, _ => rfl
    | 4, _ => rfl
    | 5, _ => rfl
    | 6, _ => rfl
    | 7, _ => rfl
    | 8, _ => rfl
    | 9, _ => rfl
    | 10, _ => rfl
    | 11, _ => rfl
    | 12, _ => rfl
    , mir_lt hk⟩
  have t : f_mirrored_number ⟨[.dat (intD n)], S⟩ = some (.dat (intD (num 5 n m)), ⟨[.dat (intD n)], S⟩) := by
    have ld : f_led ⟨[.dat (intD n), .dat d_MIRRORED], S⟩ = some (.dat (intD (num 5 n m)), ⟨[.dat (intD n), .dat d_MIRRORED], S⟩) := ld
    unfold f_mirrored_number b_mirrored_number
    generalize d_MIRRORED = TT at ld ⊢
    simp [defG, mSeq, mIfS, mAnd, mOr, mNot, mTru, mNow, mOp, mOpL, mA2_ap, mA1_ap, mCons, mNil, mPk, mIo, mFz, mLst, mTup, mApp, mCall, nows, look, worths, worth, p2, p1, ix_l, ix_t, mCon, tr_b, mB, cm_i, ad_i, atI, ixN, in_i, if_i, un_i, mAsg, go_name, sl_name, free, mRet, mVar, mSet, bInt, mSkip, fin, finL, pad, res_int, res_str, res_bl, res_non, res_dic, res_lst, res_tup, Ev.get_mk, Ev.set_mk, Ev.length_mk, argsOf, argsL, putBack, putL, ios, setO, mIf, mPars, evP, storeP, scOf, mRetO, ld]
  unfold f_mirrored_of b_mirrored_of
  generalize hx : qD n = x at *
  simp [defG, mSeq, mIfS, mAnd, mOr, mNot, mTru, mNow, mOp, mOpL, mA2_ap, mA1_ap, mCons, mNil, mPk, mIo, mFz, mLst, mTup, mApp, mCall, nows, look, worths, worth, p2, p1, ix_l, ix_t, mCon, tr_b, mB, cm_i, ad_i, atI, ixN, in_i, if_i, un_i, mAsg, go_name, sl_name, free, mRet, mVar, mSet, bInt, mSkip, fin, finL, pad, res_int, res_str, res_bl, res_non, res_dic, res_lst, res_tup, Ev.get_mk, Ev.set_mk, Ev.length_mk, argsOf, argsL, putBack, putL, ios, setO, mIf, mPars, evP, storeP, scOf, mRetO, mExpr, q, f0, t, w]
theorem called_ok {S : List (List D)} {n m door : Nat} {o : D} {nd : Int} (hd : door < 6) (hn : n < 2 ^ 13) (hm : m < 2 ^ 13) (ho : door < 3 → o = qD m) (hnd : nd = 0 ∨ nd = 1) :
    f__law_called ⟨[.dat (intD door), .dat (qD n), .dat o, .dat (.int nd)], S⟩ = some (.dat (qD (num door n m)), ⟨[.dat (intD door), .dat (qD n), .dat o, .dat (.int nd)], S⟩) := by
  unfold f__law_called b__law_called
  match door, hd, ho with
  | 0, _, ho =>
    obtain rfl := ho (by decide)
    have b := both_ok (S := S) hn hm
    generalize qD n = x at *
    generalize qD m = y at *
    rcases hnd with rfl | rfl <;> simp [defG, mSeq, mIfS, mAnd, mOr, mNot, mTru, mNow, mOp, mOpL, mA2_ap, mA1_ap, mCons, mNil, mPk, mIo, mFz, mLst, mTup, mApp, mCall, nows, look, worths, worth, p2, p1, ix_l, ix_t, mCon, tr_b, mB, cm_i, ad_i, atI, ixN, in_i, if_i, un_i, mAsg, go_name, sl_name, free, mRet, mVar, mSet, bInt, mSkip, fin, finL, pad, res_int, res_str, res_bl, res_non, res_dic, res_lst, res_tup, Ev.get_mk, Ev.set_mk, Ev.length_mk, argsOf, argsL, putBack, putL, ios, setO, mIf, mPars, evP, storeP, scOf, mRetO, intD, Ky.eq_int, mPick, pick, b]
  | 1, _, ho =>
    obtain rfl := ho (by decide)
    have b := either_ok (S := S) hn hm
    generalize qD n = x at *
    generalize qD m = y at *
    rcases hnd with rfl | rfl <;> simp [defG, mSeq, mIfS, mAnd, mOr, mNot, mTru, mNow, mOp, mOpL, mA2_ap, mA1_ap, mCons, mNil, mPk, mIo, mFz, mLst, mTup, mApp, mCall, nows, look, worths, worth, p2, p1, ix_l, ix_t, mCon, tr_b, mB, cm_i, ad_i, atI, ixN, in_i, if_i, un_i, mAsg, go_name, sl_name, free, mRet, mVar, mSet, bInt, mSkip, fin, finL, pad, res_int, res_str, res_bl, res_non, res_dic, res_lst, res_tup, Ev.get_mk, Ev.set_mk, Ev.length_mk, argsOf, argsL, putBack, putL, ios, setO, mIf, mPars, evP, storeP, scOf, mRetO, intD, Ky.eq_int, mPick, pick, b]
  | 2, _, ho =>
    obtain rfl := ho (by decide)
    have b := without_ok (S := S) hn hm
    generalize qD n = x at *
    generalize qD m = y at *
    rcases hnd with rfl | rfl <;> simp [defG, mSeq, mIfS, mAnd, mOr, mNot, mTru, mNow, mOp, mOpL, mA2_ap, mA1_ap, mCons, mNil, mPk, mIo, mFz, mLst, mTup, mApp, mCall, nows, look, worths, worth, p2, p1, ix_l, ix_t, mCon, tr_b, mB, cm_i, ad_i, atI, ixN, in_i, if_i, un_i, mAsg, go_name, sl_name, free, mRet, mVar, mSet, bInt, mSkip, fin, finL, pad, res_int, res_str, res_bl, res_non, res_dic, res_lst, res_tup, Ev.get_mk, Ev.set_mk, Ev.length_mk, argsOf, argsL, putBack, putL, ios, setO, mIf, mPars, evP, storeP, scOf, mRetO, intD, Ky.eq_int, mPick, pick, b]
  | 3, _, ho =>
    have b := opposite_ok (S := S) (m := m) hn
    generalize qD n = x at *
    rcases hnd with rfl | rfl <;> simp [defG, mSeq, mIfS, mAnd, mOr, mNot, mTru, mNow, mOp, mOpL, mA2_ap, mA1_ap, mCons, mNil, mPk, mIo, mFz, mLst, mTup, mApp, mCall, nows, look, worths, worth, p2, p1, ix_l, ix_t, mCon, tr_b, mB, cm_i, ad_i, atI, ixN, in_i, if_i, un_i, mAsg, go_name, sl_name, free, mRet, mVar, mSet, bInt, mSkip, fin, finL, pad, res_int, res_str, res_bl, res_non, res_dic, res_lst, res_tup, Ev.get_mk, Ev.set_mk, Ev.length_mk, argsOf, argsL, putBack, putL, ios, setO, mIf, mPars, evP, storeP, scOf, mRetO, intD, Ky.eq_int, mPick, pick, b]
  | 4, _, ho =>
    have b := turned_ok (S := S) (m := m) hn
    generalize qD n = x at *
    rcases hnd with rfl | rfl <;> simp [defG, mSeq, mIfS, mAnd, mOr, mNot, mTru, mNow, mOp, mOpL, mA2_ap, mA1_ap, mCons, mNil, mPk, mIo, mFz, mLst, mTup, mApp, mCall, nows, look, worths, worth, p2, p1, ix_l, ix_t, mCon, tr_b, mB, cm_i, ad_i, atI, ixN, in_i, if_i, un_i, mAsg, go_name, sl_name, free, mRet, mVar, mSet, bInt, mSkip, fin, finL, pad, res_int, res_str, res_bl, res_non, res_dic, res_lst, res_tup, Ev.get_mk, Ev.set_mk, Ev.length_mk, argsOf, argsL, putBack, putL, ios, setO, mIf, mPars, evP, storeP, scOf, mRetO, intD, Ky.eq_int, mPick, pick, b]
  | 5, _, ho =>
    have b := mirrored_ok (S := S) (m := m) hn
    generalize qD n = x at *
    rcases hnd with rfl | rfl <;> simp [defG, mSeq, mIfS, mAnd, mOr, mNot, mTru, mNow, mOp, mOpL, mA2_ap, mA1_ap, mCons, mNil, mPk, mIo, mFz, mLst, mTup, mApp, mCall, nows, look, worths, worth, p2, p1, ix_l, ix_t, mCon, tr_b, mB, cm_i, ad_i, atI, ixN, in_i, if_i, un_i, mAsg, go_name, sl_name, free, mRet, mVar, mSet, bInt, mSkip, fin, finL, pad, res_int, res_str, res_bl, res_non, res_dic, res_lst, res_tup, Ev.get_mk, Ev.set_mk, Ev.length_mk, argsOf, argsL, putBack, putL, ios, setO, mIf, mPars, evP, storeP, scOf, mRetO, intD, Ky.eq_int, mPick, pick, b]
def pD (n : Nat) : D := .lst ((bitsB 13 n).map intD)
theorem res_pD (Γ : Ev) (n : Nat) : res Γ (pD n) = pD n := rfl
def duesD (n m : Nat) : List D := [pD (num 0 n m), pD (num 1 n m), pD (num 2 n m), pD (num 3 n m), pD (num 4 n m), pD (num 5 n m)]
theorem bits_of_bits {x : Nat} {p : Nat → Bool} (h : ∀ k < 13, p k = x.testBit k) : (List.range 13).filter p = bitsB 13 x := by
  unfold bitsB
  exact List.filter_congr fun k hk => h k (List.mem_range.mp hk)
theorem dues_ok {S : List (List D)} {n m : Nat} (hn : n < 2 ^ 13) (hm : m < 2 ^ 13) : f__law_dues ⟨[.dat (pD n), .dat (pD m)], S⟩ = some (.dat (.lst (duesD n m)), ⟨[.dat (pD n), .dat (pD m)], S⟩) := by
  have r13 : Ky.upTo 0 13 = (List.range 13).map intD := rfl
  have in1 : ∀ k < 13, oIn (intD k) (pD n) = some (.bl (n.testBit k)) := fun k hk => by unfold pD; rw [in_ok, in_bits hk]
  have in2 : ∀ k < 13, oIn (intD k) (pD m) = some (.bl (m.testBit k)) := fun k hk => by unfold pD; rw [in_ok, in_bits hk]
  have ni1 : ∀ k < 13, oNi (intD k) (pD n) = some (.bl (!n.testBit k)) := fun k hk => by unfold pD; rw [ni_ok, in_bits hk]
  have ni2 : ∀ k < 13, oNi (intD k) (pD m) = some (.bl (!m.testBit k)) := fun k hk => by unfold pD; rw [ni_ok, in_bits hk]
  have ca : ∀ (i : Int) (tb : Nat → Nat), (∀ k < 13, f__law_moved ⟨[.dat (intD k), .dat (.int i)], S⟩ = some (.dat (intD (tb k)), ⟨[.dat (intD k), .dat (.int i)], S⟩)) → mComp (miSeq (mVar 0)) (tgName 6) [6] mYes (mCall f__law_moved (mCons (mNow (mVar 6)) (mCons (mNow (mCon (.int i))) mNil))) ⟨[.dat (pD n), .dat (pD m), .un, .un, .un, .un, .un], S⟩ = some (.ok ((bitsB 13 n).map fun k => intD (tb k)) ⟨[.dat (pD n), .dat (pD m), .un, .un, .un, .un, .un], S⟩) := fun i tb h => by
    refine mComp_each intD _ rfl (Nat.le_trans (bits_len 13 n) (by decide)) fun k hk => ⟨⟨[.dat (pD n), .dat (pD m), .un, .un, .un, .un, .dat (intD k)], S⟩, ⟨[.dat (pD n), .dat (pD m), .un, .un, .un, .un, .dat (intD k)], S⟩, rfl, ?_, rfl⟩
    have h := h k (bits_lt hk)
    simp [defG, mSeq, mIfS, mAnd, mOr, mNot, mTru, mNow, mOp, mOpL, mA2_ap, mA1_ap, mCons, mNil, mPk, mIo, mFz, mLst, mTup, mApp, mCall, nows, look, worths, worth, p2, p1, ix_l, ix_t, mCon, tr_b, mB, cm_i, ad_i, atI, ixN, in_i, if_i, un_i, mAsg, go_name, sl_name, free, mRet, mVar, mSet, bInt, mSkip, fin, finL, pad, res_int, res_str, res_bl, res_non, res_dic, res_lst, res_tup, Ev.get_mk, Ev.set_mk, Ev.length_mk, argsOf, argsL, putBack, putL, ios, setO, mIf, mPars, evP, storeP, scOf, mRetO, h]
  have c0 := ca 0 (fun k => 12 - k) fun k hk => moved0 hk
  have c1 := ca 1 mir fun k hk => moved1 hk
  have s0 : bSortI [.lst ((bitsB 13 n).map fun k => intD (12 - k))] = some ((bitsB 13 (num 4 n m)).map intD) := sort_led (fun k hk => tur_lt hk) tur_inj
  have s1 : bSortI [.lst ((bitsB 13 n).map fun k => intD (mir k))] = some ((bitsB 13 (num 5 n m)).map intD) := sort_led (fun k hk => mir_lt hk) mir_inj
  have cf : ∀ (cond : MB) (p : Nat → Bool) (x : Nat) (c5 : SC), (∀ k < 13, p k = x.testBit k) → (c5 = .un ∨ ∃ d, c5 = .dat d) → (∀ k < 13, cond ⟨[.dat (pD n), .dat (pD m), .dat (pD (num 4 n m)), .dat (pD (num 5 n m)), .dat (.lst ((List.range 13).map intD)), c5, .dat (intD k)], S⟩ = some (.ok (p k) ⟨[.dat (pD n), .dat (pD m), .dat (pD (num 4 n m)), .dat (pD (num 5 n m)), .dat (.lst ((List.range 13).map intD)), c5, .dat (intD k)], S⟩)) →
      mComp (miSeq (mVar 4)) (tgName 6) [6] cond (mVar 6) ⟨[.dat (pD n), .dat (pD m), .dat (pD (num 4 n m)), .dat (pD (num 5 n m)), .dat (.lst ((List.range 13).map intD)), c5, .un], S⟩ = some (.ok ((bitsB 13 x).map intD) ⟨[.dat (pD n), .dat (pD m), .dat (pD (num 4 n m)), .dat (pD (num 5 n m)), .dat (.lst ((List.range 13).map intD)), c5, .un], S⟩) := fun cond p x c5 hp h5 h => by
    rw [← bits_of_bits hp]
    rcases h5 with rfl | ⟨d, rfl⟩
    · exact mComp_over intD p intD rfl (by simp) fun k hk => ⟨_, _, _, rfl, h k (List.mem_range.mp hk), fun _ => rfl, fun _ => ⟨rfl, rfl⟩⟩
    · exact mComp_over intD p intD rfl (by simp) fun k hk => ⟨_, _, _, rfl, h k (List.mem_range.mp hk), fun _ => rfl, fun _ => ⟨rfl, rfl⟩⟩
  have d0 := cf (mAnd (mB (mOp (p2 oIn) (mA2 (mPk 6) (mPk 0)))) (mB (mOp (p2 oIn) (mA2 (mPk 6) (mPk 1))))) (fun k => n.testBit k && m.testBit k) (num 0 n m) .un (fun k _ => (Nat.testBit_and n m k).symm) (.inl rfl) fun k hk => by
    have a := in1 k hk
    have b := in2 k hk
    generalize (.lst ((List.range 13).map intD) : D) = R
    cases h : n.testBit k <;> rw [h] at a <;> simp [defG, mSeq, mIfS, mAnd, mOr, mNot, mTru, mNow, mOp, mOpL, mA2_ap, mA1_ap, mCons, mNil, mPk, mIo, mFz, mLst, mTup, mApp, mCall, nows, look, worths, worth, p2, p1, ix_l, ix_t, mCon, tr_b, mB, cm_i, ad_i, atI, ixN, in_i, if_i, un_i, mAsg, go_name, sl_name, free, mRet, mVar, mSet, bInt, mSkip, fin, finL, pad, res_int, res_str, res_bl, res_non, res_dic, res_lst, res_tup, Ev.get_mk, Ev.set_mk, Ev.length_mk, argsOf, argsL, putBack, putL, ios, setO, mIf, mPars, evP, storeP, scOf, mRetO, res_intD, res_pD, a, b]
  have d1 := cf (mOr (mB (mOp (p2 oIn) (mA2 (mPk 6) (mPk 0)))) (mB (mOp (p2 oIn) (mA2 (mPk 6) (mPk 1))))) (fun k => n.testBit k || m.testBit k) (num 1 n m) .un (fun k _ => (Nat.testBit_or n m k).symm) (.inl rfl) fun k hk => by
    have a := in1 k hk
    have b := in2 k hk
    generalize (.lst ((List.range 13).map intD) : D) = R
    cases h : n.testBit k <;> rw [h] at a <;> simp [defG, mSeq, mIfS, mAnd, mOr, mNot, mTru, mNow, mOp, mOpL, mA2_ap, mA1_ap, mCons, mNil, mPk, mIo, mFz, mLst, mTup, mApp, mCall, nows, look, worths, worth, p2, p1, ix_l, ix_t, mCon, tr_b, mB, cm_i, ad_i, atI, ixN, in_i, if_i, un_i, mAsg, go_name, sl_name, free, mRet, mVar, mSet, bInt, mSkip, fin, finL, pad, res_int, res_str, res_bl, res_non, res_dic, res_lst, res_tup, Ev.get_mk, Ev.set_mk, Ev.length_mk, argsOf, argsL, putBack, putL, ios, setO, mIf, mPars, evP, storeP, scOf, mRetO, res_intD, res_pD, a, b]
  have d2 := cf (mAnd (mB (mOp (p2 oIn) (mA2 (mPk 6) (mPk 0)))) (mB (mOp (p2 oNi) (mA2 (mPk 6) (mPk 1))))) (fun k => n.testBit k && !m.testBit k) (num 2 n m) .un (fun k hk => by show _ = (n &&& (8191 - m)).testBit k; rw [Nat.testBit_and, opp_bit hm hk]) (.inl rfl) fun k hk => by
    have a := in1 k hk
    have b := ni2 k hk
    generalize (.lst ((List.range 13).map intD) : D) = R
    cases h : n.testBit k <;> rw [h] at a <;> simp [defG, mSeq, mIfS, mAnd, mOr, mNot, mTru, mNow, mOp, mOpL, mA2_ap, mA1_ap, mCons, mNil, mPk, mIo, mFz, mLst, mTup, mApp, mCall, nows, look, worths, worth, p2, p1, ix_l, ix_t, mCon, tr_b, mB, cm_i, ad_i, atI, ixN, in_i, if_i, un_i, mAsg, go_name, sl_name, free, mRet, mVar, mSet, bInt, mSkip, fin, finL, pad, res_int, res_str, res_bl, res_non, res_dic, res_lst, res_tup, Ev.get_mk, Ev.set_mk, Ev.length_mk, argsOf, argsL, putBack, putL, ios, setO, mIf, mPars, evP, storeP, scOf, mRetO, res_intD, res_pD, a, b]
  have d3 := cf (mB (mOp (p2 oNi) (mA2 (mPk 6) (mPk 0)))) (fun k => !n.testBit k) (num 3 n m) (.dat (.lst [pD (num 0 n m), pD (num 1 n m), pD (num 2 n m)])) (fun k hk => (opp_bit hn hk).symm) (.inr ⟨_, rfl⟩) fun k hk => by
    have a := ni1 k hk
    generalize (.lst ((List.range 13).map intD) : D) = R
    simp [defG, mSeq, mIfS, mAnd, mOr, mNot, mTru, mNow, mOp, mOpL, mA2_ap, mA1_ap, mCons, mNil, mPk, mIo, mFz, mLst, mTup, mApp, mCall, nows, look, worths, worth, p2, p1, ix_l, ix_t, mCon, tr_b, mB, cm_i, ad_i, atI, ixN, in_i, if_i, un_i, mAsg, go_name, sl_name, free, mRet, mVar, mSet, bInt, mSkip, fin, finL, pad, res_int, res_str, res_bl, res_non, res_dic, res_lst, res_tup, Ev.get_mk, Ev.set_mk, Ev.length_mk, argsOf, argsL, putBack, putL, ios, setO, mIf, mPars, evP, storeP, scOf, mRetO, res_intD, res_pD, a]
  have ct : oCat (.lst [pD (num 0 n m), pD (num 1 n m), pD (num 2 n m)]) (.lst [pD (num 3 n m), pD (num 4 n m), pD (num 5 n m)]) = some (duesD n m) := rfl
  unfold f__law_dues b__law_dues
  generalize mComp (miSeq (mVar 0)) (tgName 6) [6] mYes (mCall f__law_moved (mCons (mNow (mVar 6)) (mCons (mNow (mCon (.int 0))) mNil))) = C0 at c0 ⊢
  generalize mComp (miSeq (mVar 0)) (tgName 6) [6] mYes (mCall f__law_moved (mCons (mNow (mVar 6)) (mCons (mNow (mCon (.int 1))) mNil))) = C1 at c1 ⊢
  generalize mComp (miSeq (mVar 4)) (tgName 6) [6] (mAnd (mB (mOp (p2 oIn) (mA2 (mPk 6) (mPk 0)))) (mB (mOp (p2 oIn) (mA2 (mPk 6) (mPk 1))))) (mVar 6) = E0 at d0 ⊢
  generalize mComp (miSeq (mVar 4)) (tgName 6) [6] (mOr (mB (mOp (p2 oIn) (mA2 (mPk 6) (mPk 0)))) (mB (mOp (p2 oIn) (mA2 (mPk 6) (mPk 1))))) (mVar 6) = E1 at d1 ⊢
  generalize mComp (miSeq (mVar 4)) (tgName 6) [6] (mAnd (mB (mOp (p2 oIn) (mA2 (mPk 6) (mPk 0)))) (mB (mOp (p2 oNi) (mA2 (mPk 6) (mPk 1))))) (mVar 6) = E2 at d2 ⊢
  generalize mComp (miSeq (mVar 4)) (tgName 6) [6] (mB (mOp (p2 oNi) (mA2 (mPk 6) (mPk 0)))) (mVar 6) = E3 at d3 ⊢
  have pe : ∀ x, (.lst ((bitsB 13 x).map intD) : D) = pD x := fun _ => rfl
  simp [defG, mSeq, mIfS, mAnd, mOr, mNot, mTru, mNow, mOp, mOpL, mA2_ap, mA1_ap, mCons, mNil, mPk, mIo, mFz, mLst, mTup, mApp, mCall, nows, look, worths, worth, p2, p1, ix_l, ix_t, mCon, tr_b, mB, cm_i, ad_i, atI, ixN, in_i, if_i, un_i, mAsg, go_name, sl_name, free, mRet, mVar, mSet, bInt, mSkip, fin, finL, pad, res_int, res_str, res_bl, res_non, res_dic, res_lst, res_tup, Ev.get_mk, Ev.set_mk, Ev.length_mk, argsOf, argsL, putBack, putL, ios, setO, mIf, mPars, evP, storeP, scOf, mRetO, c0, s0, c1, s1, pe, mListRng, r13, d0, d1, d2, d3, ct]
end K04
namespace K04
open PySem PySem.Spec PyProof.Rows L2 Ky
/-- a value that is no question -/
structure VQ (v : D) : Prop where
  rs : ∀ Γ, res Γ v = v
  ii : insIn [0] v = true
  iq : isiA [0] v [.own 0] = some false
  rp : ∃ z, reprD v = some z
  bl : ∃ b, isiA [0] v [.ty "bool"] = some b
  ls : (∃ ds z, v = .lst ds ∧ ds.length ≤ 10 ∧ reprD (.lst (.str "more" :: ds)) = some z) ∨ isiA [0] v [.ty "list"] = some false
def wr10 : List D := [.non, .int 0, .bl true, .str "before", .lst [.str "before", .str "meets"], .lst [], .tup [], .dic, .int 8191, .tup [.str "before"]]
theorem sh_s {n : Nat} {z : Str} (h : (PyData.canLay0 (.str z) && decide (z.length ≤ 100)) = true) : Sh1 n 100 (.str z) := by
  rw [Bool.and_eq_true, decide_eq_true_eq] at h
  exact .str h.1 h.2
theorem wr10_VQ : ∀ v ∈ wr10, VQ v := by
  intro v hv
  simp only [wr10, List.mem_cons, List.not_mem_nil, or_false] at hv
  rcases hv with rfl | rfl | rfl | rfl | rfl | rfl | rfl | rfl | rfl | rfl
  · exact ⟨fun _ => rfl, rfl, rfl, (Sh1.non (n := 1)).repr (by decide) (by decide), ⟨_, rfl⟩, .inr rfl⟩
  · exact ⟨fun _ => rfl, rfl, rfl, (Sh1.int (n := 1) (by decide)).repr (by decide) (by decide), ⟨_, rfl⟩, .inr rfl⟩
  · exact ⟨fun _ => rfl, rfl, rfl, (Sh1.bl (n := 1) _).repr (by decide) (by decide), ⟨_, rfl⟩, .inr rfl⟩
  · exact ⟨fun _ => rfl, rfl, rfl, (sh_s (n := 1) (by decide +kernel)).repr (by decide) (by decide), ⟨_, rfl⟩, .inr rfl⟩
  · refine ⟨fun _ => rfl, rfl, rfl, (Sh1.lst (n := 1) (.cons (sh_s (by decide +kernel)) (.cons (sh_s (by decide +kernel)) .nil))).repr (by decide) (by decide), ⟨_, rfl⟩, .inl ?_⟩
    obtain ⟨z, hz⟩ := (Sh1.lst (n := 1) (.cons (sh_s (z := "more") (by decide +kernel)) (.cons (sh_s (z := "before") (by decide +kernel)) (.cons (sh_s (z := "meets") (by decide +kernel)) .nil)))).repr (by decide) (by decide)
    exact ⟨_, z, rfl, by decide, hz⟩
  · refine ⟨fun _ => rfl, rfl, rfl, (Sh1.lst (n := 1) .nil).repr (by decide) (by decide), ⟨_, rfl⟩, .inl ?_⟩
    obtain ⟨z, hz⟩ := (Sh1.lst (n := 1) (.cons (sh_s (z := "more") (by decide +kernel)) .nil)).repr (by decide) (by decide)
    exact ⟨_, z, rfl, by decide, hz⟩
  · exact ⟨fun _ => rfl, rfl, rfl, (Sh1.tup (n := 1) .nil).repr (by decide) (by decide), ⟨_, rfl⟩, .inr rfl⟩
  · exact ⟨fun _ => rfl, rfl, rfl, repr_dic, ⟨_, rfl⟩, .inr rfl⟩
  · exact ⟨fun _ => rfl, rfl, rfl, (Sh1.int (n := 1) (by decide)).repr (by decide) (by decide), ⟨_, rfl⟩, .inr rfl⟩
  · exact ⟨fun _ => rfl, rfl, rfl, (Sh1.tup (n := 1) (.cons (sh_s (by decide +kernel)) .nil)).repr (by decide) (by decide), ⟨_, rfl⟩, .inr rfl⟩
/-- what stands for a value in a call: the value, or a new list of its items -/
def Cop (c x : D) (S : List (List D)) : Prop := (∃ k ds, c = .cel k ∧ x = .lst ds ∧ S[k]? = some ds) ∨ (c = x ∧ isiA [0] x [.ty "list"] = some false)
theorem res_cel {S : List (List D)} {k : Nat} {ds : List D} (h : S[k]? = some ds) (l : List SC) : res ⟨l, S⟩ (.cel k) = .lst ds := by
  show (match S[k]? with | some ds => D.lst ds | none => .cel k) = _
  rw [h]
theorem isq_bad {S : List (List D)} {c x : D} (h : Cop c x S) (v : VQ x) : f_is_question ⟨[.dat c], S⟩ = some (.dat (.bl false), ⟨[.dat c], S⟩) := by
  unfold f_is_question b_is_question
  rcases h with ⟨k, ds, rfl, rfl, hk⟩ | ⟨rfl, _⟩
  · have r := res_cel hk
    have i1 : insIn [0] (.lst ds) = true := rfl
    have i2 : isiA [0] (.lst ds) [.own 0] = some false := rfl
    simp [defG, mSeq, mIfS, mAnd, mOr, mNot, mTru, mNow, mOp, mOpL, mA2_ap, mA1_ap, mCons, mNil, mPk, mIo, mFz, mLst, mTup, mApp, mCall, nows, look, worths, worth, p2, p1, ix_l, ix_t, mCon, tr_b, mB, cm_i, ad_i, atI, ixN, in_i, if_i, un_i, mAsg, go_name, sl_name, free_at, frC_un, frC_dat, frC_own, mRet, mVar, mSet, bInt, mSkip, fin, finL, pad, res_int, res_str, res_bl, res_non, res_dic, res_lst, res_tup, Ev.get_mk, Ev.set_mk, Ev.length_mk, argsOf, argsL, putBack, putL, ios, setO, mIf, mPars, evP, storeP, scOf, mRetO, mRetL, mExpr, mIsi, r, i1, i2]
  · have r := v.rs
    have i1 := v.ii
    have i2 := v.iq
    simp [defG, mSeq, mIfS, mAnd, mOr, mNot, mTru, mNow, mOp, mOpL, mA2_ap, mA1_ap, mCons, mNil, mPk, mIo, mFz, mLst, mTup, mApp, mCall, nows, look, worths, worth, p2, p1, ix_l, ix_t, mCon, tr_b, mB, cm_i, ad_i, atI, ixN, in_i, if_i, un_i, mAsg, go_name, sl_name, free_at, frC_un, frC_dat, frC_own, mRet, mVar, mSet, bInt, mSkip, fin, finL, pad, res_int, res_str, res_bl, res_non, res_dic, res_lst, res_tup, Ev.get_mk, Ev.set_mk, Ev.length_mk, argsOf, argsL, putBack, putL, ios, setO, mIf, mPars, evP, storeP, scOf, mRetO, mRetL, mExpr, mIsi, r, i1, i2]
theorem check_bad {S : List (List D)} {c x : D} (h : Cop c x S) (v : VQ x) : f_check_question ⟨[.dat c], S⟩ = some (.exc 2 c, ⟨[.dat c], S⟩) := by
  have q := isq_bad h v
  unfold f_check_question b_check_question
  simp [defG, mSeq, mIfS, mAnd, mOr, mNot, mTru, mNow, mOp, mOpL, mA2_ap, mA1_ap, mCons, mNil, mPk, mIo, mFz, mLst, mTup, mApp, mCall, nows, look, worths, worth, p2, p1, ix_l, ix_t, mCon, tr_b, mB, cm_i, ad_i, atI, ixN, in_i, if_i, un_i, mAsg, go_name, sl_name, free_at, frC_un, frC_dat, frC_own, mRet, mVar, mSet, bInt, mSkip, fin, finL, pad, res_int, res_str, res_bl, res_non, res_dic, res_lst, res_tup, Ev.get_mk, Ev.set_mk, Ev.length_mk, argsOf, argsL, putBack, putL, ios, setO, mIf, mPars, evP, storeP, scOf, mRetO, mRetL, mExpr, mRaise, q]
theorem said_bad1 {S : List (List D)} {g0 g1 : D} {door : Nat} {nd : Int} (hd : door < 6) (hn : nd = 0 ∨ nd = 1) (h : f_check_question ⟨[.dat g0], S⟩ = some (.exc 2 g0, ⟨[.dat g0], S⟩)) :
    f__law_said ⟨[.dat (intD door), .dat g0, .dat g1, .dat (.int nd)], S⟩ = some (.own [.str "question", g0], ⟨[.dat (intD door), .dat g0, .dat g1, .dat (.int nd)], S⟩) := by
  have cs : f_check_questions ⟨[.dat g0, .dat g1], S⟩ = some (.exc 2 g0, ⟨[.dat g0, .dat g1], S⟩) := by
    unfold f_check_questions b_check_questions
    simp [defG, mSeq, mIfS, mAnd, mOr, mNot, mTru, mNow, mOp, mOpL, mA2_ap, mA1_ap, mCons, mNil, mPk, mIo, mFz, mLst, mTup, mApp, mCall, nows, look, worths, worth, p2, p1, ix_l, ix_t, mCon, tr_b, mB, cm_i, ad_i, atI, ixN, in_i, if_i, un_i, mAsg, go_name, sl_name, free_at, frC_un, frC_dat, frC_own, mRet, mVar, mSet, bInt, mSkip, fin, finL, pad, res_int, res_str, res_bl, res_non, res_dic, res_lst, res_tup, Ev.get_mk, Ev.set_mk, Ev.length_mk, argsOf, argsL, putBack, putL, ios, setO, mIf, mPars, evP, storeP, scOf, mRetO, mRetL, mExpr, h]
  have a0 : f_both ⟨[.dat g0, .dat g1], S⟩ = some (.exc 2 g0, ⟨[.dat g0, .dat g1], S⟩) := by
    unfold f_both b_both
    simp [defG, mSeq, mIfS, mAnd, mOr, mNot, mTru, mNow, mOp, mOpL, mA2_ap, mA1_ap, mCons, mNil, mPk, mIo, mFz, mLst, mTup, mApp, mCall, nows, look, worths, worth, p2, p1, ix_l, ix_t, mCon, tr_b, mB, cm_i, ad_i, atI, ixN, in_i, if_i, un_i, mAsg, go_name, sl_name, free_at, frC_un, frC_dat, frC_own, mRet, mVar, mSet, bInt, mSkip, fin, finL, pad, res_int, res_str, res_bl, res_non, res_dic, res_lst, res_tup, Ev.get_mk, Ev.set_mk, Ev.length_mk, argsOf, argsL, putBack, putL, ios, setO, mIf, mPars, evP, storeP, scOf, mRetO, mRetL, mExpr, cs]
  have a1 : f_either ⟨[.dat g0, .dat g1], S⟩ = some (.exc 2 g0, ⟨[.dat g0, .dat g1], S⟩) := by
    unfold f_either b_either
    simp [defG, mSeq, mIfS, mAnd, mOr, mNot, mTru, mNow, mOp, mOpL, mA2_ap, mA1_ap, mCons, mNil, mPk, mIo, mFz, mLst, mTup, mApp, mCall, nows, look, worths, worth, p2, p1, ix_l, ix_t, mCon, tr_b, mB, cm_i, ad_i, atI, ixN, in_i, if_i, un_i, mAsg, go_name, sl_name, free_at, frC_un, frC_dat, frC_own, mRet, mVar, mSet, bInt, mSkip, fin, finL, pad, res_int, res_str, res_bl, res_non, res_dic, res_lst, res_tup, Ev.get_mk, Ev.set_mk, Ev.length_mk, argsOf, argsL, putBack, putL, ios, setO, mIf, mPars, evP, storeP, scOf, mRetO, mRetL, mExpr, cs]
  have a2 : f_without ⟨[.dat g0, .dat g1], S⟩ = some (.exc 2 g0, ⟨[.dat g0, .dat g1], S⟩) := by
    unfold f_without b_without
    simp [defG, mSeq, mIfS, mAnd, mOr, mNot, mTru, mNow, mOp, mOpL, mA2_ap, mA1_ap, mCons, mNil, mPk, mIo, mFz, mLst, mTup, mApp, mCall, nows, look, worths, worth, p2, p1, ix_l, ix_t, mCon, tr_b, mB, cm_i, ad_i, atI, ixN, in_i, if_i, un_i, mAsg, go_name, sl_name, free_at, frC_un, frC_dat, frC_own, mRet, mVar, mSet, bInt, mSkip, fin, finL, pad, res_int, res_str, res_bl, res_non, res_dic, res_lst, res_tup, Ev.get_mk, Ev.set_mk, Ev.length_mk, argsOf, argsL, putBack, putL, ios, setO, mIf, mPars, evP, storeP, scOf, mRetO, mRetL, mExpr, cs]
  have a3 : f_opposite ⟨[.dat g0], S⟩ = some (.exc 2 g0, ⟨[.dat g0], S⟩) := by
    unfold f_opposite b_opposite
    simp [defG, mSeq, mIfS, mAnd, mOr, mNot, mTru, mNow, mOp, mOpL, mA2_ap, mA1_ap, mCons, mNil, mPk, mIo, mFz, mLst, mTup, mApp, mCall, nows, look, worths, worth, p2, p1, ix_l, ix_t, mCon, tr_b, mB, cm_i, ad_i, atI, ixN, in_i, if_i, un_i, mAsg, go_name, sl_name, free_at, frC_un, frC_dat, frC_own, mRet, mVar, mSet, bInt, mSkip, fin, finL, pad, res_int, res_str, res_bl, res_non, res_dic, res_lst, res_tup, Ev.get_mk, Ev.set_mk, Ev.length_mk, argsOf, argsL, putBack, putL, ios, setO, mIf, mPars, evP, storeP, scOf, mRetO, mRetL, mExpr, h]
  have a4 : f_turned_of ⟨[.dat g0], S⟩ = some (.exc 2 g0, ⟨[.dat g0], S⟩) := by
    unfold f_turned_of b_turned_of
    simp [defG, mSeq, mIfS, mAnd, mOr, mNot, mTru, mNow, mOp, mOpL, mA2_ap, mA1_ap, mCons, mNil, mPk, mIo, mFz, mLst, mTup, mApp, mCall, nows, look, worths, worth, p2, p1, ix_l, ix_t, mCon, tr_b, mB, cm_i, ad_i, atI, ixN, in_i, if_i, un_i, mAsg, go_name, sl_name, free_at, frC_un, frC_dat, frC_own, mRet, mVar, mSet, bInt, mSkip, fin, finL, pad, res_int, res_str, res_bl, res_non, res_dic, res_lst, res_tup, Ev.get_mk, Ev.set_mk, Ev.length_mk, argsOf, argsL, putBack, putL, ios, setO, mIf, mPars, evP, storeP, scOf, mRetO, mRetL, mExpr, h]
  have a5 : f_mirrored_of ⟨[.dat g0], S⟩ = some (.exc 2 g0, ⟨[.dat g0], S⟩) := by
    unfold f_mirrored_of b_mirrored_of
    simp [defG, mSeq, mIfS, mAnd, mOr, mNot, mTru, mNow, mOp, mOpL, mA2_ap, mA1_ap, mCons, mNil, mPk, mIo, mFz, mLst, mTup, mApp, mCall, nows, look, worths, worth, p2, p1, ix_l, ix_t, mCon, tr_b, mB, cm_i, ad_i, atI, ixN, in_i, if_i, un_i, mAsg, go_name, sl_name, free_at, frC_un, frC_dat, frC_own, mRet, mVar, mSet, bInt, mSkip, fin, finL, pad, res_int, res_str, res_bl, res_non, res_dic, res_lst, res_tup, Ev.get_mk, Ev.set_mk, Ev.length_mk, argsOf, argsL, putBack, putL, ios, setO, mIf, mPars, evP, storeP, scOf, mRetO, mRetL, mExpr, h]
  have cl : f__law_called ⟨[.dat (intD door), .dat g0, .dat g1, .dat (.int nd)], S⟩ = some (.exc 2 g0, ⟨[.dat (intD door), .dat g0, .dat g1, .dat (.int nd)], S⟩) := by
    unfold f__law_called b__law_called intD
    obtain rfl | rfl | rfl | rfl | rfl | rfl : door = 0 ∨ door = 1 ∨ door = 2 ∨ door = 3 ∨ door = 4 ∨ door = 5 := by omega
    all_goals rcases hn with rfl | rfl <;> simp [defG, mSeq, mIfS, mAnd, mOr, mNot, mTru, mNow, mOp, mOpL, mA2_ap, mA1_ap, mCons, mNil, mPk, mIo, mFz, mLst, mTup, mApp, mCall, nows, look, worths, worth, p2, p1, ix_l, ix_t, mCon, tr_b, mB, cm_i, ad_i, atI, ixN, in_i, if_i, un_i, mAsg, go_name, sl_name, free_at, frC_un, frC_dat, frC_own, mRet, mVar, mSet, bInt, mSkip, fin, finL, pad, res_int, res_str, res_bl, res_non, res_dic, res_lst, res_tup, Ev.get_mk, Ev.set_mk, Ev.length_mk, argsOf, argsL, putBack, putL, ios, setO, mIf, mPars, evP, storeP, scOf, mRetO, mRetL, mExpr, mPick, pick, Ky.eq_int, a0, a1, a2, a3, a4, a5]
  unfold f__law_said b__law_said
  generalize intD door = dd at *
  simp [defG, mSeq, mIfS, mAnd, mOr, mNot, mTru, mNow, mOp, mOpL, mA2_ap, mA1_ap, mCons, mNil, mPk, mIo, mFz, mLst, mTup, mApp, mCall, nows, look, worths, worth, p2, p1, ix_l, ix_t, mCon, tr_b, mB, cm_i, ad_i, atI, ixN, in_i, if_i, un_i, mAsg, go_name, sl_name, free_at, frC_un, frC_dat, frC_own, mRet, mVar, mSet, bInt, mSkip, fin, finL, pad, res_int, res_str, res_bl, res_non, res_dic, res_lst, res_tup, Ev.get_mk, Ev.set_mk, Ev.length_mk, argsOf, argsL, putBack, putL, ios, setO, mIf, mPars, evP, storeP, scOf, mRetO, mRetL, mExpr, mTryL, cl, xiD, litOk]
theorem said_bad2 {S : List (List D)} {g0 g1 : D} {door : Nat} {nd : Int} (hd : door < 3) (hn : nd = 0 ∨ nd = 1) (h0 : f_check_question ⟨[.dat g0], S⟩ = some (.dat .non, ⟨[.dat g0], S⟩)) (h : f_check_question ⟨[.dat g1], S⟩ = some (.exc 2 g1, ⟨[.dat g1], S⟩)) :
    f__law_said ⟨[.dat (intD door), .dat g0, .dat g1, .dat (.int nd)], S⟩ = some (.own [.str "question", g1], ⟨[.dat (intD door), .dat g0, .dat g1, .dat (.int nd)], S⟩) := by
  have cs : f_check_questions ⟨[.dat g0, .dat g1], S⟩ = some (.exc 2 g1, ⟨[.dat g0, .dat g1], S⟩) := by
    unfold f_check_questions b_check_questions
    simp [defG, mSeq, mIfS, mAnd, mOr, mNot, mTru, mNow, mOp, mOpL, mA2_ap, mA1_ap, mCons, mNil, mPk, mIo, mFz, mLst, mTup, mApp, mCall, nows, look, worths, worth, p2, p1, ix_l, ix_t, mCon, tr_b, mB, cm_i, ad_i, atI, ixN, in_i, if_i, un_i, mAsg, go_name, sl_name, free_at, frC_un, frC_dat, frC_own, mRet, mVar, mSet, bInt, mSkip, fin, finL, pad, res_int, res_str, res_bl, res_non, res_dic, res_lst, res_tup, Ev.get_mk, Ev.set_mk, Ev.length_mk, argsOf, argsL, putBack, putL, ios, setO, mIf, mPars, evP, storeP, scOf, mRetO, mRetL, mExpr, h, h0]
  have a0 : f_both ⟨[.dat g0, .dat g1], S⟩ = some (.exc 2 g1, ⟨[.dat g0, .dat g1], S⟩) := by
    unfold f_both b_both
    simp [defG, mSeq, mIfS, mAnd, mOr, mNot, mTru, mNow, mOp, mOpL, mA2_ap, mA1_ap, mCons, mNil, mPk, mIo, mFz, mLst, mTup, mApp, mCall, nows, look, worths, worth, p2, p1, ix_l, ix_t, mCon, tr_b, mB, cm_i, ad_i, atI, ixN, in_i, if_i, un_i, mAsg, go_name, sl_name, free_at, frC_un, frC_dat, frC_own, mRet, mVar, mSet, bInt, mSkip, fin, finL, pad, res_int, res_str, res_bl, res_non, res_dic, res_lst, res_tup, Ev.get_mk, Ev.set_mk, Ev.length_mk, argsOf, argsL, putBack, putL, ios, setO, mIf, mPars, evP, storeP, scOf, mRetO, mRetL, mExpr, cs]
  have a1 : f_either ⟨[.dat g0, .dat g1], S⟩ = some (.exc 2 g1, ⟨[.dat g0, .dat g1], S⟩) := by
    unfold f_either b_either
    simp [defG, mSeq, mIfS, mAnd, mOr, mNot, mTru, mNow, mOp, mOpL, mA2_ap, mA1_ap, mCons, mNil, mPk, mIo, mFz, mLst, mTup, mApp, mCall, nows, look, worths, worth, p2, p1, ix_l, ix_t, mCon, tr_b, mB, cm_i, ad_i, atI, ixN, in_i, if_i, un_i, mAsg, go_name, sl_name, free_at, frC_un, frC_dat, frC_own, mRet, mVar, mSet, bInt, mSkip, fin, finL, pad, res_int, res_str, res_bl, res_non, res_dic, res_lst, res_tup, Ev.get_mk, Ev.set_mk, Ev.length_mk, argsOf, argsL, putBack, putL, ios, setO, mIf, mPars, evP, storeP, scOf, mRetO, mRetL, mExpr, cs]
  have a2 : f_without ⟨[.dat g0, .dat g1], S⟩ = some (.exc 2 g1, ⟨[.dat g0, .dat g1], S⟩) := by
    unfold f_without b_without
    simp [defG, mSeq, mIfS, mAnd, mOr, mNot, mTru, mNow, mOp, mOpL, mA2_ap, mA1_ap, mCons, mNil, mPk, mIo, mFz, mLst, mTup, mApp, mCall, nows, look, worths, worth, p2, p1, ix_l, ix_t, mCon, tr_b, mB, cm_i, ad_i, atI, ixN, in_i, if_i, un_i, mAsg, go_name, sl_name, free_at, frC_un, frC_dat, frC_own, mRet, mVar, mSet, bInt, mSkip, fin, finL, pad, res_int, res_str, res_bl, res_non, res_dic, res_lst, res_tup, Ev.get_mk, Ev.set_mk, Ev.length_mk, argsOf, argsL, putBack, putL, ios, setO, mIf, mPars, evP, storeP, scOf, mRetO, mRetL, mExpr, cs]
  have cl : f__law_called ⟨[.dat (intD door), .dat g0, .dat g1, .dat (.int nd)], S⟩ = some (.exc 2 g1, ⟨[.dat (intD door), .dat g0, .dat g1, .dat (.int nd)], S⟩) := by
    unfold f__law_called b__law_called intD
    obtain rfl | rfl | rfl : door = 0 ∨ door = 1 ∨ door = 2 := by omega
    all_goals rcases hn with rfl | rfl <;> simp [defG, mSeq, mIfS, mAnd, mOr, mNot, mTru, mNow, mOp, mOpL, mA2_ap, mA1_ap, mCons, mNil, mPk, mIo, mFz, mLst, mTup, mApp, mCall, nows, look, worths, worth, p2, p1, ix_l, ix_t, mCon, tr_b, mB, cm_i, ad_i, atI, ixN, in_i, if_i, un_i, mAsg, go_name, sl_name, free_at, frC_un, frC_dat, frC_own, mRet, mVar, mSet, bInt, mSkip, fin, finL, pad, res_int, res_str, res_bl, res_non, res_dic, res_lst, res_tup, Ev.get_mk, Ev.set_mk, Ev.length_mk, argsOf, argsL, putBack, putL, ios, setO, mIf, mPars, evP, storeP, scOf, mRetO, mRetL, mExpr, mPick, pick, Ky.eq_int, a0, a1, a2]
  unfold f__law_said b__law_said
  generalize intD door = dd at *
  simp [defG, mSeq, mIfS, mAnd, mOr, mNot, mTru, mNow, mOp, mOpL, mA2_ap, mA1_ap, mCons, mNil, mPk, mIo, mFz, mLst, mTup, mApp, mCall, nows, look, worths, worth, p2, p1, ix_l, ix_t, mCon, tr_b, mB, cm_i, ad_i, atI, ixN, in_i, if_i, un_i, mAsg, go_name, sl_name, free_at, frC_un, frC_dat, frC_own, mRet, mVar, mSet, bInt, mSkip, fin, finL, pad, res_int, res_str, res_bl, res_non, res_dic, res_lst, res_tup, Ev.get_mk, Ev.set_mk, Ev.length_mk, argsOf, argsL, putBack, putL, ios, setO, mIf, mPars, evP, storeP, scOf, mRetO, mRetL, mExpr, mTryL, cl, xiD, litOk]
def cpB : ML := (mComp (miSeq (mFz (mLst (mCons (mNow (mVar 7)) (mCons (mNow (mVar 8)) mNil))))) (tgName 14) [14] mYes (mIf (mTru (mNow (mIsi [0] [.ty "list"] (mPk 14)))) (mCel (mOpL bLst (mCons (mPk 14) mNil))) (mVar 14)))
def plB : MS := mSeq (mAsg (tgName 10) (mFz cpB)) (mSeq (mAsg (tgName 11) (mFz (mLst (mCons (mNow (mIf (mB (mOp (p2 oNe) (mA2 (mPk 9) (mNow (mCon (.int 1)))))) (mOp (p2 oIx) (mA2 (mPk 10) (mNow (mCon (.int 0))))) (mVar 3))) (mCons (mNow (mOp (p2 oIx) (mA2 (mNow (mFz (mLst (mCons (mNow (mVar 3)) (mCons (mNow (mOp (p2 oIx) (mA2 (mPk 10) (mNow (mCon (.int 0)))))) (mCons (mNow (mOp (p2 oIx) (mA2 (mPk 10) (mNow (mCon (.int 1)))))) mNil)))))) (mPk 9)))) mNil))))) (mSeq (mAsg (tgName 12) (mCall f__law_said (mCons (mNow (mVar 6)) (mCons (mNow (mOp (p2 oIx) (mA2 (mPk 11) (mNow (mCon (.int 0)))))) (mCons (mNow (mOp (p2 oIx) (mA2 (mPk 11) (mNow (mCon (.int 1)))))) (mCons (mNow (mOp (p2 oMod) (mA2 (mNow (mOp bInt (mCons (mNow (mOp (p2 oAdd) (mA2 (mPk 2) (mPk 9)))) mNil))) (mNow (mCon (.int 2)))))) mNil)))))) (mSeq (mAsg (tgName 13) (mIf (mB (mOp (p2 oEq) (mA2 (mPk 9) (mNow (mCon (.int 1)))))) (mOp (p2 oIx) (mA2 (mPk 11) (mNow (mCon (.int 1))))) (mOp (p2 oIx) (mA2 (mPk 11) (mNow (mCon (.int 0))))))) (mSeq (mIfS (mTru (mNow (mIsi [0] [.ty "list"] (mPk 13))))
    (mCIns (mVar 13) (mCon (.int 0)) (mCon (.str "more")))
    mSkip) (mIfS (mOr (mB (mOp (p2 oNe) (mA2 (mNow (mOp (p2 oIx) (mA2 (mPk 12) (mNow (mCon (.int 0)))))) (mNow (mCon (.str "question")))))) (mOr (mB (mOp (p2 oNeF) (mA2 (mNow (mOp bRepr (mCons (mNow (mOp (p2 oIx) (mA2 (mPk 12) (mNow (mCon (.int 1)))))) mNil))) (mNow (mOp bRepr (mCons (mPk 13) mNil)))))) (mB (mOp (p2 oNe) (mA2 (mNow (mIsi [0] [.ty "bool"] (mNow (mOp (p2 oIx) (mA2 (mPk 12) (mNow (mCon (.int 1)))))))) (mNow (mIsi [0] [.ty "bool"] (mPk 13))))))))
    (mRet (mCon (.bl false)))
    mSkip)))))
def doB : MS := mSeq (mPars [7, 8] [(.d (mOp (p2 oIx) (mA2 (mPk 5) (mNow (mCall f__law_take (mCons (mIo 0) (mCons (mNow (mCon (.int 10))) mNil))))))), (.d (mOp (p2 oIx) (mA2 (mPk 5) (mNow (mCall f__law_take (mCons (mIo 0) (mCons (mNow (mCon (.int 10))) mNil)))))))]) (mFor (miRng1 (mNow (mIf (mB (mOp (p2 oLt) (mA2 (mPk 6) (mNow (mCon (.int 3)))))) (mCon (.int 3)) (mCon (.int 1))))) (tgName 9) plB)
theorem refused_is : b__law_refused_right = mSeq (mPars [3, 4] [(.d (mCall f__law_made (mCons (mIo 0) (mCons (mNow (mVar 1)) mNil)))), (.d (mCall f__law_words mNil))]) (mSeq (mAsg (tgName 5) (mFz (mLst (mCons (mNow (mCon .non)) (mCons (mNow (mCon (.int 0))) (mCons (mNow (mCon (.bl true))) (mCons (mNow (mCon (.str "before"))) (mCons (mNow (mSl (mPk 4) none (some (mCon (.int 2))))) (mCons (mNow (mFz (mLst mNil))) (mCons (mNow (mTup mNil)) (mCons (mNow mDic) (mCons (mNow (mCon (.int 8191))) (mCons (mNow (mTup (mCons (mNow (mCon (.str "before"))) mNil))) mNil))))))))))))) (mSeq (mFor (miRng1 (mNow (mCon (.int 6)))) (tgName 6) doB) (mRet (mCall f__law_is (mCons (mNow (mVar 3)) (mCons (mNow (mVar 1)) mNil)))))) := rfl
theorem copies_ok {S : List (List D)} {bx : List D} {nd : Int} {n door p : Nat} {v u : D} {c10 c11 c12 c13 : SC} (u10 : Ky.unD c10) (u11 : Ky.unD c11) (u12 : Ky.unD c12) (u13 : Ky.unD c13) (Vv : VQ v) (Vu : VQ u) :
    ∃ c0 c1 S', cpB ⟨[.own true bx, .dat (pD n), .dat (.int nd), .dat (qD n), .dat (.lst wordsD), .dat (.lst wr10), .dat (intD door), .dat v, .dat u, .dat (intD p), c10, c11, c12, c13, .un], S⟩ = some (.ok [c0, c1] ⟨[.own true bx, .dat (pD n), .dat (.int nd), .dat (qD n), .dat (.lst wordsD), .dat (.lst wr10), .dat (intD door), .dat v, .dat u, .dat (intD p), c10, c11, c12, c13, .un], S'⟩) ∧ Cop c0 v S' ∧ Cop c1 u S' := by
  have rv := Vv.rs
  have ru := Vu.rs
  have iv := Vv.ii
  have iu := Vu.ii
  have li : ∀ ds, isiA [0] (.lst ds) [.ty "list"] = some true := fun _ => rfl
  have rq : ∀ Γ, res Γ (qD n) = qD n := fun _ => rfl
  have rp : ∀ Γ, res Γ (pD n) = pD n := fun _ => rfl
  unfold cpB mComp intD
  generalize wordsD = W
  generalize wr10 = WR
  generalize qD n = q at *
  generalize pD n = q2 at *
  generalize (.int (door : Int) : D) = dd
  generalize (.int (p : Int) : D) = pp
  rcases Vv.ls with ⟨ds, _, rfl, _⟩ | lv
  · rcases Vu.ls with ⟨es, _, rfl, _⟩ | lu
    · refine ⟨.cel S.length, .cel (S.length + 1), S ++ [ds] ++ [es], ?_, .inl ⟨_, _, rfl, rfl, by simp⟩, .inl ⟨_, _, rfl, rfl, by simp⟩⟩
      simp [miSeq, compL, mYes, lend_mk, unlend_mk, lendL_nil, lendL_un, lendL_dat, lendL_own, ul_nil, ul_un, ul_dat, ul_own, wipeE_mk, wipL, wipC_un, wipC_dat, wipC_own, wipC_ownF, defG, mSeq, mIfS, mAnd, mOr, mNot, mTru, mNow, mOp, mOpL, mA2_ap, mA1_ap, mCons, mNil, mPk, mIo, mFz, mLst, mTup, mApp, mCall, nows, look, worths, worth, p2, p1, ix_l, ix_t, mCon, tr_b, mB, cm_i, ad_i, atI, ixN, in_i, if_i, un_i, mAsg, go_name, sl_name, free_at, frC_un, frC_dat, frC_own, mRet, mVar, mSet, bInt, mSkip, fin, finL, pad, res_int, res_str, res_bl, res_non, res_dic, res_lst, res_tup, Ev.get_mk, Ev.set_mk, Ev.length_mk, argsOf, argsL, putBack, putL, ios, setO, mIf, mPars, evP, storeP, scOf, mRetO, mRetL, mExpr, mIsi, li, iv, iu, mCel, bLst, u10.lend, u11.lend, u12.lend, u13.lend, u10.unlend, u11.unlend, u12.unlend, u13.unlend, u10.wip, u11.wip, u12.wip, u13.wip]
    · refine ⟨.cel S.length, u, S ++ [ds], ?_, .inl ⟨_, _, rfl, rfl, by simp⟩, .inr ⟨rfl, lu⟩⟩
      simp [miSeq, compL, mYes, lend_mk, unlend_mk, lendL_nil, lendL_un, lendL_dat, lendL_own, ul_nil, ul_un, ul_dat, ul_own, wipeE_mk, wipL, wipC_un, wipC_dat, wipC_own, wipC_ownF, defG, mSeq, mIfS, mAnd, mOr, mNot, mTru, mNow, mOp, mOpL, mA2_ap, mA1_ap, mCons, mNil, mPk, mIo, mFz, mLst, mTup, mApp, mCall, nows, look, worths, worth, p2, p1, ix_l, ix_t, mCon, tr_b, mB, cm_i, ad_i, atI, ixN, in_i, if_i, un_i, mAsg, go_name, sl_name, free_at, frC_un, frC_dat, frC_own, mRet, mVar, mSet, bInt, mSkip, fin, finL, pad, res_int, res_str, res_bl, res_non, res_dic, res_lst, res_tup, Ev.get_mk, Ev.set_mk, Ev.length_mk, argsOf, argsL, putBack, putL, ios, setO, mIf, mPars, evP, storeP, scOf, mRetO, mRetL, mExpr, mIsi, li, iv, iu, ru, lu, mCel, bLst, u10.lend, u11.lend, u12.lend, u13.lend, u10.unlend, u11.unlend, u12.unlend, u13.unlend, u10.wip, u11.wip, u12.wip, u13.wip]
  · rcases Vu.ls with ⟨es, _, rfl, _⟩ | lu
    · refine ⟨v, .cel S.length, S ++ [es], ?_, .inr ⟨rfl, lv⟩, .inl ⟨_, _, rfl, rfl, by simp⟩⟩
      simp [miSeq, compL, mYes, lend_mk, unlend_mk, lendL_nil, lendL_un, lendL_dat, lendL_own, ul_nil, ul_un, ul_dat, ul_own, wipeE_mk, wipL, wipC_un, wipC_dat, wipC_own, wipC_ownF, defG, mSeq, mIfS, mAnd, mOr, mNot, mTru, mNow, mOp, mOpL, mA2_ap, mA1_ap, mCons, mNil, mPk, mIo, mFz, mLst, mTup, mApp, mCall, nows, look, worths, worth, p2, p1, ix_l, ix_t, mCon, tr_b, mB, cm_i, ad_i, atI, ixN, in_i, if_i, un_i, mAsg, go_name, sl_name, free_at, frC_un, frC_dat, frC_own, mRet, mVar, mSet, bInt, mSkip, fin, finL, pad, res_int, res_str, res_bl, res_non, res_dic, res_lst, res_tup, Ev.get_mk, Ev.set_mk, Ev.length_mk, argsOf, argsL, putBack, putL, ios, setO, mIf, mPars, evP, storeP, scOf, mRetO, mRetL, mExpr, mIsi, li, iv, iu, rv, lv, mCel, bLst, u10.lend, u11.lend, u12.lend, u13.lend, u10.unlend, u11.unlend, u12.unlend, u13.unlend, u10.wip, u11.wip, u12.wip, u13.wip]
    · refine ⟨v, u, S, ?_, .inr ⟨rfl, lv⟩, .inr ⟨rfl, lu⟩⟩
      simp [miSeq, compL, mYes, lend_mk, unlend_mk, lendL_nil, lendL_un, lendL_dat, lendL_own, ul_nil, ul_un, ul_dat, ul_own, wipeE_mk, wipL, wipC_un, wipC_dat, wipC_own, wipC_ownF, defG, mSeq, mIfS, mAnd, mOr, mNot, mTru, mNow, mOp, mOpL, mA2_ap, mA1_ap, mCons, mNil, mPk, mIo, mFz, mLst, mTup, mApp, mCall, nows, look, worths, worth, p2, p1, ix_l, ix_t, mCon, tr_b, mB, cm_i, ad_i, atI, ixN, in_i, if_i, un_i, mAsg, go_name, sl_name, free_at, frC_un, frC_dat, frC_own, mRet, mVar, mSet, bInt, mSkip, fin, finL, pad, res_int, res_str, res_bl, res_non, res_dic, res_lst, res_tup, Ev.get_mk, Ev.set_mk, Ev.length_mk, argsOf, argsL, putBack, putL, ios, setO, mIf, mPars, evP, storeP, scOf, mRetO, mRetL, mExpr, mIsi, li, iv, iu, rv, lv, ru, lu, u10.lend, u11.lend, u12.lend, u13.lend, u10.unlend, u11.unlend, u12.unlend, u13.unlend, u10.wip, u11.wip, u12.wip, u13.wip]
theorem place_step {S : List (List D)} {bx : List D} {nd : Int} {n door p : Nat} {v u : D} {c10 c11 c12 c13 : SC} (hn : nd = 0 ∨ nd = 1) (u10 : Ky.unD c10) (u11 : Ky.unD c11) (u12 : Ky.unD c12) (u13 : Ky.unD c13) (Vv : VQ v) (Vu : VQ u) (hd : door < 6) (hp : p < if door < 3 then 3 else 1) :
    ∃ d10 d11 d12 d13 S', plB ⟨[.own true bx, .dat (pD n), .dat (.int nd), .dat (qD n), .dat (.lst wordsD), .dat (.lst wr10), .dat (intD door), .dat v, .dat u, .dat (intD p), c10, c11, c12, c13, .un], S⟩ = some (.nx ⟨[.own true bx, .dat (pD n), .dat (.int nd), .dat (qD n), .dat (.lst wordsD), .dat (.lst wr10), .dat (intD door), .dat v, .dat u, .dat (intD p), .dat d10, .dat d11, .dat d12, .dat d13, .un], S'⟩) := by
  obtain ⟨c0, c1, S1, cc, K0, K1⟩ := copies_ok (S := S) (bx := bx) (nd := nd) (n := n) (door := door) (p := p) u10 u11 u12 u13 Vv Vu
  have bad := check_bad K0 Vv
  have bad1 := check_bad K1 Vu
  have good := checkq_ok (S := S1) (n := n)
  have m0 := fm_lo (a := nd + (p : Nat)) (b := 2) (by decide)
  have m1 := fm_hi (a := nd + (p : Nat)) (b := 2) (by decide)
  have hm : (nd + (p : Nat)).fmod 2 = 0 ∨ (nd + (p : Nat)).fmod 2 = 1 := by omega
  have sd1 : ∀ g1, f__law_said _ = _ := fun g1 => said_bad1 (S := S1) (g1 := g1) hd hm bad
  have sd2 : ∀ h : door < 3, f__law_said _ = _ := fun h => said_bad2 (S := S1) h hm good bad
  have n1 := ne_str (a := "question") (by decide +kernel)
  have nf : ∀ z : Str, oNeF (.str z) (.str z) = some (.bl false) := fun z => by
    show some (D.bl (!decide (z = z))) = _
    simp
  have n3 : ∀ b, oNe (.bl b) (.bl b) = some (.bl false) := fun b => by cases b <;> rfl
  have s0 : small62 0 = true := by decide
  have rq : ∀ Γ, res Γ (qD n) = qD n := fun _ => rfl
  have rp : ∀ Γ, res Γ (pD n) = pD n := fun _ => rfl
  have hp3 : p < 3 := by split at hp <;> omega
  have hp1 : 0 < p → door < 3 := fun z => by split at hp <;> omega
  have f10 := u10.fr
  have f11 := u11.fr
  have f12 := u12.fr
  have f13 := u13.fr
  refine ⟨.lst [c0, c1], .lst [if p = 1 then qD n else c0, if p = 0 then qD n else if p = 1 then c0 else c1], .lst [.str "question", c0], c0, ?_⟩
  have cd := K0
  rcases K0 with ⟨j, ds, rfl, rfl, hj⟩ | ⟨rfl, lv⟩
  · rcases Vv.ls with ⟨ds', z, e, hl, hz⟩ | lv
    rotate_left
    · exact absurd (show isiA [0] (.lst ds) [.ty "list"] = some true from rfl) (by rw [lv]; simp)
    cases e
    have hl2 : ds.length < 100000 := by omega
    refine ⟨S1.set j (.str "more" :: ds), ?_⟩
    have hjl : j < S1.length := (List.getElem?_eq_some_iff.mp hj).1
    have r0 := res_cel hj
    have r1 : ∀ l, res ⟨l, S1.set j (.str "more" :: ds)⟩ (.cel j) = .lst (.str "more" :: ds) := res_cel (List.getElem?_set_self hjl)
    have i0 : isiA [0] (.lst ds) [.ty "list"] = some true := rfl
    have i1 : insIn [0] (.lst ds) = true := rfl
    have i3 : isiA [0] (.lst (.str "more" :: ds)) [.ty "bool"] = some false := rfl
    have i4 : insIn [0] (.lst (.str "more" :: ds)) = true := rfl
    generalize hS2 : S1.set j (.str "more" :: ds) = S2 at r1 ⊢
    unfold plB
    have dp := hp1
    generalize wordsD = W at *
    generalize wr10 = WR at *
    generalize pD n = pn at *
    generalize qD n = q at *
    unfold intD at *
    match p, hp3 with
    | 0, _ => simp at cc sd1 sd2; simp [defG, mSeq, mIfS, mAnd, mOr, mNot, mTru, mNow, mOp, mOpL, mA2_ap, mA1_ap, mCons, mNil, mPk, mIo, mFz, mLst, mTup, mApp, mCall, nows, look, worths, worth, p2, p1, ix_l, ix_t, mCon, tr_b, mB, cm_i, ad_i, atI, ixN, in_i, if_i, un_i, mAsg, go_name, sl_name, free_at, frC_un, frC_dat, frC_own, mRet, mVar, mSet, bInt, mSkip, fin, finL, pad, res_int, res_str, res_bl, res_non, res_dic, res_lst, res_tup, Ev.get_mk, Ev.set_mk, Ev.length_mk, argsOf, argsL, putBack, putL, ios, setO, mIf, mPars, evP, storeP, scOf, mRetO, mRetL, mExpr, cc, f10, f11, f12, f13, rq, rp, Ky.eq_int, Ky.ne_int, sd1, mIsi, r0, r1, i0, i1, i3, i4, mCIns, hj, hl2, s0, hS2, bRepr, hz, n1, nf, n3]
    | 1, _ => have sd2 := sd2 (dp (by decide)); simp at cc sd1 sd2; simp [defG, mSeq, mIfS, mAnd, mOr, mNot, mTru, mNow, mOp, mOpL, mA2_ap, mA1_ap, mCons, mNil, mPk, mIo, mFz, mLst, mTup, mApp, mCall, nows, look, worths, worth, p2, p1, ix_l, ix_t, mCon, tr_b, mB, cm_i, ad_i, atI, ixN, in_i, if_i, un_i, mAsg, go_name, sl_name, free_at, frC_un, frC_dat, frC_own, mRet, mVar, mSet, bInt, mSkip, fin, finL, pad, res_int, res_str, res_bl, res_non, res_dic, res_lst, res_tup, Ev.get_mk, Ev.set_mk, Ev.length_mk, argsOf, argsL, putBack, putL, ios, setO, mIf, mPars, evP, storeP, scOf, mRetO, mRetL, mExpr, cc, f10, f11, f12, f13, rq, rp, Ky.eq_int, Ky.ne_int, sd2, mIsi, r0, r1, i0, i1, i3, i4, mCIns, hj, hl2, s0, hS2, bRepr, hz, n1, nf, n3]
    | 2, _ => simp at cc sd1 sd2; simp [defG, mSeq, mIfS, mAnd, mOr, mNot, mTru, mNow, mOp, mOpL, mA2_ap, mA1_ap, mCons, mNil, mPk, mIo, mFz, mLst, mTup, mApp, mCall, nows, look, worths, worth, p2, p1, ix_l, ix_t, mCon, tr_b, mB, cm_i, ad_i, atI, ixN, in_i, if_i, un_i, mAsg, go_name, sl_name, free_at, frC_un, frC_dat, frC_own, mRet, mVar, mSet, bInt, mSkip, fin, finL, pad, res_int, res_str, res_bl, res_non, res_dic, res_lst, res_tup, Ev.get_mk, Ev.set_mk, Ev.length_mk, argsOf, argsL, putBack, putL, ios, setO, mIf, mPars, evP, storeP, scOf, mRetO, mRetL, mExpr, cc, f10, f11, f12, f13, rq, rp, Ky.eq_int, Ky.ne_int, sd1, mIsi, r0, r1, i0, i1, i3, i4, mCIns, hj, hl2, s0, hS2, bRepr, hz, n1, nf, n3]
  · obtain ⟨z, hz⟩ := Vv.rp
    obtain ⟨bb, hbb⟩ := Vv.bl
    have rv := Vv.rs
    have iv := Vv.ii
    refine ⟨S1, ?_⟩
    unfold plB
    have dp := hp1
    generalize wordsD = W at *
    generalize wr10 = WR at *
    generalize pD n = pn at *
    generalize qD n = q at *
    unfold intD at *
    match p, hp3 with
    | 0, _ => simp at cc sd1 sd2; simp [defG, mSeq, mIfS, mAnd, mOr, mNot, mTru, mNow, mOp, mOpL, mA2_ap, mA1_ap, mCons, mNil, mPk, mIo, mFz, mLst, mTup, mApp, mCall, nows, look, worths, worth, p2, p1, ix_l, ix_t, mCon, tr_b, mB, cm_i, ad_i, atI, ixN, in_i, if_i, un_i, mAsg, go_name, sl_name, free_at, frC_un, frC_dat, frC_own, mRet, mVar, mSet, bInt, mSkip, fin, finL, pad, res_int, res_str, res_bl, res_non, res_dic, res_lst, res_tup, Ev.get_mk, Ev.set_mk, Ev.length_mk, argsOf, argsL, putBack, putL, ios, setO, mIf, mPars, evP, storeP, scOf, mRetO, mRetL, mExpr, cc, f10, f11, f12, f13, rq, rp, Ky.eq_int, Ky.ne_int, sd1, mIsi, rv, iv, lv, hbb, bRepr, hz, n1, nf, n3]
    | 1, _ => have sd2 := sd2 (dp (by decide)); simp at cc sd1 sd2; simp [defG, mSeq, mIfS, mAnd, mOr, mNot, mTru, mNow, mOp, mOpL, mA2_ap, mA1_ap, mCons, mNil, mPk, mIo, mFz, mLst, mTup, mApp, mCall, nows, look, worths, worth, p2, p1, ix_l, ix_t, mCon, tr_b, mB, cm_i, ad_i, atI, ixN, in_i, if_i, un_i, mAsg, go_name, sl_name, free_at, frC_un, frC_dat, frC_own, mRet, mVar, mSet, bInt, mSkip, fin, finL, pad, res_int, res_str, res_bl, res_non, res_dic, res_lst, res_tup, Ev.get_mk, Ev.set_mk, Ev.length_mk, argsOf, argsL, putBack, putL, ios, setO, mIf, mPars, evP, storeP, scOf, mRetO, mRetL, mExpr, cc, f10, f11, f12, f13, rq, rp, Ky.eq_int, Ky.ne_int, sd2, mIsi, rv, iv, lv, hbb, bRepr, hz, n1, nf, n3]
    | 2, _ => simp at cc sd1 sd2; simp [defG, mSeq, mIfS, mAnd, mOr, mNot, mTru, mNow, mOp, mOpL, mA2_ap, mA1_ap, mCons, mNil, mPk, mIo, mFz, mLst, mTup, mApp, mCall, nows, look, worths, worth, p2, p1, ix_l, ix_t, mCon, tr_b, mB, cm_i, ad_i, atI, ixN, in_i, if_i, un_i, mAsg, go_name, sl_name, free_at, frC_un, frC_dat, frC_own, mRet, mVar, mSet, bInt, mSkip, fin, finL, pad, res_int, res_str, res_bl, res_non, res_dic, res_lst, res_tup, Ev.get_mk, Ev.set_mk, Ev.length_mk, argsOf, argsL, putBack, putL, ios, setO, mIf, mPars, evP, storeP, scOf, mRetO, mRetL, mExpr, cc, f10, f11, f12, f13, rq, rp, Ky.eq_int, Ky.ne_int, sd1, mIsi, rv, iv, lv, hbb, bRepr, hz, n1, nf, n3]
end K04
namespace K04
open PySem PySem.Spec PyProof.Rows L2 Ky
def InvP (bx : List D) (nd : Int) (n : Nat) (c6 c7 c8 : SC) (Γ : Ev) : Prop := ∃ c9 c10 c11 c12 c13 S, Γ = ⟨[.own true bx, .dat (pD n), .dat (.int nd), .dat (qD n), .dat (.lst wordsD), .dat (.lst wr10), c6, c7, c8, c9, c10, c11, c12, c13, .un], S⟩ ∧ Ky.unD c9 ∧ Ky.unD c10 ∧ Ky.unD c11 ∧ Ky.unD c12 ∧ Ky.unD c13
theorem places_ok {bx : List D} {nd : Int} {n door : Nat} {v u : D} (hn : nd = 0 ∨ nd = 1) (Vv : VQ v) (Vu : VQ u) (hd : door < 6) {Γ : Ev} (h : InvP bx nd n (.dat (intD door)) (.dat v) (.dat u) Γ) :
    ∃ Γ', mFor (miRng1 (mNow (mIf (mB (mOp (p2 oLt) (mA2 (mPk 6) (mNow (mCon (.int 3)))))) (mCon (.int 3)) (mCon (.int 1))))) (tgName 9) plB Γ = some (.nx Γ') ∧ InvP bx nd n (.dat (intD door)) (.dat v) (.dat u) Γ' := by
  obtain ⟨c9, c10, c11, c12, c13, S, rfl, u9, u10, u11, u12, u13⟩ := h
  have s3 : small62 3 = true := by decide
  have s1 : small62 1 = true := by decide
  have src : (miRng1 (mNow (mIf (mB (mOp (p2 oLt) (mA2 (mPk 6) (mNow (mCon (.int 3)))))) (mCon (.int 3)) (mCon (.int 1))))) ⟨[.own true bx, .dat (pD n), .dat (.int nd), .dat (qD n), .dat (.lst wordsD), .dat (.lst wr10), .dat (intD door), .dat v, .dat u, c9, c10, c11, c12, c13, .un], S⟩ = some (.ok (upTo 0 (if door < 3 then 3 else 1)) ⟨[.own true bx, .dat (pD n), .dat (.int nd), .dat (qD n), .dat (.lst wordsD), .dat (.lst wr10), .dat (intD door), .dat v, .dat u, c9, c10, c11, c12, c13, .un], S⟩) := by
    unfold intD
    generalize wordsD = W
    generalize wr10 = WR
    generalize qD n = q
    generalize pD n = pn
    by_cases hd3 : door < 3
    · have : (door : Int) < 3 := by omega
      simp [miRng1, defG, mSeq, mIfS, mAnd, mOr, mNot, mTru, mNow, mOp, mOpL, mA2_ap, mA1_ap, mCons, mNil, mPk, mIo, mFz, mLst, mTup, mApp, mCall, nows, look, worths, worth, p2, p1, ix_l, ix_t, mCon, tr_b, mB, cm_i, ad_i, atI, ixN, in_i, if_i, un_i, mAsg, go_name, sl_name, free_at, frC_un, frC_dat, frC_own, mRet, mVar, mSet, bInt, mSkip, fin, finL, pad, res_int, res_str, res_bl, res_non, res_dic, res_lst, res_tup, Ev.get_mk, Ev.set_mk, Ev.length_mk, argsOf, argsL, putBack, putL, ios, setO, mIf, mPars, evP, storeP, scOf, mRetO, mRetL, mExpr, this, hd3, s3]
    · have : ¬ (door : Int) < 3 := by omega
      simp [miRng1, defG, mSeq, mIfS, mAnd, mOr, mNot, mTru, mNow, mOp, mOpL, mA2_ap, mA1_ap, mCons, mNil, mPk, mIo, mFz, mLst, mTup, mApp, mCall, nows, look, worths, worth, p2, p1, ix_l, ix_t, mCon, tr_b, mB, cm_i, ad_i, atI, ixN, in_i, if_i, un_i, mAsg, go_name, sl_name, free_at, frC_un, frC_dat, frC_own, mRet, mVar, mSet, bInt, mSkip, fin, finL, pad, res_int, res_str, res_bl, res_non, res_dic, res_lst, res_tup, Ev.get_mk, Ev.set_mk, Ev.length_mk, argsOf, argsL, putBack, putL, ios, setO, mIf, mPars, evP, storeP, scOf, mRetO, mRetL, mExpr, this, hd3, s1]
  refine mFor_keep (InvP bx nd n (.dat (intD door)) (.dat v) (.dat u)) src ⟨c9, c10, c11, c12, c13, S, rfl, u9, u10, u11, u12, u13⟩ fun d hdm Γ hi => ?_
  obtain ⟨c9, c10, c11, c12, c13, S, rfl, u9, u10, u11, u12, u13⟩ := hi
  obtain ⟨p, hp, rfl⟩ : ∃ p : Nat, (p < if door < 3 then 3 else 1) ∧ d = intD p := by
    unfold Ky.upTo at hdm
    obtain ⟨i, hi, rfl⟩ := List.mem_map.mp hdm
    exact ⟨i, List.mem_range.mp hi, by unfold intD; simp⟩
  obtain ⟨d10, d11, d12, d13, S', e⟩ := place_step (S := S) (bx := bx) (n := n) hn u10 u11 u12 u13 Vv Vu hd hp
  refine ⟨_, _, ?_, .inl e, ⟨_, _, _, _, _, _, rfl, trivial, trivial, trivial, trivial, trivial⟩⟩
  have f9 := u9.fr
  simp [go_name, free_at, Ev.get_mk, Ev.set_mk, f9]
def InvD (N : Nat) (nd : Int) (n : Nat) (k : Nat) (Γ : Ev) : Prop := ∃ bx c6 c7 c8 c9 c10 c11 c12 c13 S, Γ = ⟨[.own true bx, .dat (pD n), .dat (.int nd), .dat (qD n), .dat (.lst wordsD), .dat (.lst wr10), c6, c7, c8, c9, c10, c11, c12, c13, .un], S⟩ ∧ Bx (N + 2 * k) bx ∧ Ky.unD c6 ∧ Ky.unD c7 ∧ Ky.unD c8 ∧ Ky.unD c9 ∧ Ky.unD c10 ∧ Ky.unD c11 ∧ Ky.unD c12 ∧ Ky.unD c13
theorem refused_ok {S : List (List D)} {N : Nat} {bx : List D} {nd : Int} {n : Nat} (hb : Bx N bx) (hN : N < 500000000) (hn : nd = 0 ∨ nd = 1) (hn13 : n < 2 ^ 13) :
    ∃ bx' S', f__law_refused_right ⟨[.own true bx, .dat (pD n), .dat (.int nd)], S⟩ = some (.dat (.bl true), ⟨[.own true bx', .dat (pD n), .dat (.int nd)], S'⟩) ∧ Bx (N + 30) bx' := by
  obtain ⟨bx1, em, b1⟩ := made_ok (S := S) hb (by omega) hn13
  have em : f__law_made ⟨[.own true bx, .dat (pD n)], S⟩ = some (.dat (qD n), ⟨[.own true bx1, .dat (pD n)], S⟩) := em
  have wd := words_ok (S := S)
  have rq : ∀ Γ, res Γ (qD n) = qD n := fun _ => rfl
  have rp : ∀ Γ, res Γ (pD n) = pD n := fun _ => rfl
  have f1 : (mPars [3, 4] [(.d (mCall f__law_made (mCons (mIo 0) (mCons (mNow (mVar 1)) mNil)))), (.d (mCall f__law_words mNil))]) ⟨[.own true bx, .dat (pD n), .dat (.int nd), .un, .un, .un, .un, .un, .un, .un, .un, .un, .un, .un, .un], S⟩ = some (.nx ⟨[.own true bx1, .dat (pD n), .dat (.int nd), .dat (qD n), .dat (.lst wordsD), .un, .un, .un, .un, .un, .un, .un, .un, .un, .un], S⟩) := by
    generalize wordsD = W at *
    generalize qD n = q at *
    generalize pD n = pn at *
    simp [defG, mSeq, mIfS, mAnd, mOr, mNot, mTru, mNow, mOp, mOpL, mA2_ap, mA1_ap, mCons, mNil, mPk, mIo, mFz, mLst, mTup, mApp, mCall, nows, look, worths, worth, p2, p1, ix_l, ix_t, mCon, tr_b, mB, cm_i, ad_i, atI, ixN, in_i, if_i, un_i, mAsg, go_name, sl_name, free_at, frC_un, frC_dat, frC_own, mRet, mVar, mSet, bInt, mSkip, fin, finL, pad, res_int, res_str, res_bl, res_non, res_dic, res_lst, res_tup, Ev.get_mk, Ev.set_mk, Ev.length_mk, argsOf, argsL, putBack, putL, ios, setO, mIf, mPars, evP, storeP, scOf, mRetO, mRetL, mExpr, em, wd]
  have f2 : (mAsg (tgName 5) (mFz (mLst (mCons (mNow (mCon .non)) (mCons (mNow (mCon (.int 0))) (mCons (mNow (mCon (.bl true))) (mCons (mNow (mCon (.str "before"))) (mCons (mNow (mSl (mPk 4) none (some (mCon (.int 2))))) (mCons (mNow (mFz (mLst mNil))) (mCons (mNow (mTup mNil)) (mCons (mNow mDic) (mCons (mNow (mCon (.int 8191))) (mCons (mNow (mTup (mCons (mNow (mCon (.str "before"))) mNil))) mNil))))))))))))) ⟨[.own true bx1, .dat (pD n), .dat (.int nd), .dat (qD n), .dat (.lst wordsD), .un, .un, .un, .un, .un, .un, .un, .un, .un, .un], S⟩ = some (.nx ⟨[.own true bx1, .dat (pD n), .dat (.int nd), .dat (qD n), .dat (.lst wordsD), .dat (.lst wr10), .un, .un, .un, .un, .un, .un, .un, .un, .un], S⟩) := by
    rfl
  obtain ⟨Γ', q, i⟩ := mFor_inv (t := tgName 6) (body := doB) (src := (miRng1 (mNow (mCon (.int 6))))) (InvD (N + 13) nd n) (Γ := ⟨[.own true bx1, .dat (pD n), .dat (.int nd), .dat (qD n), .dat (.lst wordsD), .dat (.lst wr10), .un, .un, .un, .un, .un, .un, .un, .un, .un], S⟩) (Γ1 := ⟨[.own true bx1, .dat (pD n), .dat (.int nd), .dat (qD n), .dat (.lst wordsD), .dat (.lst wr10), .un, .un, .un, .un, .un, .un, .un, .un, .un], S⟩) (ds := (List.range 6).map intD) rfl
    ⟨bx1, .un, .un, .un, .un, .un, .un, .un, .un, S, rfl, b1, trivial, trivial, trivial, trivial, trivial, trivial, trivial, trivial⟩ fun k d Γ hdk hi => by
      obtain ⟨bx, c6, c7, c8, c9, c10, c11, c12, c13, S, rfl, hb, u6, u7, u8, u9, u10, u11, u12, u13⟩ := hi
      obtain ⟨hk, e⟩ := List.getElem?_eq_some_iff.mp hdk
      have hk6 : k < 6 := by simpa using hk
      obtain rfl : d = intD k := by simpa using e.symm
      obtain ⟨i1, bx2, e1, b2, l1, h1⟩ := take_bx (S := S) (many := 10) hb (by omega) (by decide) (by decide)
      obtain ⟨i2, bx3, e2, b3, l2, h2⟩ := take_bx (S := S) (many := 10) b2 (by omega) (by decide) (by decide)
      have ix : ∀ i : Int, 0 ≤ i → i < 10 → ∃ v, oIx (.lst wr10) (.int i) = some v ∧ VQ v := fun i h0 h1 => by
        refine ⟨wr10[i.toNat]'(by show i.toNat < 10; omega), ?_, wr10_VQ _ (List.getElem_mem _)⟩
        have : wr10.length = 10 := rfl
        show L2.atI wr10 i = _
        unfold L2.atI ixN
        rw [if_pos h0, if_pos (by omega)]
        simp [show i.toNat < wr10.length by omega]
      obtain ⟨v, iv, Vv⟩ := ix i1 l1 h1
      obtain ⟨u, iu, Vu⟩ := ix i2 l2 h2
      have f6 := u6.fr
      have f7 := u7.fr
      have f8 := u8.fr
      have p1 : (mPars [7, 8] [(.d (mOp (p2 oIx) (mA2 (mPk 5) (mNow (mCall f__law_take (mCons (mIo 0) (mCons (mNow (mCon (.int 10))) mNil))))))), (.d (mOp (p2 oIx) (mA2 (mPk 5) (mNow (mCall f__law_take (mCons (mIo 0) (mCons (mNow (mCon (.int 10))) mNil)))))))]) ⟨[.own true bx, .dat (pD n), .dat (.int nd), .dat (qD n), .dat (.lst wordsD), .dat (.lst wr10), .dat (intD k), c7, c8, c9, c10, c11, c12, c13, .un], S⟩ = some (.nx ⟨[.own true bx3, .dat (pD n), .dat (.int nd), .dat (qD n), .dat (.lst wordsD), .dat (.lst wr10), .dat (intD k), .dat v, .dat u, c9, c10, c11, c12, c13, .un], S⟩) := by
        generalize wordsD = W at *
        generalize wr10 = WR at *
        generalize qD n = q at *
        generalize pD n = pn at *
        generalize intD k = dk at *
        simp [defG, mSeq, mIfS, mAnd, mOr, mNot, mTru, mNow, mOp, mOpL, mA2_ap, mA1_ap, mCons, mNil, mPk, mIo, mFz, mLst, mTup, mApp, mCall, nows, look, worths, worth, p2, p1, ix_l, ix_t, mCon, tr_b, mB, cm_i, ad_i, atI, ixN, in_i, if_i, un_i, mAsg, go_name, sl_name, free_at, frC_un, frC_dat, frC_own, mRet, mVar, mSet, bInt, mSkip, fin, finL, pad, res_int, res_str, res_bl, res_non, res_dic, res_lst, res_tup, Ev.get_mk, Ev.set_mk, Ev.length_mk, argsOf, argsL, putBack, putL, ios, setO, mIf, mPars, evP, storeP, scOf, mRetO, mRetL, mExpr, e1, e2, iv, iu, f7, f8]
      obtain ⟨Γ', q, c9', c10', c11', c12', c13', S', rfl, u9', u10', u11', u12', u13'⟩ := places_ok (bx := bx3) (n := n) (Γ := ⟨[.own true bx3, .dat (pD n), .dat (.int nd), .dat (qD n), .dat (.lst wordsD), .dat (.lst wr10), .dat (intD k), .dat v, .dat u, c9, c10, c11, c12, c13, .un], S⟩) hn Vv Vu hk6 ⟨_, _, _, _, _, _, rfl, u9, u10, u11, u12, u13⟩
      refine ⟨_, _, ?_, .inl (mSeq_of p1 q), bx3, _, _, _, _, _, _, _, _, _, rfl, b3.mono (by omega), trivial, trivial, trivial, u9', u10', u11', u12', u13'⟩
      simp [go_name, free_at, Ev.get_mk, Ev.set_mk, f6]
  obtain ⟨bx', c6, c7, c8, c9, c10, c11, c12, c13, S', rfl, hb', -⟩ := i
  refine ⟨bx', S', ?_, hb'.mono (by simp)⟩
  have is := is_ok (S := S') hn13
  have is : f__law_is ⟨[.dat (qD n), .dat (pD n)], S'⟩ = some (.dat (.bl true), ⟨[.dat (qD n), .dat (pD n)], S'⟩) := is
  have b : b__law_refused_right ⟨[.own true bx, .dat (pD n), .dat (.int nd), .un, .un, .un, .un, .un, .un, .un, .un, .un, .un, .un, .un], S⟩ = some (.rt (.dat (.bl true)) ⟨[.own true bx', .dat (pD n), .dat (.int nd), .dat (qD n), .dat (.lst wordsD), .dat (.lst wr10), c6, c7, c8, c9, c10, c11, c12, c13, .un], S'⟩) := by
    rw [refused_is]
    refine mSeq_of f1 (mSeq_of f2 (mSeq_of q ?_))
    generalize wordsD = W at *
    generalize wr10 = WR at *
    generalize qD n = q at *
    generalize pD n = pn at *
    simp [defG, mSeq, mIfS, mAnd, mOr, mNot, mTru, mNow, mOp, mOpL, mA2_ap, mA1_ap, mCons, mNil, mPk, mIo, mFz, mLst, mTup, mApp, mCall, nows, look, worths, worth, p2, p1, ix_l, ix_t, mCon, tr_b, mB, cm_i, ad_i, atI, ixN, in_i, if_i, un_i, mAsg, go_name, sl_name, free_at, frC_un, frC_dat, frC_own, mRet, mVar, mSet, bInt, mSkip, fin, finL, pad, res_int, res_str, res_bl, res_non, res_dic, res_lst, res_tup, Ev.get_mk, Ev.set_mk, Ev.length_mk, argsOf, argsL, putBack, putL, ios, setO, mIf, mPars, evP, storeP, scOf, mRetO, mRetL, mExpr, is]
  unfold f__law_refused_right
  generalize qD n = q at *
  generalize pD n = pn at *
  simp [defG, mSeq, mIfS, mAnd, mOr, mNot, mTru, mNow, mOp, mOpL, mA2_ap, mA1_ap, mCons, mNil, mPk, mIo, mFz, mLst, mTup, mApp, mCall, nows, look, worths, worth, p2, p1, ix_l, ix_t, mCon, tr_b, mB, cm_i, ad_i, atI, ixN, in_i, if_i, un_i, mAsg, go_name, sl_name, free_at, frC_un, frC_dat, frC_own, mRet, mVar, mSet, bInt, mSkip, fin, finL, pad, res_int, res_str, res_bl, res_non, res_dic, res_lst, res_tup, Ev.get_mk, Ev.set_mk, Ev.length_mk, argsOf, argsL, putBack, putL, ios, setO, mIf, mPars, evP, storeP, scOf, mRetO, mRetL, mExpr, b]
end K04
namespace K04
open PySem PySem.Spec PyProof.Rows L2 Ky
def Rel (w : Nat) (a b s e : Int) : Prop := ∃ p q, plc a s e = p ∧ plc b s e = q ∧ (p, q, w) ∈ relT
theorem pair_ok {S : List (List D)} {N : Nat} {bx : List D} {w : Nat} (h : Bx N bx) (hN : N < 800000000) (hw : w < 13) :
    ∃ a b s e bx', f__law_pair ⟨[.own true bx, .dat (intD w)], S⟩ = some (.own [.tup [.int a, .int b], .tup [.int s, .int e]], ⟨[.own true bx', .dat (intD w)], S⟩) ∧ a < b ∧ s < e ∧ Rel w a b s e ∧ Rel (12 - w) s e a b ∧ Rel (mir w) (-b) (-a) (-e) (-s) ∧ Bx (N + 14) bx' := by
  match w, hw with
  | 0, _ =>
    obtain ⟨a, b, c, d, bx', e, l1, l2, l3, hb⟩ := pair_gen (S := S) (w := 0) (i := 0) (j := 1) (k := 2) (l := 3) h hN rfl (by decide) (by decide) (by decide) (by decide)
    exact ⟨a, b, c, d, bx', e, by omega, by omega, ⟨0, 0, plc_is _ _ _ _ (by omega), plc_is _ _ _ _ (by omega), by decide⟩, ⟨4, 4, plc_is _ _ _ _ (by omega), plc_is _ _ _ _ (by omega), by decide⟩, ⟨4, 4, plc_is _ _ _ _ (by omega), plc_is _ _ _ _ (by omega), by decide⟩, hb⟩
  | 1, _ =>
    obtain ⟨a, b, c, d, bx', e, l1, l2, l3, hb⟩ := pair_gen (S := S) (w := 1) (i := 0) (j := 1) (k := 1) (l := 2) h hN rfl (by decide) (by decide) (by decide) (by decide)
    exact ⟨a, b, b, c, bx', e, by omega, by omega, ⟨0, 1, plc_is _ _ _ _ (by omega), plc_is _ _ _ _ (by omega), by decide⟩, ⟨3, 4, plc_is _ _ _ _ (by omega), plc_is _ _ _ _ (by omega), by decide⟩, ⟨3, 4, plc_is _ _ _ _ (by omega), plc_is _ _ _ _ (by omega), by decide⟩, hb⟩
  | 2, _ =>
    obtain ⟨a, b, c, d, bx', e, l1, l2, l3, hb⟩ := pair_gen (S := S) (w := 2) (i := 0) (j := 2) (k := 1) (l := 3) h hN rfl (by decide) (by decide) (by decide) (by decide)
    exact ⟨a, c, b, d, bx', e, by omega, by omega, ⟨0, 2, plc_is _ _ _ _ (by omega), plc_is _ _ _ _ (by omega), by decide⟩, ⟨2, 4, plc_is _ _ _ _ (by omega), plc_is _ _ _ _ (by omega), by decide⟩, ⟨2, 4, plc_is _ _ _ _ (by omega), plc_is _ _ _ _ (by omega), by decide⟩, hb⟩
  | 3, _ =>
    obtain ⟨a, b, c, d, bx', e, l1, l2, l3, hb⟩ := pair_gen (S := S) (w := 3) (i := 0) (j := 2) (k := 1) (l := 2) h hN rfl (by decide) (by decide) (by decide) (by decide)
    exact ⟨a, c, b, c, bx', e, by omega, by omega, ⟨0, 3, plc_is _ _ _ _ (by omega), plc_is _ _ _ _ (by omega), by decide⟩, ⟨2, 3, plc_is _ _ _ _ (by omega), plc_is _ _ _ _ (by omega), by decide⟩, ⟨1, 4, plc_is _ _ _ _ (by omega), plc_is _ _ _ _ (by omega), by decide⟩, hb⟩
  | 4, _ =>
    obtain ⟨a, b, c, d, bx', e, l1, l2, l3, hb⟩ := pair_gen (S := S) (w := 4) (i := 0) (j := 3) (k := 1) (l := 2) h hN rfl (by decide) (by decide) (by decide) (by decide)
    exact ⟨a, d, b, c, bx', e, by omega, by omega, ⟨0, 4, plc_is _ _ _ _ (by omega), plc_is _ _ _ _ (by omega), by decide⟩, ⟨2, 2, plc_is _ _ _ _ (by omega), plc_is _ _ _ _ (by omega), by decide⟩, ⟨0, 4, plc_is _ _ _ _ (by omega), plc_is _ _ _ _ (by omega), by decide⟩, hb⟩
  | 5, _ =>
    obtain ⟨a, b, c, d, bx', e, l1, l2, l3, hb⟩ := pair_gen (S := S) (w := 5) (i := 0) (j := 1) (k := 0) (l := 2) h hN rfl (by decide) (by decide) (by decide) (by decide)
    exact ⟨a, b, a, c, bx', e, by omega, by omega, ⟨1, 2, plc_is _ _ _ _ (by omega), plc_is _ _ _ _ (by omega), by decide⟩, ⟨1, 4, plc_is _ _ _ _ (by omega), plc_is _ _ _ _ (by omega), by decide⟩, ⟨2, 3, plc_is _ _ _ _ (by omega), plc_is _ _ _ _ (by omega), by decide⟩, hb⟩
  | 6, _ =>
    obtain ⟨a, b, c, d, bx', e, l1, l2, l3, hb⟩ := pair_gen (S := S) (w := 6) (i := 0) (j := 1) (k := 0) (l := 1) h hN rfl (by decide) (by decide) (by decide) (by decide)
    exact ⟨a, b, a, b, bx', e, by omega, by omega, ⟨1, 3, plc_is _ _ _ _ (by omega), plc_is _ _ _ _ (by omega), by decide⟩, ⟨1, 3, plc_is _ _ _ _ (by omega), plc_is _ _ _ _ (by omega), by decide⟩, ⟨1, 3, plc_is _ _ _ _ (by omega), plc_is _ _ _ _ (by omega), by decide⟩, hb⟩
  | 7, _ =>
    obtain ⟨a, b, c, d, bx', e, l1, l2, l3, hb⟩ := pair_gen (S := S) (w := 7) (i := 0) (j := 2) (k := 0) (l := 1) h hN rfl (by decide) (by decide) (by decide) (by decide)
    exact ⟨a, c, a, b, bx', e, by omega, by omega, ⟨1, 4, plc_is _ _ _ _ (by omega), plc_is _ _ _ _ (by omega), by decide⟩, ⟨1, 2, plc_is _ _ _ _ (by omega), plc_is _ _ _ _ (by omega), by decide⟩, ⟨0, 3, plc_is _ _ _ _ (by omega), plc_is _ _ _ _ (by omega), by decide⟩, hb⟩
  | 8, _ =>
    obtain ⟨a, b, c, d, bx', e, l1, l2, l3, hb⟩ := pair_gen (S := S) (w := 8) (i := 1) (j := 2) (k := 0) (l := 3) h hN rfl (by decide) (by decide) (by decide) (by decide)
    exact ⟨b, c, a, d, bx', e, by omega, by omega, ⟨2, 2, plc_is _ _ _ _ (by omega), plc_is _ _ _ _ (by omega), by decide⟩, ⟨0, 4, plc_is _ _ _ _ (by omega), plc_is _ _ _ _ (by omega), by decide⟩, ⟨2, 2, plc_is _ _ _ _ (by omega), plc_is _ _ _ _ (by omega), by decide⟩, hb⟩
  | 9, _ =>
    obtain ⟨a, b, c, d, bx', e, l1, l2, l3, hb⟩ := pair_gen (S := S) (w := 9) (i := 1) (j := 2) (k := 0) (l := 2) h hN rfl (by decide) (by decide) (by decide) (by decide)
    exact ⟨b, c, a, c, bx', e, by omega, by omega, ⟨2, 3, plc_is _ _ _ _ (by omega), plc_is _ _ _ _ (by omega), by decide⟩, ⟨0, 3, plc_is _ _ _ _ (by omega), plc_is _ _ _ _ (by omega), by decide⟩, ⟨1, 2, plc_is _ _ _ _ (by omega), plc_is _ _ _ _ (by omega), by decide⟩, hb⟩
  | 10, _ =>
    obtain ⟨a, b, c, d, bx', e, l1, l2, l3, hb⟩ := pair_gen (S := S) (w := 10) (i := 1) (j := 3) (k := 0) (l := 2) h hN rfl (by decide) (by decide) (by decide) (by decide)
    exact ⟨b, d, a, c, bx', e, by omega, by omega, ⟨2, 4, plc_is _ _ _ _ (by omega), plc_is _ _ _ _ (by omega), by decide⟩, ⟨0, 2, plc_is _ _ _ _ (by omega), plc_is _ _ _ _ (by omega), by decide⟩, ⟨0, 2, plc_is _ _ _ _ (by omega), plc_is _ _ _ _ (by omega), by decide⟩, hb⟩
  | 11, _ =>
    obtain ⟨a, b, c, d, bx', e, l1, l2, l3, hb⟩ := pair_gen (S := S) (w := 11) (i := 1) (j := 2) (k := 0) (l := 1) h hN rfl (by decide) (by decide) (by decide) (by decide)
    exact ⟨b, c, a, b, bx', e, by omega, by omega, ⟨3, 4, plc_is _ _ _ _ (by omega), plc_is _ _ _ _ (by omega), by decide⟩, ⟨0, 1, plc_is _ _ _ _ (by omega), plc_is _ _ _ _ (by omega), by decide⟩, ⟨0, 1, plc_is _ _ _ _ (by omega), plc_is _ _ _ _ (by omega), by decide⟩, hb⟩
  | 12, _ =>
    obtain ⟨a, b, c, d, bx', e, l1, l2, l3, hb⟩ := pair_gen (S := S) (w := 12) (i := 2) (j := 3) (k := 0) (l := 1) h hN rfl (by decide) (by decide) (by decide) (by decide)
    exact ⟨c, d, a, b, bx', e, by omega, by omega, ⟨4, 4, plc_is _ _ _ _ (by omega), plc_is _ _ _ _ (by omega), by decide⟩, ⟨0, 0, plc_is _ _ _ _ (by omega), plc_is _ _ _ _ (by omega), by decide⟩, ⟨0, 0, plc_is _ _ _ _ (by omega), plc_is _ _ _ _ (by omega), by decide⟩, hb⟩
def oEqOf (N r : Nat) : Option D := oEq (.int (Builtin.bitAnd ((N : Int) / (2 : Int) ^ r) 1)) (.int 1)
theorem met_bit (N r : Nat) : oEqOf N r = some (.bl (N.testBit r)) := by
  have e : (N : Int) / (2 : Int) ^ r = ((N / 2 ^ r : Nat) : Int) := by
    rw [Int.natCast_ediv]
    congr 1
  unfold oEqOf
  rw [e]
  show oEq (.int (Builtin.bitAnd ((N / 2 ^ r : Nat) : Int) 1)) (.int 1) = _
  rw [bitAnd_m1, Ky.eq_int]
  congr 2
  have e2 : ((N / 2 ^ r : Nat) : Int) % 2 = ((N / 2 ^ r % 2 : Nat) : Int) := by omega
  rw [e2]
  rw [Nat.testBit_eq_decide_div_mod_eq]
  congr 1
  apply propext
  omega
theorem meets_ok {S : List (List D)} {N r : Nat} {a b s e : Int} (h1 : a < b) (h2 : s < e) (hr : Rel r a b s e) :
    f_Question_meets ⟨[.dat (qD N), .dat (.tup [.int a, .int b]), .dat (.tup [.int s, .int e])], S⟩ = some (.dat (.bl (N.testBit r)), ⟨[.dat (qD N), .dat (.tup [.int a, .int b]), .dat (.tup [.int s, .int e])], S⟩) := by
  obtain ⟨p, q, hp, hq, hm⟩ := hr
  have c := check_ok (S := S) h1 h2
  have n := num_ok (S := S) hp hq hm
  have f0 := fld (S := S) (n := N) (l := [.dat (qD N), .dat (.tup [.int a, .int b]), .dat (.tup [.int s, .int e])]) (i := 0) rfl
  have mb := met_bit N r
  unfold oEqOf at mb
  have m : f_met_by ⟨[.dat (intD N), .dat (.tup [.int a, .int b]), .dat (.tup [.int s, .int e])], S⟩ = some (.dat (.bl (N.testBit r)), ⟨[.dat (intD N), .dat (.tup [.int a, .int b]), .dat (.tup [.int s, .int e])], S⟩) := by
    unfold f_met_by b_met_by intD
    have pw : (2 : Int) ^ (r : Int).toNat = 2 ^ r := by simp
    have r0 : (0 : Int) ≤ r := by omega
    generalize (.tup [.int a, .int b] : D) = x at *
    generalize (.tup [.int s, .int e] : D) = z at *
    simp [defG, mSeq, mIfS, mAnd, mOr, mNot, mTru, mNow, mOp, mOpL, mA2_ap, mA1_ap, mCons, mNil, mPk, mIo, mFz, mLst, mTup, mApp, mCall, nows, look, worths, worth, p2, p1, ix_l, ix_t, mCon, tr_b, mB, cm_i, ad_i, atI, ixN, in_i, if_i, un_i, mAsg, go_name, sl_name, free_at, frC_un, frC_dat, frC_own, mRet, mVar, mSet, bInt, mSkip, fin, finL, pad, res_int, res_str, res_bl, res_non, res_dic, res_lst, res_tup, Ev.get_mk, Ev.set_mk, Ev.length_mk, argsOf, argsL, putBack, putL, ios, setO, mIf, mPars, evP, storeP, scOf, mRetO, mRetL, mExpr, n, r0, mb]
  unfold f_Question_meets b_Question_meets
  generalize (.tup [.int a, .int b] : D) = x at *
  generalize (.tup [.int s, .int e] : D) = z at *
  generalize qD N = q at *
  simp [defG, mSeq, mIfS, mAnd, mOr, mNot, mTru, mNow, mOp, mOpL, mA2_ap, mA1_ap, mCons, mNil, mPk, mIo, mFz, mLst, mTup, mApp, mCall, nows, look, worths, worth, p2, p1, ix_l, ix_t, mCon, tr_b, mB, cm_i, ad_i, atI, ixN, in_i, if_i, un_i, mAsg, go_name, sl_name, free_at, frC_un, frC_dat, frC_own, mRet, mVar, mSet, bInt, mSkip, fin, finL, pad, res_int, res_str, res_bl, res_non, res_dic, res_lst, res_tup, Ev.get_mk, Ev.set_mk, Ev.length_mk, argsOf, argsL, putBack, putL, ios, setO, mIf, mPars, evP, storeP, scOf, mRetO, mRetL, mExpr, c, f0, m]
theorem said_ok {S : List (List D)} {n m door : Nat} {nd : Int} (hd : door < 6) (hn : n < 2 ^ 13) (hm : m < 2 ^ 13) (hnd : nd = 0 ∨ nd = 1) :
    f__law_said ⟨[.dat (intD door), .dat (qD n), .dat (qD m), .dat (.int nd)], S⟩ = some (.own [.str "told", qD (num door n m)], ⟨[.dat (intD door), .dat (qD n), .dat (qD m), .dat (.int nd)], S⟩) := by
  have c := called_ok (S := S) (o := qD m) hd hn hm (fun _ => rfl) hnd
  unfold f__law_said b__law_said
  generalize intD door = dd at *
  generalize qD (num door n m) = y at *
  generalize qD m = z at *
  generalize qD n = x at *
  simp [defG, mSeq, mIfS, mAnd, mOr, mNot, mTru, mNow, mOp, mOpL, mA2_ap, mA1_ap, mCons, mNil, mPk, mIo, mFz, mLst, mTup, mApp, mCall, nows, look, worths, worth, p2, p1, ix_l, ix_t, mCon, tr_b, mB, cm_i, ad_i, atI, ixN, in_i, if_i, un_i, mAsg, go_name, sl_name, free_at, frC_un, frC_dat, frC_own, mRet, mVar, mSet, bInt, mSkip, fin, finL, pad, res_int, res_str, res_bl, res_non, res_dic, res_lst, res_tup, Ev.get_mk, Ev.set_mk, Ev.length_mk, argsOf, argsL, putBack, putL, ios, setO, mIf, mPars, evP, storeP, scOf, mRetO, mRetL, mExpr, mTryL, c]
theorem twice_ok {n m m' door : Nat} (hn : n < 2 ^ 13) (hm' : m' < 2 ^ 13) (hd : 2 < door) (hd6 : door < 6) : num door (num door n m) m' = n := by
  obtain rfl | rfl | rfl : door = 3 ∨ door = 4 ∨ door = 5 := by omega
  · show 8191 - (8191 - n) = n
    omega
  · have h1 := (perm_led (n := n) (fun k hk => tur_lt hk) tur_inj).2
    refine set_ext (perm_led (fun k hk => tur_lt hk) tur_inj).2 hn fun k hk => ?_
    have a := led_bit (n := ledN (fun k => 12 - k) n) (tb := fun k => 12 - k) (fun k hk => tur_lt hk) tur_inj (tur_lt hk)
    have b := led_bit (n := n) (tb := fun k => 12 - k) (fun k hk => tur_lt hk) tur_inj hk
    simp only [show 12 - (12 - k) = k by omega] at a
    show (ledN (fun k => 12 - k) (ledN (fun k => 12 - k) n)).testBit k = _
    rw [a, b]
  · refine set_ext (perm_led (fun k hk => mir_lt hk) mir_inj).2 hn fun k hk => ?_
    have a := led_bit (n := ledN mir n) (tb := mir) (fun k hk => mir_lt hk) mir_inj (mir_lt hk)
    have b := led_bit (n := n) (tb := mir) (fun k hk => mir_lt hk) mir_inj hk
    rw [mir_mir hk] at a
    show (ledN mir (ledN mir n)).testBit k = _
    rw [a, b]
end K04
namespace K04
open PySem PySem.Spec PyProof.Rows L2 Ky
def twB : MS := mSeq (mAsg (tgName 11) (mCall f__law_said (mCons (mNow (mVar 10)) (mCons (mNow (mVar 4)) (mCons (mNow (mVar 5)) (mCons (mNow (mOp (p2 oMod) (mA2 (mNow (mOp bInt (mCons (mNow (mOp (p2 oAdd) (mA2 (mPk 3) (mPk 10)))) mNil))) (mNow (mCon (.int 2)))))) mNil)))))) (mSeq (mIfS (mOr (mB (mOp (p2 oNe) (mA2 (mNow (mOp (p2 oIx) (mA2 (mPk 11) (mNow (mCon (.int 0)))))) (mNow (mCon (.str "told")))))) (mOr (mNot (mTru (mNow (mCall f__law_is (mCons (mNow (mOp (p2 oIx) (mA2 (mPk 11) (mNow (mCon (.int 1)))))) (mCons (mNow (mOp (p2 oIx) (mA2 (mPk 6) (mPk 10)))) mNil)))))) (mOr (mNot (mTru (mNow (mCall f__law_is (mCons (mNow (mVar 4)) (mCons (mNow (mVar 1)) mNil)))))) (mNot (mTru (mNow (mCall f__law_is (mCons (mNow (mVar 5)) (mCons (mNow (mVar 2)) mNil)))))))))
    (mRet (mCon (.bl false)))
    mSkip) (mSeq (mIfS (mNot (mTru (mNow (mCall f__law_like (mCons (mNow (mCall f_Question_meets (mCons (mNow (mInst 0 (mOp (p2 oIx) (mA2 (mPk 11) (mNow (mCon (.int 1))))))) (mCons (mNow (mVar 8)) (mCons (mNow (mVar 9)) mNil))))) (mCons (mNow (mOp (p2 oIn) (mA2 (mPk 7) (mNow (mOp (p2 oIx) (mA2 (mPk 6) (mPk 10))))))) mNil))))))
    (mRet (mCon (.bl false)))
    mSkip) (mSeq (mIfS (mAnd (mB (mOp (p2 oEq) (mA2 (mPk 10) (mNow (mCon (.int 4)))))) (mNot (mTru (mNow (mCall f__law_like (mCons (mNow (mCall f_Question_meets (mCons (mNow (mInst 0 (mOp (p2 oIx) (mA2 (mPk 11) (mNow (mCon (.int 1))))))) (mCons (mNow (mVar 9)) (mCons (mNow (mVar 8)) mNil))))) (mCons (mNow (mOp (p2 oIn) (mA2 (mPk 7) (mPk 1)))) mNil)))))))
    (mRet (mCon (.bl false)))
    mSkip) (mSeq (mIfS (mAnd (mB (mOp (p2 oEq) (mA2 (mPk 10) (mNow (mCon (.int 5)))))) (mNot (mTru (mNow (mCall f__law_like (mCons (mNow (mCall f_Question_meets (mCons (mNow (mInst 0 (mOp (p2 oIx) (mA2 (mPk 11) (mNow (mCon (.int 1))))))) (mCons (mNow (mTup (mCons (mNow (mOp (p1 oNeg) (mA1 (mNow (mOp (p2 oIx) (mA2 (mPk 8) (mNow (mCon (.int 1))))))))) (mCons (mNow (mOp (p1 oNeg) (mA1 (mNow (mOp (p2 oIx) (mA2 (mPk 8) (mNow (mCon (.int 0))))))))) mNil)))) (mCons (mNow (mTup (mCons (mNow (mOp (p1 oNeg) (mA1 (mNow (mOp (p2 oIx) (mA2 (mPk 9) (mNow (mCon (.int 1))))))))) (mCons (mNow (mOp (p1 oNeg) (mA1 (mNow (mOp (p2 oIx) (mA2 (mPk 9) (mNow (mCon (.int 0))))))))) mNil)))) mNil))))) (mCons (mNow (mOp (p2 oIn) (mA2 (mPk 7) (mPk 1)))) mNil)))))))
    (mRet (mCon (.bl false)))
    mSkip) (mIfS (mAnd (mB (mOp (p2 oGt) (mA2 (mPk 10) (mNow (mCon (.int 2)))))) (mNot (mTru (mNow (mCall f__law_is (mCons (mNow (mCall f__law_called (mCons (mNow (mVar 10)) (mCons (mNow (mOp (p2 oIx) (mA2 (mPk 11) (mNow (mCon (.int 1)))))) (mCons (mNow (mCon .non)) (mCons (mNow (mVar 3)) mNil)))))) (mCons (mNow (mVar 1)) mNil)))))))
    (mRet (mCon (.bl false)))
    mSkip)))))
theorem two_is : b__law_two_right = mSeq (mAsg (tgName 4) (mCall f__law_made (mCons (mIo 0) (mCons (mNow (mVar 1)) mNil)))) (mSeq (mAsg (tgName 5) (mIf (mAnd (mB (mOp (p2 oEq) (mA2 (mPk 1) (mPk 2)))) (mB (mOp (p2 oEq) (mA2 (mNow (mCall f__law_take (mCons (mIo 0) (mCons (mNow (mCon (.int 2))) mNil)))) (mNow (mCon (.int 0))))))) (mVar 4) (mCall f__law_made (mCons (mIo 0) (mCons (mNow (mVar 2)) mNil))))) (mSeq (mPars [6, 7] [(.d (mCall f__law_dues (mCons (mNow (mVar 1)) (mCons (mNow (mVar 2)) mNil)))), (.d (mCall f__law_take (mCons (mIo 0) (mCons (mNow (mCon (.int 13))) mNil))))]) (mSeq (mAsg (tgSeq [(tgName 8), (tgName 9)]) (mCall f__law_pair (mCons (mIo 0) (mCons (mNow (mVar 7)) mNil)))) (mSeq (mFor (miSeq (mCall f__law_mixed (mCons (mIo 0) (mCons (mNow (mFz (mListRng (mNow (mCon (.int 6)))))) mNil)))) (tgName 10) twB) (mRet (mCon (.bl true))))))) := rfl
theorem ix_dues {n m door : Nat} (h : door < 6) : oIx (.lst (duesD n m)) (intD door) = some (pD (num door n m)) := by
  match door, h with
  | 0, _ => rfl
  | 1, _ => rfl
  | 2, _ => rfl
  | 3, _ => rfl
  | 4, _ => rfl
  | 5, _ => rfl
theorem like_bl {S : List (List D)} (b : Bool) : f__law_like ⟨[.dat (.bl b), .dat (.bl b)], S⟩ = some (.dat (.bl true), ⟨[.dat (.bl b), .dat (.bl b)], S⟩) := like_self rfl (show 1 < 50000 by decide)
theorem in_pD {k x : Nat} (hk : k < 13) : oIn (intD k) (pD x) = some (.bl (x.testBit k)) := by unfold pD; rw [in_ok, in_bits hk]
theorem is_pD {S : List (List D)} {n : Nat} (hn : n < 2 ^ 13) : f__law_is ⟨[.dat (qD n), .dat (pD n)], S⟩ = some (.dat (.bl true), ⟨[.dat (qD n), .dat (pD n)], S⟩) := is_ok hn
theorem inst_q {N : Nat} {f : ME} {Γ Γ' : Ev} (h : f Γ = some (.ok (qD N) Γ')) : mInst 0 f Γ = some (.ok (qD N) Γ') := by
  unfold mInst
  rw [h]
  rfl
theorem two_step {S : List (List D)} {bx : List D} {n m w door : Nat} {nd a b s e : Int} {c11 : SC} (hn : n < 2 ^ 13) (hm : m < 2 ^ 13) (hnd : nd = 0 ∨ nd = 1) (hd : door < 6) (hw : w < 13) (u11 : Ky.unD c11)
    (l1 : a < b) (l2 : s < e) (r1 : Rel w a b s e) (r2 : Rel (12 - w) s e a b) (r3 : Rel (mir w) (-b) (-a) (-e) (-s)) :
    twB ⟨[.own true bx, .dat (pD n), .dat (pD m), .dat (.int nd), .dat (qD n), .dat (qD m), .dat (.lst (duesD n m)), .dat (intD w), .dat (.tup [.int a, .int b]), .dat (.tup [.int s, .int e]), .dat (intD door), c11], S⟩ = some (.nx ⟨[.own true bx, .dat (pD n), .dat (pD m), .dat (.int nd), .dat (qD n), .dat (qD m), .dat (.lst (duesD n m)), .dat (intD w), .dat (.tup [.int a, .int b]), .dat (.tup [.int s, .int e]), .dat (intD door), .dat (.lst [.str "told", qD (num door n m)])], S⟩) := by
  have m0 := fm_lo (a := nd + (door : Nat)) (b := 2) (by decide)
  have m1 := fm_hi (a := nd + (door : Nat)) (b := 2) (by decide)
  have sd := said_ok (S := S) hd hn hm (show (nd + (door : Nat)).fmod 2 = 0 ∨ (nd + (door : Nat)).fmod 2 = 1 by omega)
  have hq := num_lt (door := door) hn hm
  have i0 := is_pD (S := S) hq
  have i1 := is_pD (S := S) hn
  have i2 := is_pD (S := S) hm
  have ix := ix_dues (n := n) (m := m) hd
  have n1 := ne_str (a := "told") (by decide +kernel)
  have mt := meets_ok (S := S) (N := num door n m) l1 l2 r1
  have rq : ∀ N Γ, res Γ (qD N) = qD N := fun _ _ => rfl
  have rp : ∀ N Γ, res Γ (pD N) = pD N := fun _ _ => rfl
  have rd : ∀ Γ, res Γ (.lst (duesD n m)) = .lst (duesD n m) := fun _ => rfl
  have rt : ∀ (a b : Int) (Γ : Ev), res Γ (.tup [.int a, .int b]) = .tup [.int a, .int b] := fun _ _ _ => rfl
  have f11 := u11.fr
  have ri : ∀ Γ, res Γ (intD door) = intD door := fun _ => rfl
  have rw_ : ∀ Γ, res Γ (intD w) = intD w := fun _ => rfl
  have rp1 : ∀ Γ, res Γ (pD n) = pD n := fun _ => rfl
  have rp2 : ∀ Γ, res Γ (pD (num door n m)) = pD (num door n m) := fun _ => rfl
  have s1 : (mAsg (tgName 11) (mCall f__law_said (mCons (mNow (mVar 10)) (mCons (mNow (mVar 4)) (mCons (mNow (mVar 5)) (mCons (mNow (mOp (p2 oMod) (mA2 (mNow (mOp bInt (mCons (mNow (mOp (p2 oAdd) (mA2 (mPk 3) (mPk 10)))) mNil))) (mNow (mCon (.int 2)))))) mNil)))))) ⟨[.own true bx, .dat (pD n), .dat (pD m), .dat (.int nd), .dat (qD n), .dat (qD m), .dat (.lst (duesD n m)), .dat (intD w), .dat (.tup [.int a, .int b]), .dat (.tup [.int s, .int e]), .dat (intD door), c11], S⟩ = some (.nx ⟨[.own true bx, .dat (pD n), .dat (pD m), .dat (.int nd), .dat (qD n), .dat (qD m), .dat (.lst (duesD n m)), .dat (intD w), .dat (.tup [.int a, .int b]), .dat (.tup [.int s, .int e]), .dat (intD door), .dat (.lst [.str "told", qD (num door n m)])], S⟩) := by
    unfold intD at *
    generalize qD (num door n m) = y at *
    generalize qD n = qn at *
    generalize qD m = qm at *
    generalize (.lst (duesD n m) : D) = dl at *
    generalize (.tup [.int a, .int b] : D) = x at *
    generalize (.tup [.int s, .int e] : D) = z at *
    generalize pD n = pn at *
    generalize pD m = pm at *
    simp [defG, mSeq, mIfS, mAnd, mOr, mNot, mTru, mNow, mOp, mOpL, mA2_ap, mA1_ap, mCons, mNil, mPk, mIo, mFz, mLst, mTup, mApp, mCall, nows, look, worths, worth, p2, p1, ix_l, ix_t, mCon, tr_b, mB, cm_i, ad_i, atI, ixN, in_i, if_i, un_i, mAsg, go_name, sl_name, free_at, frC_un, frC_dat, frC_own, mRet, mVar, mSet, bInt, mSkip, fin, finL, pad, res_int, res_str, res_bl, res_non, res_dic, res_lst, res_tup, Ev.get_mk, Ev.set_mk, Ev.length_mk, argsOf, argsL, putBack, putL, ios, setO, mIf, mPars, evP, storeP, scOf, mRetO, mRetL, mExpr, ri, rw_, rp1, rp2, rd, f11, sd]
  have s2 : (mIfS (mOr (mB (mOp (p2 oNe) (mA2 (mNow (mOp (p2 oIx) (mA2 (mPk 11) (mNow (mCon (.int 0)))))) (mNow (mCon (.str "told")))))) (mOr (mNot (mTru (mNow (mCall f__law_is (mCons (mNow (mOp (p2 oIx) (mA2 (mPk 11) (mNow (mCon (.int 1)))))) (mCons (mNow (mOp (p2 oIx) (mA2 (mPk 6) (mPk 10)))) mNil)))))) (mOr (mNot (mTru (mNow (mCall f__law_is (mCons (mNow (mVar 4)) (mCons (mNow (mVar 1)) mNil)))))) (mNot (mTru (mNow (mCall f__law_is (mCons (mNow (mVar 5)) (mCons (mNow (mVar 2)) mNil)))))))))
    (mRet (mCon (.bl false)))
    mSkip) ⟨[.own true bx, .dat (pD n), .dat (pD m), .dat (.int nd), .dat (qD n), .dat (qD m), .dat (.lst (duesD n m)), .dat (intD w), .dat (.tup [.int a, .int b]), .dat (.tup [.int s, .int e]), .dat (intD door), .dat (.lst [.str "told", qD (num door n m)])], S⟩ = some (.nx ⟨[.own true bx, .dat (pD n), .dat (pD m), .dat (.int nd), .dat (qD n), .dat (qD m), .dat (.lst (duesD n m)), .dat (intD w), .dat (.tup [.int a, .int b]), .dat (.tup [.int s, .int e]), .dat (intD door), .dat (.lst [.str "told", qD (num door n m)])], S⟩) := by
    generalize pD (num door n m) = py at *
    generalize qD (num door n m) = y at *
    generalize qD n = qn at *
    generalize qD m = qm at *
    generalize intD door = dd at *
    generalize (.lst (duesD n m) : D) = dl at *
    generalize (.tup [.int a, .int b] : D) = x at *
    generalize (.tup [.int s, .int e] : D) = z at *
    generalize pD n = pn at *
    generalize pD m = pm at *
    simp [defG, mSeq, mIfS, mAnd, mOr, mNot, mTru, mNow, mOp, mOpL, mA2_ap, mA1_ap, mCons, mNil, mPk, mIo, mFz, mLst, mTup, mApp, mCall, nows, look, worths, worth, p2, p1, ix_l, ix_t, mCon, tr_b, mB, cm_i, ad_i, atI, ixN, in_i, if_i, un_i, mAsg, go_name, sl_name, free_at, frC_un, frC_dat, frC_own, mRet, mVar, mSet, bInt, mSkip, fin, finL, pad, res_int, res_str, res_bl, res_non, res_dic, res_lst, res_tup, Ev.get_mk, Ev.set_mk, Ev.length_mk, argsOf, argsL, putBack, putL, ios, setO, mIf, mPars, evP, storeP, scOf, mRetO, mRetL, mExpr, ri, rw_, rp1, rp2, rd, n1, i0, i1, i2, rd, ix]
  have e1 : mOp (p2 oIx) (mA2 (mPk 11) (mNow (mCon (.int 1)))) ⟨[.own true bx, .dat (pD n), .dat (pD m), .dat (.int nd), .dat (qD n), .dat (qD m), .dat (.lst (duesD n m)), .dat (intD w), .dat (.tup [.int a, .int b]), .dat (.tup [.int s, .int e]), .dat (intD door), .dat (.lst [.str "told", qD (num door n m)])], S⟩ = some (.ok (qD (num door n m)) ⟨[.own true bx, .dat (pD n), .dat (pD m), .dat (.int nd), .dat (qD n), .dat (qD m), .dat (.lst (duesD n m)), .dat (intD w), .dat (.tup [.int a, .int b]), .dat (.tup [.int s, .int e]), .dat (intD door), .dat (.lst [.str "told", qD (num door n m)])], S⟩) := by
    generalize qD (num door n m) = y at *
    generalize qD n = qn at *
    generalize qD m = qm at *
    generalize intD door = dd at *
    generalize (.lst (duesD n m) : D) = dl at *
    generalize (.tup [.int a, .int b] : D) = x at *
    generalize (.tup [.int s, .int e] : D) = z at *
    generalize pD n = pn at *
    generalize pD m = pm at *
    simp [defG, mSeq, mIfS, mAnd, mOr, mNot, mTru, mNow, mOp, mOpL, mA2_ap, mA1_ap, mCons, mNil, mPk, mIo, mFz, mLst, mTup, mApp, mCall, nows, look, worths, worth, p2, p1, ix_l, ix_t, mCon, tr_b, mB, cm_i, ad_i, atI, ixN, in_i, if_i, un_i, mAsg, go_name, sl_name, free_at, frC_un, frC_dat, frC_own, mRet, mVar, mSet, bInt, mSkip, fin, finL, pad, res_int, res_str, res_bl, res_non, res_dic, res_lst, res_tup, Ev.get_mk, Ev.set_mk, Ev.length_mk, argsOf, argsL, putBack, putL, ios, setO, mIf, mPars, evP, storeP, scOf, mRetO, mRetL, mExpr]
  have e2 := inst_q e1
  have s3 : (mIfS (mNot (mTru (mNow (mCall f__law_like (mCons (mNow (mCall f_Question_meets (mCons (mNow (mInst 0 (mOp (p2 oIx) (mA2 (mPk 11) (mNow (mCon (.int 1))))))) (mCons (mNow (mVar 8)) (mCons (mNow (mVar 9)) mNil))))) (mCons (mNow (mOp (p2 oIn) (mA2 (mPk 7) (mNow (mOp (p2 oIx) (mA2 (mPk 6) (mPk 10))))))) mNil))))))
    (mRet (mCon (.bl false)))
    mSkip) ⟨[.own true bx, .dat (pD n), .dat (pD m), .dat (.int nd), .dat (qD n), .dat (qD m), .dat (.lst (duesD n m)), .dat (intD w), .dat (.tup [.int a, .int b]), .dat (.tup [.int s, .int e]), .dat (intD door), .dat (.lst [.str "told", qD (num door n m)])], S⟩ = some (.nx ⟨[.own true bx, .dat (pD n), .dat (pD m), .dat (.int nd), .dat (qD n), .dat (qD m), .dat (.lst (duesD n m)), .dat (intD w), .dat (.tup [.int a, .int b]), .dat (.tup [.int s, .int e]), .dat (intD door), .dat (.lst [.str "told", qD (num door n m)])], S⟩) := by
    have k := in_pD (x := num door n m) hw
    have lk := like_bl (S := S) ((num door n m).testBit w)
    generalize (num door n m).testBit w = bb at *
    generalize mInst 0 _ = I at e2 ⊢
    generalize pD (num door n m) = py at *
    generalize qD (num door n m) = y at *
    generalize qD n = qn at *
    generalize qD m = qm at *
    generalize intD door = dd at *
    generalize intD w = ww at *
    generalize (.lst (duesD n m) : D) = dl at *
    generalize (.tup [.int a, .int b] : D) = x at *
    generalize (.tup [.int s, .int e] : D) = z at *
    generalize pD n = pn at *
    generalize pD m = pm at *
    simp [defG, mSeq, mIfS, mAnd, mOr, mNot, mTru, mNow, mOp, mOpL, mA2_ap, mA1_ap, mCons, mNil, mPk, mIo, mFz, mLst, mTup, mApp, mCall, nows, look, worths, worth, p2, p1, ix_l, ix_t, mCon, tr_b, mB, cm_i, ad_i, atI, ixN, in_i, if_i, un_i, mAsg, go_name, sl_name, free_at, frC_un, frC_dat, frC_own, mRet, mVar, mSet, bInt, mSkip, fin, finL, pad, res_int, res_str, res_bl, res_non, res_dic, res_lst, res_tup, Ev.get_mk, Ev.set_mk, Ev.length_mk, argsOf, argsL, putBack, putL, ios, setO, mIf, mPars, evP, storeP, scOf, mRetO, mRetL, mExpr, ri, rw_, rp1, rp2, rd, e2, mt, rd, ix, k, lk]
  have ng : ∀ i : Int, oNeg (.int i) = some (.int (-i)) := fun _ => rfl
  have s4 : (mIfS (mAnd (mB (mOp (p2 oEq) (mA2 (mPk 10) (mNow (mCon (.int 4)))))) (mNot (mTru (mNow (mCall f__law_like (mCons (mNow (mCall f_Question_meets (mCons (mNow (mInst 0 (mOp (p2 oIx) (mA2 (mPk 11) (mNow (mCon (.int 1))))))) (mCons (mNow (mVar 9)) (mCons (mNow (mVar 8)) mNil))))) (mCons (mNow (mOp (p2 oIn) (mA2 (mPk 7) (mPk 1)))) mNil)))))))
    (mRet (mCon (.bl false)))
    mSkip) ⟨[.own true bx, .dat (pD n), .dat (pD m), .dat (.int nd), .dat (qD n), .dat (qD m), .dat (.lst (duesD n m)), .dat (intD w), .dat (.tup [.int a, .int b]), .dat (.tup [.int s, .int e]), .dat (intD door), .dat (.lst [.str "told", qD (num door n m)])], S⟩ = some (.nx ⟨[.own true bx, .dat (pD n), .dat (pD m), .dat (.int nd), .dat (qD n), .dat (qD m), .dat (.lst (duesD n m)), .dat (intD w), .dat (.tup [.int a, .int b]), .dat (.tup [.int s, .int e]), .dat (intD door), .dat (.lst [.str "told", qD (num door n m)])], S⟩) := by
    by_cases h4 : door = 4
    · have mt := meets_ok (S := S) (N := num door n m) l2 l1 r2
      have bt : (num door n m).testBit (12 - w) = n.testBit w := by
        subst h4
        exact led_bit (n := n) (tb := fun k => 12 - k) (fun k hk => tur_lt hk) tur_inj hw
      rw [bt] at mt
      have k := in_pD (x := n) hw
      have lk := like_bl (S := S) (n.testBit w)
      generalize n.testBit w = bb at *
      generalize mInst 0 _ = I at e2 ⊢
      have c4 : oEq (intD door) (.int 4) = some (.bl true) := by subst h4; rfl
      generalize qD (num door n m) = y at *
      generalize qD n = qn at *
      generalize qD m = qm at *
      generalize intD door = dd at *
      generalize intD w = ww at *
      generalize (.lst (duesD n m) : D) = dl at *
      generalize (.tup [.int a, .int b] : D) = x at *
      generalize (.tup [.int s, .int e] : D) = z at *
      generalize pD n = pn at *
      generalize pD m = pm at *
      simp [defG, mSeq, mIfS, mAnd, mOr, mNot, mTru, mNow, mOp, mOpL, mA2_ap, mA1_ap, mCons, mNil, mPk, mIo, mFz, mLst, mTup, mApp, mCall, nows, look, worths, worth, p2, p1, ix_l, ix_t, mCon, tr_b, mB, cm_i, ad_i, atI, ixN, in_i, if_i, un_i, mAsg, go_name, sl_name, free_at, frC_un, frC_dat, frC_own, mRet, mVar, mSet, bInt, mSkip, fin, finL, pad, res_int, res_str, res_bl, res_non, res_dic, res_lst, res_tup, Ev.get_mk, Ev.set_mk, Ev.length_mk, argsOf, argsL, putBack, putL, ios, setO, mIf, mPars, evP, storeP, scOf, mRetO, mRetL, mExpr, ri, rw_, rp1, rp2, rd, c4, e2, mt, rp, k, lk]
    · have c4 : oEq (intD door) (.int 4) = some (.bl false) := by
        show oEq (.int door) (.int 4) = _
        rw [Ky.eq_int]
        congr 2
        exact decide_eq_false (by omega)
      generalize mInst 0 _ = I
      generalize qD (num door n m) = y at *
      generalize qD n = qn at *
      generalize qD m = qm at *
      generalize intD door = dd at *
      generalize intD w = ww at *
      generalize (.lst (duesD n m) : D) = dl at *
      generalize (.tup [.int a, .int b] : D) = x at *
      generalize (.tup [.int s, .int e] : D) = z at *
      generalize pD n = pn at *
      generalize pD m = pm at *
      simp [defG, mSeq, mIfS, mAnd, mOr, mNot, mTru, mNow, mOp, mOpL, mA2_ap, mA1_ap, mCons, mNil, mPk, mIo, mFz, mLst, mTup, mApp, mCall, nows, look, worths, worth, p2, p1, ix_l, ix_t, mCon, tr_b, mB, cm_i, ad_i, atI, ixN, in_i, if_i, un_i, mAsg, go_name, sl_name, free_at, frC_un, frC_dat, frC_own, mRet, mVar, mSet, bInt, mSkip, fin, finL, pad, res_int, res_str, res_bl, res_non, res_dic, res_lst, res_tup, Ev.get_mk, Ev.set_mk, Ev.length_mk, argsOf, argsL, putBack, putL, ios, setO, mIf, mPars, evP, storeP, scOf, mRetO, mRetL, mExpr, ri, rw_, rp1, rp2, rd, c4]
  have s5 : (mIfS (mAnd (mB (mOp (p2 oEq) (mA2 (mPk 10) (mNow (mCon (.int 5)))))) (mNot (mTru (mNow (mCall f__law_like (mCons (mNow (mCall f_Question_meets (mCons (mNow (mInst 0 (mOp (p2 oIx) (mA2 (mPk 11) (mNow (mCon (.int 1))))))) (mCons (mNow (mTup (mCons (mNow (mOp (p1 oNeg) (mA1 (mNow (mOp (p2 oIx) (mA2 (mPk 8) (mNow (mCon (.int 1))))))))) (mCons (mNow (mOp (p1 oNeg) (mA1 (mNow (mOp (p2 oIx) (mA2 (mPk 8) (mNow (mCon (.int 0))))))))) mNil)))) (mCons (mNow (mTup (mCons (mNow (mOp (p1 oNeg) (mA1 (mNow (mOp (p2 oIx) (mA2 (mPk 9) (mNow (mCon (.int 1))))))))) (mCons (mNow (mOp (p1 oNeg) (mA1 (mNow (mOp (p2 oIx) (mA2 (mPk 9) (mNow (mCon (.int 0))))))))) mNil)))) mNil))))) (mCons (mNow (mOp (p2 oIn) (mA2 (mPk 7) (mPk 1)))) mNil)))))))
    (mRet (mCon (.bl false)))
    mSkip) ⟨[.own true bx, .dat (pD n), .dat (pD m), .dat (.int nd), .dat (qD n), .dat (qD m), .dat (.lst (duesD n m)), .dat (intD w), .dat (.tup [.int a, .int b]), .dat (.tup [.int s, .int e]), .dat (intD door), .dat (.lst [.str "told", qD (num door n m)])], S⟩ = some (.nx ⟨[.own true bx, .dat (pD n), .dat (pD m), .dat (.int nd), .dat (qD n), .dat (qD m), .dat (.lst (duesD n m)), .dat (intD w), .dat (.tup [.int a, .int b]), .dat (.tup [.int s, .int e]), .dat (intD door), .dat (.lst [.str "told", qD (num door n m)])], S⟩) := by
    by_cases h5 : door = 5
    · have mt := meets_ok (S := S) (N := num door n m) (show -b < -a by omega) (show -e < -s by omega) r3
      have bt : (num door n m).testBit (mir w) = n.testBit w := by
        subst h5
        exact led_bit (n := n) (tb := mir) (fun k hk => mir_lt hk) mir_inj hw
      rw [bt] at mt
      have k := in_pD (x := n) hw
      have lk := like_bl (S := S) (n.testBit w)
      generalize n.testBit w = bb at *
      generalize mInst 0 _ = I at e2 ⊢
      have c5 : oEq (intD door) (.int 5) = some (.bl true) := by subst h5; rfl
      generalize pD n = pn at *
      generalize pD m = pm at *
      generalize (.lst (duesD n m) : D) = dl at *
      generalize qD (num door n m) = y at *
      generalize qD n = qn at *
      generalize qD m = qm at *
      generalize intD door = dd at *
      generalize intD w = ww at *
      simp [defG, mSeq, mIfS, mAnd, mOr, mNot, mTru, mNow, mOp, mOpL, mA2_ap, mA1_ap, mCons, mNil, mPk, mIo, mFz, mLst, mTup, mApp, mCall, nows, look, worths, worth, p2, p1, ix_l, ix_t, mCon, tr_b, mB, cm_i, ad_i, atI, ixN, in_i, if_i, un_i, mAsg, go_name, sl_name, free_at, frC_un, frC_dat, frC_own, mRet, mVar, mSet, bInt, mSkip, fin, finL, pad, res_int, res_str, res_bl, res_non, res_dic, res_lst, res_tup, Ev.get_mk, Ev.set_mk, Ev.length_mk, argsOf, argsL, putBack, putL, ios, setO, mIf, mPars, evP, storeP, scOf, mRetO, mRetL, mExpr, ri, rw_, rp1, rp2, rd, c5, e2, mt, rp, k, lk]
    · have c5 : oEq (intD door) (.int 5) = some (.bl false) := by
        show oEq (.int door) (.int 5) = _
        rw [Ky.eq_int]
        congr 2
        exact decide_eq_false (by omega)
      generalize mInst 0 _ = I
      generalize qD (num door n m) = y at *
      generalize qD n = qn at *
      generalize qD m = qm at *
      generalize intD door = dd at *
      generalize intD w = ww at *
      generalize (.lst (duesD n m) : D) = dl at *
      generalize (.tup [.int a, .int b] : D) = x at *
      generalize (.tup [.int s, .int e] : D) = z at *
      generalize pD n = pn at *
      generalize pD m = pm at *
      simp [defG, mSeq, mIfS, mAnd, mOr, mNot, mTru, mNow, mOp, mOpL, mA2_ap, mA1_ap, mCons, mNil, mPk, mIo, mFz, mLst, mTup, mApp, mCall, nows, look, worths, worth, p2, p1, ix_l, ix_t, mCon, tr_b, mB, cm_i, ad_i, atI, ixN, in_i, if_i, un_i, mAsg, go_name, sl_name, free_at, frC_un, frC_dat, frC_own, mRet, mVar, mSet, bInt, mSkip, fin, finL, pad, res_int, res_str, res_bl, res_non, res_dic, res_lst, res_tup, Ev.get_mk, Ev.set_mk, Ev.length_mk, argsOf, argsL, putBack, putL, ios, setO, mIf, mPars, evP, storeP, scOf, mRetO, mRetL, mExpr, ri, rw_, rp1, rp2, rd, c5]
  have s6 : (mIfS (mAnd (mB (mOp (p2 oGt) (mA2 (mPk 10) (mNow (mCon (.int 2)))))) (mNot (mTru (mNow (mCall f__law_is (mCons (mNow (mCall f__law_called (mCons (mNow (mVar 10)) (mCons (mNow (mOp (p2 oIx) (mA2 (mPk 11) (mNow (mCon (.int 1)))))) (mCons (mNow (mCon .non)) (mCons (mNow (mVar 3)) mNil)))))) (mCons (mNow (mVar 1)) mNil)))))))
    (mRet (mCon (.bl false)))
    mSkip) ⟨[.own true bx, .dat (pD n), .dat (pD m), .dat (.int nd), .dat (qD n), .dat (qD m), .dat (.lst (duesD n m)), .dat (intD w), .dat (.tup [.int a, .int b]), .dat (.tup [.int s, .int e]), .dat (intD door), .dat (.lst [.str "told", qD (num door n m)])], S⟩ = some (.nx ⟨[.own true bx, .dat (pD n), .dat (pD m), .dat (.int nd), .dat (qD n), .dat (qD m), .dat (.lst (duesD n m)), .dat (intD w), .dat (.tup [.int a, .int b]), .dat (.tup [.int s, .int e]), .dat (intD door), .dat (.lst [.str "told", qD (num door n m)])], S⟩) := by
    by_cases h6 : 2 < door
    · have c := called_ok (S := S) (o := .non) (m := 0) hd hq (by decide) (fun z => by omega) hnd
      rw [twice_ok hn (by decide) h6 hd] at c
      have c6 : oGt (intD door) (.int 2) = some (.bl true) := by
        show some (D.bl (decide ((2 : Int) < door))) = _
        rw [decide_eq_true (by omega)]
      generalize qD (num door n m) = y at *
      generalize qD n = qn at *
      generalize qD m = qm at *
      generalize intD door = dd at *
      generalize intD w = ww at *
      generalize (.lst (duesD n m) : D) = dl at *
      generalize (.tup [.int a, .int b] : D) = x at *
      generalize (.tup [.int s, .int e] : D) = z at *
      generalize pD n = pn at *
      generalize pD m = pm at *
      simp [defG, mSeq, mIfS, mAnd, mOr, mNot, mTru, mNow, mOp, mOpL, mA2_ap, mA1_ap, mCons, mNil, mPk, mIo, mFz, mLst, mTup, mApp, mCall, nows, look, worths, worth, p2, p1, ix_l, ix_t, mCon, tr_b, mB, cm_i, ad_i, atI, ixN, in_i, if_i, un_i, mAsg, go_name, sl_name, free_at, frC_un, frC_dat, frC_own, mRet, mVar, mSet, bInt, mSkip, fin, finL, pad, res_int, res_str, res_bl, res_non, res_dic, res_lst, res_tup, Ev.get_mk, Ev.set_mk, Ev.length_mk, argsOf, argsL, putBack, putL, ios, setO, mIf, mPars, evP, storeP, scOf, mRetO, mRetL, mExpr, ri, rw_, rp1, rp2, rd, c6, c, i1]
    · have c6 : oGt (intD door) (.int 2) = some (.bl false) := by
        show some (D.bl (decide ((2 : Int) < door))) = _
        rw [decide_eq_false (by omega)]
      generalize qD (num door n m) = y at *
      generalize qD n = qn at *
      generalize qD m = qm at *
      generalize intD door = dd at *
      generalize intD w = ww at *
      generalize (.lst (duesD n m) : D) = dl at *
      generalize (.tup [.int a, .int b] : D) = x at *
      generalize (.tup [.int s, .int e] : D) = z at *
      generalize pD n = pn at *
      generalize pD m = pm at *
      simp [defG, mSeq, mIfS, mAnd, mOr, mNot, mTru, mNow, mOp, mOpL, mA2_ap, mA1_ap, mCons, mNil, mPk, mIo, mFz, mLst, mTup, mApp, mCall, nows, look, worths, worth, p2, p1, ix_l, ix_t, mCon, tr_b, mB, cm_i, ad_i, atI, ixN, in_i, if_i, un_i, mAsg, go_name, sl_name, free_at, frC_un, frC_dat, frC_own, mRet, mVar, mSet, bInt, mSkip, fin, finL, pad, res_int, res_str, res_bl, res_non, res_dic, res_lst, res_tup, Ev.get_mk, Ev.set_mk, Ev.length_mk, argsOf, argsL, putBack, putL, ios, setO, mIf, mPars, evP, storeP, scOf, mRetO, mRetL, mExpr, ri, rw_, rp1, rp2, rd, c6]
  unfold twB
  exact mSeq_of s1 (mSeq_of s2 (mSeq_of s3 (mSeq_of s4 (mSeq_of s5 s6))))
end K04
namespace K04
open PySem PySem.Spec PyProof.Rows L2 Ky
theorem eq_pD (n m : Nat) (hn : n < 2 ^ 13) (hm : m < 2 ^ 13) : oEq (pD n) (pD m) = some (.bl (decide (n = m))) := by
  have e : ∀ x, pD x = .lst (((bitsB 13 x).map fun k : Nat => (k : Int)).map D.int) := fun x => by
    unfold pD
    rw [List.map_map]
    rfl
  rw [e, e, Ky.eq_ints]
  congr 2
  refine decide_eq_decide.mpr ⟨fun h => ?_, ?_⟩
  · have go : ∀ n m : Nat, ((bitsB 13 n).map fun k : Nat => (k : Int)) = ((bitsB 13 m).map fun k : Nat => (k : Int)) → ∀ k, k ∈ bitsB 13 n → k ∈ bitsB 13 m := fun n m h k hk => by
      have q := List.mem_map_of_mem (f := fun k : Nat => (k : Int)) hk
      rw [h] at q
      obtain ⟨j, hj, e⟩ := List.mem_map.mp q
      obtain rfl : j = k := by have e : (j : Int) = k := e; omega
      exact hj
    refine set_ext hn hm fun k hk => ?_
    have a : k ∈ bitsB 13 n ↔ k ∈ bitsB 13 m := ⟨go n m h k, go m n h.symm k⟩
    rw [mem_bits, mem_bits] at a
    cases h1 : n.testBit k <;> cases h2 : m.testBit k
    · rfl
    · exact absurd (a.mpr ⟨hk, h2⟩).2 (by rw [h1]; decide)
    · exact absurd (a.mp ⟨hk, h1⟩).2 (by rw [h2]; decide)
    · rfl
  · rintro rfl
    rfl
theorem mixed_nat {S : List (List D)} {N t : Nat} {bx : List D} (h : Bx N bx) (hN : N < 800000000) (ht : t ≤ 100) : ∃ es bx', f__law_mixed ⟨[.own true bx, .dat (.lst (upTo 0 t))], S⟩ = some (.own es, ⟨[.own true bx', .dat (.lst (upTo 0 t))], S⟩) ∧ (∀ e ∈ es, ∃ w : Nat, w < t ∧ e = intD w) ∧ Bx (N + t) bx' := by
  have fl : ∀ d ∈ upTo 0 t, Flat d := fun d hd => by
    unfold Ky.upTo at hd
    obtain ⟨i, _, rfl⟩ := List.mem_map.mp hd
    exact ⟨_, rfl, rfl, rfl⟩
  have l13 : (upTo 0 t).length = t := by unfold Ky.upTo; simp
  obtain ⟨es, bx2, em, pm, b2⟩ := mixed_ok (S := S) (ds := upTo 0 t) h (by rw [l13]; omega) (by rw [l13]; omega) fl
  rw [l13] at b2
  refine ⟨es, bx2, em, fun e h => ?_, b2⟩
  have h := pm.mem_iff.mp h
  unfold Ky.upTo at h
  obtain ⟨i, hi, rfl⟩ := List.mem_map.mp h
  exact ⟨i, List.mem_range.mp hi, by unfold intD; simp⟩
theorem two_ok {S : List (List D)} {N n m : Nat} {bx : List D} {nd : Int} (hb : Bx N bx) (hN : N < 500000000) (hn : n < 2 ^ 13) (hm : m < 2 ^ 13) (hnd : nd = 0 ∨ nd = 1) :
    ∃ bx', f__law_two_right ⟨[.own true bx, .dat (pD n), .dat (pD m), .dat (.int nd)], S⟩ = some (.dat (.bl true), ⟨[.own true bx', .dat (pD n), .dat (pD m), .dat (.int nd)], S⟩) ∧ Bx (N + 60) bx' := by
  obtain ⟨bx1, em1, b1⟩ := made_ok (S := S) hb (by omega) hn
  have em1 : f__law_made ⟨[.own true bx, .dat (pD n)], S⟩ = some (.dat (qD n), ⟨[.own true bx1, .dat (pD n)], S⟩) := em1
  have rp : ∀ k Γ, res Γ (pD k) = pD k := fun _ _ => rfl
  have s1 : (mAsg (tgName 4) (mCall f__law_made (mCons (mIo 0) (mCons (mNow (mVar 1)) mNil)))) ⟨[.own true bx, .dat (pD n), .dat (pD m), .dat (.int nd), .un, .un, .un, .un, .un, .un, .un, .un], S⟩ = some (.nx ⟨[.own true bx1, .dat (pD n), .dat (pD m), .dat (.int nd), .dat (qD n), .un, .un, .un, .un, .un, .un, .un], S⟩) := by
    generalize qD n = qn at *
    generalize pD n = pn at *
    generalize pD m = pm at *
    simp [defG, mSeq, mIfS, mAnd, mOr, mNot, mTru, mNow, mOp, mOpL, mA2_ap, mA1_ap, mCons, mNil, mPk, mIo, mFz, mLst, mTup, mApp, mCall, nows, look, worths, worth, p2, p1, ix_l, ix_t, mCon, tr_b, mB, cm_i, ad_i, atI, ixN, in_i, if_i, un_i, mAsg, go_name, sl_name, free_at, frC_un, frC_dat, frC_own, mRet, mVar, mSet, bInt, mSkip, fin, finL, pad, res_int, res_str, res_bl, res_non, res_dic, res_lst, res_tup, Ev.get_mk, Ev.set_mk, Ev.length_mk, argsOf, argsL, putBack, putL, ios, setO, mIf, mPars, evP, storeP, scOf, mRetO, mRetL, mExpr, em1]
  obtain ⟨bx2, s2, b2⟩ : ∃ bx2, (mAsg (tgName 5) (mIf (mAnd (mB (mOp (p2 oEq) (mA2 (mPk 1) (mPk 2)))) (mB (mOp (p2 oEq) (mA2 (mNow (mCall f__law_take (mCons (mIo 0) (mCons (mNow (mCon (.int 2))) mNil)))) (mNow (mCon (.int 0))))))) (mVar 4) (mCall f__law_made (mCons (mIo 0) (mCons (mNow (mVar 2)) mNil))))) ⟨[.own true bx1, .dat (pD n), .dat (pD m), .dat (.int nd), .dat (qD n), .un, .un, .un, .un, .un, .un, .un], S⟩ = some (.nx ⟨[.own true bx2, .dat (pD n), .dat (pD m), .dat (.int nd), .dat (qD n), .dat (qD m), .un, .un, .un, .un, .un, .un], S⟩) ∧ Bx (N + 27) bx2 := by
    have ep := eq_pD n m hn hm
    have rpn : ∀ Γ, res Γ (pD n) = pD n := fun _ => rfl
    have rpm : ∀ Γ, res Γ (pD m) = pD m := fun _ => rfl
    by_cases h : n = m
    · obtain ⟨r, bx2, er, b2, r0, r1⟩ := take_bx (S := S) (many := 2) b1 (by omega) (by decide) (by decide)
      rw [decide_eq_true h] at ep
      obtain rfl | rfl : r = 0 ∨ r = 1 := by omega
      · refine ⟨bx2, ?_, b2.mono (by omega)⟩
        subst h
        generalize qD n = qn at *
        generalize pD n = pn at *
        simp [defG, mSeq, mIfS, mAnd, mOr, mNot, mTru, mNow, mOp, mOpL, mA2_ap, mA1_ap, mCons, mNil, mPk, mIo, mFz, mLst, mTup, mApp, mCall, nows, look, worths, worth, p2, p1, ix_l, ix_t, mCon, tr_b, mB, cm_i, ad_i, atI, ixN, in_i, if_i, un_i, mAsg, go_name, sl_name, free_at, frC_un, frC_dat, frC_own, mRet, mVar, mSet, bInt, mSkip, fin, finL, pad, res_int, res_str, res_bl, res_non, res_dic, res_lst, res_tup, Ev.get_mk, Ev.set_mk, Ev.length_mk, argsOf, argsL, putBack, putL, ios, setO, mIf, mPars, evP, storeP, scOf, mRetO, mRetL, mExpr, ep, er, Ky.eq_int, rpn]
      · obtain ⟨bx3, em2, b3⟩ := made_ok (S := S) b2 (by omega) hm
        have em2 : f__law_made ⟨[.own true bx2, .dat (pD m)], S⟩ = some (.dat (qD m), ⟨[.own true bx3, .dat (pD m)], S⟩) := em2
        refine ⟨bx3, ?_, b3.mono (by omega)⟩
        generalize qD n = qn at *
        generalize qD m = qm at *
        generalize pD n = pn at *
        generalize pD m = pm at *
        simp [defG, mSeq, mIfS, mAnd, mOr, mNot, mTru, mNow, mOp, mOpL, mA2_ap, mA1_ap, mCons, mNil, mPk, mIo, mFz, mLst, mTup, mApp, mCall, nows, look, worths, worth, p2, p1, ix_l, ix_t, mCon, tr_b, mB, cm_i, ad_i, atI, ixN, in_i, if_i, un_i, mAsg, go_name, sl_name, free_at, frC_un, frC_dat, frC_own, mRet, mVar, mSet, bInt, mSkip, fin, finL, pad, res_int, res_str, res_bl, res_non, res_dic, res_lst, res_tup, Ev.get_mk, Ev.set_mk, Ev.length_mk, argsOf, argsL, putBack, putL, ios, setO, mIf, mPars, evP, storeP, scOf, mRetO, mRetL, mExpr, ep, er, em2, Ky.eq_int, rpn, rpm]
    · rw [decide_eq_false h] at ep
      obtain ⟨bx3, em2, b3⟩ := made_ok (S := S) b1 (by omega) hm
      have em2 : f__law_made ⟨[.own true bx1, .dat (pD m)], S⟩ = some (.dat (qD m), ⟨[.own true bx3, .dat (pD m)], S⟩) := em2
      refine ⟨bx3, ?_, b3.mono (by omega)⟩
      generalize qD n = qn at *
      generalize qD m = qm at *
      generalize pD n = pn at *
      generalize pD m = pm at *
      simp [defG, mSeq, mIfS, mAnd, mOr, mNot, mTru, mNow, mOp, mOpL, mA2_ap, mA1_ap, mCons, mNil, mPk, mIo, mFz, mLst, mTup, mApp, mCall, nows, look, worths, worth, p2, p1, ix_l, ix_t, mCon, tr_b, mB, cm_i, ad_i, atI, ixN, in_i, if_i, un_i, mAsg, go_name, sl_name, free_at, frC_un, frC_dat, frC_own, mRet, mVar, mSet, bInt, mSkip, fin, finL, pad, res_int, res_str, res_bl, res_non, res_dic, res_lst, res_tup, Ev.get_mk, Ev.set_mk, Ev.length_mk, argsOf, argsL, putBack, putL, ios, setO, mIf, mPars, evP, storeP, scOf, mRetO, mRetL, mExpr, ep, em2, rpn, rpm]
  have du := dues_ok (S := S) hn hm
  obtain ⟨w, bx3, ew, b3, w0, w1⟩ := take_bx (S := S) (many := 13) b2 (by omega) (by decide) (by decide)
  obtain ⟨w, rfl⟩ : ∃ m : Nat, w = (m : Int) := ⟨w.toNat, by omega⟩
  have ew : f__law_take ⟨[.own true bx2, .dat (.int 13)], S⟩ = some (.dat (intD w), ⟨[.own true bx3, .dat (.int 13)], S⟩) := ew
  have hw : w < 13 := by omega
  have s3 : (mPars [6, 7] [(.d (mCall f__law_dues (mCons (mNow (mVar 1)) (mCons (mNow (mVar 2)) mNil)))), (.d (mCall f__law_take (mCons (mIo 0) (mCons (mNow (mCon (.int 13))) mNil))))]) ⟨[.own true bx2, .dat (pD n), .dat (pD m), .dat (.int nd), .dat (qD n), .dat (qD m), .un, .un, .un, .un, .un, .un], S⟩ = some (.nx ⟨[.own true bx3, .dat (pD n), .dat (pD m), .dat (.int nd), .dat (qD n), .dat (qD m), .dat (.lst (duesD n m)), .dat (intD w), .un, .un, .un, .un], S⟩) := by
    generalize (.lst (duesD n m) : D) = dl at *
    generalize intD w = ww at *
    generalize qD n = qn at *
    generalize qD m = qm at *
    generalize pD n = pn at *
    generalize pD m = pm at *
    simp [defG, mSeq, mIfS, mAnd, mOr, mNot, mTru, mNow, mOp, mOpL, mA2_ap, mA1_ap, mCons, mNil, mPk, mIo, mFz, mLst, mTup, mApp, mCall, nows, look, worths, worth, p2, p1, ix_l, ix_t, mCon, tr_b, mB, cm_i, ad_i, atI, ixN, in_i, if_i, un_i, mAsg, go_name, sl_name, free_at, frC_un, frC_dat, frC_own, mRet, mVar, mSet, bInt, mSkip, fin, finL, pad, res_int, res_str, res_bl, res_non, res_dic, res_lst, res_tup, Ev.get_mk, Ev.set_mk, Ev.length_mk, argsOf, argsL, putBack, putL, ios, setO, mIf, mPars, evP, storeP, scOf, mRetO, mRetL, mExpr, du, ew]
  obtain ⟨a, b, s, e, bx4, ep, l1, l2, r1, r2, r3, b4⟩ := pair_ok (S := S) b3 (by omega) hw
  have s4 : (mAsg (tgSeq [(tgName 8), (tgName 9)]) (mCall f__law_pair (mCons (mIo 0) (mCons (mNow (mVar 7)) mNil)))) ⟨[.own true bx3, .dat (pD n), .dat (pD m), .dat (.int nd), .dat (qD n), .dat (qD m), .dat (.lst (duesD n m)), .dat (intD w), .un, .un, .un, .un], S⟩ = some (.nx ⟨[.own true bx4, .dat (pD n), .dat (pD m), .dat (.int nd), .dat (qD n), .dat (qD m), .dat (.lst (duesD n m)), .dat (intD w), .dat (.tup [.int a, .int b]), .dat (.tup [.int s, .int e]), .un, .un], S⟩) := by
    have g : ∀ x z : D, ∀ l0 l1 l2 l3 l4 l5 l6 l7 : SC, (tgSeq [(tgName 8), (tgName 9)]).go (.lst [x, z]) ⟨[l0, l1, l2, l3, l4, l5, l6, l7, .un, .un, .un, .un], S⟩ = some ⟨[l0, l1, l2, l3, l4, l5, l6, l7, .dat x, .dat z, .un, .un], S⟩ := fun _ _ _ _ _ _ _ _ _ _ => rfl
    generalize (.lst (duesD n m) : D) = dl at *
    generalize (.tup [.int a, .int b] : D) = x at *
    generalize (.tup [.int s, .int e] : D) = z at *
    generalize intD w = ww at *
    generalize qD n = qn at *
    generalize qD m = qm at *
    generalize pD n = pn at *
    generalize pD m = pm at *
    simp [defG, mSeq, mIfS, mAnd, mOr, mNot, mTru, mNow, mOp, mOpL, mA2_ap, mA1_ap, mCons, mNil, mPk, mIo, mFz, mLst, mTup, mApp, mCall, nows, look, worths, worth, p2, p1, ix_l, ix_t, mCon, tr_b, mB, cm_i, ad_i, atI, ixN, in_i, if_i, un_i, mAsg, go_name, sl_name, free_at, frC_un, frC_dat, frC_own, mRet, mVar, mSet, bInt, mSkip, fin, finL, pad, res_int, res_str, res_bl, res_non, res_dic, res_lst, res_tup, Ev.get_mk, Ev.set_mk, Ev.length_mk, argsOf, argsL, putBack, putL, ios, setO, mIf, mPars, evP, storeP, scOf, mRetO, mRetL, mExpr, ep, g]
  obtain ⟨es, bx5, ex, he, b5⟩ := mixed_nat (S := S) (t := 6) b4 (by omega) (by decide)
  have sq : (miSeq (mCall f__law_mixed (mCons (mIo 0) (mCons (mNow (mFz (mListRng (mNow (mCon (.int 6)))))) mNil)))) ⟨[.own true bx4, .dat (pD n), .dat (pD m), .dat (.int nd), .dat (qD n), .dat (qD m), .dat (.lst (duesD n m)), .dat (intD w), .dat (.tup [.int a, .int b]), .dat (.tup [.int s, .int e]), .un, .un], S⟩ = some (.ok es ⟨[.own true bx5, .dat (pD n), .dat (pD m), .dat (.int nd), .dat (qD n), .dat (qD m), .dat (.lst (duesD n m)), .dat (intD w), .dat (.tup [.int a, .int b]), .dat (.tup [.int s, .int e]), .un, .un], S⟩) := by
    have l6 : ∀ Γ, mListRng (mNow (mCon (.int 6))) Γ = some (.ok (upTo 0 6) Γ) := fun _ => rfl
    generalize upTo 0 6 = u6 at *
    generalize (.lst (duesD n m) : D) = dl at *
    generalize (.tup [.int a, .int b] : D) = x at *
    generalize (.tup [.int s, .int e] : D) = z at *
    generalize intD w = ww at *
    generalize qD n = qn at *
    generalize qD m = qm at *
    generalize pD n = pn at *
    generalize pD m = pm at *
    simp [miSeq, defG, mSeq, mIfS, mAnd, mOr, mNot, mTru, mNow, mOp, mOpL, mA2_ap, mA1_ap, mCons, mNil, mPk, mIo, mFz, mLst, mTup, mApp, mCall, nows, look, worths, worth, p2, p1, ix_l, ix_t, mCon, tr_b, mB, cm_i, ad_i, atI, ixN, in_i, if_i, un_i, mAsg, go_name, sl_name, free_at, frC_un, frC_dat, frC_own, mRet, mVar, mSet, bInt, mSkip, fin, finL, pad, res_int, res_str, res_bl, res_non, res_dic, res_lst, res_tup, Ev.get_mk, Ev.set_mk, Ev.length_mk, argsOf, argsL, putBack, putL, ios, setO, mIf, mPars, evP, storeP, scOf, mRetO, mRetL, mExpr, ex, l6]
  obtain ⟨Γ', q, c10, c11, rfl, u10, u11⟩ := mFor_keep (t := tgName 10) (body := twB) (fun Γ => ∃ c10 c11, Γ = ⟨[.own true bx5, .dat (pD n), .dat (pD m), .dat (.int nd), .dat (qD n), .dat (qD m), .dat (.lst (duesD n m)), .dat (intD w), .dat (.tup [.int a, .int b]), .dat (.tup [.int s, .int e]), c10, c11], S⟩ ∧ Ky.unD c10 ∧ Ky.unD c11) sq ⟨_, _, rfl, trivial, trivial⟩ fun d hd Γ hi => by
    obtain ⟨c10, c11, rfl, u10, u11⟩ := hi
    obtain ⟨door, hd6, rfl⟩ := he d hd
    refine ⟨_, _, ?_, .inl (two_step hn hm hnd hd6 hw u11 l1 l2 r1 r2 r3), _, _, rfl, trivial, trivial⟩
    have f := u10.fr
    simp [go_name, free_at, Ev.get_mk, Ev.set_mk, f]
  refine ⟨bx5, ?_, b5.mono (by omega)⟩
  have bb : b__law_two_right ⟨[.own true bx, .dat (pD n), .dat (pD m), .dat (.int nd), .un, .un, .un, .un, .un, .un, .un, .un], S⟩ = some (.rt (.dat (.bl true)) ⟨[.own true bx5, .dat (pD n), .dat (pD m), .dat (.int nd), .dat (qD n), .dat (qD m), .dat (.lst (duesD n m)), .dat (intD w), .dat (.tup [.int a, .int b]), .dat (.tup [.int s, .int e]), c10, c11], S⟩) := by
    rw [two_is]
    exact mSeq_of s1 (mSeq_of s2 (mSeq_of s3 (mSeq_of s4 (mSeq_of q rfl))))
  unfold f__law_two_right
  generalize (.lst (duesD n m) : D) = dl at *
  generalize (.tup [.int a, .int b] : D) = x at *
  generalize (.tup [.int s, .int e] : D) = z at *
  generalize intD w = ww at *
  generalize qD n = qn at *
  generalize qD m = qm at *
  generalize pD n = pn at *
  generalize pD m = pm at *
  simp [defG, mSeq, mIfS, mAnd, mOr, mNot, mTru, mNow, mOp, mOpL, mA2_ap, mA1_ap, mCons, mNil, mPk, mIo, mFz, mLst, mTup, mApp, mCall, nows, look, worths, worth, p2, p1, ix_l, ix_t, mCon, tr_b, mB, cm_i, ad_i, atI, ixN, in_i, if_i, un_i, mAsg, go_name, sl_name, free_at, frC_un, frC_dat, frC_own, mRet, mVar, mSet, bInt, mSkip, fin, finL, pad, res_int, res_str, res_bl, res_non, res_dic, res_lst, res_tup, Ev.get_mk, Ev.set_mk, Ev.length_mk, argsOf, argsL, putBack, putL, ios, setO, mIf, mPars, evP, storeP, scOf, mRetO, mRetL, mExpr, bb]
end K04
namespace K04
open PySem PySem.Spec PyProof.Rows L2 Ky
def trB : MS := mSeq (mAsg (tgName 5) (mCall f__law_drawn (mCons (mIo 2) (mCons (mNow (mFz (mLst (mCons (mNow (mCall f__law_take (mCons (mIo 2) (mCons (mNow (mCon (.int 13))) mNil)))) mNil)))) mNil)))) (mIfS (mNot (mTru (mNow (mCall f__law_two_right (mCons (mIo 2) (mCons (mNow (mVar 5)) (mCons (mNow (mCall f__law_drawn (mCons (mIo 2) (mCons (mNow (mVar 5)) mNil)))) (mCons (mNow (mOp (p2 oMod) (mA2 (mNow (mOp bInt (mCons (mNow (mOp (p2 oAdd) (mA2 (mPk 3) (mPk 4)))) mNil))) (mNow (mCon (.int 2)))))) mNil))))))))
    (mRet (mCon (.bl false)))
    mSkip)
def loB : MS := mSeq (mAsgL 2 (mCallL f__law_box (mCons (mNow (mCall f__law_cell (mCons (mNow (mVar 0)) (mCons (mNow (mVar 1)) mNil)))) mNil))) (mSeq (mAsg (tgName 3) (mCall f__law_take (mCons (mIo 2) (mCons (mNow (mCon (.int 2))) mNil)))) (mSeq (mFor (miRng1 (mNow (mCon (.int 4)))) (tgName 4) trB) (mIfS (mNot (mTru (mNow (mCall f__law_refused_right (mCons (mIo 2) (mCons (mNow (mVar 5)) (mCons (mNow (mVar 3)) mNil)))))))
    (mRet (mCon (.bl false)))
    mSkip)))
theorem law_is : b_law = mSeq (mFor (miRng1 (mNow (mOp bMax2 (mCons (mNow (mCon (.int 2))) (mCons (mNow (mOp bMin2 (mCons (mNow (mCon (.int 3))) (mCons (mNow (mOp bLen (mCons (mPk 0) mNil))) mNil)))) mNil))))) (tgName 1) loB) (mRet (mCon (.bl true))) := rfl
theorem intsD_map : ∀ ns : List Int, intsD (ns.map D.int) = some ns
  | [] => rfl
  | n :: ns => by
    show (match intsD (ns.map D.int) with | some is => some (n :: is) | none => none) = _
    rw [intsD_map ns]
theorem cell_ok {S : List (List D)} (ns : List Int) (k : Nat) (hk : k < 3) : ∃ c, f__law_cell ⟨[.dat (.lst (ns.map D.int)), .dat (.int (k : Nat))], S⟩ = some (.dat (.int c), ⟨[.dat (.lst (ns.map D.int)), .dat (.int (k : Nat))], S⟩) := by
  have s1 : Ky.small64 6323 = true := by decide
  have ln : ((ns.map D.int).length : Int) = ns.length := by simp
  by_cases h : k < ns.length
  · refine ⟨ns[k], ?_⟩
    have ix : L2.atI (ns.map D.int) ((k : Nat) : Int) = some (.int ns[k]) := by
      unfold atI ixN
      rw [if_pos (by omega), if_pos (by simp; omega)]
      simp [h]
    have hl : ((k : Nat) : Int) < ((ns.map D.int).length : Int) := by omega
    unfold f__law_cell b__law_cell
    generalize hL : ns.map D.int = L at ix hl
    have lt : decide (((k : Nat) : Int) < (L.length : Int)) = true := decide_eq_true hl
    simp [defG, mRet, mIf, mB, mOp, mA2_ap, mCons, mNil, mNow, mPk, look, worths, worth, p2, res_int, res_lst, Ev.get_mk, Ev.set_mk, Ev.length_mk, bLen, cm_i, hl, ix_l, ix, pad, fin, finL]
  · have hl : ¬ ((k : Nat) : Int) < ((ns.map D.int).length : Int) := by omega
    have cs : ∃ es : List Int, Ky.cutD (ns.map D.int) none (some 1) = es.map D.int := by
      refine ⟨(ns.drop (HT.sIx (ns.map D.int).length 0 none)).take (HT.sIx (ns.map D.int).length (ns.map D.int).length (some 1) - HT.sIx (ns.map D.int).length 0 none), ?_⟩
      unfold Ky.cutD
      rw [List.map_take, List.map_drop]
    obtain ⟨es, hes⟩ := cs
    refine ⟨6323 * (k : Nat) + es.sum.fmod 1000033, ?_⟩
    unfold f__law_cell b__law_cell
    generalize hL : ns.map D.int = L at hl hes
    simp [defG, mRet, mIf, mB, mOp, mA2_ap, mCons, mNil, mNow, mPk, mCon, look, worths, worth, p2, res_int, res_lst, Ev.get_mk, Ev.set_mk, Ev.length_mk, bLen, cm_i, hl, if_i, ad_i, s1, mSl, mPt, hes, bSum, intsD_map, bInt, pad, fin, finL]
theorem box_ok {S : List (List D)} (c : Int) : ∃ bx, f__law_box ⟨[.dat (.int c)], S⟩ = some (.own bx, ⟨[.dat (.int c)], S⟩) ∧ Bx 0 bx := by
  have hb := fm_lo (a := (if c < 0 then -c else c)) (b := 2147483629) (by decide)
  have hb2 := fm_hi (a := (if c < 0 then -c else c)) (b := 2147483629) (by decide)
  refine ⟨[.int (if c < 0 then -c else c), .bl (decide ((10 : Int) ^ 18 ≤ (if c < 0 then -c else c))), .int ((if c < 0 then -c else c).fmod 2147483629), .int 0], ?_, ⟨_, _, _, _, rfl, hb, hb2, by omega, by omega⟩⟩
  unfold f__law_box b__law_box
  simp [defG, mRetL, mLst, mOp, mA2_ap, mCons, mNil, mNow, mPk, mCon, look, worths, worth, p2, res_int, Ev.get_mk, Ev.set_mk, Ev.length_mk, bAbs, bInt, cm_i, if_i, nows, pad, fin, finL]
theorem like_drawn {R : FR} {m : Nat} (h : Drawn R m) : m < 2 ^ 13 ∧ (R = .dat (pD m) ∨ R = .own ((bitsB 13 m).map intD)) := by
  rcases h with ⟨d, rfl, h1, rfl⟩ | ⟨ds, rfl, h1, h2⟩
  · exact ⟨h1, .inl rfl⟩
  · cases h2
    exact ⟨h1, .inr rfl⟩
theorem turn_ok {S : List (List D)} {N t : Nat} {bx : List D} {d0 d1 : D} {nd : Int} {c5 : SC} (hb : Bx N bx) (hN : N < 400000000) (hnd : nd = 0 ∨ nd = 1) (u5 : Ky.unD c5) :
    ∃ bx' n, trB ⟨[.dat d0, .dat d1, .own false bx, .dat (.int nd), .dat (intD t), c5], S⟩ = some (.nx ⟨[.dat d0, .dat d1, .own false bx', .dat (.int nd), .dat (intD t), .dat (pD n)], S⟩) ∧ n < 2 ^ 13 ∧ Bx (N + 120) bx' := by
  obtain ⟨r, bx1, er, b1, r0, r1⟩ := take_bx (S := S) (many := 13) hb (by omega) (by decide) (by decide)
  obtain ⟨r, rfl⟩ : ∃ m : Nat, r = (m : Int) := ⟨r.toNat, by omega⟩
  have pl := pl_sub (ks := [r]) (List.singleton_sublist.mpr (List.mem_range.mpr (by omega)))
  obtain ⟨bx2, n, R, ed, dn, b2⟩ := drawn_ok (S := S) b1 (by omega) pl
  have hn := (like_drawn dn).1
  obtain ⟨bx3, m, R2, ed2, dm, b3⟩ := drawn_ok (S := S) (d := pD n) (n := n) b2 (by omega) ⟨hn, rfl⟩
  have hm := (like_drawn dm).1
  have m0 := fm_lo (a := nd + (t : Nat)) (b := 2) (by decide)
  have m1 := fm_hi (a := nd + (t : Nat)) (b := 2) (by decide)
  have hnt : (nd + (t : Nat)).fmod 2 = 0 ∨ (nd + (t : Nat)).fmod 2 = 1 := by omega
  obtain ⟨bx4, e4, b4⟩ := two_ok (S := S) b3 (by omega) hn hm hnt
  refine ⟨bx4, n, ?_, hn, b4.mono (by omega)⟩
  have f5 := u5.fr
  have s1 : (mAsg (tgName 5) (mCall f__law_drawn (mCons (mIo 2) (mCons (mNow (mFz (mLst (mCons (mNow (mCall f__law_take (mCons (mIo 2) (mCons (mNow (mCon (.int 13))) mNil)))) mNil)))) mNil)))) ⟨[.dat d0, .dat d1, .own false bx, .dat (.int nd), .dat (intD t), c5], S⟩ = some (.nx ⟨[.dat d0, .dat d1, .own false bx2, .dat (.int nd), .dat (intD t), .dat (pD n)], S⟩) := by
    have cd : ∀ R, (R = .dat (pD n) ∨ R = .own ((bitsB 13 n).map intD)) → f__law_drawn ⟨[.own true bx1, .dat (.lst (List.map intD [r]))], S⟩ = some (R, ⟨[.own true bx2, .dat (.lst (List.map intD [r]))], S⟩) → (mAsg (tgName 5) (mCall f__law_drawn (mCons (mIo 2) (mCons (mNow (mFz (mLst (mCons (mNow (mCall f__law_take (mCons (mIo 2) (mCons (mNow (mCon (.int 13))) mNil)))) mNil)))) mNil)))) ⟨[.dat d0, .dat d1, .own false bx, .dat (.int nd), .dat (intD t), c5], S⟩ = some (.nx ⟨[.dat d0, .dat d1, .own false bx2, .dat (.int nd), .dat (intD t), .dat (pD n)], S⟩) := fun R h ed => by
      have pe : ∀ x, (.lst ((bitsB 13 x).map intD) : D) = pD x := fun _ => rfl
      have e0 : List.map intD [r] = [.int r] := rfl
      rw [e0] at ed
      generalize intD t = tt at *
      rcases h with rfl | rfl
      · simp [defG, mSeq, mIfS, mAnd, mOr, mNot, mTru, mNow, mOp, mOpL, mA2_ap, mA1_ap, mCons, mNil, mPk, mIo, mFz, mLst, mTup, mApp, mCall, nows, look, worths, worth, p2, p1, ix_l, ix_t, mCon, tr_b, mB, cm_i, ad_i, atI, ixN, in_i, if_i, un_i, mAsg, go_name, sl_name, free_at, frC_un, frC_dat, frC_own, mRet, mVar, mSet, bInt, mSkip, fin, finL, pad, res_int, res_str, res_bl, res_non, res_dic, res_lst, res_tup, Ev.get_mk, Ev.set_mk, Ev.length_mk, argsOf, argsL, putBack, putL, ios, setO, mIf, mPars, evP, storeP, scOf, mRetO, mRetL, mExpr, er, ed, f5]
      · simp [defG, mSeq, mIfS, mAnd, mOr, mNot, mTru, mNow, mOp, mOpL, mA2_ap, mA1_ap, mCons, mNil, mPk, mIo, mFz, mLst, mTup, mApp, mCall, nows, look, worths, worth, p2, p1, ix_l, ix_t, mCon, tr_b, mB, cm_i, ad_i, atI, ixN, in_i, if_i, un_i, mAsg, go_name, sl_name, free_at, frC_un, frC_dat, frC_own, mRet, mVar, mSet, bInt, mSkip, fin, finL, pad, res_int, res_str, res_bl, res_non, res_dic, res_lst, res_tup, Ev.get_mk, Ev.set_mk, Ev.length_mk, argsOf, argsL, putBack, putL, ios, setO, mIf, mPars, evP, storeP, scOf, mRetO, mRetL, mExpr, er, ed, f5, pe]
    exact cd R (like_drawn dn).2 ed
  have s2 : (mIfS (mNot (mTru (mNow (mCall f__law_two_right (mCons (mIo 2) (mCons (mNow (mVar 5)) (mCons (mNow (mCall f__law_drawn (mCons (mIo 2) (mCons (mNow (mVar 5)) mNil)))) (mCons (mNow (mOp (p2 oMod) (mA2 (mNow (mOp bInt (mCons (mNow (mOp (p2 oAdd) (mA2 (mPk 3) (mPk 4)))) mNil))) (mNow (mCon (.int 2)))))) mNil))))))))
    (mRet (mCon (.bl false)))
    mSkip) ⟨[.dat d0, .dat d1, .own false bx2, .dat (.int nd), .dat (intD t), .dat (pD n)], S⟩ = some (.nx ⟨[.dat d0, .dat d1, .own false bx4, .dat (.int nd), .dat (intD t), .dat (pD n)], S⟩) := by
    have cd : ∀ R, (R = .dat (pD m) ∨ R = .own ((bitsB 13 m).map intD)) → f__law_drawn ⟨[.own true bx2, .dat (pD n)], S⟩ = some (R, ⟨[.own true bx3, .dat (pD n)], S⟩) → (mIfS (mNot (mTru (mNow (mCall f__law_two_right (mCons (mIo 2) (mCons (mNow (mVar 5)) (mCons (mNow (mCall f__law_drawn (mCons (mIo 2) (mCons (mNow (mVar 5)) mNil)))) (mCons (mNow (mOp (p2 oMod) (mA2 (mNow (mOp bInt (mCons (mNow (mOp (p2 oAdd) (mA2 (mPk 3) (mPk 4)))) mNil))) (mNow (mCon (.int 2)))))) mNil))))))))
    (mRet (mCon (.bl false)))
    mSkip) ⟨[.dat d0, .dat d1, .own false bx2, .dat (.int nd), .dat (intD t), .dat (pD n)], S⟩ = some (.nx ⟨[.dat d0, .dat d1, .own false bx4, .dat (.int nd), .dat (intD t), .dat (pD n)], S⟩) := fun R h ed => by
      have pe : ∀ x, (.lst ((bitsB 13 x).map intD) : D) = pD x := fun _ => rfl
      generalize pD n = pn at *
      unfold intD
      rcases h with rfl | rfl
      · simp [defG, mSeq, mIfS, mAnd, mOr, mNot, mTru, mNow, mOp, mOpL, mA2_ap, mA1_ap, mCons, mNil, mPk, mIo, mFz, mLst, mTup, mApp, mCall, nows, look, worths, worth, p2, p1, ix_l, ix_t, mCon, tr_b, mB, cm_i, ad_i, atI, ixN, in_i, if_i, un_i, mAsg, go_name, sl_name, free_at, frC_un, frC_dat, frC_own, mRet, mVar, mSet, bInt, mSkip, fin, finL, pad, res_int, res_str, res_bl, res_non, res_dic, res_lst, res_tup, Ev.get_mk, Ev.set_mk, Ev.length_mk, argsOf, argsL, putBack, putL, ios, setO, mIf, mPars, evP, storeP, scOf, mRetO, mRetL, mExpr, ed, e4]
      · unfold intD at pe ed
        simp [defG, mSeq, mIfS, mAnd, mOr, mNot, mTru, mNow, mOp, mOpL, mA2_ap, mA1_ap, mCons, mNil, mPk, mIo, mFz, mLst, mTup, mApp, mCall, nows, look, worths, worth, p2, p1, ix_l, ix_t, mCon, tr_b, mB, cm_i, ad_i, atI, ixN, in_i, if_i, un_i, mAsg, go_name, sl_name, free_at, frC_un, frC_dat, frC_own, mRet, mVar, mSet, bInt, mSkip, fin, finL, pad, res_int, res_str, res_bl, res_non, res_dic, res_lst, res_tup, Ev.get_mk, Ev.set_mk, Ev.length_mk, argsOf, argsL, putBack, putL, ios, setO, mIf, mPars, evP, storeP, scOf, mRetO, mRetL, mExpr, ed, e4, pe]
    exact cd R2 (like_drawn dm).2 ed2
  exact mSeq_of s1 s2
end K04
namespace K04
open PySem PySem.Spec PyProof.Rows L2 Ky
theorem round {ns : List Int} {k : Nat} (hk : k < 3) {c2 c3 c4 c5 : SC} {S : List (List D)} (f2 : frC c2 = true) (u3 : Ky.unD c3) (u4 : Ky.unD c4) (u5 : Ky.unD c5) :
    ∃ bx' nd c4' n S', loB ⟨[.dat (.lst (ns.map D.int)), .dat (.int (k : Nat)), c2, c3, c4, c5], S⟩ = some (.nx ⟨[.dat (.lst (ns.map D.int)), .dat (.int (k : Nat)), .own false bx', .dat (.int nd), c4', .dat (pD n)], S'⟩) ∧ Ky.unD c4' := by
  obtain ⟨c, ec⟩ := cell_ok (S := S) ns k hk
  generalize (.lst (ns.map D.int) : D) = d0 at ec ⊢
  obtain ⟨bx0, eb, b0⟩ := box_ok (S := S) c
  obtain ⟨nd, bx1, et, b1, n0, n1⟩ := take_bx (S := S) (many := 2) b0 (by decide) (by decide) (by decide)
  have hnd : nd = 0 ∨ nd = 1 := by omega
  have f3 := u3.fr
  have s1 : (mAsgL 2 (mCallL f__law_box (mCons (mNow (mCall f__law_cell (mCons (mNow (mVar 0)) (mCons (mNow (mVar 1)) mNil)))) mNil))) ⟨[.dat d0, .dat (.int (k : Nat)), c2, c3, c4, c5], S⟩ = some (.nx ⟨[.dat d0, .dat (.int (k : Nat)), .own false bx0, c3, c4, c5], S⟩) := by
    simp [defG, mSeq, mIfS, mAnd, mOr, mNot, mTru, mNow, mOp, mOpL, mA2_ap, mA1_ap, mCons, mNil, mPk, mIo, mFz, mLst, mTup, mApp, mCall, nows, look, worths, worth, p2, p1, ix_l, ix_t, mCon, tr_b, mB, cm_i, ad_i, atI, ixN, in_i, if_i, un_i, mAsg, go_name, sl_name, free_at, frC_un, frC_dat, frC_own, mRet, mVar, mSet, bInt, mSkip, fin, finL, pad, res_int, res_str, res_bl, res_non, res_dic, res_lst, res_tup, Ev.get_mk, Ev.set_mk, Ev.length_mk, argsOf, argsL, putBack, putL, ios, setO, mIf, mPars, evP, storeP, scOf, mRetO, mRetL, mExpr, mAsgL, mCallL, ec, eb, f2]
  have s2 : (mAsg (tgName 3) (mCall f__law_take (mCons (mIo 2) (mCons (mNow (mCon (.int 2))) mNil)))) ⟨[.dat d0, .dat (.int (k : Nat)), .own false bx0, c3, c4, c5], S⟩ = some (.nx ⟨[.dat d0, .dat (.int (k : Nat)), .own false bx1, .dat (.int nd), c4, c5], S⟩) := by
    simp [defG, mSeq, mIfS, mAnd, mOr, mNot, mTru, mNow, mOp, mOpL, mA2_ap, mA1_ap, mCons, mNil, mPk, mIo, mFz, mLst, mTup, mApp, mCall, nows, look, worths, worth, p2, p1, ix_l, ix_t, mCon, tr_b, mB, cm_i, ad_i, atI, ixN, in_i, if_i, un_i, mAsg, go_name, sl_name, free_at, frC_un, frC_dat, frC_own, mRet, mVar, mSet, bInt, mSkip, fin, finL, pad, res_int, res_str, res_bl, res_non, res_dic, res_lst, res_tup, Ev.get_mk, Ev.set_mk, Ev.length_mk, argsOf, argsL, putBack, putL, ios, setO, mIf, mPars, evP, storeP, scOf, mRetO, mRetL, mExpr, et, f3]
  obtain ⟨Γ', q, bx2, c4', c5', rfl, b2, u4', u5', hp⟩ := mFor_inv (t := tgName 4) (body := trB) (src := (miRng1 (mNow (mCon (.int 4))))) (Γ := ⟨[.dat d0, .dat (.int (k : Nat)), .own false bx1, .dat (.int nd), c4, c5], S⟩) (Γ1 := ⟨[.dat d0, .dat (.int (k : Nat)), .own false bx1, .dat (.int nd), c4, c5], S⟩) (ds := (List.range 4).map intD)
    (fun j Γ => ∃ bx c4 c5, Γ = ⟨[.dat d0, .dat (.int (k : Nat)), .own false bx, .dat (.int nd), c4, c5], S⟩ ∧ Bx (1 + 120 * j) bx ∧ Ky.unD c4 ∧ Ky.unD c5 ∧ (0 < j → ∃ n, c5 = .dat (pD n) ∧ n < 2 ^ 13))
    rfl ⟨bx1, c4, c5, rfl, b1, u4, u5, fun z => absurd z (by decide)⟩ fun j d Γ hd hi => by
      obtain ⟨bx, c4, c5, rfl, hb, u4, u5, -⟩ := hi
      obtain ⟨hj, e⟩ := List.getElem?_eq_some_iff.mp hd
      have hj4 : j < 4 := by simpa using hj
      obtain rfl : d = intD j := by simpa using e.symm
      obtain ⟨bx', n, e, hn, b⟩ := turn_ok (S := S) (t := j) (d0 := d0) (d1 := .int (k : Nat)) hb (by omega) hnd u5
      refine ⟨_, _, ?_, .inl e, bx', _, _, rfl, b.mono (by omega), trivial, trivial, fun _ => ⟨n, rfl, hn⟩⟩
      have f := u4.fr
      simp [go_name, free_at, Ev.get_mk, Ev.set_mk, f]
  obtain ⟨n, rfl, hn⟩ := hp (by decide)
  obtain ⟨bx3, S', er, b3⟩ := refused_ok (S := S) b2 (by decide) hnd hn
  refine ⟨bx3, nd, c4', n, S', ?_, u4'⟩
  have s4 : (mIfS (mNot (mTru (mNow (mCall f__law_refused_right (mCons (mIo 2) (mCons (mNow (mVar 5)) (mCons (mNow (mVar 3)) mNil)))))))
    (mRet (mCon (.bl false)))
    mSkip) ⟨[.dat d0, .dat (.int (k : Nat)), .own false bx2, .dat (.int nd), c4', .dat (pD n)], S⟩ = some (.nx ⟨[.dat d0, .dat (.int (k : Nat)), .own false bx3, .dat (.int nd), c4', .dat (pD n)], S'⟩) := by
    generalize pD n = pn at *
    simp [defG, mSeq, mIfS, mAnd, mOr, mNot, mTru, mNow, mOp, mOpL, mA2_ap, mA1_ap, mCons, mNil, mPk, mIo, mFz, mLst, mTup, mApp, mCall, nows, look, worths, worth, p2, p1, ix_l, ix_t, mCon, tr_b, mB, cm_i, ad_i, atI, ixN, in_i, if_i, un_i, mAsg, go_name, sl_name, free_at, frC_un, frC_dat, frC_own, mRet, mVar, mSet, bInt, mSkip, fin, finL, pad, res_int, res_str, res_bl, res_non, res_dic, res_lst, res_tup, Ev.get_mk, Ev.set_mk, Ev.length_mk, argsOf, argsL, putBack, putL, ios, setO, mIf, mPars, evP, storeP, scOf, mRetO, mRetL, mExpr, er]
  exact mSeq_of s1 (mSeq_of s2 (mSeq_of q s4))
theorem plain (ns : List Int) (hl : ns.length ≤ 63) : ∃ cs, f_law ⟨[.dat (.lst (ns.map D.int))], []⟩ = some (.dat (.bl true), cs) := by
  obtain ⟨m, hm, hr⟩ : ∃ m : Nat, m ≤ 3 ∧ (miRng1 (mNow (mOp bMax2 (mCons (mNow (mCon (.int 2))) (mCons (mNow (mOp bMin2 (mCons (mNow (mCon (.int 3))) (mCons (mNow (mOp bLen (mCons (mPk 0) mNil))) mNil)))) mNil))))) ⟨[.dat (.lst (ns.map D.int)), .un, .un, .un, .un, .un], []⟩ = some (.ok (upTo 0 m) ⟨[.dat (.lst (ns.map D.int)), .un, .un, .un, .un, .un], []⟩) := by
    have ln : ((ns.map D.int).length : Int) = ns.length := by simp
    generalize ns.map D.int = L at ln
    refine ⟨max 2 (min 3 ns.length), by omega, ?_⟩
    have e : (if (if (L.length : Int) < 3 then (L.length : Int) else 3) > 2 then (if (L.length : Int) < 3 then (L.length : Int) else 3) else 2) = ((max 2 (min 3 ns.length) : Nat) : Int) := by
      rw [ln]
      split <;> split <;> omega
    have sm : small62 ((max 2 (min 3 ns.length) : Nat) : Int) = true := by
      unfold small62
      rw [Bool.and_eq_true, decide_eq_true_eq, decide_eq_true_eq]
      have : (2 : Int) ^ 62 = 4611686018427387904 := by decide
      omega
    have b1 : bMin2 [.int 3, .int (L.length : Int)] = some (.int (if (L.length : Int) < 3 then (L.length : Int) else 3)) := rfl
    have b2 : bMax2 [.int 2, .int (if (L.length : Int) < 3 then (L.length : Int) else 3)] = some (.int ((max 2 (min 3 ns.length) : Nat) : Int)) := by
      rw [← e]
      rfl
    have tn : (((max 2 (min 3 ns.length) : Nat) : Int)).toNat = max 2 (min 3 ns.length) := by omega
    generalize (max 2 (min 3 ns.length) : Nat) = M at b2 sm tn ⊢
    generalize (if (L.length : Int) < 3 then (L.length : Int) else 3) = q at b1 b2
    simp [miRng1, mNow, mOp, mCons, mNil, mCon, mPk, look, worths, worth, res_int, res_lst, Ev.get_mk, bLen, b1, b2, sm]
  obtain ⟨Γ, q, c1, c2, c3, c4, c5, S, rfl, -⟩ := mFor_keep (t := tgName 1) (body := loB) (Γ := ⟨[.dat (.lst (ns.map D.int)), .un, .un, .un, .un, .un], []⟩) (fun Γ => ∃ c1 c2 c3 c4 c5 S, Γ = ⟨[.dat (.lst (ns.map D.int)), c1, c2, c3, c4, c5], S⟩ ∧ Ky.unD c1 ∧ frC c2 = true ∧ Ky.unD c3 ∧ Ky.unD c4 ∧ Ky.unD c5) hr ⟨_, _, _, _, _, _, rfl, trivial, rfl, trivial, trivial, trivial⟩ fun d hd Γ hi => by
    obtain ⟨c1, c2, c3, c4, c5, S, rfl, u1, f2, u3, u4, u5⟩ := hi
    unfold Ky.upTo at hd
    obtain ⟨k, hk, rfl⟩ := List.mem_map.mp hd
    have hk := List.mem_range.mp hk
    obtain ⟨bx', nd, c4', n, S', e, u4'⟩ := round (ns := ns) (k := k) (S := S) (by omega) f2 u3 u4 u5
    refine ⟨_, _, ?_, .inl e, _, _, _, _, _, _, rfl, trivial, rfl, trivial, u4', trivial⟩
    have f := u1.fr
    simp [go_name, free_at, Ev.get_mk, Ev.set_mk, f]
  have b : b_law ⟨[.dat (.lst (ns.map D.int)), .un, .un, .un, .un, .un], []⟩ = some (.rt (.dat (.bl true)) ⟨[.dat (.lst (ns.map D.int)), c1, c2, c3, c4, c5], S⟩) := by
    rw [law_is]
    exact mSeq_of q rfl
  unfold f_law
  refine ⟨fin ⟨[.dat (.lst (ns.map D.int))], []⟩ ⟨[.dat (.lst (ns.map D.int)), c1, c2, c3, c4, c5], S⟩, ?_⟩
  generalize (.lst (ns.map D.int) : D) = d0 at b ⊢
  have p : pad ⟨[.dat d0], []⟩ 5 = ⟨[.dat d0, .un, .un, .un, .un, .un], []⟩ := rfl
  simp [defG, p, b, Ev.length_mk]
end K04
namespace K04
open PySem PySem.Spec PyProof.Rows L2 Ky
theorem walk {l : PySem.W.OpenLaw} {q : Program} {loose : List Str} {XP : (Str → Option Value) → Heap → Prop} {YP : World → Heap → Prop} {d : DefRec} {K : Params → PySem.W.Frag} (hn : l.most = some 63) (hdf : d.params.defaults = [])
    (hY : ∀ (w : World) (h : Heap), YP w h → (K w.params).In h)
    (F : ∀ (w : World) (mg : Str → Option Value) (fa : Addr) (h : Heap), (K w.params).In h → h.Ns mainGlobals mg → mg d.name = some (.ref fa) →
      ∃ fd : FuncData, (∀ (s : Shared) (u : Value), BindsTo s fd ⟨[u], []⟩ [("script", u)]) ∧ ∀ base : Heap, (K w.params).In base → base.Ns mainGlobals mg → FnG l.prog w (K w.params) mg base (L2.CX l.prog w) 9 fa fd ["script"] (spLaw (K w.params))) :
    PySem.W.WalkO q loose XP YP l.row.toRowW d [] (fun f vs => PySem.call f vs) :=
  walkG (n := 63) (k := 9) (x := "script") (CX := fun w => L2.CX l.prog w) (sp := fun w => spLaw (K w.params)) hn (by decide) hdf ⟨rfl, by decide, by decide⟩ hY F (fun _ _ a ns hl _ hS => ⟨a, ns, rfl, hS, hl, fun _ => rfl⟩) fun _ _ _ _ _ z => by
    obtain ⟨_, _, _, _, _, _, _, _, _, _, _, _, z⟩ := z
    exact z
/-! ### the top -/
theorem all_mk {l : PySem.W.OpenLaw} {w : World} {K : PySem.W.Frag} {h : Heap} {mg : Str → Option Value} {fa : Addr} {p0 : Addr} {od0 an0 : Option Addr} {sl0 : Array (Option Value)} {oc0 kV0 dc0 pm0 cd0 ct0 : Value} {p1 : Addr} {od1 an1 : Option Addr} {sl1 : Array (Option Value)} {oc1 kV1 dc1 pm1 cd1 ct1 : Value} {p2 : Addr} {od2 an2 : Option Addr} {sl2 : Array (Option Value)} {oc2 kV2 dc2 pm2 cd2 ct2 : Value} {p3 : Addr} {od3 an3 : Option Addr} {sl3 : Array (Option Value)} {oc3 kV3 dc3 pm3 cd3 ct3 : Value} {p4 : Addr} {od4 an4 : Option Addr} {sl4 : Array (Option Value)} {oc4 kV4 dc4 pm4 cd4 ct4 : Value} {p5 : Addr} {od5 an5 : Option Addr} {sl5 : Array (Option Value)} {oc5 kV5 dc5 pm5 cd5 ct5 : Value} {p6 : Addr} {od6 an6 : Option Addr} {sl6 : Array (Option Value)} {oc6 kV6 dc6 pm6 cd6 ct6 : Value} {p7 : Addr} {od7 an7 : Option Addr} {sl7 : Array (Option Value)} {oc7 kV7 dc7 pm7 cd7 ct7 : Value} {p8 : Addr} {od8 an8 : Option Addr} {sl8 : Array (Option Value)} {oc8 kV8 dc8 pm8 cd8 ct8 : Value} {p9 : Addr} {od9 an9 : Option Addr} {sl9 : Array (Option Value)} {oc9 kV9 dc9 pm9 cd9 ct9 : Value} {p10 : Addr} {od10 an10 : Option Addr} {sl10 : Array (Option Value)} {oc10 kV10 dc10 pm10 cd10 ct10 : Value} {p11 : Addr} {od11 an11 : Option Addr} {sl11 : Array (Option Value)} {oc11 kV11 dc11 pm11 cd11 ct11 : Value} {p12 : Addr} {od12 an12 : Option Addr} {sl12 : Array (Option Value)} {oc12 kV12 dc12 pm12 cd12 ct12 : Value} {p13 : Addr} {od13 an13 : Option Addr} {sl13 : Array (Option Value)} {oc13 kV13 dc13 pm13 cd13 ct13 : Value} {p14 : Addr} {od14 an14 : Option Addr} {sl14 : Array (Option Value)} {oc14 kV14 dc14 pm14 cd14 ct14 : Value} {p15 : Addr} {od15 an15 : Option Addr} {sl15 : Array (Option Value)} {oc15 kV15 dc15 pm15 cd15 ct15 : Value} {p16 : Addr} {od16 an16 : Option Addr} {sl16 : Array (Option Value)} {oc16 kV16 dc16 pm16 cd16 ct16 : Value} {p17 : Addr} {od17 an17 : Option Addr} {sl17 : Array (Option Value)} {oc17 kV17 dc17 pm17 cd17 ct17 : Value} {p18 : Addr} {od18 an18 : Option Addr} {sl18 : Array (Option Value)} {oc18 kV18 dc18 pm18 cd18 ct18 : Value} {p19 : Addr} {od19 an19 : Option Addr} {sl19 : Array (Option Value)} {oc19 kV19 dc19 pm19 cd19 ct19 : Value} {p20 : Addr} {od20 an20 : Option Addr} {sl20 : Array (Option Value)} {oc20 kV20 dc20 pm20 cd20 ct20 : Value} {p21 : Addr} {od21 an21 : Option Addr} {sl21 : Array (Option Value)} {oc21 kV21 dc21 pm21 cd21 ct21 : Value} {p22 : Addr} {od22 an22 : Option Addr} {sl22 : Array (Option Value)} {oc22 kV22 dc22 pm22 cd22 ct22 : Value} {p23 : Addr} {od23 an23 : Option Addr} {sl23 : Array (Option Value)} {oc23 kV23 dc23 pm23 cd23 ct23 : Value} {p24 : Addr} {od24 an24 : Option Addr} {sl24 : Array (Option Value)} {oc24 kV24 dc24 pm24 cd24 ct24 : Value} {p25 : Addr} {od25 an25 : Option Addr} {sl25 : Array (Option Value)} {oc25 kV25 dc25 pm25 cd25 ct25 : Value} {p26 : Addr} {od26 an26 : Option Addr} {sl26 : Array (Option Value)} {oc26 kV26 dc26 pm26 cd26 ct26 : Value} {p27 : Addr} {od27 an27 : Option Addr} {sl27 : Array (Option Value)} {oc27 kV27 dc27 pm27 cd27 ct27 : Value} {p28 : Addr} {od28 an28 : Option Addr} {sl28 : Array (Option Value)} {oc28 kV28 dc28 pm28 cd28 ct28 : Value} {p29 : Addr} {od29 an29 : Option Addr} {sl29 : Array (Option Value)} {oc29 kV29 dc29 pm29 cd29 ct29 : Value} {p30 : Addr} {od30 an30 : Option Addr} {sl30 : Array (Option Value)} {oc30 kV30 dc30 pm30 cd30 ct30 : Value} {p31 : Addr} {od31 an31 : Option Addr} {sl31 : Array (Option Value)} {oc31 kV31 dc31 pm31 cd31 ct31 : Value} {p32 : Addr} {od32 an32 : Option Addr} {sl32 : Array (Option Value)} {oc32 kV32 dc32 pm32 cd32 ct32 : Value} {p33 : Addr} {od33 an33 : Option Addr} {sl33 : Array (Option Value)} {oc33 kV33 dc33 pm33 cd33 ct33 : Value} {p34 : Addr} {od34 an34 : Option Addr} {sl34 : Array (Option Value)} {oc34 kV34 dc34 pm34 cd34 ct34 : Value} {p35 : Addr} {od35 an35 : Option Addr} {sl35 : Array (Option Value)} {oc35 kV35 dc35 pm35 cd35 ct35 : Value} {p36 : Addr} {od36 an36 : Option Addr} {sl36 : Array (Option Value)} {oc36 kV36 dc36 pm36 cd36 ct36 : Value} {p37 : Addr} {od37 an37 : Option Addr} {sl37 : Array (Option Value)} {oc37 kV37 dc37 pm37 cd37 ct37 : Value} {p38 : Addr} {od38 an38 : Option Addr} {sl38 : Array (Option Value)} {oc38 kV38 dc38 pm38 cd38 ct38 : Value} {p39 : Addr} {od39 an39 : Option Addr} {sl39 : Array (Option Value)} {oc39 kV39 dc39 pm39 cd39 ct39 : Value} {p40 : Addr} {od40 an40 : Option Addr} {sl40 : Array (Option Value)} {oc40 kV40 dc40 pm40 cd40 ct40 : Value} {p41 : Addr} {od41 an41 : Option Addr} {sl41 : Array (Option Value)} {oc41 kV41 dc41 pm41 cd41 ct41 : Value} {p42 : Addr} {od42 an42 : Option Addr} {sl42 : Array (Option Value)} {oc42 kV42 dc42 pm42 cd42 ct42 : Value} {p43 : Addr} {od43 an43 : Option Addr} {sl43 : Array (Option Value)} {oc43 kV43 dc43 pm43 cd43 ct43 : Value} {p44 : Addr} {od44 an44 : Option Addr} {sl44 : Array (Option Value)} {oc44 kV44 dc44 pm44 cd44 ct44 : Value} {p45 : Addr} {od45 an45 : Option Addr} {sl45 : Array (Option Value)} {oc45 kV45 dc45 pm45 cd45 ct45 : Value} {p46 : Addr} {od46 an46 : Option Addr} {sl46 : Array (Option Value)} {oc46 kV46 dc46 pm46 cd46 ct46 : Value} {p47 : Addr} {od47 an47 : Option Addr} {sl47 : Array (Option Value)} {oc47 kV47 dc47 pm47 cd47 ct47 : Value} {p48 : Addr} {od48 an48 : Option Addr} {sl48 : Array (Option Value)} {oc48 kV48 dc48 pm48 cd48 ct48 : Value} {C0 : Addr} {C1 : Addr} {p49 : Addr} {nm1 qn1 : Str} {N1 : Addr} {bs1 : List Value} {sn1 : List Str} {sb1 : List Value} {ab1 : Bool} {co1 : Option Bool} {dd1 : Option Addr} {m01 m11 m21 m31 m51 : Option Value} {xod1 xan1 : Option Addr} {xsl1 : Array (Option Value)} {xoc1 xdc1 xpm1 xcd1 xct1 : Value} {B0 : Addr} {C2 : Addr} {p50 : Addr} {nm2 qn2 : Str} {N2 : Addr} {bs2 : List Value} {sn2 : List Str} {sb2 : List Value} {ab2 : Bool} {co2 : Option Bool} {dd2 : Option Addr} {m02 m12 m22 m32 m52 : Option Value} {xod2 xan2 : Option Addr} {xsl2 : Array (Option Value)} {xoc2 xdc2 xpm2 xcd2 xct2 : Value} {C3 : Addr} {p51 : Addr} {nm3 qn3 : Str} {N3 : Addr} {bs3 : List Value} {sn3 : List Str} {sb3 : List Value} {ab3 : Bool} {co3 : Option Bool} {dd3 : Option Addr} {m03 m13 m23 m33 m53 : Option Value} {xod3 xan3 : Option Addr} {xsl3 : Array (Option Value)} {xoc3 xdc3 xpm3 xcd3 xct3 : Value} {u0q0 : Addr} {u0q0n : Nat} {u0q0s : Array (Option Value)} {u0t1 : Tok} {u0t2 : Tok} {u0t3 : Tok} {u0t4 : Tok} {u0t5 : Tok} {u0t6 : Tok} {u0t7 : Tok} {u0t8 : Tok} {u0t9 : Tok} {u0t10 : Tok} {u0t11 : Tok} {u0t12 : Tok} {u0t13 : Tok} {u1q14 : Addr} {u1q14n : Nat} {u1q14s : Array (Option Value)} {u1t15 : Tok} {u1t16 : Tok} {u1t17 : Tok} {u1t18 : Tok} {u1t19 : Tok} {u1t20 : Tok} {u1t21 : Tok} {u1t22 : Tok} {u1t23 : Tok} {u1t24 : Tok} {u1t25 : Tok} {u1t26 : Tok} {u1t27 : Tok} {te2 : Tok} {u3q28 : Addr} {u3q28n : Nat} {u3q28s : Array (Option Value)} {u3t29 : Tok} {u3t30 : Tok} {u3t31 : Tok} {u3t32 : Tok} {u3t33 : Tok} {u3t34 : Tok} {u3t35 : Tok} {u3t36 : Tok} {u3t37 : Tok} {u3t38 : Tok} {u3t39 : Tok} {u3t40 : Tok} {u3t41 : Tok} {u4q42 : Addr} {u4q42n : Nat} {u4q42s : Array (Option Value)} {u4q43 : Addr} {u4q43n : Nat} {u4q43s : Array (Option Value)} {u4t44 : Tok} {u4t45 : Tok} {u4t46 : Tok} {u4t47 : Tok} {u4t48 : Tok} {u4q49 : Addr} {u4q49n : Nat} {u4q49s : Array (Option Value)} {u4t50 : Tok} {u4t51 : Tok} {u4t52 : Tok} {u4t53 : Tok} {u4t54 : Tok} {u4q55 : Addr} {u4q55n : Nat} {u4q55s : Array (Option Value)} {u4t56 : Tok} {u4t57 : Tok} {u4t58 : Tok} {u4t59 : Tok} {u4t60 : Tok} {u4q61 : Addr} {u4q61n : Nat} {u4q61s : Array (Option Value)} {u4t62 : Tok} {u4t63 : Tok} {u4t64 : Tok} {u4t65 : Tok} {u4t66 : Tok} {u4q67 : Addr} {u4q67n : Nat} {u4q67s : Array (Option Value)} {u4t68 : Tok} {u4t69 : Tok} {u4t70 : Tok} {u4t71 : Tok} {u4t72 : Tok} (X : K.In h) (G : h.Ns mainGlobals mg) (hfa : mg "law" = some (.ref fa))
    (mc0 : PySem.W.nsIn K mainGlobals "Question" = some (some (.ref C0)))
    (a0 : PySem.W.nsIn K mainGlobals "_law_box" = some (some (.ref p0)))
    (l0 : K.lookup p0 = some ⟨oc0, od0, .func (PySem.W.fnOf "_law_box" "_law_box" (defArgs s__law_box) (defBody s__law_box) (defScope s__law_box) .none kV0 dc0 pm0 an0 cd0 ct0), sl0⟩)
    (c0 : PySem.W.codeIn K cd0 "_law_box" = true)
    (k0 : PySem.W.keepIn K (.ref p0) = true)
    (a1 : PySem.W.nsIn K mainGlobals "_law_take" = some (some (.ref p1)))
    (l1 : K.lookup p1 = some ⟨oc1, od1, .func (PySem.W.fnOf "_law_take" "_law_take" (defArgs s__law_take) (defBody s__law_take) (defScope s__law_take) .none kV1 dc1 pm1 an1 cd1 ct1), sl1⟩)
    (c1 : PySem.W.codeIn K cd1 "_law_take" = true)
    (k1 : PySem.W.keepIn K (.ref p1) = true)
    (a2 : PySem.W.nsIn K mainGlobals "_law_cell" = some (some (.ref p2)))
    (l2 : K.lookup p2 = some ⟨oc2, od2, .func (PySem.W.fnOf "_law_cell" "_law_cell" (defArgs s__law_cell) (defBody s__law_cell) (defScope s__law_cell) .none kV2 dc2 pm2 an2 cd2 ct2), sl2⟩)
    (c2 : PySem.W.codeIn K cd2 "_law_cell" = true)
    (k2 : PySem.W.keepIn K (.ref p2) = true)
    (a3 : PySem.W.nsIn K mainGlobals "_law_drawn" = some (some (.ref p3)))
    (l3 : K.lookup p3 = some ⟨oc3, od3, .func (PySem.W.fnOf "_law_drawn" "_law_drawn" (defArgs s__law_drawn) (defBody s__law_drawn) (defScope s__law_drawn) .none kV3 dc3 pm3 an3 cd3 ct3), sl3⟩)
    (c3 : PySem.W.codeIn K cd3 "_law_drawn" = true)
    (k3 : PySem.W.keepIn K (.ref p3) = true)
    (a4 : PySem.W.nsIn K mainGlobals "_law_like" = some (some (.ref p4)))
    (l4 : K.lookup p4 = some ⟨oc4, od4, .func (PySem.W.fnOf "_law_like" "_law_like" (defArgs s__law_like) (defBody s__law_like) (defScope s__law_like) .none kV4 dc4 pm4 an4 cd4 ct4), sl4⟩)
    (c4 : PySem.W.codeIn K cd4 "_law_like" = true)
    (k4 : PySem.W.keepIn K (.ref p4) = true)
    (a5 : PySem.W.nsIn K mainGlobals "bits_of" = some (some (.ref p5)))
    (l5 : K.lookup p5 = some ⟨oc5, od5, .func (PySem.W.fnOf "bits_of" "bits_of" (defArgs s_bits_of) (defBody s_bits_of) (defScope s_bits_of) .none kV5 dc5 pm5 an5 cd5 ct5), sl5⟩)
    (c5 : PySem.W.codeIn K cd5 "bits_of" = true)
    (k5 : PySem.W.keepIn K (.ref p5) = true)
    (a6 : PySem.W.findIn K (.ref C0) "relations" = some (some (.ref p6)))
    (i6 : PySem.W.isFn K (.ref p6) = true)
    (l6 : K.lookup p6 = some ⟨oc6, od6, .func (PySem.W.fnOf "relations" "Question.relations" (defArgs s_Question_relations) (defBody s_Question_relations) (defScope s_Question_relations) .none kV6 dc6 pm6 an6 cd6 ct6), sl6⟩)
    (c6 : PySem.W.codeIn K cd6 "Question.relations" = true)
    (k6 : PySem.W.keepIn K (.ref p6) = true)
    (a7 : PySem.W.nsIn K mainGlobals "is_listed" = some (some (.ref p7)))
    (l7 : K.lookup p7 = some ⟨oc7, od7, .func (PySem.W.fnOf "is_listed" "is_listed" (defArgs s_is_listed) (defBody s_is_listed) (defScope s_is_listed) .none kV7 dc7 pm7 an7 cd7 ct7), sl7⟩)
    (c7 : PySem.W.codeIn K cd7 "is_listed" = true)
    (k7 : PySem.W.keepIn K (.ref p7) = true)
    (a8 : PySem.W.nsIn K mainGlobals "are_unlike" = some (some (.ref p8)))
    (l8 : K.lookup p8 = some ⟨oc8, od8, .func (PySem.W.fnOf "are_unlike" "are_unlike" (defArgs s_are_unlike) (defBody s_are_unlike) (defScope s_are_unlike) .none kV8 dc8 pm8 an8 cd8 ct8), sl8⟩)
    (c8 : PySem.W.codeIn K cd8 "are_unlike" = true)
    (k8 : PySem.W.keepIn K (.ref p8) = true)
    (a9 : PySem.W.nsIn K mainGlobals "is_relation" = some (some (.ref p9)))
    (l9 : K.lookup p9 = some ⟨oc9, od9, .func (PySem.W.fnOf "is_relation" "is_relation" (defArgs s_is_relation) (defBody s_is_relation) (defScope s_is_relation) .none kV9 dc9 pm9 an9 cd9 ct9), sl9⟩)
    (c9 : PySem.W.codeIn K cd9 "is_relation" = true)
    (k9 : PySem.W.keepIn K (.ref p9) = true)
    (a10 : PySem.W.findIn K (.ref C0) "__init__" = some (some (.ref p10)))
    (i10 : PySem.W.isFn K (.ref p10) = true)
    (l10 : K.lookup p10 = some ⟨oc10, od10, .func (PySem.W.fnOf "__init__" "Question.__init__" (defArgs s_QuestionX_initX) (defBody s_QuestionX_initX) (defScope s_QuestionX_initX) .none kV10 dc10 pm10 an10 cd10 ct10), sl10⟩)
    (c10 : PySem.W.codeIn K cd10 "Question.__init__" = true)
    (k10 : PySem.W.keepIn K (.ref p10) = true)
    (a11 : PySem.W.nsIn K mainGlobals "_law_words" = some (some (.ref p11)))
    (l11 : K.lookup p11 = some ⟨oc11, od11, .func (PySem.W.fnOf "_law_words" "_law_words" (defArgs s__law_words) (defBody s__law_words) (defScope s__law_words) .none kV11 dc11 pm11 an11 cd11 ct11), sl11⟩)
    (c11 : PySem.W.codeIn K cd11 "_law_words" = true)
    (k11 : PySem.W.keepIn K (.ref p11) = true)
    (a12 : PySem.W.nsIn K mainGlobals "_law_is" = some (some (.ref p12)))
    (l12 : K.lookup p12 = some ⟨oc12, od12, .func (PySem.W.fnOf "_law_is" "_law_is" (defArgs s__law_is) (defBody s__law_is) (defScope s__law_is) .none kV12 dc12 pm12 an12 cd12 ct12), sl12⟩)
    (c12 : PySem.W.codeIn K cd12 "_law_is" = true)
    (k12 : PySem.W.keepIn K (.ref p12) = true)
    (a13 : PySem.W.nsIn K mainGlobals "_law_mixed" = some (some (.ref p13)))
    (l13 : K.lookup p13 = some ⟨oc13, od13, .func (PySem.W.fnOf "_law_mixed" "_law_mixed" (defArgs s__law_mixed) (defBody s__law_mixed) (defScope s__law_mixed) .none kV13 dc13 pm13 an13 cd13 ct13), sl13⟩)
    (c13 : PySem.W.codeIn K cd13 "_law_mixed" = true)
    (k13 : PySem.W.keepIn K (.ref p13) = true)
    (a14 : PySem.W.nsIn K mainGlobals "_law_made" = some (some (.ref p14)))
    (l14 : K.lookup p14 = some ⟨oc14, od14, .func (PySem.W.fnOf "_law_made" "_law_made" (defArgs s__law_made) (defBody s__law_made) (defScope s__law_made) .none kV14 dc14 pm14 an14 cd14 ct14), sl14⟩)
    (c14 : PySem.W.codeIn K cd14 "_law_made" = true)
    (k14 : PySem.W.keepIn K (.ref p14) = true)
    (a15 : PySem.W.nsIn K mainGlobals "is_question" = some (some (.ref p15)))
    (l15 : K.lookup p15 = some ⟨oc15, od15, .func (PySem.W.fnOf "is_question" "is_question" (defArgs s_is_question) (defBody s_is_question) (defScope s_is_question) .none kV15 dc15 pm15 an15 cd15 ct15), sl15⟩)
    (c15 : PySem.W.codeIn K cd15 "is_question" = true)
    (k15 : PySem.W.keepIn K (.ref p15) = true)
    (a16 : PySem.W.nsIn K mainGlobals "check_question" = some (some (.ref p16)))
    (l16 : K.lookup p16 = some ⟨oc16, od16, .func (PySem.W.fnOf "check_question" "check_question" (defArgs s_check_question) (defBody s_check_question) (defScope s_check_question) .none kV16 dc16 pm16 an16 cd16 ct16), sl16⟩)
    (c16 : PySem.W.codeIn K cd16 "check_question" = true)
    (k16 : PySem.W.keepIn K (.ref p16) = true)
    (a17 : PySem.W.nsIn K mainGlobals "question_with" = some (some (.ref p17)))
    (l17 : K.lookup p17 = some ⟨oc17, od17, .func (PySem.W.fnOf "question_with" "question_with" (defArgs s_question_with) (defBody s_question_with) (defScope s_question_with) .none kV17 dc17 pm17 an17 cd17 ct17), sl17⟩)
    (c17 : PySem.W.codeIn K cd17 "question_with" = true)
    (k17 : PySem.W.keepIn K (.ref p17) = true)
    (a18 : PySem.W.nsIn K mainGlobals "led" = some (some (.ref p18)))
    (l18 : K.lookup p18 = some ⟨oc18, od18, .func (PySem.W.fnOf "led" "led" (defArgs s_led) (defBody s_led) (defScope s_led) .none kV18 dc18 pm18 an18 cd18 ct18), sl18⟩)
    (c18 : PySem.W.codeIn K cd18 "led" = true)
    (k18 : PySem.W.keepIn K (.ref p18) = true)
    (a19 : PySem.W.nsIn K mainGlobals "mirrored_number" = some (some (.ref p19)))
    (l19 : K.lookup p19 = some ⟨oc19, od19, .func (PySem.W.fnOf "mirrored_number" "mirrored_number" (defArgs s_mirrored_number) (defBody s_mirrored_number) (defScope s_mirrored_number) .none kV19 dc19 pm19 an19 cd19 ct19), sl19⟩)
    (c19 : PySem.W.codeIn K cd19 "mirrored_number" = true)
    (k19 : PySem.W.keepIn K (.ref p19) = true)
    (a20 : PySem.W.nsIn K mainGlobals "mirrored_of" = some (some (.ref p20)))
    (l20 : K.lookup p20 = some ⟨oc20, od20, .func (PySem.W.fnOf "mirrored_of" "mirrored_of" (defArgs s_mirrored_of) (defBody s_mirrored_of) (defScope s_mirrored_of) .none kV20 dc20 pm20 an20 cd20 ct20), sl20⟩)
    (c20 : PySem.W.codeIn K cd20 "mirrored_of" = true)
    (k20 : PySem.W.keepIn K (.ref p20) = true)
    (a21 : PySem.W.nsIn K mainGlobals "check_questions" = some (some (.ref p21)))
    (l21 : K.lookup p21 = some ⟨oc21, od21, .func (PySem.W.fnOf "check_questions" "check_questions" (defArgs s_check_questions) (defBody s_check_questions) (defScope s_check_questions) .none kV21 dc21 pm21 an21 cd21 ct21), sl21⟩)
    (c21 : PySem.W.codeIn K cd21 "check_questions" = true)
    (k21 : PySem.W.keepIn K (.ref p21) = true)
    (a22 : PySem.W.nsIn K mainGlobals "both" = some (some (.ref p22)))
    (l22 : K.lookup p22 = some ⟨oc22, od22, .func (PySem.W.fnOf "both" "both" (defArgs s_both) (defBody s_both) (defScope s_both) .none kV22 dc22 pm22 an22 cd22 ct22), sl22⟩)
    (c22 : PySem.W.codeIn K cd22 "both" = true)
    (k22 : PySem.W.keepIn K (.ref p22) = true)
    (a23 : PySem.W.nsIn K mainGlobals "either" = some (some (.ref p23)))
    (l23 : K.lookup p23 = some ⟨oc23, od23, .func (PySem.W.fnOf "either" "either" (defArgs s_either) (defBody s_either) (defScope s_either) .none kV23 dc23 pm23 an23 cd23 ct23), sl23⟩)
    (c23 : PySem.W.codeIn K cd23 "either" = true)
    (k23 : PySem.W.keepIn K (.ref p23) = true)
    (a24 : PySem.W.nsIn K mainGlobals "without" = some (some (.ref p24)))
    (l24 : K.lookup p24 = some ⟨oc24, od24, .func (PySem.W.fnOf "without" "without" (defArgs s_without) (defBody s_without) (defScope s_without) .none kV24 dc24 pm24 an24 cd24 ct24), sl24⟩)
    (c24 : PySem.W.codeIn K cd24 "without" = true)
    (k24 : PySem.W.keepIn K (.ref p24) = true)
    (a25 : PySem.W.nsIn K mainGlobals "opposite" = some (some (.ref p25)))
    (l25 : K.lookup p25 = some ⟨oc25, od25, .func (PySem.W.fnOf "opposite" "opposite" (defArgs s_opposite) (defBody s_opposite) (defScope s_opposite) .none kV25 dc25 pm25 an25 cd25 ct25), sl25⟩)
    (c25 : PySem.W.codeIn K cd25 "opposite" = true)
    (k25 : PySem.W.keepIn K (.ref p25) = true)
    (a26 : PySem.W.nsIn K mainGlobals "turned_number" = some (some (.ref p26)))
    (l26 : K.lookup p26 = some ⟨oc26, od26, .func (PySem.W.fnOf "turned_number" "turned_number" (defArgs s_turned_number) (defBody s_turned_number) (defScope s_turned_number) .none kV26 dc26 pm26 an26 cd26 ct26), sl26⟩)
    (c26 : PySem.W.codeIn K cd26 "turned_number" = true)
    (k26 : PySem.W.keepIn K (.ref p26) = true)
    (a27 : PySem.W.nsIn K mainGlobals "turned_of" = some (some (.ref p27)))
    (l27 : K.lookup p27 = some ⟨oc27, od27, .func (PySem.W.fnOf "turned_of" "turned_of" (defArgs s_turned_of) (defBody s_turned_of) (defScope s_turned_of) .none kV27 dc27 pm27 an27 cd27 ct27), sl27⟩)
    (c27 : PySem.W.codeIn K cd27 "turned_of" = true)
    (k27 : PySem.W.keepIn K (.ref p27) = true)
    (a28 : PySem.W.nsIn K mainGlobals "_law_called" = some (some (.ref p28)))
    (l28 : K.lookup p28 = some ⟨oc28, od28, .func (PySem.W.fnOf "_law_called" "_law_called" (defArgs s__law_called) (defBody s__law_called) (defScope s__law_called) .none kV28 dc28 pm28 an28 cd28 ct28), sl28⟩)
    (c28 : PySem.W.codeIn K cd28 "_law_called" = true)
    (k28 : PySem.W.keepIn K (.ref p28) = true)
    (a29 : PySem.W.nsIn K mainGlobals "_law_said" = some (some (.ref p29)))
    (l29 : K.lookup p29 = some ⟨oc29, od29, .func (PySem.W.fnOf "_law_said" "_law_said" (defArgs s__law_said) (defBody s__law_said) (defScope s__law_said) .none kV29 dc29 pm29 an29 cd29 ct29), sl29⟩)
    (c29 : PySem.W.codeIn K cd29 "_law_said" = true)
    (k29 : PySem.W.keepIn K (.ref p29) = true)
    (a30 : PySem.W.nsIn K mainGlobals "_law_refused_right" = some (some (.ref p30)))
    (l30 : K.lookup p30 = some ⟨oc30, od30, .func (PySem.W.fnOf "_law_refused_right" "_law_refused_right" (defArgs s__law_refused_right) (defBody s__law_refused_right) (defScope s__law_refused_right) .none kV30 dc30 pm30 an30 cd30 ct30), sl30⟩)
    (c30 : PySem.W.codeIn K cd30 "_law_refused_right" = true)
    (k30 : PySem.W.keepIn K (.ref p30) = true)
    (a31 : PySem.W.nsIn K mainGlobals "_law_rising" = some (some (.ref p31)))
    (l31 : K.lookup p31 = some ⟨oc31, od31, .func (PySem.W.fnOf "_law_rising" "_law_rising" (defArgs s__law_rising) (defBody s__law_rising) (defScope s__law_rising) .none kV31 dc31 pm31 an31 cd31 ct31), sl31⟩)
    (c31 : PySem.W.codeIn K cd31 "_law_rising" = true)
    (k31 : PySem.W.keepIn K (.ref p31) = true)
    (a32 : PySem.W.nsIn K mainGlobals "_law_ranks" = some (some (.ref p32)))
    (l32 : K.lookup p32 = some ⟨oc32, od32, .func (PySem.W.fnOf "_law_ranks" "_law_ranks" (defArgs s__law_ranks) (defBody s__law_ranks) (defScope s__law_ranks) .none kV32 dc32 pm32 an32 cd32 ct32), sl32⟩)
    (c32 : PySem.W.codeIn K cd32 "_law_ranks" = true)
    (k32 : PySem.W.keepIn K (.ref p32) = true)
    (a33 : PySem.W.nsIn K mainGlobals "_law_pair" = some (some (.ref p33)))
    (l33 : K.lookup p33 = some ⟨oc33, od33, .func (PySem.W.fnOf "_law_pair" "_law_pair" (defArgs s__law_pair) (defBody s__law_pair) (defScope s__law_pair) .none kV33 dc33 pm33 an33 cd33 ct33), sl33⟩)
    (c33 : PySem.W.codeIn K cd33 "_law_pair" = true)
    (k33 : PySem.W.keepIn K (.ref p33) = true)
    (a34 : PySem.W.nsIn K mainGlobals "_law_place" = some (some (.ref p34)))
    (l34 : K.lookup p34 = some ⟨oc34, od34, .func (PySem.W.fnOf "_law_place" "_law_place" (defArgs s__law_place) (defBody s__law_place) (defScope s__law_place) .none kV34 dc34 pm34 an34 cd34 ct34), sl34⟩)
    (c34 : PySem.W.codeIn K cd34 "_law_place" = true)
    (k34 : PySem.W.keepIn K (.ref p34) = true)
    (a35 : PySem.W.nsIn K mainGlobals "_law_relation" = some (some (.ref p35)))
    (l35 : K.lookup p35 = some ⟨oc35, od35, .func (PySem.W.fnOf "_law_relation" "_law_relation" (defArgs s__law_relation) (defBody s__law_relation) (defScope s__law_relation) .none kV35 dc35 pm35 an35 cd35 ct35), sl35⟩)
    (c35 : PySem.W.codeIn K cd35 "_law_relation" = true)
    (k35 : PySem.W.keepIn K (.ref p35) = true)
    (a36 : PySem.W.nsIn K mainGlobals "_law_moved" = some (some (.ref p36)))
    (l36 : K.lookup p36 = some ⟨oc36, od36, .func (PySem.W.fnOf "_law_moved" "_law_moved" (defArgs s__law_moved) (defBody s__law_moved) (defScope s__law_moved) .none kV36 dc36 pm36 an36 cd36 ct36), sl36⟩)
    (c36 : PySem.W.codeIn K cd36 "_law_moved" = true)
    (k36 : PySem.W.keepIn K (.ref p36) = true)
    (a37 : PySem.W.nsIn K mainGlobals "_law_dues" = some (some (.ref p37)))
    (l37 : K.lookup p37 = some ⟨oc37, od37, .func (PySem.W.fnOf "_law_dues" "_law_dues" (defArgs s__law_dues) (defBody s__law_dues) (defScope s__law_dues) .none kV37 dc37 pm37 an37 cd37 ct37), sl37⟩)
    (c37 : PySem.W.codeIn K cd37 "_law_dues" = true)
    (k37 : PySem.W.keepIn K (.ref p37) = true)
    (a38 : PySem.W.nsIn K mainGlobals "is_tuple_of" = some (some (.ref p38)))
    (l38 : K.lookup p38 = some ⟨oc38, od38, .func (PySem.W.fnOf "is_tuple_of" "is_tuple_of" (defArgs s_is_tuple_of) (defBody s_is_tuple_of) (defScope s_is_tuple_of) .none kV38 dc38 pm38 an38 cd38 ct38), sl38⟩)
    (c38 : PySem.W.codeIn K cd38 "is_tuple_of" = true)
    (k38 : PySem.W.keepIn K (.ref p38) = true)
    (a39 : PySem.W.nsIn K mainGlobals "is_whole" = some (some (.ref p39)))
    (l39 : K.lookup p39 = some ⟨oc39, od39, .func (PySem.W.fnOf "is_whole" "is_whole" (defArgs s_is_whole) (defBody s_is_whole) (defScope s_is_whole) .none kV39 dc39 pm39 an39 cd39 ct39), sl39⟩)
    (c39 : PySem.W.codeIn K cd39 "is_whole" = true)
    (k39 : PySem.W.keepIn K (.ref p39) = true)
    (a40 : PySem.W.nsIn K mainGlobals "is_stay_shapes" = some (some (.ref p40)))
    (l40 : K.lookup p40 = some ⟨oc40, od40, .func (PySem.W.fnOf "is_stay" "is_stay" (defArgs s_is_stay_h18) (defBody s_is_stay_h18) (defScope s_is_stay_h18) .none kV40 dc40 pm40 an40 cd40 ct40), sl40⟩)
    (c40 : PySem.W.codeIn K cd40 "is_stay" = true)
    (k40 : PySem.W.keepIn K (.ref p40) = true)
    (a41 : PySem.W.nsIn K mainGlobals "is_stay" = some (some (.ref p41)))
    (l41 : K.lookup p41 = some ⟨oc41, od41, .func (PySem.W.fnOf "is_stay" "is_stay" (defArgs s_is_stay) (defBody s_is_stay) (defScope s_is_stay) .none kV41 dc41 pm41 an41 cd41 ct41), sl41⟩)
    (c41 : PySem.W.codeIn K cd41 "is_stay" = true)
    (k41 : PySem.W.keepIn K (.ref p41) = true)
    (a42 : PySem.W.nsIn K mainGlobals "check_stays" = some (some (.ref p42)))
    (l42 : K.lookup p42 = some ⟨oc42, od42, .func (PySem.W.fnOf "check_stays" "check_stays" (defArgs s_check_stays) (defBody s_check_stays) (defScope s_check_stays) .none kV42 dc42 pm42 an42 cd42 ct42), sl42⟩)
    (c42 : PySem.W.codeIn K cd42 "check_stays" = true)
    (k42 : PySem.W.keepIn K (.ref p42) = true)
    (a43 : PySem.W.nsIn K mainGlobals "place" = some (some (.ref p43)))
    (l43 : K.lookup p43 = some ⟨oc43, od43, .func (PySem.W.fnOf "place" "place" (defArgs s_place) (defBody s_place) (defScope s_place) .none kV43 dc43 pm43 an43 cd43 ct43), sl43⟩)
    (c43 : PySem.W.codeIn K cd43 "place" = true)
    (k43 : PySem.W.keepIn K (.ref p43) = true)
    (a44 : PySem.W.nsIn K mainGlobals "number_of" = some (some (.ref p44)))
    (l44 : K.lookup p44 = some ⟨oc44, od44, .func (PySem.W.fnOf "number_of" "number_of" (defArgs s_number_of) (defBody s_number_of) (defScope s_number_of) .none kV44 dc44 pm44 an44 cd44 ct44), sl44⟩)
    (c44 : PySem.W.codeIn K cd44 "number_of" = true)
    (k44 : PySem.W.keepIn K (.ref p44) = true)
    (a45 : PySem.W.nsIn K mainGlobals "met_by" = some (some (.ref p45)))
    (l45 : K.lookup p45 = some ⟨oc45, od45, .func (PySem.W.fnOf "met_by" "met_by" (defArgs s_met_by) (defBody s_met_by) (defScope s_met_by) .none kV45 dc45 pm45 an45 cd45 ct45), sl45⟩)
    (c45 : PySem.W.codeIn K cd45 "met_by" = true)
    (k45 : PySem.W.keepIn K (.ref p45) = true)
    (a46 : PySem.W.findIn K (.ref C0) "meets" = some (some (.ref p46)))
    (i46 : PySem.W.isFn K (.ref p46) = true)
    (l46 : K.lookup p46 = some ⟨oc46, od46, .func (PySem.W.fnOf "meets" "Question.meets" (defArgs s_Question_meets) (defBody s_Question_meets) (defScope s_Question_meets) .none kV46 dc46 pm46 an46 cd46 ct46), sl46⟩)
    (c46 : PySem.W.codeIn K cd46 "Question.meets" = true)
    (k46 : PySem.W.keepIn K (.ref p46) = true)
    (a47 : PySem.W.nsIn K mainGlobals "_law_two_right" = some (some (.ref p47)))
    (l47 : K.lookup p47 = some ⟨oc47, od47, .func (PySem.W.fnOf "_law_two_right" "_law_two_right" (defArgs s__law_two_right) (defBody s__law_two_right) (defScope s__law_two_right) .none kV47 dc47 pm47 an47 cd47 ct47), sl47⟩)
    (c47 : PySem.W.codeIn K cd47 "_law_two_right" = true)
    (k47 : PySem.W.keepIn K (.ref p47) = true)
    (a48 : PySem.W.nsIn K mainGlobals "law" = some (some (.ref p48)))
    (l48 : K.lookup p48 = some ⟨oc48, od48, .func (PySem.W.fnOf "law" "law" (defArgs s_law) (defBody s_law) (defScope s_law) .none kV48 dc48 pm48 an48 cd48 ct48), sl48⟩)
    (c48 : PySem.W.codeIn K cd48 "law" = true)
    (k48 : PySem.W.keepIn K (.ref p48) = true)
    (z_abs : PySem.W.nsIn K mainGlobals "abs" = some none)
    (z_all : PySem.W.nsIn K mainGlobals "all" = some none)
    (z_bool : PySem.W.nsIn K mainGlobals "bool" = some none)
    (z_int : PySem.W.nsIn K mainGlobals "int" = some none)
    (z_isinstance : PySem.W.nsIn K mainGlobals "isinstance" = some none)
    (z_len : PySem.W.nsIn K mainGlobals "len" = some none)
    (z_list : PySem.W.nsIn K mainGlobals "list" = some none)
    (z_max : PySem.W.nsIn K mainGlobals "max" = some none)
    (z_min : PySem.W.nsIn K mainGlobals "min" = some none)
    (z_range : PySem.W.nsIn K mainGlobals "range" = some none)
    (z_repr : PySem.W.nsIn K mainGlobals "repr" = some none)
    (z_set : PySem.W.nsIn K mainGlobals "set" = some none)
    (z_sorted : PySem.W.nsIn K mainGlobals "sorted" = some none)
    (z_str : PySem.W.nsIn K mainGlobals "str" = some none)
    (z_sum : PySem.W.nsIn K mainGlobals "sum" = some none)
    (z_tuple : PySem.W.nsIn K mainGlobals "tuple" = some none)
    (y_is_stay_shapes : PySem.W.nsIn K mainGlobals "is_stay_shapes" = some (some (.ref p40)))
    (y_is_stay_stays : PySem.W.nsIn K mainGlobals "is_stay_stays" = some (some (.ref p41)))
    (pg0 : PySem.W.plainGet K C0 Str.empty = true)
    (hd0 : PySem.W.hasDictIn K C0 = true)
    (po0 : PySem.W.plainOver K C0 = true)
    (sa0 : PySem.W.findIn K (.ref C0) "__setattr__" = some (some (.builtin "object.__setattr__")))
    (mk0 : PySem.W.makesIn K C0 = true)
    (kc0 : PySem.W.keepIn K (.ref C0) = true)
    (n0_0 : PySem.W.findIn K (.ref C0) "number" = some none)
    (ha0 : PySem.W.findIn K (.ref C0) "__class__" = some (some (.builtin "object.__class__")))
    (hm0 : PySem.W.mroIn K C0 (.type "object") = some true)
    (ka0_int : PySem.W.kitOne K (.ref C0) (.type "int") = some false)
    (ka0_bool : PySem.W.kitOne K (.ref C0) (.type "bool") = some false)
    (ka0_str : PySem.W.kitOne K (.ref C0) (.type "str") = some false)
    (ka0_list : PySem.W.kitOne K (.ref C0) (.type "list") = some false)
    (ka0_tuple : PySem.W.kitOne K (.ref C0) (.type "tuple") = some false)
    (kb0_NoneType : PySem.W.kitOne K (.type "NoneType") (.ref C0) = some false)
    (kb0_bool : PySem.W.kitOne K (.type "bool") (.ref C0) = some false)
    (kb0_int : PySem.W.kitOne K (.type "int") (.ref C0) = some false)
    (kb0_str : PySem.W.kitOne K (.type "str") (.ref C0) = some false)
    (kb0_list : PySem.W.kitOne K (.type "list") (.ref C0) = some false)
    (kb0_tuple : PySem.W.kitOne K (.type "tuple") (.ref C0) = some false)
    (kb0_dict : PySem.W.kitOne K (.type "dict") (.ref C0) = some false)
    (kk0_0 : PySem.W.kitOne K (.ref C0) (.ref C0) = some true)
    (xc1 : PySem.W.nsIn K mainGlobals "InvalidRelations" = some (some (.ref C1)))
    (bb0 : PySem.W.nsIn K mainGlobals "StayError" = some (some (.ref B0)))
    (xl1 : K.lookup C1 = some (excClassObj nm1 qn1 C1 N1 bs1 [.ref B0, .type "Exception", .type "BaseException", .type "object"] true sn1 sb1 ab1 co1 dd1 m01 m11 m21 m31 m51 "Exception.__new__"))
    (xs1 : PySem.W.findIn K (.ref C1) "__setattr__" = some (some (.builtin "object.__setattr__")))
    (xg1 : PySem.W.findIn K (.ref C1) "__getattribute__" = some (some (.builtin "BaseException.__getattribute__")))
    (xh1 : PySem.W.findIn K (.ref C1) "__getattr__" = some none)
    (xn1 : PySem.W.findIn K (.ref C1) "given" = some none)
    (xi1 : PySem.W.findIn K (.ref C1) "__init__" = some (some (.ref p49)))
    (xt1 : PySem.W.typeIn K (.ref p49) = some (.type "function"))
    (xf1 : K.lookup p49 = some ⟨xoc1, xod1, .func (PySem.W.fnOf "__init__" "InvalidRelations.__init__" (PySem.ErrX.iA ⟨10, 17, 10, 21⟩ ⟨10, 23, 10, 28⟩) (PySem.ErrX.iB ⟨11, 8, 11, 12⟩ ⟨11, 8, 11, 18⟩ ⟨11, 21, 11, 26⟩ ⟨11, 8, 11, 26⟩) PySem.ErrX.iS .none .none xdc1 xpm1 xan1 xcd1 xct1), xsl1⟩)
    (xd1 : PySem.W.codeIn K xcd1 "InvalidRelations.__init__" = true)
    (xk1 : PySem.W.keepIn K (.ref C1) = true)
    (xe1 : PySem.W.subIn K (.ref C1) (.type "BaseException") = some true)
    (xy1 : PySem.W.typeIn K (.ref C1) = some (.type "type"))
    (xz1 : PySem.W.hasDictIn K C1 = true)
    (xq1 : PySem.W.isClsIn K C1 = true)
    (xc2 : PySem.W.nsIn K mainGlobals "InvalidQuestion" = some (some (.ref C2)))
    (xl2 : K.lookup C2 = some (excClassObj nm2 qn2 C2 N2 bs2 [.ref B0, .type "Exception", .type "BaseException", .type "object"] true sn2 sb2 ab2 co2 dd2 m02 m12 m22 m32 m52 "Exception.__new__"))
    (xs2 : PySem.W.findIn K (.ref C2) "__setattr__" = some (some (.builtin "object.__setattr__")))
    (xg2 : PySem.W.findIn K (.ref C2) "__getattribute__" = some (some (.builtin "BaseException.__getattribute__")))
    (xh2 : PySem.W.findIn K (.ref C2) "__getattr__" = some none)
    (xn2 : PySem.W.findIn K (.ref C2) "given" = some none)
    (xi2 : PySem.W.findIn K (.ref C2) "__init__" = some (some (.ref p50)))
    (xt2 : PySem.W.typeIn K (.ref p50) = some (.type "function"))
    (xf2 : K.lookup p50 = some ⟨xoc2, xod2, .func (PySem.W.fnOf "__init__" "InvalidQuestion.__init__" (PySem.ErrX.iA ⟨14, 17, 14, 21⟩ ⟨14, 23, 14, 28⟩) (PySem.ErrX.iB ⟨15, 8, 15, 12⟩ ⟨15, 8, 15, 18⟩ ⟨15, 21, 15, 26⟩ ⟨15, 8, 15, 26⟩) PySem.ErrX.iS .none .none xdc2 xpm2 xan2 xcd2 xct2), xsl2⟩)
    (xd2 : PySem.W.codeIn K xcd2 "InvalidQuestion.__init__" = true)
    (xk2 : PySem.W.keepIn K (.ref C2) = true)
    (xe2 : PySem.W.subIn K (.ref C2) (.type "BaseException") = some true)
    (xy2 : PySem.W.typeIn K (.ref C2) = some (.type "type"))
    (xz2 : PySem.W.hasDictIn K C2 = true)
    (xq2 : PySem.W.isClsIn K C2 = true)
    (xc3 : PySem.W.nsIn K mainGlobals "InvalidStay" = some (some (.ref C3)))
    (xl3 : K.lookup C3 = some (excClassObj nm3 qn3 C3 N3 bs3 [.ref B0, .type "Exception", .type "BaseException", .type "object"] true sn3 sb3 ab3 co3 dd3 m03 m13 m23 m33 m53 "Exception.__new__"))
    (xs3 : PySem.W.findIn K (.ref C3) "__setattr__" = some (some (.builtin "object.__setattr__")))
    (xg3 : PySem.W.findIn K (.ref C3) "__getattribute__" = some (some (.builtin "BaseException.__getattribute__")))
    (xh3 : PySem.W.findIn K (.ref C3) "__getattr__" = some none)
    (xn3 : PySem.W.findIn K (.ref C3) "given" = some none)
    (xi3 : PySem.W.findIn K (.ref C3) "__init__" = some (some (.ref p51)))
    (xt3 : PySem.W.typeIn K (.ref p51) = some (.type "function"))
    (xf3 : K.lookup p51 = some ⟨xoc3, xod3, .func (PySem.W.fnOf "__init__" "InvalidStay.__init__" (PySem.ErrX.iA ⟨6, 17, 6, 21⟩ ⟨6, 23, 6, 28⟩) (PySem.ErrX.iB ⟨7, 8, 7, 12⟩ ⟨7, 8, 7, 18⟩ ⟨7, 21, 7, 26⟩ ⟨7, 8, 7, 26⟩) PySem.ErrX.iS .none .none xdc3 xpm3 xan3 xcd3 xct3), xsl3⟩)
    (xd3 : PySem.W.codeIn K xcd3 "InvalidStay.__init__" = true)
    (xk3 : PySem.W.keepIn K (.ref C3) = true)
    (xe3 : PySem.W.subIn K (.ref C3) (.type "BaseException") = some true)
    (xy3 : PySem.W.typeIn K (.ref C3) = some (.type "type"))
    (xz3 : PySem.W.hasDictIn K C3 = true)
    (xq3 : PySem.W.isClsIn K C3 = true)
    (xx1_1 : PySem.W.subIn K (.ref C1) (.ref C1) = some true)
    (xx2_1 : PySem.W.subIn K (.ref C2) (.ref C1) = some false)
    (xx3_1 : PySem.W.subIn K (.ref C3) (.ref C1) = some false)
    (xx1_2 : PySem.W.subIn K (.ref C1) (.ref C2) = some false)
    (xx2_2 : PySem.W.subIn K (.ref C2) (.ref C2) = some true)
    (xx3_2 : PySem.W.subIn K (.ref C3) (.ref C2) = some false)
    (xx1_3 : PySem.W.subIn K (.ref C1) (.ref C3) = some false)
    (xx2_3 : PySem.W.subIn K (.ref C2) (.ref C3) = some false)
    (xx3_3 : PySem.W.subIn K (.ref C3) (.ref C3) = some true)
    (hn : PySem.W.specialIn K (.builtin "object.__class__") "__get__" = some (some (.builtin "getset_descriptor.__get__")))
    (ht : PySem.W.takesIn K (.builtin "object.__class__") = some true)
    (ce0 : PySem.W.nsIn K mainGlobals "RELATIONS" = some (some (.ref u0q0)))
    (u0q0l : K.lookup u0q0 = some ⟨.type "tuple", none, .seq #[.str "before" u0t1, .str "meets" u0t2, .str "overlaps" u0t3, .str "ended" u0t4, .str "holds" u0t5, .str "starts" u0t6, .str "equal" u0t7, .str "started" u0t8, .str "during" u0t9, .str "ends" u0t10, .str "lapped" u0t11, .str "met" u0t12, .str "after" u0t13] u0q0n, u0q0s⟩)
    (ce1 : PySem.W.nsIn K mainGlobals "MIRRORED" = some (some (.ref u1q14)))
    (u1q14l : K.lookup u1q14 = some ⟨.type "tuple", none, .seq #[.int (12) u1t15, .int (11) u1t16, .int (10) u1t17, .int (7) u1t18, .int (4) u1t19, .int (9) u1t20, .int (6) u1t21, .int (3) u1t22, .int (8) u1t23, .int (5) u1t24, .int (2) u1t25, .int (1) u1t26, .int (0) u1t27] u1q14n, u1q14s⟩)
    (ce2 : PySem.W.nsIn K mainGlobals "EVERY" = some (some (.int 8191 te2)))
    (ce3 : PySem.W.nsIn K mainGlobals "TURNED" = some (some (.ref u3q28)))
    (u3q28l : K.lookup u3q28 = some ⟨.type "tuple", none, .seq #[.int (12) u3t29, .int (11) u3t30, .int (10) u3t31, .int (9) u3t32, .int (8) u3t33, .int (7) u3t34, .int (6) u3t35, .int (5) u3t36, .int (4) u3t37, .int (3) u3t38, .int (2) u3t39, .int (1) u3t40, .int (0) u3t41] u3q28n, u3q28s⟩)
    (ce4 : PySem.W.nsIn K mainGlobals "NUMBERS" = some (some (.ref u4q42)))
    (u4q42l : K.lookup u4q42 = some ⟨.type "tuple", none, .seq #[.ref u4q43, .ref u4q49, .ref u4q55, .ref u4q61, .ref u4q67] u4q42n, u4q42s⟩)
    (u4q43l : K.lookup u4q43 = some ⟨.type "tuple", none, .seq #[.int (0) u4t44, .int (1) u4t45, .int (2) u4t46, .int (3) u4t47, .int (4) u4t48] u4q43n, u4q43s⟩)
    (u4q49l : K.lookup u4q49 = some ⟨.type "tuple", none, .seq #[.int (-1) u4t50, .int (-1) u4t51, .int (5) u4t52, .int (6) u4t53, .int (7) u4t54] u4q49n, u4q49s⟩)
    (u4q55l : K.lookup u4q55 = some ⟨.type "tuple", none, .seq #[.int (-1) u4t56, .int (-1) u4t57, .int (8) u4t58, .int (9) u4t59, .int (10) u4t60] u4q55n, u4q55s⟩)
    (u4q61l : K.lookup u4q61 = some ⟨.type "tuple", none, .seq #[.int (-1) u4t62, .int (-1) u4t63, .int (-1) u4t64, .int (-1) u4t65, .int (11) u4t66] u4q61n, u4q61s⟩)
    (u4q67l : K.lookup u4q67 = some ⟨.type "tuple", none, .seq #[.int (-1) u4t68, .int (-1) u4t69, .int (-1) u4t70, .int (-1) u4t71, .int (12) u4t72] u4q67n, u4q67s⟩) :
    ∃ fd : FuncData, (∀ (s : Shared) (v : Value), BindsTo s fd ⟨[v], []⟩ [("script", v)]) ∧ ∀ base : Heap, K.In base → base.Ns mainGlobals mg → FnG l.prog w K mg base (L2.CX l.prog w) 9 fa fd ["script"] (spLaw K) := by
  have e := hfa.symm.trans (PySem.W.mg_of X G a48)
  obtain rfl : p48 = fa := by
    cases e
    rfl
  have E : Txt K mg ⟨fun c => [C0, C1, C2, C3].getD c 0, fun c => [(["number"] : List Str), (["given"] : List Str), (["given"] : List Str), (["given"] : List Str)].getD c []⟩ (fun i => [p0, p1, p2, p3, p4, p5, p6, p7, p8, p9, p10, p11, p12, p13, p14, p15, p16, p17, p18, p19, p20, p21, p22, p23, p24, p25, p26, p27, p28, p29, p30, p31, p32, p33, p34, p35, p36, p37, p38, p39, p40, p41, p42, p43, p44, p45, p46, p47, p48, p49, p50, p51].getD i 0) (fun i => [PySem.W.fnOf "_law_box" "_law_box" (defArgs s__law_box) (defBody s__law_box) (defScope s__law_box) .none kV0 dc0 pm0 an0 cd0 ct0, PySem.W.fnOf "_law_take" "_law_take" (defArgs s__law_take) (defBody s__law_take) (defScope s__law_take) .none kV1 dc1 pm1 an1 cd1 ct1, PySem.W.fnOf "_law_cell" "_law_cell" (defArgs s__law_cell) (defBody s__law_cell) (defScope s__law_cell) .none kV2 dc2 pm2 an2 cd2 ct2, PySem.W.fnOf "_law_drawn" "_law_drawn" (defArgs s__law_drawn) (defBody s__law_drawn) (defScope s__law_drawn) .none kV3 dc3 pm3 an3 cd3 ct3, PySem.W.fnOf "_law_like" "_law_like" (defArgs s__law_like) (defBody s__law_like) (defScope s__law_like) .none kV4 dc4 pm4 an4 cd4 ct4, PySem.W.fnOf "bits_of" "bits_of" (defArgs s_bits_of) (defBody s_bits_of) (defScope s_bits_of) .none kV5 dc5 pm5 an5 cd5 ct5, PySem.W.fnOf "relations" "Question.relations" (defArgs s_Question_relations) (defBody s_Question_relations) (defScope s_Question_relations) .none kV6 dc6 pm6 an6 cd6 ct6, PySem.W.fnOf "is_listed" "is_listed" (defArgs s_is_listed) (defBody s_is_listed) (defScope s_is_listed) .none kV7 dc7 pm7 an7 cd7 ct7, PySem.W.fnOf "are_unlike" "are_unlike" (defArgs s_are_unlike) (defBody s_are_unlike) (defScope s_are_unlike) .none kV8 dc8 pm8 an8 cd8 ct8, PySem.W.fnOf "is_relation" "is_relation" (defArgs s_is_relation) (defBody s_is_relation) (defScope s_is_relation) .none kV9 dc9 pm9 an9 cd9 ct9, PySem.W.fnOf "__init__" "Question.__init__" (defArgs s_QuestionX_initX) (defBody s_QuestionX_initX) (defScope s_QuestionX_initX) .none kV10 dc10 pm10 an10 cd10 ct10, PySem.W.fnOf "_law_words" "_law_words" (defArgs s__law_words) (defBody s__law_words) (defScope s__law_words) .none kV11 dc11 pm11 an11 cd11 ct11, PySem.W.fnOf "_law_is" "_law_is" (defArgs s__law_is) (defBody s__law_is) (defScope s__law_is) .none kV12 dc12 pm12 an12 cd12 ct12, PySem.W.fnOf "_law_mixed" "_law_mixed" (defArgs s__law_mixed) (defBody s__law_mixed) (defScope s__law_mixed) .none kV13 dc13 pm13 an13 cd13 ct13, PySem.W.fnOf "_law_made" "_law_made" (defArgs s__law_made) (defBody s__law_made) (defScope s__law_made) .none kV14 dc14 pm14 an14 cd14 ct14, PySem.W.fnOf "is_question" "is_question" (defArgs s_is_question) (defBody s_is_question) (defScope s_is_question) .none kV15 dc15 pm15 an15 cd15 ct15, PySem.W.fnOf "check_question" "check_question" (defArgs s_check_question) (defBody s_check_question) (defScope s_check_question) .none kV16 dc16 pm16 an16 cd16 ct16, PySem.W.fnOf "question_with" "question_with" (defArgs s_question_with) (defBody s_question_with) (defScope s_question_with) .none kV17 dc17 pm17 an17 cd17 ct17, PySem.W.fnOf "led" "led" (defArgs s_led) (defBody s_led) (defScope s_led) .none kV18 dc18 pm18 an18 cd18 ct18, PySem.W.fnOf "mirrored_number" "mirrored_number" (defArgs s_mirrored_number) (defBody s_mirrored_number) (defScope s_mirrored_number) .none kV19 dc19 pm19 an19 cd19 ct19, PySem.W.fnOf "mirrored_of" "mirrored_of" (defArgs s_mirrored_of) (defBody s_mirrored_of) (defScope s_mirrored_of) .none kV20 dc20 pm20 an20 cd20 ct20, PySem.W.fnOf "check_questions" "check_questions" (defArgs s_check_questions) (defBody s_check_questions) (defScope s_check_questions) .none kV21 dc21 pm21 an21 cd21 ct21, PySem.W.fnOf "both" "both" (defArgs s_both) (defBody s_both) (defScope s_both) .none kV22 dc22 pm22 an22 cd22 ct22, PySem.W.fnOf "either" "either" (defArgs s_either) (defBody s_either) (defScope s_either) .none kV23 dc23 pm23 an23 cd23 ct23, PySem.W.fnOf "without" "without" (defArgs s_without) (defBody s_without) (defScope s_without) .none kV24 dc24 pm24 an24 cd24 ct24, PySem.W.fnOf "opposite" "opposite" (defArgs s_opposite) (defBody s_opposite) (defScope s_opposite) .none kV25 dc25 pm25 an25 cd25 ct25, PySem.W.fnOf "turned_number" "turned_number" (defArgs s_turned_number) (defBody s_turned_number) (defScope s_turned_number) .none kV26 dc26 pm26 an26 cd26 ct26, PySem.W.fnOf "turned_of" "turned_of" (defArgs s_turned_of) (defBody s_turned_of) (defScope s_turned_of) .none kV27 dc27 pm27 an27 cd27 ct27, PySem.W.fnOf "_law_called" "_law_called" (defArgs s__law_called) (defBody s__law_called) (defScope s__law_called) .none kV28 dc28 pm28 an28 cd28 ct28, PySem.W.fnOf "_law_said" "_law_said" (defArgs s__law_said) (defBody s__law_said) (defScope s__law_said) .none kV29 dc29 pm29 an29 cd29 ct29, PySem.W.fnOf "_law_refused_right" "_law_refused_right" (defArgs s__law_refused_right) (defBody s__law_refused_right) (defScope s__law_refused_right) .none kV30 dc30 pm30 an30 cd30 ct30, PySem.W.fnOf "_law_rising" "_law_rising" (defArgs s__law_rising) (defBody s__law_rising) (defScope s__law_rising) .none kV31 dc31 pm31 an31 cd31 ct31, PySem.W.fnOf "_law_ranks" "_law_ranks" (defArgs s__law_ranks) (defBody s__law_ranks) (defScope s__law_ranks) .none kV32 dc32 pm32 an32 cd32 ct32, PySem.W.fnOf "_law_pair" "_law_pair" (defArgs s__law_pair) (defBody s__law_pair) (defScope s__law_pair) .none kV33 dc33 pm33 an33 cd33 ct33, PySem.W.fnOf "_law_place" "_law_place" (defArgs s__law_place) (defBody s__law_place) (defScope s__law_place) .none kV34 dc34 pm34 an34 cd34 ct34, PySem.W.fnOf "_law_relation" "_law_relation" (defArgs s__law_relation) (defBody s__law_relation) (defScope s__law_relation) .none kV35 dc35 pm35 an35 cd35 ct35, PySem.W.fnOf "_law_moved" "_law_moved" (defArgs s__law_moved) (defBody s__law_moved) (defScope s__law_moved) .none kV36 dc36 pm36 an36 cd36 ct36, PySem.W.fnOf "_law_dues" "_law_dues" (defArgs s__law_dues) (defBody s__law_dues) (defScope s__law_dues) .none kV37 dc37 pm37 an37 cd37 ct37, PySem.W.fnOf "is_tuple_of" "is_tuple_of" (defArgs s_is_tuple_of) (defBody s_is_tuple_of) (defScope s_is_tuple_of) .none kV38 dc38 pm38 an38 cd38 ct38, PySem.W.fnOf "is_whole" "is_whole" (defArgs s_is_whole) (defBody s_is_whole) (defScope s_is_whole) .none kV39 dc39 pm39 an39 cd39 ct39, PySem.W.fnOf "is_stay" "is_stay" (defArgs s_is_stay_h18) (defBody s_is_stay_h18) (defScope s_is_stay_h18) .none kV40 dc40 pm40 an40 cd40 ct40, PySem.W.fnOf "is_stay" "is_stay" (defArgs s_is_stay) (defBody s_is_stay) (defScope s_is_stay) .none kV41 dc41 pm41 an41 cd41 ct41, PySem.W.fnOf "check_stays" "check_stays" (defArgs s_check_stays) (defBody s_check_stays) (defScope s_check_stays) .none kV42 dc42 pm42 an42 cd42 ct42, PySem.W.fnOf "place" "place" (defArgs s_place) (defBody s_place) (defScope s_place) .none kV43 dc43 pm43 an43 cd43 ct43, PySem.W.fnOf "number_of" "number_of" (defArgs s_number_of) (defBody s_number_of) (defScope s_number_of) .none kV44 dc44 pm44 an44 cd44 ct44, PySem.W.fnOf "met_by" "met_by" (defArgs s_met_by) (defBody s_met_by) (defScope s_met_by) .none kV45 dc45 pm45 an45 cd45 ct45, PySem.W.fnOf "meets" "Question.meets" (defArgs s_Question_meets) (defBody s_Question_meets) (defScope s_Question_meets) .none kV46 dc46 pm46 an46 cd46 ct46, PySem.W.fnOf "_law_two_right" "_law_two_right" (defArgs s__law_two_right) (defBody s__law_two_right) (defScope s__law_two_right) .none kV47 dc47 pm47 an47 cd47 ct47, PySem.W.fnOf "law" "law" (defArgs s_law) (defBody s_law) (defScope s_law) .none kV48 dc48 pm48 an48 cd48 ct48].getD i (PySem.W.fnOf "law" "law" (defArgs s_law) (defBody s_law) (defScope s_law) .none kV48 dc48 pm48 an48 cd48 ct48)) (fun i => [u0q0, u1q14, 0, u3q28, u4q42].getD i 0) := {
    g_abs := PySem.W.mg_none_of X G z_abs
    g_all := PySem.W.mg_none_of X G z_all
    g_bool := PySem.W.mg_none_of X G z_bool
    g_int := PySem.W.mg_none_of X G z_int
    g_isinstance := PySem.W.mg_none_of X G z_isinstance
    g_len := PySem.W.mg_none_of X G z_len
    g_list := PySem.W.mg_none_of X G z_list
    g_max := PySem.W.mg_none_of X G z_max
    g_min := PySem.W.mg_none_of X G z_min
    g_range := PySem.W.mg_none_of X G z_range
    g_repr := PySem.W.mg_none_of X G z_repr
    g_set := PySem.W.mg_none_of X G z_set
    g_sorted := PySem.W.mg_none_of X G z_sorted
    g_str := PySem.W.mg_none_of X G z_str
    g_sum := PySem.W.mg_none_of X G z_sum
    g_tuple := PySem.W.mg_none_of X G z_tuple
    m__law_box := PySem.W.mg_of X G a0
    k__law_box := k0
    F__law_box := fun_mk (st := s__law_box) l0 c0 k0
    b__law_box := (fun_mk (st := s__law_box) l0 c0 k0).binds (ps := ["great"]) fun _ _ _ _ _ _ us hl => match us, hl with | [_], _ => rfl
    m__law_take := PySem.W.mg_of X G a1
    k__law_take := k1
    F__law_take := fun_mk (st := s__law_take) l1 c1 k1
    b__law_take := (fun_mk (st := s__law_take) l1 c1 k1).binds (ps := ["box", "many"]) fun _ _ _ _ _ _ us hl => match us, hl with | [_, _], _ => rfl
    m__law_cell := PySem.W.mg_of X G a2
    k__law_cell := k2
    F__law_cell := fun_mk (st := s__law_cell) l2 c2 k2
    b__law_cell := (fun_mk (st := s__law_cell) l2 c2 k2).binds (ps := ["script", "k"]) fun _ _ _ _ _ _ us hl => match us, hl with | [_, _], _ => rfl
    m__law_drawn := PySem.W.mg_of X G a3
    k__law_drawn := k3
    F__law_drawn := fun_mk (st := s__law_drawn) l3 c3 k3
    b__law_drawn := (fun_mk (st := s__law_drawn) l3 c3 k3).binds (ps := ["box", "some"]) fun _ _ _ _ _ _ us hl => match us, hl with | [_, _], _ => rfl
    m__law_like := PySem.W.mg_of X G a4
    k__law_like := k4
    F__law_like := fun_mk (st := s__law_like) l4 c4 k4
    b__law_like := (fun_mk (st := s__law_like) l4 c4 k4).binds (ps := ["told", "due"]) fun _ _ _ _ _ _ us hl => match us, hl with | [_, _], _ => rfl
    m_bits_of := PySem.W.mg_of X G a5
    k_bits_of := k5
    F_bits_of := fun_mk (st := s_bits_of) l5 c5 k5
    b_bits_of := (fun_mk (st := s_bits_of) l5 c5 k5).binds (ps := ["number"]) fun _ _ _ _ _ _ us hl => match us, hl with | [_], _ => rfl
    k_Question_relations := k6
    F_Question_relations := fun_mk (st := s_Question_relations) l6 c6 k6
    b_Question_relations := (fun_mk (st := s_Question_relations) l6 c6 k6).binds (ps := ["self"]) fun _ _ _ _ _ _ us hl => match us, hl with | [_], _ => rfl
    mt_Question_relations := ⟨a6, i6, k6⟩
    m_is_listed := PySem.W.mg_of X G a7
    k_is_listed := k7
    F_is_listed := fun_mk (st := s_is_listed) l7 c7 k7
    b_is_listed := (fun_mk (st := s_is_listed) l7 c7 k7).binds (ps := ["value"]) fun _ _ _ _ _ _ us hl => match us, hl with | [_], _ => rfl
    m_are_unlike := PySem.W.mg_of X G a8
    k_are_unlike := k8
    F_are_unlike := fun_mk (st := s_are_unlike) l8 c8 k8
    b_are_unlike := (fun_mk (st := s_are_unlike) l8 c8 k8).binds (ps := ["items"]) fun _ _ _ _ _ _ us hl => match us, hl with | [_], _ => rfl
    m_is_relation := PySem.W.mg_of X G a9
    k_is_relation := k9
    F_is_relation := fun_mk (st := s_is_relation) l9 c9 k9
    b_is_relation := (fun_mk (st := s_is_relation) l9 c9 k9).binds (ps := ["value"]) fun _ _ _ _ _ _ us hl => match us, hl with | [_], _ => rfl
    k_QuestionX_initX := k10
    F_QuestionX_initX := fun_mk (st := s_QuestionX_initX) l10 c10 k10
    b_QuestionX_initX := (fun_mk (st := s_QuestionX_initX) l10 c10 k10).binds (ps := ["self", "relations"]) fun _ _ _ _ _ _ us hl => match us, hl with | [_, _], _ => rfl
    m__law_words := PySem.W.mg_of X G a11
    k__law_words := k11
    F__law_words := fun_mk (st := s__law_words) l11 c11 k11
    b__law_words := (fun_mk (st := s__law_words) l11 c11 k11).binds (ps := []) fun _ _ _ _ _ _ us hl => match us, hl with | [], _ => rfl
    m__law_is := PySem.W.mg_of X G a12
    k__law_is := k12
    F__law_is := fun_mk (st := s__law_is) l12 c12 k12
    b__law_is := (fun_mk (st := s__law_is) l12 c12 k12).binds (ps := ["question", "places"]) fun _ _ _ _ _ _ us hl => match us, hl with | [_, _], _ => rfl
    m__law_mixed := PySem.W.mg_of X G a13
    k__law_mixed := k13
    F__law_mixed := fun_mk (st := s__law_mixed) l13 c13 k13
    b__law_mixed := (fun_mk (st := s__law_mixed) l13 c13 k13).binds (ps := ["box", "items"]) fun _ _ _ _ _ _ us hl => match us, hl with | [_, _], _ => rfl
    m__law_made := PySem.W.mg_of X G a14
    k__law_made := k14
    F__law_made := fun_mk (st := s__law_made) l14 c14 k14
    b__law_made := (fun_mk (st := s__law_made) l14 c14 k14).binds (ps := ["box", "places"]) fun _ _ _ _ _ _ us hl => match us, hl with | [_, _], _ => rfl
    m_is_question := PySem.W.mg_of X G a15
    k_is_question := k15
    F_is_question := fun_mk (st := s_is_question) l15 c15 k15
    b_is_question := (fun_mk (st := s_is_question) l15 c15 k15).binds (ps := ["value"]) fun _ _ _ _ _ _ us hl => match us, hl with | [_], _ => rfl
    m_check_question := PySem.W.mg_of X G a16
    k_check_question := k16
    F_check_question := fun_mk (st := s_check_question) l16 c16 k16
    b_check_question := (fun_mk (st := s_check_question) l16 c16 k16).binds (ps := ["value"]) fun _ _ _ _ _ _ us hl => match us, hl with | [_], _ => rfl
    m_question_with := PySem.W.mg_of X G a17
    k_question_with := k17
    F_question_with := fun_mk (st := s_question_with) l17 c17 k17
    b_question_with := (fun_mk (st := s_question_with) l17 c17 k17).binds (ps := ["number"]) fun _ _ _ _ _ _ us hl => match us, hl with | [_], _ => rfl
    m_led := PySem.W.mg_of X G a18
    k_led := k18
    F_led := fun_mk (st := s_led) l18 c18 k18
    b_led := (fun_mk (st := s_led) l18 c18 k18).binds (ps := ["number", "table"]) fun _ _ _ _ _ _ us hl => match us, hl with | [_, _], _ => rfl
    m_mirrored_number := PySem.W.mg_of X G a19
    k_mirrored_number := k19
    F_mirrored_number := fun_mk (st := s_mirrored_number) l19 c19 k19
    b_mirrored_number := (fun_mk (st := s_mirrored_number) l19 c19 k19).binds (ps := ["number"]) fun _ _ _ _ _ _ us hl => match us, hl with | [_], _ => rfl
    m_mirrored_of := PySem.W.mg_of X G a20
    k_mirrored_of := k20
    F_mirrored_of := fun_mk (st := s_mirrored_of) l20 c20 k20
    b_mirrored_of := (fun_mk (st := s_mirrored_of) l20 c20 k20).binds (ps := ["question"]) fun _ _ _ _ _ _ us hl => match us, hl with | [_], _ => rfl
    m_check_questions := PySem.W.mg_of X G a21
    k_check_questions := k21
    F_check_questions := fun_mk (st := s_check_questions) l21 c21 k21
    b_check_questions := (fun_mk (st := s_check_questions) l21 c21 k21).binds (ps := ["one", "other"]) fun _ _ _ _ _ _ us hl => match us, hl with | [_, _], _ => rfl
    m_both := PySem.W.mg_of X G a22
    k_both := k22
    F_both := fun_mk (st := s_both) l22 c22 k22
    b_both := (fun_mk (st := s_both) l22 c22 k22).binds (ps := ["one", "other"]) fun _ _ _ _ _ _ us hl => match us, hl with | [_, _], _ => rfl
    m_either := PySem.W.mg_of X G a23
    k_either := k23
    F_either := fun_mk (st := s_either) l23 c23 k23
    b_either := (fun_mk (st := s_either) l23 c23 k23).binds (ps := ["one", "other"]) fun _ _ _ _ _ _ us hl => match us, hl with | [_, _], _ => rfl
    m_without := PySem.W.mg_of X G a24
    k_without := k24
    F_without := fun_mk (st := s_without) l24 c24 k24
    b_without := (fun_mk (st := s_without) l24 c24 k24).binds (ps := ["one", "other"]) fun _ _ _ _ _ _ us hl => match us, hl with | [_, _], _ => rfl
    m_opposite := PySem.W.mg_of X G a25
    k_opposite := k25
    F_opposite := fun_mk (st := s_opposite) l25 c25 k25
    b_opposite := (fun_mk (st := s_opposite) l25 c25 k25).binds (ps := ["question"]) fun _ _ _ _ _ _ us hl => match us, hl with | [_], _ => rfl
    m_turned_number := PySem.W.mg_of X G a26
    k_turned_number := k26
    F_turned_number := fun_mk (st := s_turned_number) l26 c26 k26
    b_turned_number := (fun_mk (st := s_turned_number) l26 c26 k26).binds (ps := ["number"]) fun _ _ _ _ _ _ us hl => match us, hl with | [_], _ => rfl
    m_turned_of := PySem.W.mg_of X G a27
    k_turned_of := k27
    F_turned_of := fun_mk (st := s_turned_of) l27 c27 k27
    b_turned_of := (fun_mk (st := s_turned_of) l27 c27 k27).binds (ps := ["question"]) fun _ _ _ _ _ _ us hl => match us, hl with | [_], _ => rfl
    m__law_called := PySem.W.mg_of X G a28
    k__law_called := k28
    F__law_called := fun_mk (st := s__law_called) l28 c28 k28
    b__law_called := (fun_mk (st := s__law_called) l28 c28 k28).binds (ps := ["door", "one", "other", "named"]) fun _ _ _ _ _ _ us hl => match us, hl with | [_, _, _, _], _ => rfl
    m__law_said := PySem.W.mg_of X G a29
    k__law_said := k29
    F__law_said := fun_mk (st := s__law_said) l29 c29 k29
    b__law_said := (fun_mk (st := s__law_said) l29 c29 k29).binds (ps := ["door", "one", "other", "named"]) fun _ _ _ _ _ _ us hl => match us, hl with | [_, _, _, _], _ => rfl
    m__law_refused_right := PySem.W.mg_of X G a30
    k__law_refused_right := k30
    F__law_refused_right := fun_mk (st := s__law_refused_right) l30 c30 k30
    b__law_refused_right := (fun_mk (st := s__law_refused_right) l30 c30 k30).binds (ps := ["box", "some", "named"]) fun _ _ _ _ _ _ us hl => match us, hl with | [_, _, _], _ => rfl
    m__law_rising := PySem.W.mg_of X G a31
    k__law_rising := k31
    F__law_rising := fun_mk (st := s__law_rising) l31 c31 k31
    b__law_rising := (fun_mk (st := s__law_rising) l31 c31 k31).binds (ps := ["box", "many"]) fun _ _ _ _ _ _ us hl => match us, hl with | [_, _], _ => rfl
    m__law_ranks := PySem.W.mg_of X G a32
    k__law_ranks := k32
    F__law_ranks := fun_mk (st := s__law_ranks) l32 c32 k32
    b__law_ranks := (fun_mk (st := s__law_ranks) l32 c32 k32).binds (ps := []) fun _ _ _ _ _ _ us hl => match us, hl with | [], _ => rfl
    m__law_pair := PySem.W.mg_of X G a33
    k__law_pair := k33
    F__law_pair := fun_mk (st := s__law_pair) l33 c33 k33
    b__law_pair := (fun_mk (st := s__law_pair) l33 c33 k33).binds (ps := ["box", "which"]) fun _ _ _ _ _ _ us hl => match us, hl with | [_, _], _ => rfl
    m__law_place := PySem.W.mg_of X G a34
    k__law_place := k34
    F__law_place := fun_mk (st := s__law_place) l34 c34 k34
    b__law_place := (fun_mk (st := s__law_place) l34 c34 k34).binds (ps := ["moment", "start", "end"]) fun _ _ _ _ _ _ us hl => match us, hl with | [_, _, _], _ => rfl
    m__law_relation := PySem.W.mg_of X G a35
    k__law_relation := k35
    F__law_relation := fun_mk (st := s__law_relation) l35 c35 k35
    b__law_relation := (fun_mk (st := s__law_relation) l35 c35 k35).binds (ps := ["one", "other"]) fun _ _ _ _ _ _ us hl => match us, hl with | [_, _], _ => rfl
    m__law_moved := PySem.W.mg_of X G a36
    k__law_moved := k36
    F__law_moved := fun_mk (st := s__law_moved) l36 c36 k36
    b__law_moved := (fun_mk (st := s__law_moved) l36 c36 k36).binds (ps := ["which", "way"]) fun _ _ _ _ _ _ us hl => match us, hl with | [_, _], _ => rfl
    m__law_dues := PySem.W.mg_of X G a37
    k__law_dues := k37
    F__law_dues := fun_mk (st := s__law_dues) l37 c37 k37
    b__law_dues := (fun_mk (st := s__law_dues) l37 c37 k37).binds (ps := ["some", "more"]) fun _ _ _ _ _ _ us hl => match us, hl with | [_, _], _ => rfl
    m_is_tuple_of := PySem.W.mg_of X G a38
    k_is_tuple_of := k38
    F_is_tuple_of := fun_mk (st := s_is_tuple_of) l38 c38 k38
    b_is_tuple_of := (fun_mk (st := s_is_tuple_of) l38 c38 k38).binds (ps := ["value", "many"]) fun _ _ _ _ _ _ us hl => match us, hl with | [_, _], _ => rfl
    m_is_whole := PySem.W.mg_of X G a39
    k_is_whole := k39
    F_is_whole := fun_mk (st := s_is_whole) l39 c39 k39
    b_is_whole := (fun_mk (st := s_is_whole) l39 c39 k39).binds (ps := ["value"]) fun _ _ _ _ _ _ us hl => match us, hl with | [_], _ => rfl
    k_is_stay_h18 := k40
    F_is_stay_h18 := fun_mk (st := s_is_stay_h18) l40 c40 k40
    b_is_stay_h18 := (fun_mk (st := s_is_stay_h18) l40 c40 k40).binds (ps := ["value"]) fun _ _ _ _ _ _ us hl => match us, hl with | [_], _ => rfl
    m_is_stay := PySem.W.mg_of X G a41
    k_is_stay := k41
    F_is_stay := fun_mk (st := s_is_stay) l41 c41 k41
    b_is_stay := (fun_mk (st := s_is_stay) l41 c41 k41).binds (ps := ["value"]) fun _ _ _ _ _ _ us hl => match us, hl with | [_], _ => rfl
    m_check_stays := PySem.W.mg_of X G a42
    k_check_stays := k42
    F_check_stays := fun_mk (st := s_check_stays) l42 c42 k42
    b_check_stays := (fun_mk (st := s_check_stays) l42 c42 k42).binds (ps := ["one", "other"]) fun _ _ _ _ _ _ us hl => match us, hl with | [_, _], _ => rfl
    m_place := PySem.W.mg_of X G a43
    k_place := k43
    F_place := fun_mk (st := s_place) l43 c43 k43
    b_place := (fun_mk (st := s_place) l43 c43 k43).binds (ps := ["moment", "stay"]) fun _ _ _ _ _ _ us hl => match us, hl with | [_, _], _ => rfl
    m_number_of := PySem.W.mg_of X G a44
    k_number_of := k44
    F_number_of := fun_mk (st := s_number_of) l44 c44 k44
    b_number_of := (fun_mk (st := s_number_of) l44 c44 k44).binds (ps := ["one", "other"]) fun _ _ _ _ _ _ us hl => match us, hl with | [_, _], _ => rfl
    m_met_by := PySem.W.mg_of X G a45
    k_met_by := k45
    F_met_by := fun_mk (st := s_met_by) l45 c45 k45
    b_met_by := (fun_mk (st := s_met_by) l45 c45 k45).binds (ps := ["number", "one", "other"]) fun _ _ _ _ _ _ us hl => match us, hl with | [_, _, _], _ => rfl
    k_Question_meets := k46
    F_Question_meets := fun_mk (st := s_Question_meets) l46 c46 k46
    b_Question_meets := (fun_mk (st := s_Question_meets) l46 c46 k46).binds (ps := ["self", "one", "other"]) fun _ _ _ _ _ _ us hl => match us, hl with | [_, _, _], _ => rfl
    mt_Question_meets := ⟨a46, i46, k46⟩
    m__law_two_right := PySem.W.mg_of X G a47
    k__law_two_right := k47
    F__law_two_right := fun_mk (st := s__law_two_right) l47 c47 k47
    b__law_two_right := (fun_mk (st := s__law_two_right) l47 c47 k47).binds (ps := ["box", "some", "more", "named"]) fun _ _ _ _ _ _ us hl => match us, hl with | [_, _, _, _], _ => rfl
    m_law := PySem.W.mg_of X G a48
    k_law := k48
    F_law := fun_mk (st := s_law) l48 c48 k48
    b_law := (fun_mk (st := s_law) l48 c48 k48).binds (ps := ["script"]) fun _ _ _ _ _ _ us hl => match us, hl with | [_], _ => rfl
    m_is_stay_shapes := PySem.W.mg_of X G y_is_stay_shapes
    m_is_stay_stays := PySem.W.mg_of X G y_is_stay_stays
    kb_both_0_other_one := fun s us ws _ hu hw => match us, ws, hu, hw with | [], [_, _], _, _ => .of_eq rfl
    kb_either_0_other_one := fun s us ws _ hu hw => match us, ws, hu, hw with | [], [_, _], _, _ => .of_eq rfl
    kb_without_0_other_one := fun s us ws _ hu hw => match us, ws, hu, hw with | [], [_, _], _, _ => .of_eq rfl
    kb_opposite_0_question := fun s us ws _ hu hw => match us, ws, hu, hw with | [], [_], _, _ => .of_eq rfl
    kb_turned_of_0_question := fun s us ws _ hu hw => match us, ws, hu, hw with | [], [_], _, _ => .of_eq rfl
    kb_mirrored_of_0_question := fun s us ws _ hu hw => match us, ws, hu, hw with | [], [_], _, _ => .of_eq rfl
    cl_Question := ⟨pg0, hd0, po0, sa0⟩
    at_Question := rfl
    na_Question := fun f hf => by
      have hf : f ∈ (["number"] : List Str) := hf
      simp only [List.mem_cons, List.not_mem_nil, or_false] at hf
      rcases hf with rfl
      · exact n0_0
    mc_Question := PySem.W.mg_of X G mc0
    mk_Question := ⟨mk0, a10, i10, kc0⟩
    x_InvalidRelations := { gC := PySem.W.mg_of X G xc1, cls := ⟨nm1, qn1, N1, bs1, _, sn1, sb1, ab1, co1, dd1, m01, m11, m21, m31, m51, xl1, ⟨[B0], rfl⟩⟩, sa := xs1, ga := xg1, gg := xh1, noN := xn1, iC := xi1, tC := xt1, kC := xk1, exC := xe1, tyC := xy1, hdC := xz1, fn := ⟨_, _, _, _, _, _, _, _, _, _, _, _, _, _, xf1, xd1⟩ }
    xa_InvalidRelations := rfl
    x_InvalidQuestion := { gC := PySem.W.mg_of X G xc2, cls := ⟨nm2, qn2, N2, bs2, _, sn2, sb2, ab2, co2, dd2, m02, m12, m22, m32, m52, xl2, ⟨[B0], rfl⟩⟩, sa := xs2, ga := xg2, gg := xh2, noN := xn2, iC := xi2, tC := xt2, kC := xk2, exC := xe2, tyC := xy2, hdC := xz2, fn := ⟨_, _, _, _, _, _, _, _, _, _, _, _, _, _, xf2, xd2⟩ }
    xa_InvalidQuestion := rfl
    x_InvalidStay := { gC := PySem.W.mg_of X G xc3, cls := ⟨nm3, qn3, N3, bs3, _, sn3, sb3, ab3, co3, dd3, m03, m13, m23, m33, m53, xl3, ⟨[B0], rfl⟩⟩, sa := xs3, ga := xg3, gg := xh3, noN := xn3, iC := xi3, tC := xt3, kC := xk3, exC := xe3, tyC := xy3, hdC := xz3, fn := ⟨_, _, _, _, _, _, _, _, _, _, _, _, _, _, xf3, xd3⟩ }
    xa_InvalidStay := rfl
    xm_InvalidRelations := fun c hc => by
      rcases List.mem_cons.mp hc with rfl | hc
      · exact exm_of xe1 xq1 xy1 xx1_1
      rcases List.mem_cons.mp hc with rfl | hc
      · exact exm_of xe1 xq1 xy1 xx2_1
      rcases List.mem_cons.mp hc with rfl | hc
      · exact exm_of xe1 xq1 xy1 xx3_1
      cases hc
    xm_InvalidQuestion := fun c hc => by
      rcases List.mem_cons.mp hc with rfl | hc
      · exact exm_of xe2 xq2 xy2 xx1_2
      rcases List.mem_cons.mp hc with rfl | hc
      · exact exm_of xe2 xq2 xy2 xx2_2
      rcases List.mem_cons.mp hc with rfl | hc
      · exact exm_of xe2 xq2 xy2 xx3_2
      cases hc
    xm_InvalidStay := fun c hc => by
      rcases List.mem_cons.mp hc with rfl | hc
      · exact exm_of xe3 xq3 xy3 xx1_3
      rcases List.mem_cons.mp hc with rfl | hc
      · exact exm_of xe3 xq3 xy3 xx2_3
      rcases List.mem_cons.mp hc with rfl | hc
      · exact exm_of xe3 xq3 xy3 xx3_3
      cases hc
    xat := fun c hc => by
      rcases List.mem_cons.mp hc with rfl | hc
      · rfl
      rcases List.mem_cons.mp hc with rfl | hc
      · rfl
      rcases List.mem_cons.mp hc with rfl | hc
      · rfl
      cases hc
    ki := by
      refine ⟨fun c hc n hn => ?_, fun c hc n hn => ?_, fun c hc c' hc' => ?_, fun c hc => ?_, fun c hc => ?_, hn, ht, fun c hc => ?_⟩
      · obtain rfl := List.mem_singleton.mp hc
        rcases List.mem_cons.mp hn with rfl | hn
        · exact ka0_int
        rcases List.mem_cons.mp hn with rfl | hn
        · exact ka0_bool
        rcases List.mem_cons.mp hn with rfl | hn
        · exact ka0_str
        rcases List.mem_cons.mp hn with rfl | hn
        · exact ka0_list
        rcases List.mem_cons.mp hn with rfl | hn
        · exact ka0_tuple
        cases hn
      · obtain rfl := List.mem_singleton.mp hc
        rcases List.mem_cons.mp hn with rfl | hn
        · exact kb0_NoneType
        rcases List.mem_cons.mp hn with rfl | hn
        · exact kb0_bool
        rcases List.mem_cons.mp hn with rfl | hn
        · exact kb0_int
        rcases List.mem_cons.mp hn with rfl | hn
        · exact kb0_str
        rcases List.mem_cons.mp hn with rfl | hn
        · exact kb0_list
        rcases List.mem_cons.mp hn with rfl | hn
        · exact kb0_tuple
        rcases List.mem_cons.mp hn with rfl | hn
        · exact kb0_dict
        cases hn
      · obtain rfl := List.mem_singleton.mp hc
        obtain rfl := List.mem_singleton.mp hc'
        exact kk0_0
      · obtain rfl := List.mem_singleton.mp hc
        exact ⟨pg0, hd0, po0, sa0⟩
      · obtain rfl := List.mem_singleton.mp hc
        exact ha0
      · obtain rfl := List.mem_singleton.mp hc
        exact hm0
    m_RELATIONS := PySem.W.mg_of X G ce0
    c_RELATIONS := fun G => (.tup (xs := [.str "before", .str "meets", .str "overlaps", .str "ended", .str "holds", .str "starts", .str "equal", .str "started", .str "during", .str "ends", .str "lapped", .str "met", .str "after"]) (.inr ⟨_, _, _, u0q0l, rfl, rfl, show (13 : Nat) ≤ sizeLine by decide, (.cons ⟨_, rfl⟩ (.cons ⟨_, rfl⟩ (.cons ⟨_, rfl⟩ (.cons ⟨_, rfl⟩ (.cons ⟨_, rfl⟩ (.cons ⟨_, rfl⟩ (.cons ⟨_, rfl⟩ (.cons ⟨_, rfl⟩ (.cons ⟨_, rfl⟩ (.cons ⟨_, rfl⟩ (.cons ⟨_, rfl⟩ (.cons ⟨_, rfl⟩ (.cons ⟨_, rfl⟩ .nil)))))))))))))⟩) (.cons (.str _) (.cons (.str _) (.cons (.str _) (.cons (.str _) (.cons (.str _) (.cons (.str _) (.cons (.str _) (.cons (.str _) (.cons (.str _) (.cons (.str _) (.cons (.str _) (.cons (.str _) (.cons (.str _) .nil))))))))))))))
    k_RELATIONS := ⟨_, u0q0l, rfl, rfl⟩
    q_RELATIONS := fun H => .inr ⟨_, _, _, u0q0l, rfl, rfl, show (13 : Nat) ≤ sizeLine by decide, (.cons ⟨_, rfl⟩ (.cons ⟨_, rfl⟩ (.cons ⟨_, rfl⟩ (.cons ⟨_, rfl⟩ (.cons ⟨_, rfl⟩ (.cons ⟨_, rfl⟩ (.cons ⟨_, rfl⟩ (.cons ⟨_, rfl⟩ (.cons ⟨_, rfl⟩ (.cons ⟨_, rfl⟩ (.cons ⟨_, rfl⟩ (.cons ⟨_, rfl⟩ (.cons ⟨_, rfl⟩ .nil)))))))))))))⟩
    m_MIRRORED := PySem.W.mg_of X G ce1
    c_MIRRORED := fun G => (.tup (xs := [.int (12), .int (11), .int (10), .int (7), .int (4), .int (9), .int (6), .int (3), .int (8), .int (5), .int (2), .int (1), .int (0)]) (.inr ⟨_, _, _, u1q14l, rfl, rfl, show (13 : Nat) ≤ sizeLine by decide, (.cons ⟨_, rfl⟩ (.cons ⟨_, rfl⟩ (.cons ⟨_, rfl⟩ (.cons ⟨_, rfl⟩ (.cons ⟨_, rfl⟩ (.cons ⟨_, rfl⟩ (.cons ⟨_, rfl⟩ (.cons ⟨_, rfl⟩ (.cons ⟨_, rfl⟩ (.cons ⟨_, rfl⟩ (.cons ⟨_, rfl⟩ (.cons ⟨_, rfl⟩ (.cons ⟨_, rfl⟩ .nil)))))))))))))⟩) (.cons (.int _) (.cons (.int _) (.cons (.int _) (.cons (.int _) (.cons (.int _) (.cons (.int _) (.cons (.int _) (.cons (.int _) (.cons (.int _) (.cons (.int _) (.cons (.int _) (.cons (.int _) (.cons (.int _) .nil))))))))))))))
    m_EVERY := ⟨_, PySem.W.mg_of X G ce2⟩
    m_TURNED := PySem.W.mg_of X G ce3
    c_TURNED := fun G => (.tup (xs := [.int (12), .int (11), .int (10), .int (9), .int (8), .int (7), .int (6), .int (5), .int (4), .int (3), .int (2), .int (1), .int (0)]) (.inr ⟨_, _, _, u3q28l, rfl, rfl, show (13 : Nat) ≤ sizeLine by decide, (.cons ⟨_, rfl⟩ (.cons ⟨_, rfl⟩ (.cons ⟨_, rfl⟩ (.cons ⟨_, rfl⟩ (.cons ⟨_, rfl⟩ (.cons ⟨_, rfl⟩ (.cons ⟨_, rfl⟩ (.cons ⟨_, rfl⟩ (.cons ⟨_, rfl⟩ (.cons ⟨_, rfl⟩ (.cons ⟨_, rfl⟩ (.cons ⟨_, rfl⟩ (.cons ⟨_, rfl⟩ .nil)))))))))))))⟩) (.cons (.int _) (.cons (.int _) (.cons (.int _) (.cons (.int _) (.cons (.int _) (.cons (.int _) (.cons (.int _) (.cons (.int _) (.cons (.int _) (.cons (.int _) (.cons (.int _) (.cons (.int _) (.cons (.int _) .nil))))))))))))))
    m_NUMBERS := PySem.W.mg_of X G ce4
    c_NUMBERS := fun G => (.tup (xs := [.ref u4q43, .ref u4q49, .ref u4q55, .ref u4q61, .ref u4q67]) (.inr ⟨_, _, _, u4q42l, rfl, rfl, show (5 : Nat) ≤ sizeLine by decide, (.cons rfl (.cons rfl (.cons rfl (.cons rfl (.cons rfl .nil)))))⟩) (.cons (.tup (xs := [.int (0), .int (1), .int (2), .int (3), .int (4)]) (.inr ⟨_, _, _, u4q43l, rfl, rfl, show (5 : Nat) ≤ sizeLine by decide, (.cons ⟨_, rfl⟩ (.cons ⟨_, rfl⟩ (.cons ⟨_, rfl⟩ (.cons ⟨_, rfl⟩ (.cons ⟨_, rfl⟩ .nil)))))⟩) (.cons (.int _) (.cons (.int _) (.cons (.int _) (.cons (.int _) (.cons (.int _) .nil)))))) (.cons (.tup (xs := [.int (-1), .int (-1), .int (5), .int (6), .int (7)]) (.inr ⟨_, _, _, u4q49l, rfl, rfl, show (5 : Nat) ≤ sizeLine by decide, (.cons ⟨_, rfl⟩ (.cons ⟨_, rfl⟩ (.cons ⟨_, rfl⟩ (.cons ⟨_, rfl⟩ (.cons ⟨_, rfl⟩ .nil)))))⟩) (.cons (.int _) (.cons (.int _) (.cons (.int _) (.cons (.int _) (.cons (.int _) .nil)))))) (.cons (.tup (xs := [.int (-1), .int (-1), .int (8), .int (9), .int (10)]) (.inr ⟨_, _, _, u4q55l, rfl, rfl, show (5 : Nat) ≤ sizeLine by decide, (.cons ⟨_, rfl⟩ (.cons ⟨_, rfl⟩ (.cons ⟨_, rfl⟩ (.cons ⟨_, rfl⟩ (.cons ⟨_, rfl⟩ .nil)))))⟩) (.cons (.int _) (.cons (.int _) (.cons (.int _) (.cons (.int _) (.cons (.int _) .nil)))))) (.cons (.tup (xs := [.int (-1), .int (-1), .int (-1), .int (-1), .int (11)]) (.inr ⟨_, _, _, u4q61l, rfl, rfl, show (5 : Nat) ≤ sizeLine by decide, (.cons ⟨_, rfl⟩ (.cons ⟨_, rfl⟩ (.cons ⟨_, rfl⟩ (.cons ⟨_, rfl⟩ (.cons ⟨_, rfl⟩ .nil)))))⟩) (.cons (.int _) (.cons (.int _) (.cons (.int _) (.cons (.int _) (.cons (.int _) .nil)))))) (.cons (.tup (xs := [.int (-1), .int (-1), .int (-1), .int (-1), .int (12)]) (.inr ⟨_, _, _, u4q67l, rfl, rfl, show (5 : Nat) ≤ sizeLine by decide, (.cons ⟨_, rfl⟩ (.cons ⟨_, rfl⟩ (.cons ⟨_, rfl⟩ (.cons ⟨_, rfl⟩ (.cons ⟨_, rfl⟩ .nil)))))⟩) (.cons (.int _) (.cons (.int _) (.cons (.int _) (.cons (.int _) (.cons (.int _) .nil)))))) .nil)))))) }
  exact ⟨_, fun s v => .of_eq rfl, fun base _ _ => FnG.imp (ok_law (P := l.prog) (w := w) (base := base) E) fun vs H Q E h => law_in plain h⟩
end K04
open PySem PySem.W PyProof.Rows in
set_option maxRecDepth 100000 in
set_option maxHeartbeats 0 in
theorem PySem.Challenge.cw_stayskept_k04_questions_put_together_holds : PySem.Challenge.rw_stayskept_k04_questions_put_together.Holds := by
  refine head ?_
  k_fill
  refine K04.walk (l := PySem.Challenge.rw_stayskept_k04_questions_put_together) rfl rfl (fun w h Y => PySem.W.kIn_of Y) ?F
  case F =>
    intro w mg fa h KX G hmg
    refine' K04.all_mk KX G hmg ?mc0 ?a0 ?l0 ?c0 ?k0 ?a1 ?l1 ?c1 ?k1 ?a2 ?l2 ?c2 ?k2 ?a3 ?l3 ?c3 ?k3 ?a4 ?l4 ?c4 ?k4 ?a5 ?l5 ?c5 ?k5 ?a6 ?i6 ?l6 ?c6 ?k6 ?a7 ?l7 ?c7 ?k7 ?a8 ?l8 ?c8 ?k8 ?a9 ?l9 ?c9 ?k9 ?a10 ?i10 ?l10 ?c10 ?k10 ?a11 ?l11 ?c11 ?k11 ?a12 ?l12 ?c12 ?k12 ?a13 ?l13 ?c13 ?k13 ?a14 ?l14 ?c14 ?k14 ?a15 ?l15 ?c15 ?k15 ?a16 ?l16 ?c16 ?k16 ?a17 ?l17 ?c17 ?k17 ?a18 ?l18 ?c18 ?k18 ?a19 ?l19 ?c19 ?k19 ?a20 ?l20 ?c20 ?k20 ?a21 ?l21 ?c21 ?k21 ?a22 ?l22 ?c22 ?k22 ?a23 ?l23 ?c23 ?k23 ?a24 ?l24 ?c24 ?k24 ?a25 ?l25 ?c25 ?k25 ?a26 ?l26 ?c26 ?k26 ?a27 ?l27 ?c27 ?k27 ?a28 ?l28 ?c28 ?k28 ?a29 ?l29 ?c29 ?k29 ?a30 ?l30 ?c30 ?k30 ?a31 ?l31 ?c31 ?k31 ?a32 ?l32 ?c32 ?k32 ?a33 ?l33 ?c33 ?k33 ?a34 ?l34 ?c34 ?k34 ?a35 ?l35 ?c35 ?k35 ?a36 ?l36 ?c36 ?k36 ?a37 ?l37 ?c37 ?k37 ?a38 ?l38 ?c38 ?k38 ?a39 ?l39 ?c39 ?k39 ?a40 ?l40 ?c40 ?k40 ?a41 ?l41 ?c41 ?k41 ?a42 ?l42 ?c42 ?k42 ?a43 ?l43 ?c43 ?k43 ?a44 ?l44 ?c44 ?k44 ?a45 ?l45 ?c45 ?k45 ?a46 ?i46 ?l46 ?c46 ?k46 ?a47 ?l47 ?c47 ?k47 ?a48 ?l48 ?c48 ?k48 ?z_abs ?z_all ?z_bool ?z_int ?z_isinstance ?z_len ?z_list ?z_max ?z_min ?z_range ?z_repr ?z_set ?z_sorted ?z_str ?z_sum ?z_tuple ?y_is_stay_shapes ?y_is_stay_stays ?pg0 ?hd0 ?po0 ?sa0 ?mk0 ?kc0 ?n0_0 ?ha0 ?hm0 ?ka0_int ?ka0_bool ?ka0_str ?ka0_list ?ka0_tuple ?kb0_NoneType ?kb0_bool ?kb0_int ?kb0_str ?kb0_list ?kb0_tuple ?kb0_dict ?kk0_0 ?xc1 ?bb0 ?xl1 ?xs1 ?xg1 ?xh1 ?xn1 ?xi1 ?xt1 ?xf1 ?xd1 ?xk1 ?xe1 ?xy1 ?xz1 ?xq1 ?xc2 ?xl2 ?xs2 ?xg2 ?xh2 ?xn2 ?xi2 ?xt2 ?xf2 ?xd2 ?xk2 ?xe2 ?xy2 ?xz2 ?xq2 ?xc3 ?xl3 ?xs3 ?xg3 ?xh3 ?xn3 ?xi3 ?xt3 ?xf3 ?xd3 ?xk3 ?xe3 ?xy3 ?xz3 ?xq3 ?xx1_1 ?xx2_1 ?xx3_1 ?xx1_2 ?xx2_2 ?xx3_2 ?xx1_3 ?xx2_3 ?xx3_3 ?hn ?ht ?ce0 ?u0q0l ?ce1 ?u1q14l ?ce2 ?ce3 ?u3q28l ?ce4 ?u4q42l ?u4q43l ?u4q49l ?u4q55l ?u4q61l ?u4q67l
    (case mc0 => k_is)
    (case a0 => k_is)
    (case l0 => k_is)
    (case c0 => k_is)
    (case k0 => k_is)
    (case a1 => k_is)
    (case l1 => k_is)
    (case c1 => k_is)
    (case k1 => k_is)
    (case a2 => k_is)
    (case l2 => k_is)
    (case c2 => k_is)
    (case k2 => k_is)
    (case a3 => k_is)
    (case l3 => k_is)
    (case c3 => k_is)
    (case k3 => k_is)
    (case a4 => k_is)
    (case l4 => k_is)
    (case c4 => k_is)
    (case k4 => k_is)
    (case a5 => k_is)
    (case l5 => k_is)
    (case c5 => k_is)
    (case k5 => k_is)
    (case a6 => k_is)
    (case i6 => k_is)
    (case l6 => k_is)
    (case c6 => k_is)
    (case k6 => k_is)
    (case a7 => k_is)
    (case l7 => k_is)
    (case c7 => k_is)
    (case k7 => k_is)
    (case a8 => k_is)
    (case l8 => k_is)
    (case c8 => k_is)
    (case k8 => k_is)
    (case a9 => k_is)
    (case l9 => k_is)
    (case c9 => k_is)
    (case k9 => k_is)
    (case a10 => k_is)
    (case i10 => k_is)
    (case l10 => k_is)
    (case c10 => k_is)
    (case k10 => k_is)
    (case a11 => k_is)
    (case l11 => k_is)
    (case c11 => k_is)
    (case k11 => k_is)
    (case a12 => k_is)
    (case l12 => k_is)
    (case c12 => k_is)
    (case k12 => k_is)
    (case a13 => k_is)
    (case l13 => k_is)
    (case c13 => k_is)
    (case k13 => k_is)
    (case a14 => k_is)
    (case l14 => k_is)
    (case c14 => k_is)
    (case k14 => k_is)
    (case a15 => k_is)
    (case l15 => k_is)
    (case c15 => k_is)
    (case k15 => k_is)
    (case a16 => k_is)
    (case l16 => k_is)
    (case c16 => k_is)
    (case k16 => k_is)
    (case a17 => k_is)
    (case l17 => k_is)
    (case c17 => k_is)
    (case k17 => k_is)
    (case a18 => k_is)
    (case l18 => k_is)
    (case c18 => k_is)
    (case k18 => k_is)
    (case a19 => k_is)
    (case l19 => k_is)
    (case c19 => k_is)
    (case k19 => k_is)
    (case a20 => k_is)
    (case l20 => k_is)
    (case c20 => k_is)
    (case k20 => k_is)
    (case a21 => k_is)
    (case l21 => k_is)
    (case c21 => k_is)
    (case k21 => k_is)
    (case a22 => k_is)
    (case l22 => k_is)
    (case c22 => k_is)
    (case k22 => k_is)
    (case a23 => k_is)
    (case l23 => k_is)
    (case c23 => k_is)
    (case k23 => k_is)
    (case a24 => k_is)
    (case l24 => k_is)
    (case c24 => k_is)
    (case k24 => k_is)
    (case a25 => k_is)
    (case l25 => k_is)
    (case c25 => k_is)
    (case k25 => k_is)
    (case a26 => k_is)
    (case l26 => k_is)
    (case c26 => k_is)
    (case k26 => k_is)
    (case a27 => k_is)
    (case l27 => k_is)
    (case c27 => k_is)
    (case k27 => k_is)
    (case a28 => k_is)
    (case l28 => k_is)
    (case c28 => k_is)
    (case k28 => k_is)
    (case a29 => k_is)
    (case l29 => k_is)
    (case c29 => k_is)
    (case k29 => k_is)
    (case a30 => k_is)
    (case l30 => k_is)
    (case c30 => k_is)
    (case k30 => k_is)
    (case a31 => k_is)
    (case l31 => k_is)
    (case c31 => k_is)
    (case k31 => k_is)
    (case a32 => k_is)
    (case l32 => k_is)
    (case c32 => k_is)
    (case k32 => k_is)
    (case a33 => k_is)
    (case l33 => k_is)
    (case c33 => k_is)
    (case k33 => k_is)
    (case a34 => k_is)
    (case l34 => k_is)
    (case c34 => k_is)
    (case k34 => k_is)
    (case a35 => k_is)
    (case l35 => k_is)
    (case c35 => k_is)
    (case k35 => k_is)
    (case a36 => k_is)
    (case l36 => k_is)
    (case c36 => k_is)
    (case k36 => k_is)
    (case a37 => k_is)
    (case l37 => k_is)
    (case c37 => k_is)
    (case k37 => k_is)
    (case a38 => k_is)
    (case l38 => k_is)
    (case c38 => k_is)
    (case k38 => k_is)
    (case a39 => k_is)
    (case l39 => k_is)
    (case c39 => k_is)
    (case k39 => k_is)
    (case a40 => k_is)
    (case l40 => k_is)
    (case c40 => k_is)
    (case k40 => k_is)
    (case a41 => k_is)
    (case l41 => k_is)
    (case c41 => k_is)
    (case k41 => k_is)
    (case a42 => k_is)
    (case l42 => k_is)
    (case c42 => k_is)
    (case k42 => k_is)
    (case a43 => k_is)
    (case l43 => k_is)
    (case c43 => k_is)
    (case k43 => k_is)
    (case a44 => k_is)
    (case l44 => k_is)
    (case c44 => k_is)
    (case k44 => k_is)
    (case a45 => k_is)
    (case l45 => k_is)
    (case c45 => k_is)
    (case k45 => k_is)
    (case a46 => k_is)
    (case i46 => k_is)
    (case l46 => k_is)
    (case c46 => k_is)
    (case k46 => k_is)
    (case a47 => k_is)
    (case l47 => k_is)
    (case c47 => k_is)
    (case k47 => k_is)
    (case a48 => k_is)
    (case l48 => k_is)
    (case c48 => k_is)
    (case k48 => k_is)
    (case z_abs => k_is)
    (case z_all => k_is)
    (case z_bool => k_is)
    (case z_int => k_is)
    (case z_isinstance => k_is)
    (case z_len => k_is)
    (case z_list => k_is)
    (case z_max => k_is)
    (case z_min => k_is)
    (case z_range => k_is)
    (case z_repr => k_is)
    (case z_set => k_is)
    (case z_sorted => k_is)
    (case z_str => k_is)
    (case z_sum => k_is)
    (case z_tuple => k_is)
    (case y_is_stay_shapes => k_is)
    (case y_is_stay_stays => k_is)
    (case pg0 => k_is)
    (case hd0 => k_is)
    (case po0 => k_is)
    (case sa0 => k_is)
    (case mk0 => k_is)
    (case kc0 => k_is)
    (case n0_0 => k_is)
    (case ha0 => k_is)
    (case hm0 => k_is)
    (case ka0_int => first | kernel_rfl | rfl | k_is)
    (case ka0_bool => first | kernel_rfl | rfl | k_is)
    (case ka0_str => first | kernel_rfl | rfl | k_is)
    (case ka0_list => first | kernel_rfl | rfl | k_is)
    (case ka0_tuple => first | kernel_rfl | rfl | k_is)
    (case kb0_NoneType => first | kernel_rfl | rfl | k_is)
    (case kb0_bool => first | kernel_rfl | rfl | k_is)
    (case kb0_int => first | kernel_rfl | rfl | k_is)
    (case kb0_str => first | kernel_rfl | rfl | k_is)
    (case kb0_list => first | kernel_rfl | rfl | k_is)
    (case kb0_tuple => first | kernel_rfl | rfl | k_is)
    (case kb0_dict => first | kernel_rfl | rfl | k_is)
    (case kk0_0 => first | kernel_rfl | rfl | k_is)
    (case xc1 => k_is)
    (case bb0 => k_is)
    (case xl1 => k_is)
    (case xs1 => k_is)
    (case xg1 => k_is)
    (case xh1 => k_is)
    (case xn1 => k_is)
    (case xi1 => k_is)
    (case xt1 => k_is)
    (case xf1 => k_is)
    (case xd1 => k_is)
    (case xk1 => k_is)
    (case xe1 => k_is)
    (case xy1 => k_is)
    (case xz1 => k_is)
    (case xq1 => k_is)
    (case xc2 => k_is)
    (case xl2 => k_is)
    (case xs2 => k_is)
    (case xg2 => k_is)
    (case xh2 => k_is)
    (case xn2 => k_is)
    (case xi2 => k_is)
    (case xt2 => k_is)
    (case xf2 => k_is)
    (case xd2 => k_is)
    (case xk2 => k_is)
    (case xe2 => k_is)
    (case xy2 => k_is)
    (case xz2 => k_is)
    (case xq2 => k_is)
    (case xc3 => k_is)
    (case xl3 => k_is)
    (case xs3 => k_is)
    (case xg3 => k_is)
    (case xh3 => k_is)
    (case xn3 => k_is)
    (case xi3 => k_is)
    (case xt3 => k_is)
    (case xf3 => k_is)
    (case xd3 => k_is)
    (case xk3 => k_is)
    (case xe3 => k_is)
    (case xy3 => k_is)
    (case xz3 => k_is)
    (case xq3 => k_is)
    (case xx1_1 => first | kernel_rfl | rfl | k_is)
    (case xx2_1 => first | kernel_rfl | rfl | k_is)
    (case xx3_1 => first | kernel_rfl | rfl | k_is)
    (case xx1_2 => first | kernel_rfl | rfl | k_is)
    (case xx2_2 => first | kernel_rfl | rfl | k_is)
    (case xx3_2 => first | kernel_rfl | rfl | k_is)
    (case xx1_3 => first | kernel_rfl | rfl | k_is)
    (case xx2_3 => first | kernel_rfl | rfl | k_is)
    (case xx3_3 => first | kernel_rfl | rfl | k_is)
    (case hn => k_is)
    (case ht => k_is)
    (case ce0 => k_is)
    (case u0q0l => k_is)
    (case ce1 => k_is)
    (case u1q14l => k_is)
    (case ce2 => k_is)
    (case ce3 => k_is)
    (case u3q28l => k_is)
    (case ce4 => k_is)
    (case u4q42l => k_is)
    (case u4q43l => k_is)
    (case u4q49l => k_is)
    (case u4q55l => k_is)
    (case u4q61l => k_is)
    (case u4q67l => k_is)
#print axioms PySem.Challenge.cw_stayskept_k04_questions_put_together_holds
