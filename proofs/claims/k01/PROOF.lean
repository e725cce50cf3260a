import PyProof.Rows.All
import HandS.ForMost
import HandS.Evl
import HandS.TupAny
import HandS.Style
import HandS.IsInst
import KE.GoesEnum
import KE.KDictZip
import KE.GoesMore
import HandS.Wide
import KE.SortData
import HandS.SortInts
import HandS.TupSets
import HandS.More
import HandS.Conv
import KE.DataMinMax
import HandS.Iter
import HandS.Star
import HandS.Deep
import HandS.TupMul
import HandS.Text
import PySem.Challenge.RW_meterdials_k01_dials_values
set_option Elab.async false
set_option linter.all false
set_option maxRecDepth 100000
set_option maxHeartbeats 1000000
/-! PuA: a pure layer over HandS. Data in a frozen part B of the heap H; a def's body read as a predicate over data alone. -/
namespace Pu
open PySem L2 Evl

abbrev D := PyData

/-! ### data in the heap -/
mutual
inductive Rep (B : Hp) : V → D → Prop
  | non : Rep B .non .none
  | bl (b : Bool) : Rep B (.bl b) (.bool b)
  | int (i : Int) : Rep B (.int i) (.int i)
  | str (x : Str) : Rep B (.str x) (.str x)
  | lst {a : Addr} {xs : List V} {ds : List D} : B a = some (.lst xs) → RepAll B xs ds → Rep B (.ref a) (.list ds)
  | tup {a : Addr} {xs : List V} {ds : List D} : B a = some (.tup xs) → RepAll B xs ds → Rep B (.ref a) (.tuple ds)
inductive RepAll (B : Hp) : List V → List D → Prop
  | nil : RepAll B [] []
  | cons {v : V} {vs : List V} {d : D} {ds : List D} : Rep B v d → RepAll B vs ds → RepAll B (v :: vs) (d :: ds)
end

mutual
theorem Rep.mono {B B' : Hp} (e : Ex B B') : ∀ (d : D) (v : V), Rep B v d → Rep B' v d
  | .none, _, h => by cases h; exact .non
  | .bool _, _, h => by cases h; exact .bl _
  | .int _, _, h => by cases h; exact .int _
  | .str _, _, h => by cases h; exact .str _
  | .list ds, _, h => by
    cases h with
    | lst h1 h2 => exact .lst (e _ _ h1) (RepAll.mono e ds _ h2)
  | .tuple ds, _, h => by
    cases h with
    | tup h1 h2 => exact .tup (e _ _ h1) (RepAll.mono e ds _ h2)
  | .dict _, _, h => nomatch h
theorem RepAll.mono {B B' : Hp} (e : Ex B B') : ∀ (ds : List D) (vs : List V), RepAll B vs ds → RepAll B' vs ds
  | [], _, h => by cases h; exact .nil
  | d :: ds, _, h => by
    cases h with
    | cons h1 h2 => exact .cons (Rep.mono e d _ h1) (RepAll.mono e ds _ h2)
end
mutual
theorem Rep.dp {K : PySem.W.Frag} {B H : Hp} (e : Ex B H) : ∀ (d : D) (v : V), Rep B v d → Dp K H v d
  | .none, _, h => by cases h; exact .non
  | .bool _, _, h => by cases h; exact .bl _
  | .int _, _, h => by cases h; exact .int _
  | .str _, _, h => by cases h; exact .str _
  | .list ds, _, h => by
    cases h with
    | lst h1 h2 => exact .lst (SqL.of (e _ _ h1)) (RepAll.dp e ds _ h2)
  | .tuple ds, _, h => by
    cases h with
    | tup h1 h2 => exact .tup (SqT.of (e _ _ h1)) (RepAll.dp e ds _ h2)
  | .dict _, _, h => nomatch h
theorem RepAll.dp {K : PySem.W.Frag} {B H : Hp} (e : Ex B H) : ∀ (ds : List D) (vs : List V), RepAll B vs ds → DpAll K H vs ds
  | [], _, h => by cases h; exact .nil
  | d :: ds, _, h => by
    cases h with
    | cons h1 h2 => exact .cons (Rep.dp e d _ h1) (RepAll.dp e ds _ h2)
end
theorem RepAll.len {B : Hp} : ∀ {ds : List D} {vs : List V}, RepAll B vs ds → vs.length = ds.length
  | [], _, h => by cases h; rfl
  | d :: ds, _, h => by
    cases h with
    | cons h1 h2 => simp [RepAll.len h2]
theorem RepAll.get {B : Hp} : ∀ {ds : List D} {vs : List V} {i : Nat} {d : D}, RepAll B vs ds → ds[i]? = some d → ∃ v, vs[i]? = some v ∧ Rep B v d
  | [], _, _, _, _, e => by simp at e
  | d :: ds, _, 0, _, h, e => by
    cases h with
    | cons h1 h2 => exact ⟨_, rfl, by simp at e; exact e ▸ h1⟩
  | d :: ds, _, i + 1, _, h, e => by
    cases h with
    | cons h1 h2 => exact RepAll.get (i := i) h2 (by simpa using e)
theorem RepAll.app {B : Hp} : ∀ {ds es : List D} {vs ws : List V}, RepAll B vs ds → RepAll B ws es → RepAll B (vs ++ ws) (ds ++ es)
  | [], _, _, _, h, g => by cases h; exact g
  | d :: ds, _, _, _, h, g => by
    cases h with
    | cons h1 h2 => exact .cons h1 (RepAll.app h2 g)
theorem RepAll.take {B : Hp} : ∀ {ds : List D} {vs : List V} (n : Nat), RepAll B vs ds → RepAll B (vs.take n) (ds.take n)
  | [], _, n, h => by cases h; simp; exact .nil
  | d :: ds, _, 0, h => by simp; exact .nil
  | d :: ds, _, n + 1, h => by
    cases h with
    | cons h1 h2 => exact .cons h1 (RepAll.take n h2)
theorem RepAll.drop {B : Hp} : ∀ {ds : List D} {vs : List V} (n : Nat), RepAll B vs ds → RepAll B (vs.drop n) (ds.drop n)
  | [], _, n, h => by cases h; simp; exact .nil
  | d :: ds, _, 0, h => h
  | d :: ds, _, n + 1, h => by
    cases h with
    | cons h1 h2 => exact RepAll.drop n h2
theorem RepAll.rev {B : Hp} : ∀ {ds : List D} {vs : List V}, RepAll B vs ds → RepAll B vs.reverse ds.reverse
  | [], _, h => by cases h; exact .nil
  | d :: ds, _, h => by
    cases h with
    | cons h1 h2 => rw [List.reverse_cons, List.reverse_cons]; exact RepAll.app (RepAll.rev h2) (.cons h1 .nil)
theorem RepAll.set {B : Hp} : ∀ {ds : List D} {vs : List V} {v : V} {d : D} (i : Nat), RepAll B vs ds → Rep B v d → RepAll B (vs.set i v) (ds.set i d)
  | [], _, _, _, i, h, g => by cases h; exact .nil
  | d :: ds, _, _, _, 0, h, g => by
    cases h with
    | cons h1 h2 => exact .cons g h2
  | d :: ds, _, _, _, i + 1, h, g => by
    cases h with
    | cons h1 h2 => exact .cons h1 (RepAll.set i h2 g)
theorem RepAll.ints {B : Hp} : ∀ (ns : List Int), RepAll B (ns.map V.int) (ns.map PyData.int)
  | [] => .nil
  | n :: ns => .cons (.int n) (RepAll.ints ns)
theorem RepAll.ofInts {B : Hp} : ∀ {ns : List Int} {vs : List V}, RepAll B vs (ns.map PyData.int) → vs = ns.map V.int
  | [], _, h => by cases h; rfl
  | n :: ns, _, h => by
    cases h with
    | cons h1 h2 => cases h1; rw [RepAll.ofInts h2]; rfl
theorem RepAll.bls {B : Hp} : ∀ (ns : List Bool), RepAll B (ns.map V.bl) (ns.map PyData.bool)
  | [] => .nil
  | n :: ns => .cons (.bl n) (RepAll.bls ns)
theorem RepAll.ofBls {B : Hp} : ∀ {ns : List Bool} {vs : List V}, RepAll B vs (ns.map PyData.bool) → vs = ns.map V.bl
  | [], _, h => by cases h; rfl
  | n :: ns, _, h => by
    cases h with
    | cons h1 h2 => cases h1; rw [RepAll.ofBls h2]; rfl

/-! ### entries: what a slot holds -/
inductive Ent where
  | u
  | d (x : D)
  | tp
  | ol (xs : List D)
  | oi (ks : List Int)
abbrev En := List Ent
def Ent.own : Ent → Bool
  | .ol _ => true
  | .oi _ => true
  | _ => false

def TapeOk (T : Option Addr) (B H : Hp) : Prop := ∀ t, T = some t → B t = none ∧ ∃ (S : Addr) (ns : List Int) (i c : Int), H t = some (.lst [.ref S, .int i, .int c]) ∧ B S = some (.lst (ns.map V.int)) ∧ 0 ≤ i ∧ 0 ≤ c
structure Step (T : Option Addr) (B H B' H' : Hp) : Prop where
  ex : Ex B B'
  keep : ∀ a o, H a = some o → T ≠ some a → H' a = some o
  new : ∀ a o, H a = some o → T ≠ some a → B a = none → B' a = none
/-- a value that an expression gives -/
def Res (T : Option Addr) (B : Hp) (v : V) : Ent → Prop
  | .d x => Rep B v x
  | .tp => ∃ t, T = some t ∧ v = .ref t
  | _ => False
def dKof (ks : List Int) : HO := .dK (ks.map fun k => (Sum.inl k, V.bl true))
/-- an owned object -/
def Own (T : Option Addr) (H0 B H : Hp) (v : V) : Ent → Prop
  | .ol xs => ∃ l vs, v = .ref l ∧ H0 l = none ∧ B l = none ∧ T ≠ some l ∧ H l = some (.lst vs) ∧ RepAll B vs xs
  | .oi ks => ∃ l, v = .ref l ∧ H0 l = none ∧ B l = none ∧ T ≠ some l ∧ H l = some (dKof ks)
  | _ => False
def REnt (T : Option Addr) (H0 B H : Hp) (o : Option V) (e : Ent) : Prop :=
  e = .u ∨ ∃ v, o = some v ∧ (Res T B v e ∨ Own T H0 B H v e)
structure St (T : Option Addr) (B0 H0 B H : Hp) (σ : L2.St) (ρ : En) : Prop where
  step : Step T B0 H0 B H
  ex : Ex B H
  tape : TapeOk T B H
  len : σ.length = ρ.length
  env : ∀ (i : Nat) (e : Ent), ρ[i]? = some e → ∃ o, σ[i]? = some o ∧ REnt T H0 B H o e
  sep : ∀ (i j : Nat) (e f : Ent) (l : Addr), i ≠ j → ρ[i]? = some e → ρ[j]? = some f → e.own = true → f.own = true → σ[i]? = some (some (.ref l)) → σ[j]? = some (some (.ref l)) → False

section
variable {T : Option Addr} {B0 H0 B H B1 H1 B2 H2 : Hp} {σ : L2.St} {ρ : En}
theorem Step.refl : Step T B H B H := ⟨Ex.refl B, fun _ _ h _ => h, fun _ _ _ _ h => h⟩
theorem Step.trans (a : Step T B H B1 H1) (b : Step T B1 H1 B2 H2) : Step T B H B2 H2 :=
  ⟨a.ex.trans b.ex, fun x o h n => b.keep x o (a.keep x o h n) n, fun x o h n hb => b.new x o (a.keep x o h n) n (a.new x o h n hb)⟩
theorem Step.back (a : Step T B H B1 H1) (t : TapeOk T B H) (t1 : TapeOk T B1 H1) {x : Addr} (h : H1 x = none) : H x = none ∧ T ≠ some x := by
  have n : T ≠ some x := fun e => by
    obtain ⟨_, S, ns, i, c, h1, _⟩ := t1 x e
    rw [h1] at h; cases h
  refine ⟨?_, n⟩
  cases q : H x with
  | none => rfl
  | some o => rw [a.keep x o q n] at h; cases h
theorem Res.mono {v : V} {e : Ent} (x : Ex B B1) (h : Res T B v e) : Res T B1 v e := by
  cases e with
  | d y => exact Rep.mono x _ _ h
  | tp => exact h
  | _ => exact h.elim
theorem St.fresh (S : St T B0 H0 B H σ ρ) {p : Addr} (hp : H p = none) : B p = none ∧ H0 p = none ∧ T ≠ some p := by
  have n : T ≠ some p := fun e => by
    obtain ⟨_, _, _, _, _, h1, _⟩ := S.tape p e
    rw [h1] at hp; cases hp
  refine ⟨?_, ?_, n⟩
  · cases q : B p with
    | none => rfl
    | some o => rw [S.ex p o q] at hp; cases hp
  · cases q : H0 p with
    | none => rfl
    | some o => rw [S.step.keep p o q n] at hp; cases hp
/-- the state grows: what stood stands -/
theorem St.grow (S : St T B0 H0 B H σ ρ) (s : Step T B H B1 H1) (ex : Ex B1 H1) (t : TapeOk T B1 H1) : St T B0 H0 B1 H1 σ ρ := by
  refine ⟨S.step.trans s, ex, t, S.len, fun i e he => ?_, S.sep⟩
  obtain ⟨o, h1, h2⟩ := S.env i e he
  refine ⟨o, h1, ?_⟩
  rcases h2 with h2 | ⟨v, h2, h3⟩
  · exact .inl h2
  · refine .inr ⟨v, h2, ?_⟩
    rcases h3 with h3 | h3
    · exact .inl (h3.mono s.ex)
    · refine .inr ?_
      cases e with
      | ol xs =>
        obtain ⟨l, vs, e1, e2, e3, e4, e5, e6⟩ := h3
        exact ⟨l, vs, e1, e2, s.new l _ e5 e4 e3, e4, s.keep l _ e5 e4, RepAll.mono s.ex _ _ e6⟩
      | oi xs =>
        obtain ⟨l, e1, e2, e3, e4, e5⟩ := h3
        exact ⟨l, e1, e2, s.new l _ e5 e4 e3, e4, s.keep l _ e5 e4⟩
      | _ => exact h3.elim
theorem TapeOk.frz (t : TapeOk T B H) {p : Addr} {o : HO} (hp : H p = none) (hb : B p = none) : TapeOk T (upd B p o) (upd H p o) := fun x e => by
  obtain ⟨h0, S, ns, i, c, h1, h2, h3⟩ := t x e
  have nx : x ≠ p := ne_of_none h1 hp
  have nS : S ≠ p := ne_of_none h2 hb
  exact ⟨by rw [upd_ne nx]; exact h0, S, ns, i, c, by rw [upd_ne nx]; exact h1, by rw [upd_ne nS]; exact h2, h3⟩
theorem Ex.both (e : Ex B H) {p : Addr} {o : HO} : Ex (upd B p o) (upd H p o) := fun a u h => by
  by_cases q : a = p
  · subst q; rw [upd_same] at h ⊢; exact h
  · rw [upd_ne q] at h ⊢; exact e a u h
/-- a new frozen object -/
theorem St.stepF (S : St T B0 H0 B H σ ρ) {p : Addr} {o : HO} (hp : H p = none) : Step T B H (upd B p o) (upd H p o) := by
  obtain ⟨hb, h0, ht⟩ := S.fresh hp
  refine ⟨Ex.new hb, fun a u h _ => ?_, fun a u h _ hn => ?_⟩
  · rw [upd_ne (ne_of_none h hp)]; exact h
  · rw [upd_ne (ne_of_none h hp)]; exact hn
theorem St.newF (S : St T B0 H0 B H σ ρ) {p : Addr} {o : HO} (hp : H p = none) : St T B0 H0 (upd B p o) (upd H p o) σ ρ :=
  S.grow (S.stepF hp) (Ex.both S.ex) (S.tape.frz hp (S.fresh hp).1)
/-- a new object that is not (yet) frozen -/
theorem St.newO (S : St T B0 H0 B H σ ρ) {p : Addr} {o : HO} (hp : H p = none) : St T B0 H0 B (upd H p o) σ ρ := by
  obtain ⟨hb, h0, ht⟩ := S.fresh hp
  refine S.grow ⟨Ex.refl B, fun a u h _ => ?_, fun _ _ _ _ h => h⟩ (fun a u h => ?_) (fun x e => ?_)
  · rw [upd_ne (ne_of_none h hp)]; exact h
  · have q := S.ex a u h
    rw [upd_ne (ne_of_none q hp)]; exact q
  · obtain ⟨h0, Sx, ns, i, c, h1, h2⟩ := S.tape x e
    exact ⟨h0, Sx, ns, i, c, by rw [upd_ne (ne_of_none h1 hp)]; exact h1, h2⟩
/-- a fresh unowned object is frozen -/
theorem St.freeze (S : St T B0 H0 B H σ ρ) {p : Addr} {o : HO} (hH : H p = some o) (hB : B p = none) (h0 : H0 p = none) (ht : T ≠ some p)
    (hs : ∀ (i : Nat) (e : Ent), ρ[i]? = some e → e.own = true → σ[i]? ≠ some (some (.ref p))) : St T B0 H0 (upd B p o) H σ ρ := by
  have ex : Ex B (upd B p o) := Ex.new hB
  refine ⟨⟨S.step.ex.trans ex, S.step.keep, fun a u h n hb => ?_⟩, fun a u h => ?_, fun x e => ?_, S.len, fun i e he => ?_, S.sep⟩
  · rw [upd_ne (ne_of_none h h0)]; exact S.step.new a u h n hb
  · by_cases q : a = p
    · subst q; rw [upd_same] at h; cases h; exact hH
    · rw [upd_ne q] at h; exact S.ex a u h
  · obtain ⟨h0, Sx, ns, i, c, h1, h2, h3⟩ := S.tape x e
    exact ⟨by rw [upd_ne (show x ≠ p from fun z => ht (by rw [e, z]))]; exact h0, Sx, ns, i, c, h1, ex _ _ h2, h3⟩
  · obtain ⟨o', h1, h2⟩ := S.env i e he
    refine ⟨o', h1, ?_⟩
    rcases h2 with h2 | ⟨v, h2, h3⟩
    · exact .inl h2
    · refine .inr ⟨v, h2, ?_⟩
      rcases h3 with h3 | h3
      · exact .inl (h3.mono ex)
      · refine .inr ?_
        cases e with
        | ol xs =>
          obtain ⟨l, vs, e1, e2, e3, e4, e5, e6⟩ := h3
          have nl : l ≠ p := fun z => hs i _ he rfl (by rw [h1, h2, e1, z])
          exact ⟨l, vs, e1, e2, by rw [upd_ne nl]; exact e3, e4, e5, RepAll.mono ex _ _ e6⟩
        | oi xs =>
          obtain ⟨l, e1, e2, e3, e4, e5⟩ := h3
          have nl : l ≠ p := fun z => hs i _ he rfl (by rw [h1, h2, e1, z])
          exact ⟨l, e1, e2, by rw [upd_ne nl]; exact e3, e4, e5⟩
        | _ => exact h3.elim
theorem St.ownNe (S : St T B0 H0 B H σ ρ) {p : Addr} (hp : H p = none) : ∀ (i : Nat) (e : Ent), ρ[i]? = some e → e.own = true → σ[i]? ≠ some (some (.ref p)) := fun i e he ho q => by
  obtain ⟨o, h1, h2⟩ := S.env i e he
  rcases h2 with h2 | ⟨v, h2, h3 | h3⟩
  · rw [h2] at ho; cases ho
  · cases e <;> first | cases ho; done | exact (show False from h3).elim
  · rw [h1, h2] at q
    cases q
    cases e with
    | ol xs =>
      obtain ⟨l, vs, e1, _, _, _, e5, _⟩ := h3
      cases e1; rw [hp] at e5; cases e5
    | oi xs =>
      obtain ⟨l, e1, _, _, _, e5⟩ := h3
      cases e1; rw [hp] at e5; cases e5
    | _ => cases ho
/-- a slot is stored -/
theorem St.setD (S : St T B0 H0 B H σ ρ) {i : Nat} {v : V} {e : Ent} (r : Res T B v e) : St T B0 H0 B H (σ.set i (some v)) (ρ.set i e) := by
  have no : e.own = false := by cases e <;> first | rfl | exact r.elim
  refine ⟨S.step, S.ex, S.tape, by simp [S.len], fun j f hf => ?_, fun j k f g l hjk hf hg of og s1 s2 => ?_⟩
  · by_cases h : i = j
    · subst h
      have hi : i < ρ.length := by
        have := (List.getElem?_eq_some_iff.mp hf).1; simpa using this
      rw [List.getElem?_set_self hi] at hf
      cases hf
      exact ⟨some v, by rw [List.getElem?_set_self (by rw [S.len]; exact hi)], .inr ⟨v, rfl, .inl r⟩⟩
    · rw [List.getElem?_set_ne h] at hf ⊢
      exact S.env j f hf
  · have aux : ∀ {j : Nat} {f : Ent}, (ρ.set i e)[j]? = some f → f.own = true → i ≠ j ∧ ρ[j]? = some f := fun {j f} hf of => by
      by_cases h : i = j
      · subst h
        have hi : i < ρ.length := by
          have := (List.getElem?_eq_some_iff.mp hf).1; simpa using this
        rw [List.getElem?_set_self hi] at hf
        cases hf; rw [no] at of; cases of
      · rw [List.getElem?_set_ne h] at hf
        exact ⟨h, hf⟩
    obtain ⟨n1, f1⟩ := aux hf of
    obtain ⟨n2, f2⟩ := aux hg og
    rw [List.getElem?_set_ne n1] at s1
    rw [List.getElem?_set_ne n2] at s2
    exact S.sep j k f g l hjk f1 f2 of og s1 s2
/-- a new owned object is stored -/
theorem St.setO (S : St T B0 H0 B H σ ρ) {i : Nat} {v : V} {e : Ent} (r : Own T H0 B H v e) (hs : ∀ l, v = .ref l → ∀ (j : Nat) (f : Ent), ρ[j]? = some f → f.own = true → σ[j]? ≠ some (some (.ref l))) : St T B0 H0 B H (σ.set i (some v)) (ρ.set i e) := by
  refine ⟨S.step, S.ex, S.tape, by simp [S.len], fun j f hf => ?_, fun j k f g l hjk hf hg of og s1 s2 => ?_⟩
  · by_cases h : i = j
    · subst h
      have hi : i < ρ.length := by
        have := (List.getElem?_eq_some_iff.mp hf).1; simpa using this
      rw [List.getElem?_set_self hi] at hf
      cases hf
      exact ⟨some v, by rw [List.getElem?_set_self (by rw [S.len]; exact hi)], .inr ⟨v, rfl, .inr r⟩⟩
    · rw [List.getElem?_set_ne h] at hf ⊢
      exact S.env j f hf
  · have aux : ∀ {j : Nat} {f : Ent}, (ρ.set i e)[j]? = some f → i = j ∨ (i ≠ j ∧ ρ[j]? = some f) := fun {j f} hf => by
      by_cases h : i = j
      · exact .inl h
      · rw [List.getElem?_set_ne h] at hf
        exact .inr ⟨h, hf⟩
    rcases aux hf with n1 | ⟨n1, f1⟩
    · rcases aux hg with n2 | ⟨n2, f2⟩
      · exact hjk (n1.symm.trans n2)
      · subst n1
        have hi : i < σ.length := by
          have := (List.getElem?_eq_some_iff.mp s1).1; simpa using this
        rw [List.getElem?_set_self hi] at s1
        rw [List.getElem?_set_ne n2] at s2
        cases s1
        exact hs l rfl k g f2 og s2
    · rcases aux hg with n2 | ⟨n2, f2⟩
      · subst n2
        have hi : i < σ.length := by
          have := (List.getElem?_eq_some_iff.mp s2).1; simpa using this
        rw [List.getElem?_set_self hi] at s2
        rw [List.getElem?_set_ne n1] at s1
        cases s2
        exact hs l rfl j f f1 of s1
      · rw [List.getElem?_set_ne n1] at s1
        rw [List.getElem?_set_ne n2] at s2
        exact S.sep j k f g l hjk f1 f2 of og s1 s2
/-- slots forgotten -/
def wipeE (ρ : En) : List Nat → En
  | [] => ρ
  | v :: vs => (wipeE ρ vs).set v .u
theorem St.wipe (S : St T B0 H0 B H σ ρ) : ∀ vs : List Nat, St T B0 H0 B H (L2.wipe σ vs) (wipeE ρ vs)
  | [] => S
  | v :: vs => by
    have S' := S.wipe vs
    show St T B0 H0 B H ((L2.wipe σ vs).set v none) ((wipeE ρ vs).set v .u)
    refine ⟨S'.step, S'.ex, S'.tape, by simp [S'.len], fun j f hf => ?_, fun j k f g l hjk hf hg of og s1 s2 => ?_⟩
    · by_cases h : v = j
      · subst h
        have hi : v < (wipeE ρ vs).length := by
          have := (List.getElem?_eq_some_iff.mp hf).1; simpa using this
        rw [List.getElem?_set_self hi] at hf
        cases hf
        exact ⟨none, by rw [List.getElem?_set_self (by rw [S'.len]; exact hi)], .inl rfl⟩
      · rw [List.getElem?_set_ne h] at hf ⊢
        exact S'.env j f hf
    · have aux : ∀ {j : Nat} {f : Ent}, ((wipeE ρ vs).set v .u)[j]? = some f → f.own = true → v ≠ j ∧ (wipeE ρ vs)[j]? = some f := fun {j f} hf of => by
        by_cases h : v = j
        · subst h
          have hi : v < (wipeE ρ vs).length := by
            have := (List.getElem?_eq_some_iff.mp hf).1; simpa using this
          rw [List.getElem?_set_self hi] at hf
          cases hf; cases of
        · rw [List.getElem?_set_ne h] at hf
          exact ⟨h, hf⟩
      obtain ⟨n1, f1⟩ := aux hf of
      obtain ⟨n2, f2⟩ := aux hg og
      rw [List.getElem?_set_ne n1] at s1
      rw [List.getElem?_set_ne n2] at s2
      exact S'.sep j k f g l hjk f1 f2 of og s1 s2
end
end Pu

set_option Elab.async false
set_option linter.all false
set_option maxRecDepth 100000
set_option maxHeartbeats 1000000
/-! PuB: expressions over data. -/
namespace Pu
open PySem L2 Evl

abbrev PX := En → (Ent → Prop) → Prop
abbrev PXT := En → (Bool → Prop) → Prop
abbrev PXA := En → (List Ent → Prop) → Prop
abbrev PXL := En → (List D → Prop) → Prop

inductive ResAll (T : Option Addr) (B : Hp) : List V → List Ent → Prop
  | nil : ResAll T B [] []
  | cons {v : V} {vs : List V} {e : Ent} {es : List Ent} : Res T B v e → ResAll T B vs es → ResAll T B (v :: vs) (e :: es)
theorem ResAll.mono {T : Option Addr} {B B1 : Hp} (x : Ex B B1) : ∀ {es : List Ent} {vs : List V}, ResAll T B vs es → ResAll T B1 vs es
  | _, _, .nil => .nil
  | _, _, .cons h t => .cons (h.mono x) (ResAll.mono x t)
theorem ResAll.len {T : Option Addr} {B : Hp} : ∀ {es : List Ent} {vs : List V}, ResAll T B vs es → vs.length = es.length
  | _, _, .nil => rfl
  | _, _, .cons _ t => by simp [ResAll.len t]

def SimE (t : TE) (p : PX) : Prop := ∀ T B0 H0 ρ Φ, p ρ Φ → ∀ B H σ (Q : VK), St T B0 H0 B H σ ρ → (∀ e v B' H', Φ e → St T B0 H0 B' H' σ ρ → Step T B H B' H' → Res T B' v e → Q v H') → t σ H Q
def SimT (t : TT) (p : PXT) : Prop := ∀ T B0 H0 ρ Φ, p ρ Φ → ∀ B H σ (Q : Bool → Hp → Prop), St T B0 H0 B H σ ρ → (∀ b B' H', Φ b → St T B0 H0 B' H' σ ρ → Step T B H B' H' → Q b H') → t σ H Q
def SimA (t : TA) (p : PXA) : Prop := ∀ T B0 H0 ρ Φ, p ρ Φ → ∀ B H σ (Q : List V → Hp → Prop), St T B0 H0 B H σ ρ → (∀ es vs B' H', Φ es → St T B0 H0 B' H' σ ρ → Step T B H B' H' → ResAll T B' vs es → Q vs H') → t σ H Q
/-- a new list -/
def SimL (t : TE) (p : PXL) : Prop := ∀ T B0 H0 ρ Φ, p ρ Φ → ∀ B H σ (Q : VK), St T B0 H0 B H σ ρ → (∀ ds l vs B' H', Φ ds → St T B0 H0 B' H' σ ρ → Step T B H B' H' → H l = none → B' l = none → H' l = some (.lst vs) → RepAll B' vs ds → Q (.ref l) H') → t σ H Q

structure DE (X : Cx) (e : Expr) (t : TE) (p : PX) : Prop where
  pe : PE X e t
  sim : SimE t p
structure DL (X : Cx) (e : Expr) (t : TE) (p : PXL) : Prop where
  pe : PE X e t
  sim : SimL t p
structure DT (X : Cx) (e : Expr) (t : TT) (p : PXT) : Prop where
  pt : PT X e t
  sim : SimT t p
structure DW (X : Cx) (e : Expr) (t : TT) (p : PXT) : Prop where
  pw : PW X e t
  sim : SimT t p
structure DA (X : Cx) (es : List Expr) (t : TA) (p : PXA) : Prop where
  pa : PA X es t
  sim : SimA t p

/-! ### the pure side -/
def pVar (i : Nat) : PX := fun ρ Φ => match ρ[i]? with
  | some (.d x) => Φ (.d x)
  | some .tp => Φ .tp
  | _ => False
def pC (x : D) : PX := fun _ Φ => Φ (.d x)
abbrev Q2 := D → D → (D → Prop) → Prop
abbrev Q1 := D → (D → Prop) → Prop
def pOp (q : Q2) (a b : PX) : PX := fun ρ Φ => a ρ fun x => b ρ fun y => match x, y with
  | .d x, .d y => q x y fun z => Φ (.d z)
  | _, _ => False
def pUn (q : Q1) (a : PX) : PX := fun ρ Φ => a ρ fun x => match x with
  | .d x => q x fun z => Φ (.d z)
  | _ => False
def pFrz (p : PXL) : PX := fun ρ Φ => p ρ fun xs => Φ (.d (.list xs))
def pNil : PXA := fun _ Φ => Φ []
def pCons (p : PX) (r : PXA) : PXA := fun ρ Φ => p ρ fun x => r ρ fun xs => Φ (x :: xs)
def pDs : List Ent → (List D → Prop) → Prop
  | [], Φ => Φ []
  | .d x :: es, Φ => pDs es fun xs => Φ (x :: xs)
  | _ :: _, _ => False
def pTup (a : PXA) : PX := fun ρ Φ => a ρ fun es => pDs es fun xs => xs.length ≤ 100000 ∧ Φ (.d (.tuple xs))
def pLst (a : PXA) : PXL := fun ρ Φ => a ρ fun es => pDs es fun xs => xs.length ≤ 100000 ∧ Φ xs
def pTst (p : PX) : PXT := fun ρ Φ => p ρ fun e => match e with
  | .d (.bool b) => Φ b
  | _ => False
def pIte (t : PXT) (a b : PX) : PX := fun ρ Φ => t ρ fun c => match c with
  | true => a ρ Φ
  | false => b ρ Φ
def pAndT (a b : PXT) : PXT := fun ρ Φ => a ρ fun c => match c with
  | true => b ρ Φ
  | false => Φ false
def pOrT (a b : PXT) : PXT := fun ρ Φ => a ρ fun c => match c with
  | true => Φ true
  | false => b ρ Φ
def pNotT (a : PXT) : PXT := fun ρ Φ => a ρ fun c => Φ (!c)
def pAndV (a b : PX) : PX := fun ρ Φ => a ρ fun x => match x with
  | .d (.bool true) => b ρ Φ
  | .d (.bool false) => Φ (.d (.bool false))
  | _ => False
def pOrV (a b : PX) : PX := fun ρ Φ => a ρ fun x => match x with
  | .d (.bool true) => Φ (.d (.bool true))
  | .d (.bool false) => b ρ Φ
  | _ => False
def pNotV (a : PX) : PX := fun ρ Φ => a ρ fun x => match x with
  | .d (.bool b) => Φ (.d (.bool (!b)))
  | _ => False
def pChain (q q' : Q2) (a b c : PX) : PX := fun ρ Φ => a ρ fun x => b ρ fun y => match x, y with
  | .d x, .d y => q x y fun z => match z with
    | .bool true => c ρ fun w => match w with
      | .d w => q' y w fun z => Φ (.d z)
      | _ => False
    | .bool false => Φ (.d (.bool false))
    | _ => False
  | _, _ => False
/-- a built-in called with data -/
abbrev QC := List Ent → (D → Prop) → Prop
def pBl (q : QC) (a : PXA) : PX := fun ρ Φ => a ρ fun es => q es fun z => Φ (.d z)
def pBlL (q : List Ent → (List D → Prop) → Prop) (a : PXA) : PXL := fun ρ Φ => a ρ fun es => q es Φ

/-! ### how an operation's reading is met -/
/-- new frozen objects, one after another -/
inductive Grow : Hp → Hp → Hp → Hp → Prop
  | nil {B H : Hp} : Grow B H B H
  | cons {B H B' H' : Hp} {p : Addr} {o : HO} : H p = none → Grow (upd B p o) (upd H p o) B' H' → Grow B H B' H'
theorem Grow.st {T : Option Addr} {B0 H0 : Hp} {σ : L2.St} {ρ : En} : ∀ {B H B' H' : Hp}, Grow B H B' H' → St T B0 H0 B H σ ρ → St T B0 H0 B' H' σ ρ ∧ Step T B H B' H'
  | _, _, _, _, .nil, S => ⟨S, Step.refl⟩
  | _, _, _, _, .cons hp g, S =>
    let ⟨a, b⟩ := Grow.st g (S.newF hp)
    ⟨a, (S.stepF hp).trans b⟩
theorem St.stepO {T : Option Addr} {B0 H0 B H : Hp} {σ : L2.St} {ρ : En} (S : St T B0 H0 B H σ ρ) {p : Addr} {o : HO} (hp : H p = none) : Step T B H B (upd H p o) :=
  ⟨Ex.refl B, fun a u h _ => by rw [upd_ne (ne_of_none h hp)]; exact h, fun _ _ _ _ h => h⟩
def Sim2 (r : R2) (q : Q2) : Prop := ∀ B H x y dx dy Φ (Q : VK), Ex B H → Rep B x dx → Rep B y dy → q dx dy Φ → (∀ z d B' H', Φ d → Grow B H B' H' → Rep B' z d → Q z H') → r x y H Q
def Sim1 (r : V → Hp → VK → Prop) (q : Q1) : Prop := ∀ B H x dx Φ (Q : VK), Ex B H → Rep B x dx → q dx Φ → (∀ z d B' H', Φ d → Grow B H B' H' → Rep B' z d → Q z H') → r x H Q
def SimC (r : List V → Hp → VK → Prop) (q : QC) : Prop := ∀ T B H xs es Φ (Q : VK), Ex B H → ResAll T B xs es → q es Φ → (∀ z d B' H', Φ d → Grow B H B' H' → Rep B' z d → Q z H') → r xs H Q
def SimCL (r : List V → Hp → VK → Prop) (q : List Ent → (List D → Prop) → Prop) : Prop := ∀ T B H xs es Φ (Q : VK), Ex B H → ResAll T B xs es → q es Φ → (∀ ds l vs, Φ ds → H l = none → RepAll B vs ds → Q (.ref l) (upd H l (.lst vs))) → r xs H Q
def Sim2L (r : R2) (q : D → D → (List D → Prop) → Prop) : Prop := ∀ B H x y dx dy Φ (Q : VK), Ex B H → Rep B x dx → Rep B y dy → q dx dy Φ → (∀ ds l vs, Φ ds → H l = none → RepAll B vs ds → Q (.ref l) (upd H l (.lst vs))) → r x y H Q

section
variable {ta tb tc te : TE} {pa pb pc : PX} {tt tu : TT} {pt pu : PXT} {tA : TA} {pA : PXA}
theorem simVar (i : Nat) : SimE (tVar i) (pVar i) := fun T B0 H0 ρ Φ h B H σ Q S q => by
  unfold pVar at h
  split at h
  · rename_i x e
    obtain ⟨o, h1, h2⟩ := S.env i _ e
    rcases h2 with h2 | ⟨v, h2, h3 | h3⟩
    · cases h2
    · exact ⟨v, by rw [h1, h2], q _ v B H h S Step.refl h3⟩
    · exact h3.elim
  · rename_i e
    obtain ⟨o, h1, h2⟩ := S.env i _ e
    rcases h2 with h2 | ⟨v, h2, h3 | h3⟩
    · cases h2
    · exact ⟨v, by rw [h1, h2], q _ v B H h S Step.refl h3⟩
    · exact h3.elim
  · exact h.elim
theorem simC {v : V} {x : D} (r : ∀ B, Rep B v x) : SimE (tC v) (pC x) := fun T B0 H0 ρ Φ h B H σ Q S q => q _ v B H h S Step.refl (r B)
theorem simOp {r : R2} {q : Q2} (s : Sim2 r q) (ha : SimE ta pa) (hb : SimE tb pb) : SimE (tOp r ta tb) (pOp q pa pb) := by
  intro T B0 H0 ρ Φ h B H σ Q S k
  refine ha T B0 H0 ρ _ h B H σ _ S fun e v B1 H1 h1 S1 e1 r1 => ?_
  refine hb T B0 H0 ρ _ h1 B1 H1 σ _ S1 fun f w B2 H2 h2 S2 e2 r2 => ?_
  cases e <;> first | exact h2.elim | skip
  rename_i x
  cases f <;> first | exact h2.elim | skip
  rename_i y
  refine s B2 H2 v w x y _ Q S2.ex (Rep.mono e2.ex _ _ r1) r2 h2 fun z d B3 H3 hd g rz => ?_
  obtain ⟨S3, e3⟩ := g.st S2
  exact k _ z B3 H3 hd S3 ((e1.trans e2).trans e3) rz
theorem simUn {r : V → Hp → VK → Prop} {q : Q1} (s : Sim1 r q) (ha : SimE ta pa) : SimE (tUn r ta) (pUn q pa) := by
  intro T B0 H0 ρ Φ h B H σ Q S k
  refine ha T B0 H0 ρ _ h B H σ _ S fun e v B1 H1 h1 S1 e1 r1 => ?_
  cases e <;> first | exact h1.elim | skip
  rename_i x
  refine s B1 H1 v x _ Q S1.ex r1 h1 fun z d B3 H3 hd g rz => ?_
  obtain ⟨S3, e3⟩ := g.st S1
  exact k _ z B3 H3 hd S3 (e1.trans e3) rz
theorem simFrz {t : TE} {p : PXL} (s : SimL t p) : SimE t (pFrz p) := by
  intro T B0 H0 ρ Φ h B H σ Q S k
  refine s T B0 H0 ρ _ h B H σ Q S fun ds l vs B1 H1 h1 S1 e1 hl hb1 hl1 r1 => ?_
  have f0 := S.fresh hl
  have S2 := S1.freeze hl1 hb1 f0.2.1 f0.2.2 (S.ownNe hl)
  have e2 : Ex B1 (upd B1 l (.lst vs)) := Ex.new hb1
  refine k _ _ _ H1 h1 S2 ⟨e1.ex.trans e2, e1.keep, fun a u ha hn hb => ?_⟩ (show Rep _ _ _ from .lst upd_same (RepAll.mono e2 _ _ r1))
  rw [upd_ne (ne_of_none ha hl)]
  exact e1.new a u ha hn hb
theorem simNil : SimA tNil pNil := fun T B0 H0 ρ Φ h B H σ Q S k => k [] [] B H h S Step.refl .nil
theorem simCons (ha : SimE ta pa) (hr : SimA tA pA) : SimA (tCons ta tA) (pCons pa pA) := by
  intro T B0 H0 ρ Φ h B H σ Q S k
  refine ha T B0 H0 ρ _ h B H σ _ S fun e v B1 H1 h1 S1 e1 r1 => ?_
  refine hr T B0 H0 ρ _ h1 B1 H1 σ _ S1 fun es vs B2 H2 h2 S2 e2 r2 => ?_
  exact k (e :: es) (v :: vs) B2 H2 h2 S2 (e1.trans e2) (.cons (r1.mono e2.ex) r2)
theorem pDs_of {T : Option Addr} {B : Hp} : ∀ {es : List Ent} {vs : List V} {Φ : List D → Prop}, ResAll T B vs es → pDs es Φ → ∃ ds, RepAll B vs ds ∧ Φ ds
  | _, _, _, .nil, h => ⟨[], .nil, h⟩
  | .d x :: es, _, _, .cons r t, h => by
    obtain ⟨ds, h1, h2⟩ := pDs_of t h
    exact ⟨x :: ds, .cons r h1, h2⟩
  | .u :: es, _, _, .cons r t, h => h.elim
  | .tp :: es, _, _, .cons r t, h => h.elim
  | .ol _ :: es, _, _, .cons r t, h => h.elim
  | .oi _ :: es, _, _, .cons r t, h => h.elim
theorem simTup (ha : SimA tA pA) : SimE (tTup tA) (pTup pA) := by
  intro T B0 H0 ρ Φ h B H σ Q S k
  refine ha T B0 H0 ρ _ h B H σ _ S fun es vs B1 H1 h1 S1 e1 r1 => ?_
  obtain ⟨ds, r2, hl, h2⟩ := pDs_of r1 h1
  refine ⟨by rw [r2.len]; exact sz_of hl, fun p hp => ?_⟩
  have e2 : Ex B1 (upd B1 p (.tup vs)) := Ex.new (S1.fresh hp).1
  exact k _ _ _ _ h2 (S1.newF hp) (e1.trans (S1.stepF hp)) (show Rep _ _ _ from .tup upd_same (RepAll.mono e2 _ _ r2))
theorem simLst (ha : SimA tA pA) : SimL (tLst tA) (pLst pA) := by
  intro T B0 H0 ρ Φ h B H σ Q S k
  refine ha T B0 H0 ρ _ h B H σ _ S fun es vs B1 H1 h1 S1 e1 r1 => ?_
  obtain ⟨ds, r2, hl, h2⟩ := pDs_of r1 h1
  refine ⟨by rw [r2.len]; exact sz_of hl, fun p hp => ?_⟩
  exact k ds p vs B1 _ h2 (S1.newO hp) (e1.trans (S1.stepO hp)) (e1.back S.tape S1.tape hp).1 (S1.fresh hp).1 upd_same r2
theorem simBl {r : List V → Hp → VK → Prop} {q : QC} (s : SimC r q) (ha : SimA tA pA) : SimE (tCB r tA) (pBl q pA) := by
  intro T B0 H0 ρ Φ h B H σ Q S k
  refine ha T B0 H0 ρ _ h B H σ _ S fun es vs B1 H1 h1 S1 e1 r1 => ?_
  refine s T B1 H1 vs es _ Q S1.ex r1 h1 fun z d B3 H3 hd g rz => ?_
  obtain ⟨S3, e3⟩ := g.st S1
  exact k _ z B3 H3 hd S3 (e1.trans e3) rz
theorem simBlL {r : List V → Hp → VK → Prop} {q : List Ent → (List D → Prop) → Prop} (s : SimCL r q) (ha : SimA tA pA) : SimL (tCB r tA) (pBlL q pA) := by
  intro T B0 H0 ρ Φ h B H σ Q S k
  refine ha T B0 H0 ρ _ h B H σ _ S fun es vs B1 H1 h1 S1 e1 r1 => ?_
  refine s T B1 H1 vs es _ Q S1.ex r1 h1 fun ds l ws hd hl rz => ?_
  exact k ds l ws B1 _ hd (S1.newO hl) (e1.trans (S1.stepO hl)) (e1.back S.tape S1.tape hl).1 (S1.fresh hl).1 upd_same rz
theorem simOpL {r : R2} {q : D → D → (List D → Prop) → Prop} (s : Sim2L r q) (ha : SimE ta pa) (hb : SimE tb pb) : SimL (tOp r ta tb) (fun ρ Φ => pa ρ fun x => pb ρ fun y => match x, y with
    | .d x, .d y => q x y Φ
    | _, _ => False) := by
  intro T B0 H0 ρ Φ h B H σ Q S k
  refine ha T B0 H0 ρ _ h B H σ _ S fun e v B1 H1 h1 S1 e1 r1 => ?_
  refine hb T B0 H0 ρ _ h1 B1 H1 σ _ S1 fun f w B2 H2 h2 S2 e2 r2 => ?_
  cases e <;> first | exact h2.elim | skip
  rename_i x
  cases f <;> first | exact h2.elim | skip
  rename_i y
  refine s B2 H2 v w x y _ Q S2.ex (Rep.mono e2.ex _ _ r1) r2 h2 fun ds l ws hd hl rz => ?_
  exact k ds l ws B2 _ hd (S2.newO hl) ((e1.trans e2).trans (S2.stepO hl)) ((e1.trans e2).back S.tape S2.tape hl).1 (S2.fresh hl).1 upd_same rz

theorem simTest (ha : SimE ta pa) : SimT (tTest ta) (pTst pa) := by
  intro T B0 H0 ρ Φ h B H σ Q S k
  refine ha T B0 H0 ρ _ h B H σ _ S fun e v B1 H1 h1 S1 e1 r1 => ?_
  cases e <;> first | exact h1.elim | skip
  rename_i x
  cases x <;> first | exact h1.elim | skip
  cases r1
  exact ⟨_, rfl, k _ B1 H1 h1 S1 e1⟩
theorem simB (ha : SimE ta pa) : SimT (tB ta) (pTst pa) := simTest ha
theorem simIte (hc : SimT tt pt) (ha : SimE ta pa) (hb : SimE tb pb) : SimE (tIf tt ta tb) (pIte pt pa pb) := by
  intro T B0 H0 ρ Φ h B H σ Q S k
  refine hc T B0 H0 ρ _ h B H σ _ S fun c B1 H1 h1 S1 e1 => ?_
  cases c with
  | true => exact iteT (ha T B0 H0 ρ _ h1 B1 H1 σ _ S1 fun e v B2 H2 h2 S2 e2 r2 => k e v B2 H2 h2 S2 (e1.trans e2) r2)
  | false => exact iteF (hb T B0 H0 ρ _ h1 B1 H1 σ _ S1 fun e v B2 H2 h2 S2 e2 r2 => k e v B2 H2 h2 S2 (e1.trans e2) r2)
theorem simAnd (ha : SimT tt pt) (hb : SimT tu pu) : SimT (tAnd tt tu) (pAndT pt pu) := by
  intro T B0 H0 ρ Φ h B H σ Q S k
  refine ha T B0 H0 ρ _ h B H σ _ S fun c B1 H1 h1 S1 e1 => ?_
  cases c with
  | true => exact iteT (hb T B0 H0 ρ _ h1 B1 H1 σ _ S1 fun b B2 H2 h2 S2 e2 => k b B2 H2 h2 S2 (e1.trans e2))
  | false => exact iteF (k _ B1 H1 h1 S1 e1)
theorem simOr (ha : SimT tt pt) (hb : SimT tu pu) : SimT (tOr tt tu) (pOrT pt pu) := by
  intro T B0 H0 ρ Φ h B H σ Q S k
  refine ha T B0 H0 ρ _ h B H σ _ S fun c B1 H1 h1 S1 e1 => ?_
  cases c with
  | true => exact iteT (k _ B1 H1 h1 S1 e1)
  | false => exact iteF (hb T B0 H0 ρ _ h1 B1 H1 σ _ S1 fun b B2 H2 h2 S2 e2 => k b B2 H2 h2 S2 (e1.trans e2))
theorem simNot (ha : SimT tt pt) : SimT (tNot tt) (pNotT pt) := fun T B0 H0 ρ Φ h B H σ Q S k =>
  ha T B0 H0 ρ _ h B H σ _ S fun c B1 H1 h1 S1 e1 => k _ B1 H1 h1 S1 e1
theorem simAndV (ha : SimE ta pa) (hb : SimE tb pb) : SimE (tAndV ta tb) (pAndV pa pb) := by
  intro T B0 H0 ρ Φ h B H σ Q S k
  refine ha T B0 H0 ρ _ h B H σ _ S fun e v B1 H1 h1 S1 e1 r1 => ?_
  cases e <;> first | exact h1.elim | skip
  rename_i x
  cases x <;> first | exact h1.elim | skip
  rename_i b
  cases r1
  refine ⟨b, rfl, ?_⟩
  cases b with
  | true => exact iteT (hb T B0 H0 ρ _ h1 B1 H1 σ _ S1 fun e v B2 H2 h2 S2 e2 r2 => k e v B2 H2 h2 S2 (e1.trans e2) r2)
  | false => exact iteF (k _ _ B1 H1 h1 S1 e1 (show Rep _ _ _ from .bl _))
theorem simOrV (ha : SimE ta pa) (hb : SimE tb pb) : SimE (tOrV ta tb) (pOrV pa pb) := by
  intro T B0 H0 ρ Φ h B H σ Q S k
  refine ha T B0 H0 ρ _ h B H σ _ S fun e v B1 H1 h1 S1 e1 r1 => ?_
  cases e <;> first | exact h1.elim | skip
  rename_i x
  cases x <;> first | exact h1.elim | skip
  rename_i b
  cases r1
  refine ⟨b, rfl, ?_⟩
  cases b with
  | true => exact iteT (k _ _ B1 H1 h1 S1 e1 (show Rep _ _ _ from .bl _))
  | false => exact iteF (hb T B0 H0 ρ _ h1 B1 H1 σ _ S1 fun e v B2 H2 h2 S2 e2 r2 => k e v B2 H2 h2 S2 (e1.trans e2) r2)
theorem simNotV (ha : SimE ta pa) : SimE (tNotV ta) (pNotV pa) := by
  intro T B0 H0 ρ Φ h B H σ Q S k
  refine ha T B0 H0 ρ _ h B H σ _ S fun e v B1 H1 h1 S1 e1 r1 => ?_
  cases e <;> first | exact h1.elim | skip
  rename_i x
  cases x <;> first | exact h1.elim | skip
  rename_i b
  cases r1
  exact ⟨b, rfl, k _ _ B1 H1 h1 S1 e1 (show Rep _ _ _ from .bl _)⟩
theorem simChain {r r' : R2} {q q' : Q2} (s : Sim2 r q) (s' : Sim2 r' q') (ha : SimE ta pa) (hb : SimE tb pb) (hc : SimE tc pc) : SimE (tChain r r' ta tb tc) (pChain q q' pa pb pc) := by
  intro T B0 H0 ρ Φ h B H σ Q S k
  refine ha T B0 H0 ρ _ h B H σ _ S fun e v B1 H1 h1 S1 e1 r1 => ?_
  refine hb T B0 H0 ρ _ h1 B1 H1 σ _ S1 fun f w B2 H2 h2 S2 e2 r2 => ?_
  cases e <;> first | exact h2.elim | skip
  rename_i x
  cases f <;> first | exact h2.elim | skip
  rename_i y
  refine s B2 H2 v w x y _ _ S2.ex (Rep.mono e2.ex _ _ r1) r2 h2 fun z d B3 H3 hd g rz => ?_
  obtain ⟨S3, e3⟩ := g.st S2
  cases d <;> first | exact hd.elim | skip
  rename_i b
  cases rz
  refine ⟨b, rfl, ?_⟩
  cases b with
  | false => exact iteF (k _ _ B3 H3 hd S3 ((e1.trans e2).trans e3) (show Rep _ _ _ from .bl _))
  | true =>
    refine iteT (hc T B0 H0 ρ _ hd B3 H3 σ _ S3 fun g u B4 H4 h4 S4 e4 r4 => ?_)
    cases g <;> first | exact h4.elim | skip
    rename_i g
    refine s' B4 H4 w u y g _ Q S4.ex (Rep.mono (e3.trans e4).ex _ _ r2) r4 h4 fun z d B5 H5 hd g rz => ?_
    obtain ⟨S5, e5⟩ := g.st S4
    exact k _ z B5 H5 hd S5 ((((e1.trans e2).trans e3).trans e4).trans e5) rz
end
end Pu

set_option Elab.async false
set_option linter.all false
set_option maxRecDepth 100000
set_option maxHeartbeats 1000000
/-! PuC: the operations, by data. -/
namespace Pu
open PySem L2 Evl

theorem Grow.one {B H : Hp} {p : Addr} {o : HO} (h : H p = none) : Grow B H (upd B p o) (upd H p o) := .cons h .nil
theorem repT {B : Hp} {p : Addr} {vs : List V} {ds : List D} (hb : B p = none) (h : RepAll B vs ds) : Rep (upd B p (.tup vs)) (.ref p) (.tuple ds) := .tup upd_same (RepAll.mono (Ex.new hb) _ _ h)
theorem repL {B : Hp} {p : Addr} {vs : List V} {ds : List D} (hb : B p = none) (h : RepAll B vs ds) : Rep (upd B p (.lst vs)) (.ref p) (.list ds) := .lst upd_same (RepAll.mono (Ex.new hb) _ _ h)

/-! ### ints -/
def qII (g : Int → Int → D) : Q2 := fun x y Φ => match x, y with
  | .int i, .int j => Φ (g i j)
  | _, _ => False
def qIC (C : Int → Int → Prop) (g : Int → Int → D) : Q2 := fun x y Φ => match x, y with
  | .int i, .int j => C i j ∧ Φ (g i j)
  | _, _ => False
theorem s2II {g : Int → Int → Int} : Sim2 (rI0 fun i j => .int (g i j)) (qII fun i j => .int (g i j)) := by
  intro B H x y dx dy Φ Q ex rx ry h k
  cases dx <;> first | exact h.elim | skip
  cases dy <;> first | exact h.elim | skip
  cases rx; cases ry
  exact ⟨_, _, rfl, rfl, k _ _ B H h Grow.nil (.int _)⟩
theorem s2IB {g : Int → Int → Bool} : Sim2 (rI0 fun i j => .bl (g i j)) (qII fun i j => .bool (g i j)) := by
  intro B H x y dx dy Φ Q ex rx ry h k
  cases dx <;> first | exact h.elim | skip
  cases dy <;> first | exact h.elim | skip
  cases rx; cases ry
  exact ⟨_, _, rfl, rfl, k _ _ B H h Grow.nil (.bl _)⟩
theorem s2IC {C : Int → Int → Prop} {g : Int → Int → Int} : Sim2 (rI C fun i j => .int (g i j)) (qIC C fun i j => .int (g i j)) := by
  intro B H x y dx dy Φ Q ex rx ry h k
  cases dx <;> first | exact h.elim | skip
  cases dy <;> first | exact h.elim | skip
  cases rx; cases ry
  exact ⟨_, _, rfl, rfl, h.1, k _ _ B H h.2 Grow.nil (.int _)⟩
abbrev qSub : Q2 := qII fun i j => .int (i - j)
abbrev qMul : Q2 := qIC CMul fun i j => .int (i * j)
abbrev qDiv : Q2 := qIC CDiv fun i j => .int (i / j)
abbrev qMod : Q2 := qIC (fun _ j => 0 < j) fun i j => .int (i % j)
abbrev qPow : Q2 := qIC CPow fun i j => .int (i ^ j.toNat)
abbrev qLt : Q2 := qII fun i j => .bool (decide (i < j))
abbrev qLe : Q2 := qII fun i j => .bool (decide (i ≤ j))
abbrev qGt : Q2 := qII fun i j => .bool (decide (j < i))
abbrev qGe : Q2 := qII fun i j => .bool (decide (j ≤ i))

/-! ### + -/
def qAdd : Q2 := fun x y Φ => match x, y with
  | .int i, .int j => Φ (.int (i + j))
  | .list xs, .list ys => xs.length + ys.length ≤ 100000 ∧ Φ (.list (xs ++ ys))
  | .tuple xs, .tuple ys => xs.length + ys.length ≤ 100000 ∧ Φ (.tuple (xs ++ ys))
  | .str a, .str b => a.length + b.length ≤ 100000 ∧ Φ (.str (a ++ b))
  | _, _ => False
def rAddS0 : R2 := fun x y H Q => ∃ i j, x = .str i ∧ y = .str j ∧ i.length + j.length ≤ sizeLine ∧ Q (.str (i ++ j)) H
def rAddD (K : PySem.W.Frag) : R2 := fun x y H Q => rI0 (fun i j => .int (i + j)) x y H Q ∨ rCat x y H Q ∨ rCatA K x y H Q ∨ rAddS0 x y H Q
theorem op_addD {X : Cx} : OpR X (binaryOp .Add) (rAddD X.K) := op_add.or (op_cat.or (op_catA.or op_add_str))
theorem s2Add {K : PySem.W.Frag} : Sim2 (rAddD K) qAdd := by
  intro B H x y dx dy Φ Q ex rx ry h k
  cases dx <;> first | exact h.elim | skip
  · cases dy <;> first | exact h.elim | skip
    cases rx; cases ry
    exact .inl ⟨_, _, rfl, rfl, k _ _ B H h Grow.nil (.int _)⟩
  · cases dy <;> first | exact h.elim | skip
    cases rx; cases ry
    exact .inr (.inr (.inr ⟨_, _, rfl, rfl, sz_of h.1, k _ _ B H h.2 Grow.nil (.str _)⟩))
  · cases dy <;> first | exact h.elim | skip
    cases rx with
    | lst h1 h2 =>
      cases ry with
      | lst h3 h4 =>
        refine .inr (.inl ⟨_, _, _, _, rfl, rfl, ex _ _ h1, ex _ _ h3, by rw [h2.len, h4.len]; exact sz_of h.1, fun p hp => ?_⟩)
        exact k _ _ _ _ h.2 (Grow.one hp) (repL (fresh_back ex hp) (h2.app h4))
  · cases dy <;> first | exact h.elim | skip
    cases rx with
    | tup h1 h2 =>
      cases ry with
      | tup h3 h4 =>
        refine .inr (.inr (.inl ⟨_, _, _, _, rfl, rfl, SqT.of (ex _ _ h1), SqT.of (ex _ _ h3), by rw [h2.len, h4.len]; exact sz_of h.1, fun e => ?_, fun _ e => ?_, fun _ _ p hp => ?_⟩))
        · subst e
          cases h2
          exact k _ _ B H h.2 Grow.nil (.tup h3 h4)
        · subst e
          cases h4
          exact k _ _ B H h.2 Grow.nil (.tup h1 (by rw [List.append_nil]; exact h2))
        · exact k _ _ _ _ h.2 (Grow.one hp) (repT (fresh_back ex hp) (h2.app h4))
/-- list + list, the new list not yet frozen -/
def qCatL : D → D → (List D → Prop) → Prop := fun x y Φ => match x, y with
  | .list xs, .list ys => xs.length + ys.length ≤ 100000 ∧ Φ (xs ++ ys)
  | _, _ => False
theorem s2CatL : Sim2L rCat qCatL := by
  intro B H x y dx dy Φ Q ex rx ry h k
  cases dx <;> first | exact h.elim | skip
  cases dy <;> first | exact h.elim | skip
  cases rx with
  | lst h1 h2 =>
    cases ry with
    | lst h3 h4 =>
      exact ⟨_, _, _, _, rfl, rfl, ex _ _ h1, ex _ _ h3, by rw [h2.len, h4.len]; exact sz_of h.1, fun p hp => k _ _ _ h.2 hp (h2.app h4)⟩

/-! ### ==, != of data -/
def qEq : Q2 := fun x y Φ => SeqAt.shaped x = true ∧ SeqAt.shaped y = true ∧ Φ (.bool (PyData.eqv x y))
def qNe : Q2 := fun x y Φ => SeqAt.shaped x = true ∧ SeqAt.shaped y = true ∧ Φ (.bool (!PyData.eqv x y))
theorem s2Eq {K : PySem.W.Frag} : Sim2 (rEqD K) qEq := by
  intro B H x y dx dy Φ Q ex rx ry h k
  exact ⟨dx, dy, Rep.dp ex _ _ rx, Rep.dp ex _ _ ry, h.1, h.2.1, k _ _ B H h.2.2 Grow.nil (.bl _)⟩
theorem s2Ne {K : PySem.W.Frag} : Sim2 (rNeD K) qNe := by
  intro B H x y dx dy Φ Q ex rx ry h k
  exact ⟨dx, dy, Rep.dp ex _ _ rx, Rep.dp ex _ _ ry, h.1, h.2.1, k _ _ B H h.2.2 Grow.nil (.bl _)⟩

/-! ### is -/
def dIsN : D → Bool
  | .none => true
  | _ => false
theorem rep_isN {B : Hp} {v : V} {d : D} (r : Rep B v d) : decide (v = .non) = dIsN d := by
  cases r <;> rfl
def qIs : Q2 := fun x y Φ => match y with
  | .none => Φ (.bool (dIsN x))
  | .bool b => match x with
    | .bool a => Φ (.bool (decide (a = b)))
    | .none => Φ (.bool false)
    | _ => False
  | _ => False
def qIsNot : Q2 := fun x y Φ => match y with
  | .none => Φ (.bool (!dIsN x))
  | .bool b => match x with
    | .bool a => Φ (.bool (!decide (a = b)))
    | .none => Φ (.bool true)
    | _ => False
  | _ => False
/-- None is True -/
def rIsNB : R2 := fun x y H Q => ∃ b : Bool, x = .non ∧ y = .bl b ∧ Q (.bl false) H
def rNotNB : R2 := fun x y H Q => ∃ b : Bool, x = .non ∧ y = .bl b ∧ Q (.bl true) H
theorem op_isNB {X : Cx} : OpR X (compareOp .Is) rIsNB := by
  intro pins s σ H x y v u Q I rx ry h
  obtain ⟨b, rfl, rfl, q⟩ := h
  cases rx
  cases (show u = Value.bool b from ry)
  exact PySem.wpAny_is_other rfl (fun z => nomatch z) ⟨.bl false, H, I, rfl, q⟩
theorem op_notNB {X : Cx} : OpR X (compareOp .IsNot) rNotNB := by
  intro pins s σ H x y v u Q I rx ry h
  obtain ⟨b, rfl, rfl, q⟩ := h
  cases rx
  cases (show u = Value.bool b from ry)
  exact PySem.wpAny_isNot_other rfl (fun z => nomatch z) ⟨.bl true, H, I, rfl, q⟩
def rIsD : R2 := fun x y H Q => (y = .non ∧ Q (.bl (decide (x = .non))) H) ∨ rIsB x y H Q ∨ rIsNB x y H Q
def rIsNotD : R2 := fun x y H Q => (y = .non ∧ Q (.bl (!decide (x = .non))) H) ∨ rNotB x y H Q ∨ rNotNB x y H Q
theorem op_isD {X : Cx} : OpR X (compareOp .Is) rIsD := op_isN.or (op_isBl.or op_isNB)
theorem op_isNotD {X : Cx} : OpR X (compareOp .IsNot) rIsNotD := op_notN.or (op_notBl.or op_notNB)
theorem s2Is : Sim2 rIsD qIs := by
  intro B H x y dx dy Φ Q ex rx ry h k
  cases dy <;> first | exact h.elim | skip
  · cases ry
    refine .inl ⟨rfl, ?_⟩
    rw [rep_isN rx]
    exact k _ _ B H h Grow.nil (.bl _)
  · cases dx <;> first | exact h.elim | skip
    · cases rx; cases ry
      exact .inr (.inr ⟨_, rfl, rfl, k _ _ B H h Grow.nil (.bl _)⟩)
    · cases rx; cases ry
      exact .inr (.inl ⟨_, _, rfl, rfl, k _ _ B H h Grow.nil (.bl _)⟩)
theorem s2IsNot : Sim2 rIsNotD qIsNot := by
  intro B H x y dx dy Φ Q ex rx ry h k
  cases dy <;> first | exact h.elim | skip
  · cases ry
    refine .inl ⟨rfl, ?_⟩
    rw [rep_isN rx]
    exact k _ _ B H h Grow.nil (.bl _)
  · cases dx <;> first | exact h.elim | skip
    · cases rx; cases ry
      exact .inr (.inr ⟨_, rfl, rfl, k _ _ B H h Grow.nil (.bl _)⟩)
    · cases rx; cases ry
      exact .inr (.inl ⟨_, _, rfl, rfl, k _ _ B H h Grow.nil (.bl _)⟩)

/-! ### x[i], x[a:b], in -/
theorem atI_rep {B : Hp} {vs : List V} {ds : List D} {i : Int} {d : D} (h : RepAll B vs ds) (e : atI ds i = some d) : ∃ v, atI vs i = some v ∧ Rep B v d := by
  unfold atI at e ⊢
  rw [h.len]
  cases q : ixN ds.length i with
  | none => rw [q] at e; cases e
  | some j =>
    rw [q] at e
    exact h.get e
def qIx : Q2 := fun x y Φ => match x, y with
  | .list xs, .int i => match atI xs i with
    | some v => Φ v
    | none => False
  | .tuple xs, .int i => match atI xs i with
    | some v => Φ v
    | none => False
  | _, _ => False
def rIxD (K : PySem.W.Frag) : R2 := fun x y H Q => rIxL K x y H Q ∨ rIxT K x y H Q
theorem ix_D {X : Cx} : IxR X (rIxD X.K) := ix_list.or ix_tup
theorem s2Ix {K : PySem.W.Frag} : Sim2 (rIxD K) qIx := by
  intro B H x y dx dy Φ Q ex rx ry h k
  cases dx <;> first | exact h.elim | skip
  · cases dy <;> first | exact h.elim | skip
    cases ry
    cases rx with
    | lst h1 h2 =>
      simp only [qIx] at h
      split at h
      · rename_i d e
        obtain ⟨v, e1, r1⟩ := atI_rep h2 e
        exact .inl ⟨_, _, _, v, rfl, rfl, SqL.of (ex _ _ h1), e1, k _ _ B H h Grow.nil r1⟩
      · exact h.elim
  · cases dy <;> first | exact h.elim | skip
    cases ry
    cases rx with
    | tup h1 h2 =>
      simp only [qIx] at h
      split at h
      · rename_i d e
        obtain ⟨v, e1, r1⟩ := atI_rep h2 e
        exact .inr ⟨_, _, _, v, rfl, rfl, SqT.of (ex _ _ h1), e1, k _ _ B H h Grow.nil r1⟩
      · exact h.elim
/-- slices -/
def cutD (xs : List D) (lo hi : Option Int) : List D := (xs.drop (HT.sIx xs.length 0 lo)).take (HT.sIx xs.length xs.length hi - HT.sIx xs.length 0 lo)
theorem cut_rep {B : Hp} {vs : List V} {ds : List D} (lo hi : Option Int) (h : RepAll B vs ds) : RepAll B (cutV vs lo hi) (cutD ds lo hi) := by
  unfold cutV cutD
  rw [h.len]
  exact (h.drop _).take _
abbrev PO' := En → (Option Int → Prop) → Prop
def pNoPart : PO' := fun _ Φ => Φ none
def pPart (p : PX) : PO' := fun ρ Φ => p ρ fun e => match e with
  | .d (.int i) => Φ (some i)
  | _ => False
def SimO (t : TO) (p : PO') : Prop := ∀ T B0 H0 ρ Φ, p ρ Φ → ∀ B H σ (Q : Option Int → Hp → Prop), St T B0 H0 B H σ ρ → (∀ b B' H', Φ b → St T B0 H0 B' H' σ ρ → Step T B H B' H' → Q b H') → t σ H Q
theorem simNoPart : SimO tNoPart pNoPart := fun T B0 H0 ρ Φ h B H σ Q S k => k _ B H h S Step.refl
theorem simPart {t : TE} {p : PX} (s : SimE t p) : SimO (tPart t) (pPart p) := by
  intro T B0 H0 ρ Φ h B H σ Q S k
  refine s T B0 H0 ρ _ h B H σ _ S fun e v B1 H1 h1 S1 e1 r1 => ?_
  cases e <;> first | exact h1.elim | skip
  rename_i x
  cases x <;> first | exact h1.elim | skip
  cases r1
  exact ⟨_, rfl, k _ B1 H1 h1 S1 e1⟩
def rSlD (K : PySem.W.Frag) : V → Option Int → Option Int → Hp → VK → Prop := fun x lo hi H Q => rSlL K x lo hi H Q ∨ rSlA K x lo hi H Q
theorem sl_D {X : Cx} : SlR X (rSlD X.K) := sl_list.or sl_tupA
def pSl (a : PX) (l h : PO') : PX := fun ρ Φ => a ρ fun x => l ρ fun lo => h ρ fun hi => match x with
  | .d (.list xs) => Φ (.d (.list (cutD xs lo hi)))
  | .d (.tuple xs) => Φ (.d (.tuple (cutD xs lo hi)))
  | _ => False
theorem sIx_whole {xs : List V} {lo hi : Option Int} (h : HT.sIx xs.length 0 lo = 0 ∧ HT.sIx xs.length xs.length hi = xs.length) : cutV xs lo hi = xs := by
  unfold cutV
  rw [h.1, h.2]
  simp
theorem sIx_wholeD {xs : List D} {lo hi : Option Int} (h : HT.sIx xs.length 0 lo = 0 ∧ HT.sIx xs.length xs.length hi = xs.length) : cutD xs lo hi = xs := by
  unfold cutD
  rw [h.1, h.2]
  simp
theorem simSl {K : PySem.W.Frag} {ta : TE} {tl th : TO} {pa : PX} {pl ph : PO'} (ha : SimE ta pa) (hl : SimO tl pl) (hh : SimO th ph) : SimE (tSl (rSlD K) ta tl th) (pSl pa pl ph) := by
  intro T B0 H0 ρ Φ h B H σ Q S k
  refine ha T B0 H0 ρ _ h B H σ _ S fun e v B1 H1 h1 S1 e1 r1 => ?_
  refine hl T B0 H0 ρ _ h1 B1 H1 σ _ S1 fun lo B2 H2 h2 S2 e2 => ?_
  refine hh T B0 H0 ρ _ h2 B2 H2 σ _ S2 fun hi B3 H3 h3 S3 e3 => ?_
  cases e <;> first | exact h3.elim | skip
  rename_i x
  have r3 : Rep B3 v x := Rep.mono (e2.trans e3).ex _ _ r1
  have ee := (e1.trans e2).trans e3
  cases x <;> first | exact h3.elim | skip
  · cases r3 with
    | lst q1 q2 =>
      exact .inl ⟨_, _, rfl, SqL.of (S3.ex _ _ q1), fun p hp => k _ _ _ _ h3 (S3.newF hp) (ee.trans (S3.stepF hp)) (show Rep _ _ _ from repL (S3.fresh hp).1 (cut_rep _ _ q2))⟩
  · cases r3 with
    | tup q1 q2 =>
      refine .inr ⟨_, _, rfl, SqT.of (S3.ex _ _ q1), fun w => ?_, fun _ p hp => k _ _ _ _ h3 (S3.newF hp) (ee.trans (S3.stepF hp)) (show Rep _ _ _ from repT (S3.fresh hp).1 (cut_rep _ _ q2))⟩
      rw [q2.len] at w
      dsimp only at h3
      rw [sIx_wholeD w] at h3
      exact k _ _ _ _ h3 S3 ee (show Rep _ _ _ from .tup q1 q2)
/-- in: flat things -/
def flatD : D → Bool
  | .none => true
  | .bool _ => true
  | .int _ => true
  | .str _ => true
  | _ => false
theorem flat_rep {B : Hp} {v : V} {d : D} (r : Rep B v d) : flatV v = flatD d := by cases r <;> rfl
theorem flatAll_rep {B : Hp} : ∀ {vs : List V} {ds : List D}, RepAll B vs ds → vs.all flatV = ds.all flatD
  | _, [], h => by cases h; rfl
  | _, d :: ds, h => by
    cases h with
    | cons h1 h2 => simp only [List.all_cons, flat_rep h1, flatAll_rep h2]
theorem eqV_rep {B : Hp} {v w : V} {d e : D} (r : Rep B v d) (q : Rep B w e) (f : flatD d = true) (g : flatD e = true) : eqV v w = PyData.eqv d e := by
  cases r <;> first | cases f; done | skip
  all_goals (cases q <;> first | (cases g; done) | rfl)
theorem inV_rep {B : Hp} {v : V} {d : D} (r : Rep B v d) (f : flatD d = true) : ∀ {vs : List V} {ds : List D}, RepAll B vs ds → ds.all flatD = true → inV v vs = ds.any fun y => PyData.eqv y d
  | _, [], h, _ => by cases h; rfl
  | _, e :: ds, h, g => by
    cases h with
    | cons h1 h2 =>
      rw [List.all_cons, Bool.and_eq_true] at g
      show (eqV _ _ || _) = _
      have := inV_rep r f h2 g.2
      unfold inV at this
      rw [this, eqV_rep h1 r g.1 f]
      rfl
def qIn (neg : Bool) : Q2 := fun x y Φ => match y with
  | .list ys => flatD x = true ∧ ys.all flatD = true ∧ Φ (.bool (if neg then !(ys.any fun y => PyData.eqv y x) else ys.any fun y => PyData.eqv y x))
  | .tuple ys => flatD x = true ∧ ys.all flatD = true ∧ Φ (.bool (if neg then !(ys.any fun y => PyData.eqv y x) else ys.any fun y => PyData.eqv y x))
  | _ => False
theorem s2In {K : PySem.W.Frag} {neg : Bool} : Sim2 (rIn K neg) (qIn neg) := by
  intro B H x y dx dy Φ Q ex rx ry h k
  cases dy <;> first | exact h.elim | skip
  · cases ry with
    | lst h1 h2 =>
      obtain ⟨f, g, h⟩ := h
      refine ⟨_, _, rfl, .inl (SqL.of (ex _ _ h1)), by rw [flat_rep rx]; exact f, by rw [flatAll_rep h2]; exact g, ?_⟩
      rw [inV_rep rx f h2 g]
      exact k _ _ B H h Grow.nil (.bl _)
  · cases ry with
    | tup h1 h2 =>
      obtain ⟨f, g, h⟩ := h
      refine ⟨_, _, rfl, .inr (SqT.of (ex _ _ h1)), by rw [flat_rep rx]; exact f, by rw [flatAll_rep h2]; exact g, ?_⟩
      rw [inV_rep rx f h2 g]
      exact k _ _ B H h Grow.nil (.bl _)

/-! ### -x -/
def qNeg : Q1 := fun x Φ => match x with
  | .int i => Φ (.int (-i))
  | _ => False
theorem s1Neg : Sim1 (rU fun i => .int (-i)) qNeg := by
  intro B H x dx Φ Q ex rx h k
  cases dx <;> first | exact h.elim | skip
  cases rx
  exact ⟨_, rfl, k _ _ B H h Grow.nil (.int _)⟩

/-! ### built-ins -/
theorem resD1 {T : Option Addr} {B : Hp} {vs : List V} {x : D} (r : ResAll T B vs [.d x]) : ∃ v, vs = [v] ∧ Rep B v x := by
  cases r with
  | cons h t => cases t; exact ⟨_, rfl, h⟩
theorem resD2 {T : Option Addr} {B : Hp} {vs : List V} {x y : D} (r : ResAll T B vs [.d x, .d y]) : ∃ v w, vs = [v, w] ∧ Rep B v x ∧ Rep B w y := by
  cases r with
  | cons h t =>
    obtain ⟨w, e, h2⟩ := resD1 t
    exact ⟨_, w, by rw [e], h, h2⟩
def q1C (q : Q1) : QC := fun es Φ => match es with
  | [.d x] => q x Φ
  | _ => False
def q2C (q : Q2) : QC := fun es Φ => match es with
  | [.d x, .d y] => q x y Φ
  | _ => False
def qLen : QC := q1C fun x Φ => match x with
  | .list xs => Φ (.int xs.length)
  | .tuple xs => Φ (.int xs.length)
  | .str s => s.length ≤ 100000 ∧ Φ (.int s.length)
  | _ => False
def rLenD (K : PySem.W.Frag) : List V → Hp → VK → Prop := fun xs H Q => (∃ p ys, xs = [.ref p] ∧ (SqL K H p ys ∨ SqT K H p ys) ∧ Q (.int ys.length) H) ∨ ∃ z, xs = [.str z] ∧ z.length ≤ sizeLine ∧ Q (.int z.length) H
theorem call_lenD' {X : Cx} : CallR X (.builtin "len") (rLenD X.K) := call_len_seq.or call_len_str
theorem q1C_inv {q : Q1} {T : Option Addr} {B : Hp} {vs : List V} {es : List Ent} {Φ : D → Prop} (r : ResAll T B vs es) (h : q1C q es Φ) : ∃ v x, vs = [v] ∧ Rep B v x ∧ q x Φ := by
  unfold q1C at h
  split at h
  · obtain ⟨v, e, h2⟩ := resD1 r
    exact ⟨v, _, e, h2, h⟩
  · exact h.elim
theorem q2C_inv {q : Q2} {T : Option Addr} {B : Hp} {vs : List V} {es : List Ent} {Φ : D → Prop} (r : ResAll T B vs es) (h : q2C q es Φ) : ∃ v w x y, vs = [v, w] ∧ Rep B v x ∧ Rep B w y ∧ q x y Φ := by
  unfold q2C at h
  split at h
  · obtain ⟨v, w, e, h2, h3⟩ := resD2 r
    exact ⟨v, w, _, _, e, h2, h3, h⟩
  · exact h.elim
theorem scLen {K : PySem.W.Frag} : SimC (rLenD K) qLen := by
  intro T B H xs es Φ Q ex r h k
  obtain ⟨v, x, rfl, rx, h⟩ := q1C_inv r h
  cases x <;> first | exact h.elim | skip
  · cases rx
    exact .inr ⟨_, rfl, sz_of h.1, k _ _ B H h.2 Grow.nil (.int _)⟩
  · cases rx with
    | lst h1 h2 => exact .inl ⟨_, _, rfl, .inl (SqL.of (ex _ _ h1)), k _ _ B H h Grow.nil (by rw [h2.len]; exact .int _)⟩
  · cases rx with
    | tup h1 h2 => exact .inl ⟨_, _, rfl, .inr (SqT.of (ex _ _ h1)), k _ _ B H h Grow.nil (by rw [h2.len]; exact .int _)⟩
def qTuple : QC := q1C fun x Φ => match x with
  | .list xs => Φ (.tuple xs)
  | .tuple xs => Φ (.tuple xs)
  | _ => False
def rTupleD (K : PySem.W.Frag) : List V → Hp → VK → Prop := fun xs H Q => ∃ p ys, xs = [.ref p] ∧ ((SqL K H p ys ∧ ∀ l, H l = none → Q (.ref l) (upd H l (.tup ys))) ∨ (SqT K H p ys ∧ Q (.ref p) H))
theorem scTuple {K : PySem.W.Frag} : SimC (rTupleD K) qTuple := by
  intro T B H xs es Φ Q ex r h k
  obtain ⟨v, x, rfl, rx, h⟩ := q1C_inv r h
  cases x <;> first | exact h.elim | skip
  · cases rx with
    | lst h1 h2 => exact ⟨_, _, rfl, .inl ⟨SqL.of (ex _ _ h1), fun l hl => k _ _ _ _ h (Grow.one hl) (repT (fresh_back ex hl) h2)⟩⟩
  · cases rx with
    | tup h1 h2 => exact ⟨_, _, rfl, .inr ⟨SqT.of (ex _ _ h1), k _ _ B H h Grow.nil (.tup h1 h2)⟩⟩
/-- list(x) -/
def qListL : List Ent → (List D → Prop) → Prop := fun es Φ => match es with
  | [.d (.list xs)] => Φ xs
  | [.d (.tuple xs)] => Φ xs
  | _ => False
def rListD (K : PySem.W.Frag) : List V → Hp → VK → Prop := fun xs H Q => ∃ p ys, xs = [.ref p] ∧ (SqL K H p ys ∨ SqT K H p ys) ∧ ∀ l, H l = none → Q (.ref l) (upd H l (.lst ys))
theorem sclList {K : PySem.W.Frag} : SimCL (rListD K) qListL := by
  intro T B H xs es Φ Q ex r h k
  unfold qListL at h
  split at h
  · obtain ⟨v, rfl, rx⟩ := resD1 r
    cases rx with
    | lst h1 h2 => exact ⟨_, _, rfl, .inl (SqL.of (ex _ _ h1)), fun l hl => k _ _ _ h hl h2⟩
  · obtain ⟨v, rfl, rx⟩ := resD1 r
    cases rx with
    | tup h1 h2 => exact ⟨_, _, rfl, .inr (SqT.of (ex _ _ h1)), fun l hl => k _ _ _ h hl h2⟩
  · exact h.elim
/-- sum, all -/
def qSum : QC := q1C fun x Φ => match x with
  | .list xs => ∃ ns : List Int, xs = ns.map .int ∧ Φ (.int ns.sum)
  | _ => False
theorem scSum {K : PySem.W.Frag} : SimC (rSum K) qSum := by
  intro T B H xs es Φ Q ex r h k
  obtain ⟨v, x, rfl, rx, h⟩ := q1C_inv r h
  cases x <;> first | exact h.elim | skip
  obtain ⟨ns, rfl, h⟩ := h
  cases rx with
  | lst h1 h2 =>
    have := h2.ofInts
    subst this
    exact ⟨_, ns, rfl, SqL.of (ex _ _ h1), k _ _ B H h Grow.nil (.int _)⟩
def qAll : QC := q1C fun x Φ => match x with
  | .list xs => ∃ ns : List Bool, xs = ns.map .bool ∧ Φ (.bool (ns.all id))
  | _ => False
theorem scAll {K : PySem.W.Frag} : SimC (rAll K) qAll := by
  intro T B H xs es Φ Q ex r h k
  obtain ⟨v, x, rfl, rx, h⟩ := q1C_inv r h
  cases x <;> first | exact h.elim | skip
  obtain ⟨ns, rfl, h⟩ := h
  cases rx with
  | lst h1 h2 =>
    have := h2.ofBls
    subst this
    exact ⟨_, ns, rfl, SqL.of (ex _ _ h1), k _ _ B H h Grow.nil (.bl _)⟩
/-- min, max of two; abs; int -/
def qMin2 : QC := q2C fun x y Φ => match x, y with
  | .int i, .int j => Φ (.int (if j < i then j else i))
  | _, _ => False
def qMax2 : QC := q2C fun x y Φ => match x, y with
  | .int i, .int j => Φ (.int (if j > i then j else i))
  | _, _ => False
def rMin2D : List V → Hp → VK → Prop := fun xs H Q => ∃ i j, xs = [.int i, .int j] ∧ Q (.int (if j < i then j else i)) H
def rMax2D : List V → Hp → VK → Prop := fun xs H Q => ∃ i j, xs = [.int i, .int j] ∧ Q (.int (if j > i then j else i)) H
theorem scMin2 : SimC rMin2D qMin2 := by
  intro T B H xs es Φ Q ex r h k
  obtain ⟨v, w, x, y, rfl, rx, ry, h⟩ := q2C_inv r h
  cases x <;> first | exact h.elim | skip
  cases y <;> first | exact h.elim | skip
  cases rx; cases ry
  exact ⟨_, _, rfl, k _ _ B H h Grow.nil (.int _)⟩
theorem scMax2 : SimC rMax2D qMax2 := by
  intro T B H xs es Φ Q ex r h k
  obtain ⟨v, w, x, y, rfl, rx, ry, h⟩ := q2C_inv r h
  cases x <;> first | exact h.elim | skip
  cases y <;> first | exact h.elim | skip
  cases rx; cases ry
  exact ⟨_, _, rfl, k _ _ B H h Grow.nil (.int _)⟩
def qAbs : QC := q1C fun x Φ => match x with
  | .int i => Φ (.int (if i < 0 then -i else i))
  | _ => False
def rAbsD : List V → Hp → VK → Prop := fun xs H Q => ∃ i, xs = [.int i] ∧ Q (.int (if i < 0 then -i else i)) H
theorem scAbs : SimC rAbsD qAbs := by
  intro T B H xs es Φ Q ex r h k
  obtain ⟨v, x, rfl, rx, h⟩ := q1C_inv r h
  cases x <;> first | exact h.elim | skip
  cases rx
  exact ⟨_, rfl, k _ _ B H h Grow.nil (.int _)⟩
def qInt : QC := q1C fun x Φ => match x with
  | .int i => Φ (.int i)
  | .bool b => Φ (.int (if b then 1 else 0))
  | _ => False
def rIntD : List V → Hp → VK → Prop := fun xs H Q => (∃ i, xs = [.int i] ∧ Q (.int i) H) ∨ ∃ k, xs = [.bl k] ∧ Q (.int (if k then 1 else 0)) H
theorem scInt : SimC rIntD qInt := by
  intro T B H xs es Φ Q ex r h k
  obtain ⟨v, x, rfl, rx, h⟩ := q1C_inv r h
  cases x <;> first | exact h.elim | skip
  · cases rx
    exact .inr ⟨_, rfl, k _ _ B H h Grow.nil (.int _)⟩
  · cases rx
    exact .inl ⟨_, rfl, k _ _ B H h Grow.nil (.int _)⟩
/-- isinstance with one or two written built-in classes -/
def tyD : D → String
  | .none => "NoneType"
  | .bool _ => "bool"
  | .int _ => "int"
  | .str _ => "str"
  | .list _ => "list"
  | .tuple _ => "tuple"
  | .dict _ => "dict"
theorem tyX_rep {K : PySem.W.Frag} {B H : Hp} {v : V} {d : D} (ex : Ex B H) (r : Rep B v d) : TyX K H v (.type (tyD d)) := by
  cases r with
  | non => exact .base .non
  | bl b => exact .base (.bl b)
  | int b => exact .base (.int b)
  | str b => exact .base (.str b)
  | lst h1 h2 => exact .base (.lst (ex _ _ h1))
  | tup h1 h2 => exact .base (.tup (ex _ _ h1))
end Pu

set_option Elab.async false
set_option linter.all false
set_option maxRecDepth 100000
set_option maxHeartbeats 1000000
/-! PuD: statements, loops, comprehensions, by data. -/
namespace Pu
open PySem L2 Evl

/-! ### statements -/
structure Pn where
  nx : En → Prop
  rt : Ent → Prop
  bk : En → Prop := fun _ => False
  ct : En → Prop := fun _ => False
abbrev PZ := Pn → En → Prop
structure EndsOk (T : Option Addr) (B0 H0 B : Hp) (P : Pn) (E : Ends) : Prop where
  nx : ∀ B' H' σ' ρ', P.nx ρ' → St T B0 H0 B' H' σ' ρ' → Ex B B' → E.nx σ' H'
  rt : ∀ e v B' H', P.rt e → Step T B0 H0 B' H' → Ex B' H' → TapeOk T B' H' → Res T B' v e → E.rt v H'
  bk : ∀ B' H' σ' ρ', P.bk ρ' → St T B0 H0 B' H' σ' ρ' → Ex B B' → E.bk σ' H'
  ct : ∀ B' H' σ' ρ', P.ct ρ' → St T B0 H0 B' H' σ' ρ' → Ex B B' → E.ct σ' H'
theorem EndsOk.mono {T : Option Addr} {B0 H0 B B1 : Hp} {P : Pn} {E : Ends} (k : EndsOk T B0 H0 B P E) (e : Ex B B1) : EndsOk T B0 H0 B1 P E :=
  ⟨fun B' H' σ' ρ' h S x => k.nx B' H' σ' ρ' h S (e.trans x), k.rt, fun B' H' σ' ρ' h S x => k.bk B' H' σ' ρ' h S (e.trans x), fun B' H' σ' ρ' h S x => k.ct B' H' σ' ρ' h S (e.trans x)⟩
def SimS (t : TS) (p : PZ) : Prop := ∀ T B0 H0 ρ P, p P ρ → ∀ B H σ (E : Ends), St T B0 H0 B H σ ρ → EndsOk T B0 H0 B P E → t E σ H
structure DS (X : Cx) (s : Stmt) (t : TS) (p : PZ) : Prop where
  ps : L2.PS X s t
  sim : SimS t p
structure DSs (X : Cx) (s : List Stmt) (t : TS) (p : PZ) : Prop where
  ps : PSs X s t
  sim : SimS t p

def pNext : PZ := fun P ρ => P.nx ρ
def pSeq (a b : PZ) : PZ := fun P ρ => a { P with nx := b P } ρ
def pRet (p : PX) : PZ := fun P ρ => p ρ P.rt
def pRetN : PZ := fun P _ => P.rt (.d .none)
def pIf (c : PXT) (a b : PZ) : PZ := fun P ρ => c ρ fun b' => match b' with
  | true => a P ρ
  | false => b P ρ
def pAsg (p : PX) (i : Nat) : PZ := fun P ρ => p ρ fun e => P.nx (ρ.set i e)
def pAsgL (p : PXL) (i : Nat) : PZ := fun P ρ => p ρ fun xs => P.nx (ρ.set i (.ol xs))
def pPar (a : PXA) (i j : Nat) : PZ := fun P ρ => a ρ fun es => match es with
  | [x, y] => P.nx ((ρ.set i x).set j y)
  | _ => False
def pAug (q : Q2) (i : Nat) (p : PX) : PZ := fun P ρ => match ρ[i]? with
  | some (.d x) => p ρ fun e => match e with
    | .d y => q x y fun z => P.nx (ρ.set i (.d z))
    | _ => False
  | _ => False
def pApp (i : Nat) (p : PX) : PZ := fun P ρ => match ρ[i]? with
  | some (.ol xs) => p ρ fun e => match e with
    | .d y => xs.length < 100000 ∧ P.nx (ρ.set i (.ol (xs ++ [y])))
    | _ => False
  | _ => False
/-- the owned list at i is frozen from here on -/
def pFz (i : Nat) (r : PZ) : PZ := fun P ρ => match ρ[i]? with
  | some (.ol xs) => r P (ρ.set i (.d (.list xs)))
  | _ => False

section
variable {t u : TS} {p q : PZ} {te : TE} {pe : PX} {tc : TT} {pc : PXT} {tA : TA} {pA : PXA} {pl : PXL}
theorem simNext : SimS tNext pNext := fun T B0 H0 ρ P h B H σ E S k => k.nx B H σ ρ h S (Ex.refl B)
theorem simSeq (a : SimS t p) (b : SimS u q) : SimS (tSeq t u) (pSeq p q) := fun T B0 H0 ρ P h B H σ E S k =>
  a T B0 H0 ρ _ h B H σ _ S ⟨fun B' H' σ' ρ' h' S' x => b T B0 H0 ρ' P h' B' H' σ' E S' (k.mono x), k.rt, k.bk, k.ct⟩
theorem simRet (a : SimE te pe) : SimS (tRet te) (pRet pe) := fun T B0 H0 ρ P h B H σ E S k =>
  a T B0 H0 ρ _ h B H σ _ S fun e v B1 H1 h1 S1 e1 r1 => k.rt e v B1 H1 h1 S1.step S1.ex S1.tape r1
theorem simRetN : SimS tRetN pRetN := fun T B0 H0 ρ P h B H σ E S k => k.rt _ _ B H h S.step S.ex S.tape (show Rep _ _ _ from .non)
theorem simIf (c : SimT tc pc) (a : SimS t p) (b : SimS u q) : SimS (tIfS tc t u) (pIf pc p q) := by
  intro T B0 H0 ρ P h B H σ E S k
  refine c T B0 H0 ρ _ h B H σ _ S fun b' B1 H1 h1 S1 e1 => ?_
  cases b' with
  | true => exact iteT (a T B0 H0 ρ P h1 B1 H1 σ E S1 (k.mono e1.ex))
  | false => exact iteF (b T B0 H0 ρ P h1 B1 H1 σ E S1 (k.mono e1.ex))
theorem simAsg {i : Nat} (a : SimE te pe) : SimS (tAsg te (gName i)) (pAsg pe i) := fun T B0 H0 ρ P h B H σ E S k =>
  a T B0 H0 ρ _ h B H σ _ S fun e v B1 H1 h1 S1 e1 r1 => k.nx B1 H1 _ _ h1 (S1.setD r1) e1.ex
theorem simAsgL {i : Nat} (a : SimL te pl) : SimS (tAsg te (gName i)) (pAsgL pl i) := fun T B0 H0 ρ P h B H σ E S k =>
  a T B0 H0 ρ _ h B H σ _ S fun ds l vs B1 H1 h1 S1 e1 hl hb hl1 r1 => by
    have f0 := S.fresh hl
    refine k.nx B1 H1 _ _ h1 (S1.setO (e := .ol ds) ⟨l, vs, rfl, f0.2.1, hb, f0.2.2, hl1, r1⟩ fun l' e j f hf ho hs => ?_) e1.ex
    cases e
    exact S.ownNe hl j f hf ho hs
theorem simPar {i j : Nat} (a : SimA tA pA) : SimS (tPar i j tA) (pPar pA i j) := by
  intro T B0 H0 ρ P h B H σ E S k
  refine a T B0 H0 ρ _ h B H σ _ S fun es vs B1 H1 h1 S1 e1 r1 => ?_
  match es, vs, r1, h1 with
  | [x, y], [v, w], .cons r (.cons r' .nil), h1 => exact ⟨v, w, rfl, k.nx B1 H1 _ _ h1 ((S1.setD r).setD r') e1.ex⟩
  | [], _, _, h1 => exact h1.elim
  | [_], _, _, h1 => exact h1.elim
  | _ :: _ :: _ :: _, _, _, h1 => exact h1.elim
theorem simAug {i : Nat} {r : R2} {q2 : Q2} (s : Sim2 r q2) (a : SimE te pe) : SimS (tAug i te r) (pAug q2 i pe) := by
  intro T B0 H0 ρ P h B H σ E S k
  unfold pAug at h
  split at h
  · rename_i x e
    obtain ⟨o, h1, h2⟩ := S.env i _ e
    rcases h2 with h2 | ⟨v, h2, h3 | h3⟩
    · cases h2
    · refine ⟨v, by rw [h1, h2], a T B0 H0 ρ _ h B H σ _ S fun f w B1 H1 h4 S1 e1 r1 => ?_⟩
      cases f <;> first | exact h4.elim | skip
      rename_i y
      refine s B1 H1 v w x y _ _ S1.ex (Rep.mono e1.ex _ _ h3) r1 h4 fun z d B3 H3 hd g rz => ?_
      obtain ⟨S3, e3⟩ := g.st S1
      exact k.nx B3 H3 _ _ hd (S3.setD (e := .d d) rz) (e1.trans e3).ex
    · exact h3.elim
  · exact h.elim
/-- an object outside B is changed -/
theorem St.mut {T : Option Addr} {B0 H0 B H : Hp} {σ : L2.St} {ρ : En} (S : St T B0 H0 B H σ ρ) {l : Addr} {o : HO} (hB : B l = none) (h0 : H0 l = none) (ht : T ≠ some l)
    (hs : ∀ (i : Nat) (e : Ent), ρ[i]? = some e → e.own = true → σ[i]? ≠ some (some (.ref l))) : St T B0 H0 B (upd H l o) σ ρ := by
  refine ⟨⟨S.step.ex, fun a u h n => ?_, S.step.new⟩, fun a u h => ?_, fun x e => ?_, S.len, fun i e he => ?_, S.sep⟩
  · rw [upd_ne (ne_of_none h h0)]; exact S.step.keep a u h n
  · rw [upd_ne (ne_of_none h hB)]; exact S.ex a u h
  · obtain ⟨h0, Sx, ns, i, c, h1, h2, h3⟩ := S.tape x e
    exact ⟨h0, Sx, ns, i, c, by rw [upd_ne (show x ≠ l from fun z => ht (by rw [e, z]))]; exact h1, h2, h3⟩
  · obtain ⟨o', h1, h2⟩ := S.env i e he
    refine ⟨o', h1, ?_⟩
    rcases h2 with h2 | ⟨v, h2, h3⟩
    · exact .inl h2
    · refine .inr ⟨v, h2, ?_⟩
      rcases h3 with h3 | h3
      · exact .inl h3
      · refine .inr ?_
        cases e with
        | ol xs =>
          obtain ⟨l', vs, e1, e2, e3, e4, e5, e6⟩ := h3
          have nl : l' ≠ l := fun z => hs i _ he rfl (by rw [h1, h2, e1, z])
          exact ⟨l', vs, e1, e2, e3, e4, by rw [upd_ne nl]; exact e5, e6⟩
        | oi xs =>
          obtain ⟨l', e1, e2, e3, e4, e5⟩ := h3
          have nl : l' ≠ l := fun z => hs i _ he rfl (by rw [h1, h2, e1, z])
          exact ⟨l', e1, e2, e3, e4, by rw [upd_ne nl]; exact e5⟩
        | _ => exact h3.elim
/-- the owned object at slot i is changed -/
theorem St.mutO {T : Option Addr} {B0 H0 B H : Hp} {σ : L2.St} {ρ : En} (S : St T B0 H0 B H σ ρ) {i : Nat} {l : Addr} {o : HO} {e f : Ent} (he : ρ[i]? = some e) (ho : e.own = true) (hσ : σ[i]? = some (some (.ref l)))
    (hB : B l = none) (h0 : H0 l = none) (ht : T ≠ some l) (hf : Own T H0 B (upd H l o) (.ref l) f) : St T B0 H0 B (upd H l o) σ (ρ.set i f) := by
  have hi : i < ρ.length := (List.getElem?_eq_some_iff.mp he).1
  have sep' : ∀ (j : Nat) (g : Ent), i ≠ j → ρ[j]? = some g → g.own = true → σ[j]? ≠ some (some (.ref l)) := fun j g hij hg og z => S.sep i j e g l hij he hg ho og hσ z
  refine ⟨⟨S.step.ex, fun a u h n => ?_, S.step.new⟩, fun a u h => ?_, fun x e => ?_, by simp [S.len], fun j g hg => ?_, fun j k g g' l' hjk hg hg' og og' s1 s2 => ?_⟩
  · rw [upd_ne (ne_of_none h h0)]; exact S.step.keep a u h n
  · rw [upd_ne (ne_of_none h hB)]; exact S.ex a u h
  · obtain ⟨h0, Sx, ns, i, c, h1, h2, h3⟩ := S.tape x e
    exact ⟨h0, Sx, ns, i, c, by rw [upd_ne (show x ≠ l from fun z => ht (by rw [e, z]))]; exact h1, h2, h3⟩
  · by_cases hij : i = j
    · subst hij
      rw [List.getElem?_set_self hi] at hg
      cases hg
      exact ⟨_, hσ, .inr ⟨_, rfl, .inr hf⟩⟩
    · rw [List.getElem?_set_ne hij] at hg
      obtain ⟨o', h1, h2⟩ := S.env j g hg
      refine ⟨o', h1, ?_⟩
      rcases h2 with h2 | ⟨v, h2, h3⟩
      · exact .inl h2
      · refine .inr ⟨v, h2, ?_⟩
        rcases h3 with h3 | h3
        · exact .inl h3
        · refine .inr ?_
          cases g with
          | ol xs =>
            obtain ⟨l', vs, e1, e2, e3, e4, e5, e6⟩ := h3
            have nl : l' ≠ l := fun z => sep' j _ hij hg rfl (by rw [h1, h2, e1, z])
            exact ⟨l', vs, e1, e2, e3, e4, by rw [upd_ne nl]; exact e5, e6⟩
          | oi xs =>
            obtain ⟨l', e1, e2, e3, e4, e5⟩ := h3
            have nl : l' ≠ l := fun z => sep' j _ hij hg rfl (by rw [h1, h2, e1, z])
            exact ⟨l', e1, e2, e3, e4, by rw [upd_ne nl]; exact e5⟩
          | _ => exact h3.elim
  · have aux : ∀ {j : Nat} {g : Ent}, (ρ.set i f)[j]? = some g → g.own = true → ∃ g', ρ[j]? = some g' ∧ g'.own = true := fun {j g} hg og => by
      by_cases h : i = j
      · subst h; exact ⟨e, he, ho⟩
      · rw [List.getElem?_set_ne h] at hg
        exact ⟨g, hg, og⟩
    obtain ⟨g1, a1, b1⟩ := aux hg og
    obtain ⟨g2, a2, b2⟩ := aux hg' og'
    exact S.sep j k g1 g2 l' hjk a1 a2 b1 b2 s1 s2
theorem simApp {K : PySem.W.Frag} {i : Nat} (a : SimE te pe) : SimS (tDrop (tBM K "list" rAppend (tVar i) (tCons te tNil))) (pApp i pe) := by
  intro T B0 H0 ρ P h B H σ E S k
  unfold pApp at h
  split at h
  · rename_i xs e
    obtain ⟨o, h1, h2⟩ := S.env i _ e
    rcases h2 with h2 | ⟨v, h2, h3 | h3⟩
    · cases h2
    · exact h3.elim
    · obtain ⟨l, vs, rfl, f0, f1, f2, f3, f4⟩ := h3
      refine ⟨.ref l, by rw [h1, h2], .inl ⟨rfl, _, SqL.of f3⟩, ?_⟩
      refine a T B0 H0 ρ _ h B H σ _ S fun f w B1 H1 h4 S1 e1 r1 => ?_
      cases f <;> first | exact h4.elim | skip
      rename_i y
      have hl1 : H1 l = some (.lst vs) := e1.keep l _ f3 f2
      have hb1 : B1 l = none := e1.new l _ f3 f2 f1
      have rv : RepAll B1 vs xs := RepAll.mono e1.ex _ _ f4
      refine ⟨l, vs, w, rfl, rfl, hl1, by rw [rv.len]; exact sz_lt h4.1, ?_⟩
      exact k.nx B1 _ _ _ h4.2 (S1.mutO e rfl (by rw [h1, h2]) hb1 f0 f2 ⟨l, _, rfl, f0, hb1, f2, upd_same, rv.app (.cons r1 .nil)⟩) e1.ex
  · exact h.elim
theorem St.fz {T : Option Addr} {B0 H0 B H : Hp} {σ : L2.St} {ρ : En} (S : St T B0 H0 B H σ ρ) {i : Nat} {xs : List D} (e : ρ[i]? = some (.ol xs)) : ∃ B', St T B0 H0 B' H σ (ρ.set i (.d (.list xs))) ∧ Ex B B' := by
  obtain ⟨o, h1, h2⟩ := S.env i _ e
  rcases h2 with h2 | ⟨v, h2, h3 | h3⟩
  · cases h2
  · exact h3.elim
  · obtain ⟨l, vs, rfl, f0, f1, f2, f3, f4⟩ := h3
    have hi : i < ρ.length := (List.getElem?_eq_some_iff.mp e).1
    have hiσ : i < σ.length := by rw [S.len]; exact hi
    -- first forget the slot, then freeze, then say what it is
    have S1 : St T B0 H0 B H σ (ρ.set i .u) := by
      refine ⟨S.step, S.ex, S.tape, by simp [S.len], fun j f hf => ?_, fun j k f g l hjk hf hg of og s1 s2 => ?_⟩
      · by_cases h : i = j
        · subst h
          rw [List.getElem?_set_self hi] at hf
          cases hf
          exact ⟨_, h1, .inl rfl⟩
        · rw [List.getElem?_set_ne h] at hf
          exact S.env j f hf
      · have aux : ∀ {j : Nat} {f : Ent}, (ρ.set i .u)[j]? = some f → f.own = true → ρ[j]? = some f := fun {j f} hf of => by
          by_cases h : i = j
          · subst h
            rw [List.getElem?_set_self hi] at hf
            cases hf; cases of
          · rw [List.getElem?_set_ne h] at hf
            exact hf
        exact S.sep j k f g l hjk (aux hf of) (aux hg og) of og s1 s2
    have S2 := S1.freeze f3 f1 f0 f2 fun j f hf ho hs => by
      by_cases h : i = j
      · subst h
        rw [List.getElem?_set_self hi] at hf
        cases hf; cases ho
      · rw [List.getElem?_set_ne h] at hf
        exact S.sep i j _ f l h e hf rfl ho (by rw [h1, h2]) hs
    have S3 := S2.setD (i := i) (v := .ref l) (e := .d (.list xs)) (show Rep _ _ _ from repL f1 f4)
    refine ⟨upd B l (.lst vs), ?_, Ex.new f1⟩
    have e1 : σ.set i (some (.ref l)) = σ := by
      apply List.ext_getElem?
      intro j
      by_cases h : i = j
      · subst h; rw [List.getElem?_set_self hiσ, h1, h2]
      · rw [List.getElem?_set_ne h]
    have e2 : (ρ.set i .u).set i (.d (.list xs)) = ρ.set i (.d (.list xs)) := List.set_set ..
    rw [e1, e2] at S3
    exact S3
theorem simFz {i : Nat} (a : SimS t p) : SimS t (pFz i p) := by
  intro T B0 H0 ρ P h B H σ E S k
  unfold pFz at h
  split at h
  · rename_i xs e
    obtain ⟨B', S', x⟩ := S.fz e
    exact a T B0 H0 _ P h B' H σ E S' (k.mono x)
  · exact h.elim
end

/-! ### targets -/
abbrev PGt := D → En → (En → Prop) → Prop
abbrev PGts := List D → En → (En → Prop) → Prop
def pGN (i : Nat) : PGt := fun x ρ Φ => Φ (ρ.set i (.d x))
def pGNil : PGts := fun xs ρ Φ => match xs with
  | [] => Φ ρ
  | _ => False
def pGCons (g : PGt) (r : PGts) : PGts := fun xs ρ Φ => match xs with
  | x :: xs => g x ρ fun ρ' => r xs ρ' Φ
  | [] => False
def pGT (r : PGts) : PGt := fun x ρ Φ => match x with
  | .tuple xs => r xs ρ Φ
  | _ => False
/-- only the slots ks change -/
def Only (ks : List Nat) (σ σ' : L2.St) : Prop := σ'.length = σ.length ∧ ∀ j, j ∉ ks → σ'[j]? = σ[j]?
theorem Only.refl {ks : List Nat} {σ : L2.St} : Only ks σ σ := ⟨rfl, fun _ _ => rfl⟩
theorem Only.trans {ks : List Nat} {σ σ1 σ2 : L2.St} (a : Only ks σ σ1) (b : Only ks σ1 σ2) : Only ks σ σ2 := ⟨b.1.trans a.1, fun j h => (b.2 j h).trans (a.2 j h)⟩
theorem Only.sub {ks ls : List Nat} {σ σ1 : L2.St} (a : Only ks σ σ1) (h : ∀ i ∈ ks, i ∈ ls) : Only ls σ σ1 := ⟨a.1, fun j hj => a.2 j fun z => hj (h j z)⟩
def SimG (g : TG) (p : PGt) (ks : List Nat) : Prop := ∀ T B0 H0 ρ x Φ, p x ρ Φ → ∀ B H σ v (Q : L2.St → Hp → Prop), St T B0 H0 B H σ ρ → Rep B v x → (∀ σ' ρ', Φ ρ' → St T B0 H0 B H σ' ρ' → Only ks σ σ' → Q σ' H) → g v σ H Q
def SimGs (g : TGs) (p : PGts) (ks : List Nat) : Prop := ∀ T B0 H0 ρ xs Φ, p xs ρ Φ → ∀ B H σ vs (Q : L2.St → Hp → Prop), St T B0 H0 B H σ ρ → RepAll B vs xs → (∀ σ' ρ', Φ ρ' → St T B0 H0 B H σ' ρ' → Only ks σ σ' → Q σ' H) → g vs σ H Q
theorem simGN (i : Nat) : SimG (gName i) (pGN i) [i] := fun T B0 H0 ρ x Φ h B H σ v Q S r k =>
  k _ _ h (S.setD (e := .d x) r) ⟨by simp, fun j hj => List.getElem?_set_ne (by simpa [eq_comm] using hj)⟩
theorem simGNil : SimGs gNil pGNil [] := fun T B0 H0 ρ xs Φ h B H σ vs Q S r k => by
  cases xs with
  | nil => cases r; exact ⟨rfl, k _ _ h S Only.refl⟩
  | cons x xs => exact h.elim
theorem simGCons {g : TG} {gs : TGs} {p : PGt} {ps : PGts} {ks ls : List Nat} (a : SimG g p ks) (b : SimGs gs ps ls) : SimGs (gCons g gs) (pGCons p ps) (ks ++ ls) := fun T B0 H0 ρ xs Φ h B H σ vs Q S r k => by
  cases xs with
  | nil => exact h.elim
  | cons x xs =>
    cases r with
    | cons r1 r2 =>
      refine ⟨_, _, rfl, a T B0 H0 ρ x _ h B H σ _ _ S r1 fun σ1 ρ1 h1 S1 o1 => ?_⟩
      exact b T B0 H0 ρ1 xs Φ h1 B H σ1 _ Q S1 r2 fun σ2 ρ2 h2 S2 o2 => k σ2 ρ2 h2 S2 ((o1.sub fun i hi => List.mem_append_left _ hi).trans (o2.sub fun i hi => List.mem_append_right _ hi))
def lenOk (p : PGts) (n : Nat) : Prop := ∀ xs ρ Φ, p xs ρ Φ → xs.length = n
theorem lenNil : lenOk pGNil 0 := fun xs ρ Φ h => by
  cases xs with
  | nil => rfl
  | cons _ _ => exact h.elim
theorem SimG.len {g : PGt} {ps : PGts} {n : Nat} (h : lenOk ps n) (hg : ∀ x ρ Φ, g x ρ Φ → ∃ ρ', Φ ρ') : lenOk (pGCons g ps) (n + 1) := fun xs ρ Φ q => by
  cases xs with
  | nil => exact q.elim
  | cons x xs =>
    obtain ⟨ρ', q'⟩ := hg x ρ _ q
    simp [h xs ρ' Φ q']
theorem hitN {i : Nat} : ∀ x ρ Φ, pGN i x ρ Φ → ∃ ρ', Φ ρ' := fun x ρ Φ h => ⟨_, h⟩
theorem hitNil : ∀ xs ρ Φ, pGNil xs ρ Φ → ∃ ρ', Φ ρ' := fun xs ρ Φ h => by
  cases xs with
  | nil => exact ⟨_, h⟩
  | cons _ _ => exact h.elim
theorem hitCons {g : PGt} {ps : PGts} (a : ∀ x ρ Φ, g x ρ Φ → ∃ ρ', Φ ρ') (b : ∀ xs ρ Φ, ps xs ρ Φ → ∃ ρ', Φ ρ') : ∀ xs ρ Φ, pGCons g ps xs ρ Φ → ∃ ρ', Φ ρ' := fun xs ρ Φ h => by
  cases xs with
  | nil => exact h.elim
  | cons x xs =>
    obtain ⟨ρ', h'⟩ := a x ρ _ h
    exact b xs ρ' Φ h'
theorem hitT {ps : PGts} (b : ∀ xs ρ Φ, ps xs ρ Φ → ∃ ρ', Φ ρ') : ∀ x ρ Φ, pGT ps x ρ Φ → ∃ ρ', Φ ρ' := fun x ρ Φ h => by
  cases x <;> first | exact h.elim | skip
  exact b _ ρ Φ h
theorem simGT {K : PySem.W.Frag} {gs : TGs} {ps : PGts} {ks : List Nat} {n : Nat} (hn : lenOk ps n) (b : SimGs gs ps ks) : SimG (gTup K n gs) (pGT ps) ks := fun T B0 H0 ρ x Φ h B H σ v Q S r k => by
  cases x <;> first | exact h.elim | skip
  cases r with
  | tup h1 h2 => exact ⟨_, _, rfl, SqT.of (S.ex _ _ h1), by rw [h2.len]; exact hn _ _ _ h, b T B0 H0 ρ _ Φ h B H σ _ Q S h2 k⟩

/-! ### what is walked -/
structure ItOk (B1 : Hp) (J : It) (xs : List D) : Prop where
  go : ∀ (i : Nat) x B H, xs[i]? = some x → Ex B1 B → Ex B H → J.go i H
  yld : ∀ (i : Nat) x B H v H', xs[i]? = some x → Ex B1 B → Ex B H → J.yld i H v H' → ∃ B', Grow B H B' H' ∧ Rep B' v x
  stop : ∀ B H, Ex B1 B → Ex B H → J.stop xs.length H
theorem ItOk.mono {B1 B2 : Hp} {J : It} {xs : List D} (o : ItOk B1 J xs) (e : Ex B1 B2) : ItOk B2 J xs :=
  ⟨fun i x B H h a b => o.go i x B H h (e.trans a) b, fun i x B H v H' h a b => o.yld i x B H v H' h (e.trans a) b, fun B H a b => o.stop B H (e.trans a) b⟩
def SimI (wi : TI) (p : PXL) : Prop := ∀ T B0 H0 ρ Φ, p ρ Φ → ∀ B H σ (R : It → Hp → Prop), St T B0 H0 B H σ ρ → (∀ J xs B' H', Φ xs → St T B0 H0 B' H' σ ρ → Step T B H B' H' → ItOk B' J xs → R J H') → wi σ H R
structure DI (X : Cx) (tg e : Expr) (t : TI) (p : PXL) : Prop where
  pi : PI X tg e t
  sim : SimI t p
structure DG (X : Cx) (tg : Expr) (g : TG) (p : PGt) (ks : List Nat) : Prop where
  pg : PG X tg g
  sim : SimG g p ks
  hit : ∀ x ρ Φ, p x ρ Φ → ∃ ρ', Φ ρ'
structure DGs (X : Cx) (tg : List Expr) (g : TGs) (p : PGts) (ks : List Nat) (n : Nat) : Prop where
  pg : PGs X tg g
  sim : SimGs g p ks
  hit : ∀ xs ρ Φ, p xs ρ Φ → ∃ ρ', Φ ρ'
  len : lenOk p n

/-! ### for -/
def forL (g : PGt) (body : PZ) : List D → Pn → En → Prop
  | [], P, ρ => P.nx ρ
  | x :: xs, P, ρ => g x ρ fun ρ1 => body { P with nx := fun ρ' => forL g body xs P ρ', ct := fun ρ' => forL g body xs P ρ', bk := P.nx } ρ1
def pFor (w : PXL) (g : PGt) (body : PZ) : PZ := fun P ρ => w ρ fun xs => forL g body xs P ρ
theorem simFor {wi : TI} {g : TG} {tb : TS} {w : PXL} {pg : PGt} {body : PZ} {ks : List Nat} (a : SimI wi w) (b : SimG g pg ks) (c : SimS tb body) : SimS (tFor wi g tb) (pFor w pg body) := by
  intro T B0 H0 ρ P h B H σ E S k
  refine a T B0 H0 ρ _ h B H σ _ S fun J xs B1 H1 h1 S1 e1 ok => ?_
  refine ⟨fun i m σ' H' => m = xs.length - i ∧ i ≤ xs.length ∧ ∃ B' ρ', St T B0 H0 B' H' σ' ρ' ∧ Ex B1 B' ∧ forL pg body (xs.drop i) P ρ', ⟨xs.length, by simp, Nat.zero_le _, B1, ρ, S1, Ex.refl _, h1⟩, ?_⟩
  rintro i m σ' H' ⟨rfl, hi, B', ρ', S', x', f'⟩
  by_cases hlt : i < xs.length
  · have hx : xs[i]? = some xs[i] := List.getElem?_eq_getElem hlt
    rw [List.drop_eq_getElem_cons hlt] at f'
    refine .inr ⟨ok.go i _ B' H' hx x' S'.ex, fun σ2 H2 => ∃ B2 ρ2, St T B0 H0 B2 H2 σ2 ρ2 ∧ Ex B1 B2 ∧ forL pg body (xs.drop (i + 1)) P ρ2, fun σ2 H2 ⟨B2, ρ2, S2, x2, f2⟩ => ⟨xs.length - (i + 1), by omega, rfl, hlt, B2, ρ2, S2, x2, f2⟩, fun v H3 y => ?_⟩
    obtain ⟨B3, g3, r3⟩ := ok.yld i _ B' H' v H3 hx x' S'.ex y
    obtain ⟨S3, e3⟩ := g3.st S'
    refine b T B0 H0 ρ' _ _ f' B3 H3 σ' v _ S3 r3 fun σ4 ρ4 h4 S4 _ => ?_
    have ex3 : Ex B1 B3 := x'.trans e3.ex
    refine c T B0 H0 ρ4 _ h4 B3 H3 σ4 _ S4 ⟨fun B5 H5 σ5 ρ5 h5 S5 x5 => ⟨B5, ρ5, S5, ex3.trans x5, h5⟩, k.rt, fun B5 H5 σ5 ρ5 h5 S5 x5 => ?_, fun B5 H5 σ5 ρ5 h5 S5 x5 => ⟨B5, ρ5, S5, ex3.trans x5, h5⟩⟩
    exact k.nx B5 H5 σ5 ρ5 h5 S5 ((e1.ex.trans ex3).trans x5)
  · have e : i = xs.length := by omega
    subst e
    rw [List.drop_length] at f'
    exact .inl ⟨ok.stop B' H' x' S'.ex, k.nx B' H' σ' ρ' f' S' (e1.ex.trans x')⟩

/-! ### while -/
def whL (c : PXT) (body : PZ) : Nat → Pn → En → Prop
  | 0, _, _ => False
  | n + 1, P, ρ => c ρ fun b => match b with
    | true => body { P with nx := fun ρ' => whL c body n P ρ', ct := fun ρ' => whL c body n P ρ', bk := P.nx } ρ
    | false => P.nx ρ
def pWhile (c : PXT) (body : PZ) : PZ := fun P ρ => ∃ n, whL c body n P ρ
theorem simWhile {tc : TT} {tb : TS} {c : PXT} {body : PZ} (a : SimT tc c) (b : SimS tb body) : SimS (tWhile tc tb) (pWhile c body) := by
  intro T B0 H0 ρ P h B H σ E S k
  obtain ⟨n, h⟩ := h
  refine ⟨fun m σ' H' => ∃ B' ρ', St T B0 H0 B' H' σ' ρ' ∧ Ex B B' ∧ whL c body m P ρ', ⟨n, B, ρ, S, Ex.refl _, h⟩, ?_⟩
  rintro m σ' H' ⟨B', ρ', S', x', f'⟩
  cases m with
  | zero => exact f'.elim
  | succ m =>
    refine a T B0 H0 ρ' _ f' B' H' σ' _ S' fun d B1 H1 h1 S1 e1 => ?_
    cases d with
    | true =>
      refine iteT ⟨fun σ2 H2 => ∃ B2 ρ2, St T B0 H0 B2 H2 σ2 ρ2 ∧ Ex B B2 ∧ whL c body m P ρ2, fun σ2 H2 h2 => ⟨m, Nat.lt_succ_self m, h2⟩, ?_⟩
      have ex1 : Ex B B1 := x'.trans e1.ex
      refine b T B0 H0 ρ' _ h1 B1 H1 σ' _ S1 ⟨fun B5 H5 σ5 ρ5 h5 S5 x5 => ⟨B5, ρ5, S5, ex1.trans x5, h5⟩, k.rt, fun B5 H5 σ5 ρ5 h5 S5 x5 => ?_, fun B5 H5 σ5 ρ5 h5 S5 x5 => ⟨B5, ρ5, S5, ex1.trans x5, h5⟩⟩
      exact k.nx B5 H5 σ5 ρ5 h5 S5 (ex1.trans x5)
    | false => exact iteF (k.nx B1 H1 σ' ρ' h1 S1 (x'.trans e1.ex))

/-! ### comprehensions -/
def pYes : PXT := fun _ Φ => Φ true
theorem simYes : SimT tYes pYes := fun T B0 H0 ρ Φ h B H σ Q S k => k _ B H h S Step.refl
def elD (Ψ : Option D → Prop) : Ent → Prop
  | .d y => Ψ (some y)
  | _ => False
def lcK (Φ : List D → Prop) (k : (List D → Prop) → Prop) : Option D → Prop
  | some y => k fun r => Φ (y :: r)
  | none => k Φ
def lcL (g : PGt) (t : PXT) (e : PX) (ρ : En) : List D → (List D → Prop) → Prop
  | [], Φ => Φ []
  | x :: xs, Φ => g x ρ fun ρ1 => t ρ1 fun b => (b = true → e ρ1 (elD (lcK Φ (lcL g t e ρ xs)))) ∧ (b = false → lcK Φ (lcL g t e ρ xs) none)
def pLc (w : PXL) (vs : List Nat) (g : PGt) (t : PXT) (e : PX) : PXL := fun ρ Φ => w ρ fun xs => xs.length ≤ 100000 ∧ lcL g t e (wipeE ρ vs) xs Φ
theorem wipe_ext {σ σ' : L2.St} (hl : σ'.length = σ.length) : ∀ vs : List Nat, (∀ j, j ∉ vs → σ'[j]? = σ[j]?) → L2.wipe σ' vs = L2.wipe σ vs := fun vs h => by
  have len : ∀ τ : L2.St, (L2.wipe τ vs).length = τ.length := fun τ => L2.wipe_length τ vs
  have inn : ∀ (vs : List Nat) (τ : L2.St) (j : Nat), j ∈ vs → j < τ.length → (L2.wipe τ vs)[j]? = some none := fun vs => by
    induction vs with
    | nil => intro τ j h; cases h
    | cons v vs ih =>
      intro τ j hj hl
      show ((L2.wipe τ vs).set v none)[j]? = _
      by_cases e : v = j
      · subst e
        exact List.getElem?_set_self (by rw [L2.wipe_length]; exact hl)
      · rw [List.getElem?_set_ne e]
        rcases List.mem_cons.mp hj with z | z
        · exact absurd z.symm e
        · exact ih τ j z hl
  have out : ∀ (vs : List Nat) (τ : L2.St) (j : Nat), j ∉ vs → (L2.wipe τ vs)[j]? = τ[j]? := fun vs => by
    induction vs with
    | nil => intro τ j h; rfl
    | cons v vs ih =>
      intro τ j hj
      show ((L2.wipe τ vs).set v none)[j]? = _
      rw [List.mem_cons, not_or] at hj
      rw [List.getElem?_set_ne (Ne.symm hj.1)]
      exact ih τ j hj.2
  apply List.ext_getElem?
  intro j
  by_cases hj : j ∈ vs
  · by_cases hlt : j < σ.length
    · rw [inn vs σ j hj hlt, inn vs σ' j hj (by omega)]
    · rw [List.getElem?_eq_none (by rw [len]; omega), List.getElem?_eq_none (by rw [len]; omega)]
  · rw [out vs σ j hj, out vs σ' j hj, h j hj]
theorem wipe_wipe (σ : L2.St) (vs : List Nat) : L2.wipe (L2.wipe σ vs) vs = L2.wipe σ vs := wipe_ext (L2.wipe_length σ vs) vs fun j hj => by
  have out : ∀ (vs : List Nat) (τ : L2.St) (j : Nat), j ∉ vs → (L2.wipe τ vs)[j]? = τ[j]? := fun vs => by
    induction vs with
    | nil => intro τ j h; rfl
    | cons v vs ih =>
      intro τ j hj
      show ((L2.wipe τ vs).set v none)[j]? = _
      rw [List.mem_cons, not_or] at hj
      rw [List.getElem?_set_ne (Ne.symm hj.1)]
      exact ih τ j hj.2
  exact out vs σ j hj
theorem simLc {wi : TI} {g : TG} {tt : TT} {te : TE} {w : PXL} {pg : PGt} {pt : PXT} {pe : PX} {vs ks : List Nat} (a : SimI wi w) (b : SimG g pg ks) (hk : ∀ i ∈ ks, i ∈ vs) (c : SimT tt pt) (d : SimE te pe) : SimL (tLc wi g tt te vs) (pLc w vs pg pt pe) := by
  intro T B0 H0 ρ Φ h B H σ Q S k
  refine a T B0 H0 ρ _ h B H σ _ S fun J xs B1 H1 h1 S1 e1 ok => ?_
  obtain ⟨hz, h1⟩ := h1
  intro Dl hD
  have f1 := S1.fresh hD
  refine ⟨fun i m H' => m = xs.length - i ∧ i ≤ xs.length ∧ ∃ B' acc ws, H' Dl = some (.lst ws) ∧ RepAll B' ws acc ∧ acc.length ≤ i ∧ B' Dl = none ∧ St T B0 H0 B' H' σ ρ ∧ Step T B1 H1 B' H' ∧ lcL pg pt pe (wipeE ρ vs) (xs.drop i) fun r => Φ (acc ++ r),
    ⟨xs.length, by simp, Nat.zero_le _, B1, [], [], upd_same, .nil, Nat.zero_le _, f1.1, S1.newO hD, S1.stepO hD, h1⟩, ?_⟩
  rintro i m H' ⟨rfl, hi, B', acc, ws, hD', ra, hla, hB', S', st', f'⟩
  by_cases hlt : i < xs.length
  · have hx : xs[i]? = some xs[i] := List.getElem?_eq_getElem hlt
    rw [List.drop_eq_getElem_cons hlt] at f'
    refine .inr ⟨ok.go i _ B' H' hx st'.ex S'.ex, fun H2 => ∃ B2 acc2 ws2, H2 Dl = some (.lst ws2) ∧ RepAll B2 ws2 acc2 ∧ acc2.length ≤ i + 1 ∧ B2 Dl = none ∧ St T B0 H0 B2 H2 σ ρ ∧ Step T B1 H1 B2 H2 ∧ lcL pg pt pe (wipeE ρ vs) (xs.drop (i + 1)) fun r => Φ (acc2 ++ r),
      fun H2 ⟨B2, acc2, ws2, q1, q2, q3, q4, q5, q6, q7⟩ => ⟨xs.length - (i + 1), by omega, rfl, hlt, B2, acc2, ws2, q1, q2, q3, q4, q5, q6, q7⟩, fun v H3 y => ?_⟩
    obtain ⟨B3, g3, r3⟩ := ok.yld i _ B' H' v H3 hx st'.ex S'.ex y
    obtain ⟨S3, e3⟩ := g3.st S'
    refine b T B0 H0 _ _ _ f' B3 H3 _ v _ (S3.wipe vs) r3 fun σ4 ρ4 h4 S4 o4 => ⟨?_, ?_⟩
    · have := wipe_ext (σ := L2.wipe σ vs) (σ' := σ4) o4.1 vs fun j hj => o4.2 j fun z => hj (hk j z)
      rw [this, wipe_wipe]
    · refine c T B0 H0 ρ4 _ h4 B3 H3 σ4 _ S4 fun bb B5 H5 h5 S5 e5 => ?_
      have e35 := e3.trans e5
      have S5' : St T B0 H0 B5 H5 σ ρ := S3.grow e5 S5.ex S5.tape
      have hD5 : H5 Dl = some (.lst ws) := e35.keep Dl _ hD' f1.2.2
      have hB5 : B5 Dl = none := e35.new Dl _ hD' f1.2.2 hB'
      cases bb with
      | true =>
        refine iteT (d T B0 H0 ρ4 _ (h5.1 rfl) B5 H5 σ4 _ S5 fun z u B6 H6 h6 S6 e6 r6 => ?_)
        cases z <;> first | exact h6.elim | skip
        rename_i yy
        have S6' : St T B0 H0 B6 H6 σ ρ := S5'.grow e6 S6.ex S6.tape
        have hD6 : H6 Dl = some (.lst ws) := e6.keep Dl _ hD5 f1.2.2
        have hB6 : B6 Dl = none := e6.new Dl _ hD5 f1.2.2 hB5
        have ra6 : RepAll B6 ws acc := RepAll.mono (e35.trans e6).ex _ _ ra
        refine ⟨ws, hD6, by rw [ra6.len]; exact sz_lt (by omega), B6, acc ++ [yy], ws ++ [u], upd_same, ra6.app (.cons r6 .nil), by simp; omega, hB6, S6'.mut hB6 f1.2.1 f1.2.2 (S1.ownNe hD), ?_, ?_⟩
        · have s6 := st'.trans (e35.trans e6)
          exact ⟨s6.ex, fun a u ha hn => by rw [upd_ne (ne_of_none ha hD)]; exact s6.keep a u ha hn, s6.new⟩
        · have : (fun r => Φ (acc ++ yy :: r)) = fun r => Φ (acc ++ [yy] ++ r) := by funext r; simp
          rw [← this]
          exact (show lcL pg pt pe (wipeE ρ vs) (xs.drop (i + 1)) (fun r => Φ (acc ++ yy :: r)) from h6)
      | false => exact iteF ⟨B5, acc, ws, hD5, RepAll.mono e35.ex _ _ ra, by omega, hB5, S5', st'.trans e35, h5.2 rfl⟩
  · have e : i = xs.length := by omega
    subst e
    rw [List.drop_length] at f'
    refine .inl ⟨ok.stop B' H' st'.ex S'.ex, ?_⟩
    have f' : Φ (acc ++ []) := f'
    rw [List.append_nil] at f'
    exact k acc Dl ws B' H' f' S' (e1.trans st') (e1.back S.tape S1.tape hD).1 hB' hD' ra
end Pu

set_option Elab.async false
set_option linter.all false
set_option maxRecDepth 100000
set_option maxHeartbeats 1000000
/-! PuE: the rules by syntax. -/
namespace Pu
open PySem PyProof.Rows L2 Evl

section
variable {X : Cx} {a b c e : Expr} {es : List Expr} {ta tb tc te : TE} {pa pb pc pe : PX} {tt tu : TT} {pt pu : PXT} {tA : TA} {pA : PXA} {pl : PXL} {pos : Pos} {rest : List Expr}
theorem dv (i : Nat) {x : Str} {pos : Pos} (hN : X.N[i]? = some x := by rfl) (hv : Vis X.env.scope x := by first | exact Or.inl rfl | exact Or.inr (Or.inl rfl) | exact Or.inr (Or.inr rfl)) (hd : (x == ("__debug__" : Str)) = false := by decide)
    (hcd : (x == ("__classdict__" : Str)) = false := by decide) : DE X (.Name x pos) (tVar i) (pVar i) := ⟨pv i hN hv hd hcd, simVar i⟩
theorem d_int {i j pos} : DE X (.Constant (.int i) j pos) (tC (.int i)) (pC (.int i)) := ⟨pe_int, simC fun _ => .int i⟩
theorem d_bl {i j pos} : DE X (.Constant (.bool i) j pos) (tC (.bl i)) (pC (.bool i)) := ⟨pe_bl, simC fun _ => .bl i⟩
theorem d_non {j pos} : DE X (.Constant .none j pos) (tC .non) (pC .none) := ⟨pe_non, simC fun _ => .non⟩
theorem d_str {x j pos} : DE X (.Constant (.str x) j pos) (tC (.str x)) (pC (.str x)) := ⟨pe_str, simC fun _ => .str x⟩
/-- a module's number -/
theorem d_gi {x : Str} {i : Int} {u : Tok} (hm : X.mg x = some (.int i u)) (hg : Gl X x := by rfl) (hd : (x == ("__debug__" : Str)) = false := by decide) : DE X (.Name x pos) (tC (.int i)) (pC (.int i)) := ⟨pe_glob hg hm ⟨_, rfl⟩ hd, simC fun _ => .int i⟩
theorem d_op {op : Operator} {r : R2} {q : Q2} (ho : OpR X (binaryOp op) r) (s : Sim2 r q) (ha : DE X a ta pa) (hb : DE X b tb pb) : DE X (.BinOp a op b pos) (tOp r ta tb) (pOp q pa pb) := ⟨pe_op ho ha.pe hb.pe, simOp s ha.sim hb.sim⟩
theorem d_add (ha : DE X a ta pa) (hb : DE X b tb pb) : DE X (.BinOp a .Add b pos) (tOp (rAddD X.K) ta tb) (pOp qAdd pa pb) := d_op op_addD s2Add ha hb
theorem d_sub (ha : DE X a ta pa) (hb : DE X b tb pb) : DE X (.BinOp a .Sub b pos) (tOp (rI0 fun i j => .int (i - j)) ta tb) (pOp qSub pa pb) := d_op op_sub s2II ha hb
theorem d_mul (ha : DE X a ta pa) (hb : DE X b tb pb) : DE X (.BinOp a .Mult b pos) (tOp (rI CMul fun i j => .int (i * j)) ta tb) (pOp qMul pa pb) := d_op op_mul s2IC ha hb
theorem d_div (ha : DE X a ta pa) (hb : DE X b tb pb) : DE X (.BinOp a .FloorDiv b pos) (tOp (rI CDiv fun i j => .int (i / j)) ta tb) (pOp qDiv pa pb) := d_op op_fdiv s2IC ha hb
theorem d_mod (ha : DE X a ta pa) (hb : DE X b tb pb) : DE X (.BinOp a .Mod b pos) (tOp (rI (fun _ j => 0 < j) fun i j => .int (i % j)) ta tb) (pOp qMod pa pb) := d_op op_mod s2IC ha hb
theorem d_pow (ha : DE X a ta pa) (hb : DE X b tb pb) : DE X (.BinOp a .Pow b pos) (tOp (rI CPow fun i j => .int (i ^ j.toNat)) ta tb) (pOp qPow pa pb) := d_op op_pow s2IC ha hb
theorem d_neg (ha : DE X a ta pa) : DE X (.UnaryOp .USub a pos) (tUn (rU fun i => .int (-i)) ta) (pUn qNeg pa) := ⟨pe_un un_neg ha.pe, simUn s1Neg ha.sim⟩
/-- list + list, a new list -/
def pCatL (a b : PX) : PXL := fun ρ Φ => a ρ fun x => b ρ fun y => match x, y with
  | .d x, .d y => qCatL x y Φ
  | _, _ => False
theorem l_cat (ha : DE X a ta pa) (hb : DE X b tb pb) : DL X (.BinOp a .Add b pos) (tOp rCat ta tb) (pCatL pa pb) := ⟨pe_op op_cat ha.pe hb.pe, simOpL s2CatL ha.sim hb.sim⟩

/-! comparisons -/
theorem d_cmp {op : CmpOp} {r : R2} {q : Q2} (ho : OpR X (compareOp op) r) (s : Sim2 r q) (ha : DE X a ta pa) (hb : DE X b tb pb) (hm : behindInMarks op b = false) : DE X (.Compare a [op] [b] pos) (tOp r ta tb) (pOp q pa pb) := ⟨pe_cmpR ho ha.pe hb.pe hm, simOp s ha.sim hb.sim⟩
theorem t_cmp {op : CmpOp} {r : R2} {q : Q2} (ho : OpR X (compareOp op) r) (s : Sim2 r q) (ha : DE X a ta pa) (hb : DE X b tb pb) (hm : behindInMarks op b = false) : DT X (.Compare a [op] [b] pos) (tTest (tOp r ta tb)) (pTst (pOp q pa pb)) := ⟨pt_cmpR ho ha.pe hb.pe hm, simTest (simOp s ha.sim hb.sim)⟩
theorem d_chain {op op' : CmpOp} {r r' : R2} {q q' : Q2} (ho : OpR X (compareOp op) r) (s : Sim2 r q) (ho' : OpR X (compareOp op') r') (s' : Sim2 r' q') (ha : DE X a ta pa) (hb : DE X b tb pb) (hc : DE X c tc pc)
    (hm : lastMarks [op, op'] [b, c] = false := by with_unfolding_all rfl) : DE X (.Compare a [op, op'] [b, c] pos) (tChain r r' ta tb tc) (pChain q q' pa pb pc) := ⟨pe_chain ho ho' ha.pe hb.pe hc.pe hm, simChain s s' ha.sim hb.sim hc.sim⟩
theorem t_chain {op op' : CmpOp} {r r' : R2} {q q' : Q2} (ho : OpR X (compareOp op) r) (s : Sim2 r q) (ho' : OpR X (compareOp op') r') (s' : Sim2 r' q') (ha : DE X a ta pa) (hb : DE X b tb pb) (hc : DE X c tc pc)
    (hm : lastMarks [op, op'] [b, c] = false := by with_unfolding_all rfl) : DT X (.Compare a [op, op'] [b, c] pos) (tTest (tChain r r' ta tb tc)) (pTst (pChain q q' pa pb pc)) := ⟨pt_chain ho ho' ha.pe hb.pe hc.pe hm, simTest (simChain s s' ha.sim hb.sim hc.sim)⟩
/-! tests, and, or, not, if -/
theorem t_val (h : DE X e te pe) (he : ∀ whole, isTrue e X.env whole = (do let v ← whole; standAt e.pos; holding [v] (truthy v)) := by intro _; rfl) : DT X e (tB te) (pTst pe) := ⟨pt_val h.pe he, simB h.sim⟩
theorem t_not (h : DT X a tt pt) : DT X (.UnaryOp .Not a pos) (tNot tt) (pNotT pt) := ⟨pt_not h.pt, simNot h.sim⟩
theorem w_and1 (h : DT X a tt pt) : DW X (.BoolOp .And [a] pos) tt pt := ⟨pw_and1 h.pt, h.sim⟩
theorem w_or1 (h : DT X a tt pt) : DW X (.BoolOp .Or [a] pos) tt pt := ⟨pw_or1 h.pt, h.sim⟩
theorem w_and (ha : DT X a tt pt) (hb : DW X (.BoolOp .And (b :: rest) pos) tu pu) : DW X (.BoolOp .And (a :: b :: rest) pos) (tAnd tt tu) (pAndT pt pu) := ⟨pw_and ha.pt hb.pw, simAnd ha.sim hb.sim⟩
theorem w_or (ha : DT X a tt pt) (hb : DW X (.BoolOp .Or (b :: rest) pos) tu pu) : DW X (.BoolOp .Or (a :: b :: rest) pos) (tOr tt tu) (pOrT pt pu) := ⟨pw_or ha.pt hb.pw, simOr ha.sim hb.sim⟩
theorem t_w (h : DW X e tt pt) : DT X e tt pt := ⟨h.pw.pt, h.sim⟩
theorem d_one {op} (h : DE X a ta pa) : DE X (.BoolOp op [a] pos) ta pa := ⟨pe_one h.pe, h.sim⟩
theorem d_and (ha : DE X a ta pa) (hb : DE X (.BoolOp .And (b :: rest) pos) tb pb) : DE X (.BoolOp .And (a :: b :: rest) pos) (tAndV ta tb) (pAndV pa pb) := ⟨pe_and ha.pe hb.pe, simAndV ha.sim hb.sim⟩
theorem d_or (ha : DE X a ta pa) (hb : DE X (.BoolOp .Or (b :: rest) pos) tb pb) : DE X (.BoolOp .Or (a :: b :: rest) pos) (tOrV ta tb) (pOrV pa pb) := ⟨pe_or ha.pe hb.pe, simOrV ha.sim hb.sim⟩
theorem d_not (ha : DE X a ta pa) : DE X (.UnaryOp .Not a pos) (tNotV ta) (pNotV pa) := ⟨pe_not ha.pe, simNotV ha.sim⟩
theorem d_ite (hc : DT X c tt pt) (ha : DE X a ta pa) (hb : DE X b tb pb) : DE X (.IfExp c a b pos) (tIf tt ta tb) (pIte pt pa pb) := ⟨pe_ifExp hc.pt ha.pe hb.pe, simIte hc.sim ha.sim hb.sim⟩
/-! arguments, tuples, lists -/
theorem a_nil : DA X [] tNil pNil := ⟨pa_nil, simNil⟩
theorem a_cons (ha : DE X e te pe) (hr : DA X es tA pA) (hs : starEach (e :: es) X.env = (false, eval e X.env) :: starEach es X.env := by rfl) : DA X (e :: es) (tCons te tA) (pCons pe pA) := ⟨pa_cons ha.pe hr.pa hs, simCons ha.sim hr.sim⟩
theorem d_tup {x1} (h : DA X es tA pA) : DE X (.Tuple es x1 pos) (tTup tA) (pTup pA) := ⟨pe_tup h.pa, simTup h.sim⟩
theorem l_lst (h : DA X es tA pA) : DL X (.List es pos) (tLst tA) (pLst pA) := ⟨pe_lst h.pa, simLst h.sim⟩
theorem d_frz (h : DL X e te pl) : DE X e te (pFrz pl) := ⟨h.pe, simFrz h.sim⟩
/-! x[i], x[a:b] -/
theorem d_ix (ha : DE X a ta pa) (hb : DE X b tb pb) (hs : PlainIx b := by exact fun _ _ => rfl) : DE X (.Subscript a b pos) (tOp (rIxD X.K) ta tb) (pOp qIx pa pb) := ⟨pe_ix ix_D ha.pe hb.pe hs, simOp s2Ix ha.sim hb.sim⟩
structure DO (X : Cx) (e : Option Expr) (t : TO) (p : PO') : Prop where
  po : PO X e t
  sim : SimO t p
theorem o_none : DO X none tNoPart pNoPart := ⟨po_none, simNoPart⟩
theorem o_some (h : DE X e te pe) : DO X (some e) (tPart te) (pPart pe) := ⟨po_some h.pe, simPart h.sim⟩
theorem d_sl {lo hi : Option Expr} {tl th : TO} {pl ph : PO'} {p2 : Pos} (ha : DE X a ta pa) (hl : DO X lo tl pl) (hh : DO X hi th ph) : DE X (.Subscript a (.Slice lo hi none p2) pos) (tSl (rSlD X.K) ta tl th) (pSl pa pl ph) := ⟨pe_slice sl_D ha.pe hl.po hh.po, simSl ha.sim hl.sim hh.sim⟩
/-! built-ins -/
theorem d_blt {x : Str} {p : Pos} {id : String} {r : List V → Hp → VK → Prop} {q : QC} (hc : CallR X (.builtin id) r) (s : SimC r q) (hm : X.mg x = none) (hv : bootBuiltins x = some (.builtin id)) (ha : DA X (e :: es) tA pA) (hg : Gl X x := by rfl) (hn : x ≠ "__name__" := by decide) (hdb : (x == ("__debug__" : Str)) = false := by decide)
    (he : starEach (e :: es) X.env = (false, eval e X.env) :: starEach es X.env := by rfl) (hpl : (backTo pos (starEach es X.env)).any (·.1) = false := by rfl) : DE X (.Call (.Name x p) (e :: es) [] pos) (tCB r tA) (pBl q pA) := ⟨pe_callB hc hg hm hv ha.pa hn hdb he hpl, simBl s ha.sim⟩
theorem d_bty {x : Str} {p : Pos} {T : String} {r : List V → Hp → VK → Prop} {q : QC} (hc : CallR X (.type T) r) (s : SimC r q) (hm : X.mg x = none) (hv : bootBuiltins x = some (.type T)) (ha : DA X (e :: es) tA pA) (hg : Gl X x := by rfl) (hn : x ≠ "__name__" := by decide) (hdb : (x == ("__debug__" : Str)) = false := by decide)
    (he : starEach (e :: es) X.env = (false, eval e X.env) :: starEach es X.env := by rfl) (hpl : (backTo pos (starEach es X.env)).any (·.1) = false := by rfl) : DE X (.Call (.Name x p) (e :: es) [] pos) (tCB r tA) (pBl q pA) := ⟨pe_callTy hc hg hm hv ha.pa hn hdb he hpl, simBl s ha.sim⟩
theorem l_blt {x : Str} {p : Pos} {id : String} {r : List V → Hp → VK → Prop} {q : List Ent → (List D → Prop) → Prop} (hc : CallR X (.builtin id) r) (s : SimCL r q) (hm : X.mg x = none) (hv : bootBuiltins x = some (.builtin id)) (ha : DA X (e :: es) tA pA) (hg : Gl X x := by rfl) (hn : x ≠ "__name__" := by decide) (hdb : (x == ("__debug__" : Str)) = false := by decide)
    (he : starEach (e :: es) X.env = (false, eval e X.env) :: starEach es X.env := by rfl) (hpl : (backTo pos (starEach es X.env)).any (·.1) = false := by rfl) : DL X (.Call (.Name x p) (e :: es) [] pos) (tCB r tA) (pBlL q pA) := ⟨pe_callB hc hg hm hv ha.pa hn hdb he hpl, simBlL s ha.sim⟩
theorem l_bty {x : Str} {p : Pos} {T : String} {r : List V → Hp → VK → Prop} {q : List Ent → (List D → Prop) → Prop} (hc : CallR X (.type T) r) (s : SimCL r q) (hm : X.mg x = none) (hv : bootBuiltins x = some (.type T)) (ha : DA X (e :: es) tA pA) (hg : Gl X x := by rfl) (hn : x ≠ "__name__" := by decide) (hdb : (x == ("__debug__" : Str)) = false := by decide)
    (he : starEach (e :: es) X.env = (false, eval e X.env) :: starEach es X.env := by rfl) (hpl : (backTo pos (starEach es X.env)).any (·.1) = false := by rfl) : DL X (.Call (.Name x p) (e :: es) [] pos) (tCB r tA) (pBlL q pA) := ⟨pe_callTy hc hg hm hv ha.pa hn hdb he hpl, simBlL s ha.sim⟩
end

/-! ### statements -/
section
variable {X : Cx} {st : Stmt} {sts rest : List Stmt} {t u : TS} {p q : PZ} {a b c e : Expr} {es : List Expr} {ta tb tc te : TE} {pa pb pc pe : PX} {tt tu : TT} {pt pu : PXT} {tA : TA} {pA : PXA} {pl : PXL} {pos pos' : Pos}
theorem z_nil : DSs X [] tNext pNext := ⟨pss_nil, simNext⟩
theorem z_cons (a : DS X st t p) (b : DSs X rest u q) : DSs X (st :: rest) (tSeq t u) (pSeq p q) := ⟨pss_cons a.ps b.ps, simSeq a.sim b.sim⟩
theorem z_one (a : DS X st t p) : DSs X [st] t p := ⟨pss_one a.ps, a.sim⟩
theorem z_fz (i : Nat) (a : DSs X sts t p) : DSs X sts t (pFz i p) := ⟨a.ps, simFz a.sim⟩
theorem z_set {i : Nat} {x : Str} {pos' : Pos} (hN : X.N.Nodup) (h : DE X e te pe) (hi : X.N[i]? = some x := by rfl) (hx : Loc X.env.scope x := by first | exact Or.inl rfl | exact Or.inr rfl) (hs : swapsWith e (some (.Name x pos')) pos.line X.env = pure false := by rfl) (hf : X.fn x = true ∨ X.env.scope.names.lookup x = some .local := by first | exact .inl rfl | exact .inr rfl | assumption) :
    DS X (.Assign [.Name x pos'] e pos) (tAsg te (gName i)) (pAsg pe i) := ⟨ps_set hN hi hx h.pe hs hf, simAsg h.sim⟩
theorem z_setL {i : Nat} {x : Str} {pos' : Pos} (hN : X.N.Nodup) (h : DL X e te pl) (hi : X.N[i]? = some x := by rfl) (hx : Loc X.env.scope x := by first | exact Or.inl rfl | exact Or.inr rfl) (hs : swapsWith e (some (.Name x pos')) pos.line X.env = pure false := by rfl) (hf : X.fn x = true ∨ X.env.scope.names.lookup x = some .local := by first | exact .inl rfl | exact .inr rfl | assumption) :
    DS X (.Assign [.Name x pos'] e pos) (tAsg te (gName i)) (pAsgL pl i) := ⟨ps_set hN hi hx h.pe hs hf, simAsgL h.sim⟩
theorem z_par {i j : Nat} {x y : Str} {px py pt pt2 : Pos} {kt k2 : Nat} (hN : X.N.Nodup) (h : DA X [a, b] tA pA) (hij : i ≠ j := by decide) (hi : X.N[i]? = some x := by rfl) (hj : X.N[j]? = some y := by rfl) (hc : X.calm = true := by rfl)
    (hx : X.env.scope.names.lookup x = some .local := by rfl) (hy : X.env.scope.names.lookup y = some .local := by rfl)
    (hw : swappedStores [.Tuple [.Name x px, .Name y py] kt pt] (.Tuple [a, b] k2 pt2) X.env = pure (some [x, y]) := by rfl)
    (hs : swapsWithSole [.Tuple [.Name x px, .Name y py] kt pt] (.Tuple [a, b] k2 pt2) pos.line X.env = pure false := by rfl) :
    DS X (.Assign [.Tuple [.Name x px, .Name y py] kt pt] (.Tuple [a, b] k2 pt2) pos) (tPar i j tA) (pPar pA i j) := ⟨ps_par hc hN hi hj hij hx hy h.pa hw hs, simPar h.sim⟩
/-- target = value, the target a tuple of names -/
def pAsgG (p : PX) (g : PGt) : PZ := fun P ρ => p ρ fun x => match x with
  | .d x => g x ρ P.nx
  | _ => False
theorem simAsgG {te : TE} {pe : PX} {g : TG} {pg : PGt} {ks : List Nat} (h : SimE te pe) (b : SimG g pg ks) : SimS (tAsg te g) (pAsgG pe pg) := by
  intro T B0 H0 ρ P h' B H σ E S k
  refine h T B0 H0 ρ _ h' B H σ _ S fun e v B1 H1 h1 S1 e1 r1 => ?_
  cases e <;> first | exact h1.elim | skip
  rename_i x
  exact b T B0 H0 ρ x _ h1 B1 H1 σ v _ S1 r1 fun σ' ρ' h2 S2 _ => k.nx B1 H1 σ' ρ' h2 S2 e1.ex
theorem z_asg {tg : Expr} {g : TG} {pg : PGt} {ks : List Nat} (h : DE X e te pe) (hg : DG X tg g pg ks) (hs : swapsWithSole [tg] e pos.line X.env = pure false := by rfl) (hw : swappedStores [tg] e X.env = pure none := by rfl)
    (h1 : (assignEach [tg] X.env).map (·.2) = [assign tg X.env] := by rfl) : DS X (.Assign [tg] e pos) (tAsg te g) (pAsgG pe pg) := ⟨ps_asg h.pe hg.pg hs hw h1, simAsgG h.sim hg.sim⟩
theorem z_aug {i : Nat} {x : Str} {op : Operator} {r : R2} {q : Q2} {pos' : Pos} (ho : OpR X (inplaceOp op) r) (s : Sim2 r q) (hN : X.N.Nodup) (h : DE X e te pe) (hi : X.N[i]? = some x := by rfl) (hx : Loc X.env.scope x := by first | exact Or.inl rfl | exact Or.inr rfl) (hf : X.fn x = true ∨ X.env.scope.names.lookup x = some .local := by first | exact .inl rfl | exact .inr rfl | assumption) :
    DS X (.AugAssign (.Name x pos') op e pos) (tAug i te r) (pAug q i pe) := ⟨ps_aug hN hi hx h.pe ho hf, simAug s h.sim⟩
theorem z_ret (h : DE X e te pe) : DS X (.Return (some e) pos) (tRet te) (pRet pe) := ⟨ps_ret h.pe, simRet h.sim⟩
theorem z_if {x y : List Stmt} (hc : DT X c tt pt) (ha : DSs X x t p) (hb : DSs X y u q) : DS X (.If c x y pos) (tIfS tt t u) (pIf pt p q) := ⟨ps_if hc.pt ha.ps hb.ps, simIf hc.sim ha.sim hb.sim⟩
theorem z_for {tg iter : Expr} {body : List Stmt} {wi : TI} {w : PXL} {g : TG} {pg : PGt} {ks : List Nat} (hi : DI X tg iter wi w) (hg : DG X tg g pg ks) (hb : DSs X body t p) (hp : PassesOwn (model X.prog X.w) X.A X.env X.xe := by exact PassesOwn.never) (hc : X.calm = true := by rfl)
    (hs : ∀ x, foldedSetIterable iter X.env x = pure x := by intro _; rfl) : DS X (.For tg iter body [] pos) (tFor wi g t) (pFor w pg p) := ⟨ps_for hp hc hi.pi hg.pg hb.ps hs, simFor hi.sim hg.sim hb.sim⟩
theorem z_while {body : List Stmt} (hc : DT X c tt pt) (hb : DSs X body t p) (hp : PassesOwn (model X.prog X.w) X.A X.env X.xe := by exact PassesOwn.never) : DS X (.While c body [] pos) (tWhile tt t) (pWhile pt p) := ⟨ps_while hp hc.pt hb.ps, simWhile hc.sim hb.sim⟩
/-- x.append(e), x an owned list -/
theorem z_app (i : Nat) {x : Str} {px apos cpos : Pos} (h : DE X e te pe) (hN : X.N[i]? = some x := by rfl) (hv : Vis X.env.scope x := by first | exact Or.inl rfl | exact Or.inr (Or.inl rfl) | exact Or.inr (Or.inr rfl)) (hd : (x == ("__debug__" : Str)) = false := by decide)
    (hcd : (x == ("__classdict__" : Str)) = false := by decide)
    (hst : starEach [e] X.env = (false, eval e X.env) :: starEach [] X.env := by rfl)
    (hpe : ∀ {t}, PE X (.Name x px) (tVar i) → PA X [e] t → PE X (.Call (.Attribute (.Name x px) "append" apos) [e] [] cpos) (tBM X.K "list" rAppend (tVar i) t) := by exact fun h1 h2 => pe_bm PySem.F.plainAttrs_list PySem.F.slot_list_append PySem.F.type_list_append mt_append h1 h2)
    (hs : swapsWith (.Call (.Attribute (.Name x px) "append" apos) [e] [] cpos) none pos.line X.env = pure false := by rfl) :
    DS X (.Expr (.Call (.Attribute (.Name x px) "append" apos) [e] [] cpos) pos) (tDrop (tBM X.K "list" rAppend (tVar i) (tCons te tNil))) (pApp i pe) :=
  ⟨ps_expr (hpe (pv i hN hv hd hcd) (pa_cons h.pe pa_nil hst)) hs, simApp h.sim⟩
end
/-! ### targets -/
section
variable {X : Cx} {pos : Pos}
theorem g_name {i : Nat} {x : Str} (hN : X.N.Nodup) (hi : X.N[i]? = some x := by rfl) (hx : Loc X.env.scope x := by first | exact Or.inl rfl | exact Or.inr rfl) (hf : X.fn x = true ∨ X.env.scope.names.lookup x = some .local := by first | exact .inl rfl | exact .inr rfl | assumption) : DG X (.Name x pos) (gName i) (pGN i) [i] := ⟨pg_name hN hi hx hf, simGN i, hitN⟩
theorem g_nil : DGs X [] gNil pGNil [] 0 := ⟨pgs_nil, simGNil, hitNil, lenNil⟩
theorem g_cons {e : Expr} {es : List Expr} {t : TG} {u : TGs} {p : PGt} {q : PGts} {ks ls : List Nat} {n : Nat} (a : DG X e t p ks) (b : DGs X es u q ls n) (hs : (assignEach (e :: es) X.env).map (·.2) = assign e X.env :: (assignEach es X.env).map (·.2) := by rfl) :
    DGs X (e :: es) (gCons t u) (pGCons p q) (ks ++ ls) (n + 1) := ⟨pgs_cons a.pg b.pg hs, simGCons a.sim b.sim, hitCons a.hit b.hit, SimG.len b.len a.hit⟩
theorem g_tup {es : List Expr} {k : Nat} {t : TGs} {n : Nat} {q : PGts} {ks : List Nat} (h : DGs X es t q ks n) (hc : X.calm = true := by rfl) (hn : (assignEach es X.env).length = n := by rfl) (hst : (assignEach es X.env).findIdx? (·.1) = none := by rfl) : DG X (.Tuple es k pos) (gTup X.K n t) (pGT q) ks := ⟨pg_tup hc h.pg hn hst, simGT h.len h.sim, hitT h.hit⟩
end

/-! ### what is walked -/
def iSeq (K : PySem.W.Frag) (tl : TE) : TI := fun σ H R => tl σ H fun x H1 => ∃ a, x = .ref a ∧ ((∃ xs, SqL K H1 a xs ∧ R (Itl K a) H1) ∨ ∃ xs, SqT K H1 a xs ∧ R (Itt K a) H1)
theorem pi_seq {X : Cx} {tg l : Expr} {tl : TE} (hl : PE X l tl) : PI X tg l (iSeq X.K tl) := by
  refine ⟨fun pins s σ H R I h => ?_⟩
  refine thn (hl.run pins s σ H _ I h) fun v s1 ⟨x, H1, I1, r1, q1⟩ => ?_
  obtain ⟨a, e, q1⟩ := q1
  subst e
  cases r1
  have fp : ∀ b ∈ [s1.heap.objs.size], FpOk X pins H1 b := fun b hb => by
    have e : b = s1.heap.objs.size := by simpa using hb
    subst e
    exact I1.fpOk (Nat.le_refl _) (I1.hok.fresh (Nat.le_refl _))
  rcases q1 with ⟨xs, hq, q⟩ | ⟨xs, hq, q⟩
  · obtain ⟨its, _, p, _⟩ := I1.list hq
    exact wpAny_pyIter_list p.isList ⟨s1.heap.objs.size, [s1.heap.objs.size], _, _, H1, rfl, I1.kept (t' := s1.toks) fun _ _ z => Heap.get?_push_of_some _ z, turn_list a _, ⟨_, Heap.get?_push_size _ rfl, rfl, rfl⟩, fp, q⟩
  · obtain ⟨its, _, p, _⟩ := I1.tuple hq
    exact wpAny_pyIter_tuple (show s1.heap.IsTuple a its.toArray from p) ⟨s1.heap.objs.size, [s1.heap.objs.size], _, _, H1, rfl, I1.kept (t' := s1.toks) fun _ _ z => Heap.get?_push_of_some _ z, turn_tuple a _, ⟨_, Heap.get?_push_size _ rfl, rfl, rfl⟩, fp, q⟩
def pSeqI (p : PX) : PXL := fun ρ Φ => p ρ fun e => match e with
  | .d (.list xs) => Φ xs
  | .d (.tuple xs) => Φ xs
  | _ => False
theorem okL {K : PySem.W.Frag} {B1 : Hp} {a : Addr} {vs : List V} {ds : List D} (h : B1 a = some (.lst vs)) (r : RepAll B1 vs ds) : ItOk B1 (Itl K a) ds := by
  refine ⟨fun i x B H hx e1 e2 => ?_, fun i x B H v H' hx e1 e2 y => ?_, fun B H e1 e2 => ⟨vs, SqL.of (e2 _ _ (e1 _ _ h)), by rw [r.len]; exact Nat.le_refl _⟩⟩
  · obtain ⟨v, hv, _⟩ := r.get hx
    exact ⟨vs, v, SqL.of (e2 _ _ (e1 _ _ h)), hv⟩
  · obtain ⟨rfl, y⟩ := y
    obtain ⟨w, hw, rw'⟩ := r.get hx
    have := y vs (SqL.of (e2 _ _ (e1 _ _ h)))
    rw [hw] at this
    cases this
    exact ⟨B, Grow.nil, Rep.mono e1 _ _ rw'⟩
theorem okT {K : PySem.W.Frag} {B1 : Hp} {a : Addr} {vs : List V} {ds : List D} (h : B1 a = some (.tup vs)) (r : RepAll B1 vs ds) : ItOk B1 (Itt K a) ds := by
  refine ⟨fun i x B H hx e1 e2 => ?_, fun i x B H v H' hx e1 e2 y => ?_, fun B H e1 e2 => ⟨vs, SqT.of (e2 _ _ (e1 _ _ h)), by rw [r.len]; exact Nat.le_refl _⟩⟩
  · obtain ⟨v, hv, _⟩ := r.get hx
    exact ⟨vs, v, SqT.of (e2 _ _ (e1 _ _ h)), hv⟩
  · obtain ⟨rfl, y⟩ := y
    obtain ⟨w, hw, rw'⟩ := r.get hx
    have := y vs (SqT.of (e2 _ _ (e1 _ _ h)))
    rw [hw] at this
    cases this
    exact ⟨B, Grow.nil, Rep.mono e1 _ _ rw'⟩
theorem simSeqI {K : PySem.W.Frag} {te : TE} {pe : PX} (h : SimE te pe) : SimI (iSeq K te) (pSeqI pe) := by
  intro T B0 H0 ρ Φ h' B H σ R S k
  refine h T B0 H0 ρ _ h' B H σ _ S fun e v B1 H1 h1 S1 e1 r1 => ?_
  cases e <;> first | exact h1.elim | skip
  rename_i x
  cases x <;> first | exact h1.elim | skip
  · cases r1 with
    | lst q1 q2 => exact ⟨_, rfl, .inl ⟨_, SqL.of (S1.ex _ _ q1), k _ _ B1 H1 h1 S1 e1 (okL q1 q2)⟩⟩
  · cases r1 with
    | tup q1 q2 => exact ⟨_, rfl, .inr ⟨_, SqT.of (S1.ex _ _ q1), k _ _ B1 H1 h1 S1 e1 (okT q1 q2)⟩⟩
theorem i_seq {X : Cx} {tg e : Expr} {te : TE} {pe : PX} (h : DE X e te pe) : DI X tg e (iSeq X.K te) (pSeqI pe) := ⟨pi_seq h.pe, simSeqI h.sim⟩
/-- lo, lo + 1, .. -/
def rngD (lo : Int) (n : Nat) : List D := (List.range n).map fun (i : Nat) => .int (lo + (i : Int))
theorem rngD_len (lo : Int) (n : Nat) : (rngD lo n).length = n := by simp [rngD]
theorem rngD_get {lo : Int} {n i : Nat} {x : D} (h : (rngD lo n)[i]? = some x) : i < n ∧ x = .int (lo + (i : Int)) := by
  have hi : i < n := by
    have := (List.getElem?_eq_some_iff.mp h).1
    rwa [rngD_len] at this
  refine ⟨hi, ?_⟩
  simp [rngD, hi] at h
  exact h.symm
theorem okR {B1 : Hp} (lo : Int) (n : Nat) : ItOk B1 (Itr lo n) (rngD lo n) := by
  refine ⟨fun i x B H hx _ _ => (rngD_get hx).1, fun i x B H v H' hx e1 e2 y => ?_, fun B H _ _ => by rw [rngD_len]; exact Nat.le_refl _⟩
  obtain ⟨rfl, rfl⟩ := y
  rw [(rngD_get hx).2]
  exact ⟨B, Grow.nil, .int _⟩
def pRng1 (a : PXA) : PXL := fun ρ Φ => a ρ fun es => match es with
  | [.d (.int n)] => -(2 ^ 62) ≤ n ∧ n < 2 ^ 62 ∧ Φ (rngD 0 n.toNat)
  | _ => False
def pRng2 (a : PXA) : PXL := fun ρ Φ => a ρ fun es => match es with
  | [.d (.int i), .d (.int j)] => (-(2 ^ 62) ≤ i ∧ i < 2 ^ 62 ∧ -(2 ^ 62) ≤ j ∧ j < 2 ^ 62) ∧ Φ (rngD i (j - i).toNat)
  | _ => False
theorem simRng1 {tA : TA} {pA : PXA} (h : SimA tA pA) : SimI (iRng1 tA) (pRng1 pA) := by
  intro T B0 H0 ρ Φ h' B H σ R S k
  refine h T B0 H0 ρ _ h' B H σ _ S fun es vs B1 H1 h1 S1 e1 r1 => ?_
  split at h1
  · obtain ⟨v, rfl, rv⟩ := resD1 r1
    cases rv
    exact ⟨_, rfl, h1.1, h1.2.1, k _ _ B1 H1 h1.2.2 S1 e1 (okR 0 _)⟩
  · exact h1.elim
theorem simRng2 {tA : TA} {pA : PXA} (h : SimA tA pA) : SimI (iRng2 tA) (pRng2 pA) := by
  intro T B0 H0 ρ Φ h' B H σ R S k
  refine h T B0 H0 ρ _ h' B H σ _ S fun es vs B1 H1 h1 S1 e1 r1 => ?_
  split at h1
  · obtain ⟨v, w, rfl, rv, rw'⟩ := resD2 r1
    cases rv; cases rw'
    exact ⟨_, _, rfl, h1.1, k _ _ B1 H1 h1.2 S1 e1 (okR _ _)⟩
  · exact h1.elim
theorem i_rng1 {X : Cx} {tg a : Expr} {tA : TA} {pA : PXA} {p pos : Pos} (hm : X.mg "range" = none) (ha : DA X [a] tA pA) (hg : Gl X "range" := by rfl) (hs : starEach [a] X.env = [(false, eval a X.env)] := by rfl) : DI X tg (.Call (.Name "range" p) [a] [] pos) (iRng1 tA) (pRng1 pA) := ⟨pi_range1 hg hm ha.pa hs, simRng1 ha.sim⟩
theorem i_rng2 {X : Cx} {tg a b : Expr} {tA : TA} {pA : PXA} {p pos : Pos} (hm : X.mg "range" = none) (ha : DA X [a, b] tA pA) (hg : Gl X "range" := by rfl) (hs : starEach [a, b] X.env = [(false, eval a X.env), (false, eval b X.env)] := by rfl) (hs2 : starEach [b] X.env = [(false, eval b X.env)] := by rfl) : DI X tg (.Call (.Name "range" p) [a, b] [] pos) (iRng2 tA) (pRng2 pA) := ⟨pi_range2 hg hm ha.pa hs hs2, simRng2 ha.sim⟩

/-! ### comprehensions -/
structure DTs (X : Cx) (ifs : List Expr) (t : TT) (p : PXT) : Prop where
  pt : PTs X ifs t
  sim : SimT t p
theorem ts_nil {X : Cx} : DTs X [] tYes pYes := ⟨pts_nil, simYes⟩
theorem ts_one {X : Cx} {c : Expr} {t : TT} {p : PXT} (h : DT X c t p) : DTs X [c] t p := ⟨pts_one h.pt, h.sim⟩
/-- some state -/
def sh0 : Shared := {}
/-- a thing said of each state of a block, the same for all -/
abbrev BF (α : Type) := Shared → Hp → Addr → List (Str × Addr) → List Addr → α
def BF.one {α : Type} (f : BF α) : α := f sh0 (fun _ => none) 0 [] []
def BF.Same {α : Type} (f : BF α) : Prop := ∀ s H C cl fp, f s H C cl fp = f sh0 (fun _ => none) 0 [] []
section
variable {X : Cx} {elt tg iter : Expr} {ifs : List Expr} {scope : Scope} {own : List (Str × Nat)} {pos spos py : Pos} {wi : TI} {w : PXL} {g : TG} {pg : PGt} {ks : List Nat} {tt : TT} {pt : PXT} {te : TE} {pe : PX}
theorem l_lc {g : BF TG} {tt : BF TT} {te : BF TE} (own : List (Str × Nat)) (hN : X.N.Nodup) (hi : DI X tg iter wi w) (ok : blkC X.N X.env.scope scope own = true)
    (hg : ∀ (s : Shared) (H : Hp) (C : Addr) (cl : List (Str × Addr)) (fp : List Addr), DG (X.blk s H scope (compEnvC scope cl C X.env) fp) tg (g s H C cl fp) pg ks) (ht : ∀ (s : Shared) (H : Hp) (C : Addr) (cl : List (Str × Addr)) (fp : List Addr), DTs (X.blk s H scope (compEnvC scope cl C X.env) fp) ifs (tt s H C cl fp) pt)
    (he : ∀ (s : Shared) (H : Hp) (C : Addr) (cl : List (Str × Addr)) (fp : List Addr), DE (X.blk s H scope (compEnvC scope cl C X.env) fp) elt (te s H C cl fp) pe) (cg : g.Same := by intro _ _ _ _ _; rfl) (ct : tt.Same := by intro _ _ _ _ _; rfl) (ce : te.Same := by intro _ _ _ _ _; rfl)
    (hk : ∀ i ∈ ks, i ∈ own.map (·.2) := by decide) (hc : X.calm = true := by rfl) (hs : ∀ x, foldedSetIterable iter X.env x = pure x := by intro _; rfl) :
    DL X (.ListComp elt [⟨tg, iter, ifs, 0⟩] scope pos) (tLc wi g.one tt.one te.one (own.map (·.2))) (pLc w (own.map (·.2)) pg pt pe) :=
  ⟨pe_lc hc hN hi.pi (blkOk_by ok) (fun s H C cl fp => cast (congrArg _ (cg s H C cl fp)) (hg s H C cl fp).pg) (fun s H C cl fp => cast (congrArg _ (ct s H C cl fp)) (ht s H C cl fp).pt) (fun s H C cl fp => cast (congrArg _ (ce s H C cl fp)) (he s H C cl fp).pe) hs, simLc hi.sim (hg sh0 (fun _ => none) 0 [] []).sim hk (ht sh0 (fun _ => none) 0 [] []).sim (he sh0 (fun _ => none) 0 [] []).sim⟩
end

/-! ### a def and its calls -/
abbrev PF := List Ent → (Ent → Prop) → Prop
/-- the promise: read data, hand back data -/
def spP (p : PF) : Sp := fun vs H Q _ => ∃ T B es Φ, Ex B H ∧ TapeOk T B H ∧ ResAll T B vs es ∧ p es Φ ∧ ∀ e v B' H', Φ e → Step T B H B' H' → Ex B' H' → TapeOk T B' H' → Res T B' v e → Q v H'
structure Callee (P : Program) (w : World) (K : PySem.W.Frag) (mg : Str → Option Value) (base : Heap) (k : Nat) (x : Str) (p : PF) : Prop where
  ex : ∃ f fd ps, mg x = some (.ref f) ∧ PySem.W.keepIn K (.ref f) = true ∧ Binds K fd ps [] ∧ FnOk P w K mg base CX0 k f fd ps (spP p)
def pCall (p : PF) (a : PXA) : PX := fun ρ Φ => a ρ fun es => p es Φ
theorem simCall {p : PF} {tA : TA} {pA : PXA} (ha : SimA tA pA) : SimE (tCall (spP p) [] E0 tA) (pCall p pA) := by
  intro T B0 H0 ρ Φ h B H σ Q S k
  refine ha T B0 H0 ρ _ h B H σ _ S fun es vs B1 H1 h1 S1 e1 r1 => ?_
  show spP p (vs ++ []) H1 Q E0
  rw [List.append_nil]
  refine ⟨T, B1, es, _, S1.ex, S1.tape, r1, h1, fun e v B' H' he st ex tp rs => ?_⟩
  exact k e v B' H' he (S1.grow st ex tp) (e1.trans st) rs
theorem d_call {X : Cx} {x : Str} {k j : Nat} {pf : PF} {e : Expr} {es : List Expr} {tA : TA} {pA : PXA} {p pos : Pos} (C : Callee X.prog X.w X.K X.mg X.base k x pf) (hr : Room j X.A) (ha : DA X (e :: es) tA pA) (hkj : k ≤ j := by decide) (hg : Gl X x := by rfl) (hdb : (x == ("__debug__" : Str)) = false := by decide)
    (he : starEach (e :: es) X.env = (false, eval e X.env) :: starEach es X.env := by rfl) (hpl : (backTo pos (starEach es X.env)).any (·.1) = false := by rfl) : DE X (.Call (.Name x p) (e :: es) [] pos) (tCall (spP pf) [] E0 tA) (pCall pf pA) := by
  obtain ⟨f, fd, ps, hm, hk, hb, F⟩ := C.ex
  exact ⟨pe_call F (hr.mono hkj) hg hm hk hb .nil pass0 ha.pa hdb he hpl, simCall ha.sim⟩
/-- a def, by its body -/
def pFun (n N : Nat) (body : PZ) : PF := fun es Φ => es.length = n ∧ body { nx := fun _ => Φ (.d .none), rt := Φ } (es ++ List.replicate (N - n) .u)
theorem resAll_env {T : Option Addr} {H0 B H : Hp} : ∀ {es : List Ent} {vs : List V} {i : Nat} {e : Ent}, ResAll T B vs es → es[i]? = some e → ∃ v, vs[i]? = some v ∧ Res T B v e
  | _, _, _, _, .nil, h => by simp at h
  | _, _, 0, _, .cons r t, h => ⟨_, rfl, by simp at h; exact h ▸ r⟩
  | _, _, i + 1, _, .cons r t, h => resAll_env (H0 := H0) (H := H) (i := i) t (by simpa using h)
theorem Res.notOwn {T : Option Addr} {B : Hp} {v : V} {e : Ent} (r : Res T B v e) : e.own = false := by cases e <;> first | rfl | exact r.elim
theorem st_start {T : Option Addr} {B H : Hp} {es : List Ent} {vs : List V} {N : List Str} (ex : Ex B H) (tp : TapeOk T B H) (r : ResAll T B vs es) (hn : es.length ≤ N.length) : St T B H B H (L2.start N vs) (es ++ List.replicate (N.length - es.length) .u) := by
  have hl := r.len
  have en : ∀ (i : Nat) (e : Ent), (es ++ List.replicate (N.length - es.length) .u)[i]? = some e → (i < es.length ∧ es[i]? = some e) ∨ (es.length ≤ i ∧ i < N.length ∧ e = .u) := fun i e he => by
    by_cases hi : i < es.length
    · rw [List.getElem?_append_left hi] at he
      exact .inl ⟨hi, he⟩
    · rw [List.getElem?_append_right (by omega)] at he
      have := List.getElem?_eq_some_iff.mp he
      obtain ⟨h1, h2⟩ := this
      rw [List.getElem_replicate] at h2
      rw [List.length_replicate] at h1
      exact .inr ⟨by omega, by omega, h2.symm⟩
  refine ⟨Step.refl, ex, tp, by simp [L2.start, hl], fun i e he => ?_, fun i j e f l _ he hf oe of _ _ => ?_⟩
  · rcases en i e he with ⟨hi, he'⟩ | ⟨h1, h2, rfl⟩
    · obtain ⟨v, hv, rv⟩ := resAll_env (H0 := H) (H := H) r he'
      refine ⟨some v, ?_, .inr ⟨v, rfl, .inl rv⟩⟩
      unfold L2.start
      rw [List.getElem?_append_left (by rw [List.length_map]; omega), List.getElem?_map, hv]
      rfl
    · refine ⟨none, ?_, .inl rfl⟩
      unfold L2.start
      rw [List.getElem?_append_right (by rw [List.length_map]; omega), List.getElem?_replicate]
      rw [if_pos (by rw [List.length_map]; omega)]
  · rcases en i e he with ⟨hi, he'⟩ | ⟨h1, h2, rfl⟩
    · obtain ⟨v, hv, rv⟩ := resAll_env (H0 := H) (H := H) r he'
      rw [rv.notOwn] at oe; cases oe
    · cases oe
section
variable {P : Program} {w : World} {K : PySem.W.Frag} {mg : Str → Option Value} {base : Heap}
theorem callee_of {x qual : Str} {st : Stmt} {f : Addr} {fd : FuncData} {N ps : List Str} {k : Nat} {body : PZ} (F : Fun K x qual st f fd) (hg : mg x = some (.ref f)) (S : FnScope N ps (defScope st))
    (hb : ∀ (kV doc pm : Value) (an : Option Addr) (cdv ct : Value) (us : List Value), us.length = ps.length → bindArgs (PySem.W.fnOf x qual (defArgs st) (defBody st) (defScope st) .none kV doc pm an cdv ct) ⟨us, []⟩ = pure (ps.zip us))
    (hbody : ∀ (cdv : Value) (A : Around) (outer : List Env) (s : Shared) (H : Hp) (E : XK), Room k (A.deeper (envOfC qual (defScope st) s.heap.objs.size f cdv)) → ∃ t, DSs (cxOf CX0 P w K mg base N qual (defScope st) f cdv A outer s H E).nox (defBody st) t body) :
    Callee P w K mg base (k + 1) x (pFun ps.length N.length body) := by
  have hpn : ps.length ≤ N.length := by
    have h := congrArg List.length S.pre
    rw [List.length_take] at h
    omega
  refine ⟨f, fd, ps, hg, F.kp, F.binds hb, F.ok S (fun vs H Q E h => ?_) fun cdv A outer s H vs Q E hr h => ?_⟩
  · obtain ⟨T, B, es, Φ, _, _, r, ⟨hl, _⟩, _⟩ := h
    rw [r.len, hl]
  · obtain ⟨T, B, es, Φ, ex, tp, r, ⟨hl, h⟩, k⟩ := h
    obtain ⟨t, d⟩ := hbody cdv A outer s H E hr
    refine ⟨t, d.ps, ?_⟩
    have S0 := st_start (N := N) ex tp r (by rw [hl]; exact hpn)
    rw [hl] at S0
    refine d.sim T B H _ _ h B H _ _ S0 ⟨fun B' H' σ' ρ' hΦ S' _ => ?_, fun e v B' H' hΦ s' x' t' r' => k e v B' H' hΦ s' x' t' r', fun B' H' σ' ρ' hΦ _ _ => hΦ.elim, fun B' H' σ' ρ' hΦ _ _ => hΦ.elim⟩
    exact k _ _ B' H' hΦ S'.step S'.ex S'.tape (show Rep _ _ _ from .non)
end
end Pu

set_option Elab.async false
set_option linter.all false
set_option maxRecDepth 100000
set_option maxHeartbeats 2000000
/-! PuZ: zip of two sequences (lists, tuples in any mix), also while its pair is out; enumerate over any iterator, so over a zip. -/
namespace PuZ
open PySem
section
variable {prog : Program} {w : World} {A : Around} {E : Value → Shared → Prop} {s : Shared}

theorem held_item {z TI TO T j1 j2 : Addr} {g1 g2 : List Addr} {n1 n2 i : Nat} {R1 R2 : Nat → Value → Prop} {S1 S2 : Nat → Heap → Prop} {f : Bool} {o : Obj} {Q : Value → Shared → Prop} (sp : ZipSep2 z TI TO j1 j2 g1 g2)
    (d1 : Draws prog w A j1 g1 n1 R1 S1) (d2 : Draws prog w A j2 g2 n2 R2 S2) (hz : IsZipHeld s.heap z TI TO T f) (hT : s.heap.get? T = some o) (hI : IsTupOf2 s.heap TI (.ref j1) (.ref j2)) (t1 : S1 i s.heap) (t2 : S2 i s.heap) (l1 : i < n1) (l2 : i < n2)
    (k : ∀ x1 x2 h' tk, R1 i x1 → R2 i x2 → IsZipHeld h' z TI TO T true → S1 (i + 1) h' → S2 (i + 1) h' → IsTupOf2 h' s.heap.objs.size x1 x2 → h'.objs.size = s.heap.objs.size + 1 →
      (∀ c u, c ≠ z → c ≠ j1 → c ≠ j2 → s.heap.get? c = some u → h'.get? c = some u) → Q (.ref s.heap.objs.size) { s with heap := h', toks := tk }) :
    wpAny (model prog w) A (Builtin.«zip.__next__» ⟨[.ref z], []⟩) (fun fin s' => ∃ v, fin = .done (.ret v) ∧ Q v s') E s := by
  obtain ⟨hp, gs, dr, tk0, os⟩ := s
  show wpAny _ _ (field (.ref z) 2 >>= _) _ _ _; refine wpAny_bind (wpAny_field hz rfl (x := .bool false) rfl ?_)
  show wpAny _ _ (field (.ref z) 3 >>= _) _ _ _; refine wpAny_bind (wpAny_field hz rfl (x := .ref TI) rfl ?_)
  refine wpAny_bind (wpAny_seqItems hI rfl ?_); show wpAny _ _ (Builtin.SmallTypes.ownedTupleIsFree (.ref z) >>= _) _ _ _
  refine wpAny_bind (wpAny_tupleHeld_zip hz hT fun h1 z1 b1 => ?_)
  replace b1 : Heap.SameBut z hp h1 := b1
  replace z1 : IsZipHeld h1 z TI TO T true := z1
  simp only [Bool.false_eq_true, if_false]; refine wpAny_bind ?_
  rw [← Array.forIn_toList]; simp only [List.forIn_cons, List.forIn_nil]
  refine wpAny_bind (wpAny_bind (wpAny_holding ?_)); show wpAny _ _ (Builtin.SmallTypes.nextOf (.ref j1) >>= _) _ _ ⟨h1, gs, dr, tk0, os⟩
  refine wpAny_bind (d1.item i _ _ _ l1 (d1.over t1 b1 sp.zf1) fun x1 h2 tk1 r1 u1 b2 => wpAny_pure (wpAny_pure ?_))
  replace b2 : Heap.SameBut j1 h1 h2 := b2
  refine wpAny_bind (wpAny_bind (wpAny_holding ?_)); show wpAny _ _ (Builtin.SmallTypes.nextOf (.ref j2) >>= _) _ _ ⟨h2, gs, dr, tk1, os⟩
  refine wpAny_bind (d2.item i _ _ _ l2 (d2.over (d2.over t2 b1 sp.zf2) b2 sp.sep1_2) fun x2 h3 tk2 r2 u2 b3 => wpAny_pure (wpAny_pure (wpAny_pure ?_)))
  replace b3 : Heap.SameBut j2 h2 h3 := b3
  show wpAny _ _ (newTuple [x1, x2] >>= _) _ _ ⟨h3, gs, dr, tk2, os⟩; refine wpAny_bind (wpAny_newTuple (wpAny_pure ⟨_, rfl, ?_⟩))
  have sz : h3.objs.size = hp.objs.size := by rw [b3.1, b2.1, b1.1]
  have z3 : IsZipHeld h3 z TI TO T true := b3.extBut _ _ sp.zi2 (b2.extBut _ _ sp.zi1 z1)
  have u1' : S1 (i + 1) h3 := d1.over u1 b3 sp.sep2_1
  have pr : IsTupOf2 (h3.push { cls := .type "tuple", data := .seq #[x1, x2] }) h3.objs.size x1 x2 := Heap.get?_push_size _ rfl
  have ps : (h3.push { cls := .type "tuple", data := .seq #[x1, x2] }).objs.size = h3.objs.size + 1 := Heap.size_push ..
  show Q (.ref h3.objs.size) ⟨h3.push { cls := .type "tuple", data := .seq #[x1, x2] }, gs, dr, tk2, os⟩
  rw [sz] at pr ps ⊢
  refine k x1 x2 _ tk2 r1 r2 (Heap.get?_push_of_some _ z3) (d1.frame _ _ _ u1' fun _ _ _ q => Heap.get?_push_of_some _ q) (d2.frame _ _ _ u2 fun _ _ _ q => Heap.get?_push_of_some _ q) pr ps fun c u c1 c2 c3 q => ?_
  exact Heap.get?_push_of_some _ (b3.extBut _ _ c3 (b2.extBut _ _ c2 (b1.extBut _ _ c1 q)))

theorem held_end {z TI TO T j1 j2 : Addr} {g1 g2 : List Addr} {n1 n2 i : Nat} {R1 R2 : Nat → Value → Prop} {S1 S2 : Nat → Heap → Prop} {f : Bool} {o : Obj} {Q : Fin → Shared → Prop} (sp : ZipSep2 z TI TO j1 j2 g1 g2)
    (d1 : Draws prog w A j1 g1 n1 R1 S1) (d2 : Draws prog w A j2 g2 n2 R2 S2) (hz : IsZipHeld s.heap z TI TO T f) (hT : s.heap.get? T = some o) (hI : IsTupOf2 s.heap TI (.ref j1) (.ref j2)) (t1 : S1 i s.heap) (t2 : S2 i s.heap) (l1 : i ≤ n1) (l2 : i ≤ n2) (he : i = n1 ∨ i = n2)
    (k : ∀ h' tk e, (∀ c u, c ≠ z → c ≠ j1 → c ≠ j2 → s.heap.get? c = some u → h'.get? c = some u) → (∃ u, h'.get? e = some u ∧ u.cls = .type "StopIteration") → E (.ref e) { s with heap := h', toks := tk }) :
    wpAny (model prog w) A (Builtin.«zip.__next__» ⟨[.ref z], []⟩) Q E s := by
  obtain ⟨hp, gs, dr, tk0, os⟩ := s
  show wpAny _ _ (field (.ref z) 2 >>= _) _ _ _; refine wpAny_bind (wpAny_field hz rfl (x := .bool false) rfl ?_)
  show wpAny _ _ (field (.ref z) 3 >>= _) _ _ _; refine wpAny_bind (wpAny_field hz rfl (x := .ref TI) rfl ?_)
  refine wpAny_bind (wpAny_seqItems hI rfl ?_); show wpAny _ _ (Builtin.SmallTypes.ownedTupleIsFree (.ref z) >>= _) _ _ _
  refine wpAny_bind (wpAny_tupleHeld_zip hz hT fun h1 z1 b1 => ?_)
  replace b1 : Heap.SameBut z hp h1 := b1
  simp only [Bool.false_eq_true, if_false]; refine wpAny_bind ?_
  rw [← Array.forIn_toList]; simp only [List.forIn_cons, List.forIn_nil]
  refine wpAny_bind (wpAny_bind (wpAny_holding ?_)); show wpAny _ _ (Builtin.SmallTypes.nextOf (.ref j1) >>= _) _ _ ⟨h1, gs, dr, tk0, os⟩
  by_cases q1 : i < n1
  · have i2 : i = n2 := by omega
    refine wpAny_bind (d1.item i _ _ _ q1 (d1.over t1 b1 sp.zf1) fun x1 h2 tk1 r1 u1 b2 => wpAny_pure (wpAny_pure ?_))
    replace b2 : Heap.SameBut j1 h1 h2 := b2
    refine wpAny_bind (wpAny_bind (wpAny_holding ?_)); show wpAny _ _ (Builtin.SmallTypes.nextOf (.ref j2) >>= _) _ _ ⟨h2, gs, dr, tk1, os⟩
    refine wpAny_bind (d2.done ⟨h2, gs, dr, tk1, os⟩ _ _ (by rw [← i2]; exact d2.over (d2.over t2 b1 sp.zf2) b2 sp.sep1_2) fun h3 e b3 he3 => ?_)
    replace b3 : Heap.ExtBut j2 h2 h3 := b3
    exact k h3 tk1 e (fun c u c1 c2 c3 q => b3 _ _ c3 (b2.extBut _ _ c2 (b1.extBut _ _ c1 q))) he3
  · have i1 : i = n1 := by omega
    refine wpAny_bind (d1.done ⟨h1, gs, dr, tk0, os⟩ _ _ (by rw [← i1]; exact d1.over t1 b1 sp.zf1) fun h3 e b3 he3 => ?_)
    replace b3 : Heap.ExtBut j1 h1 h3 := b3
    exact k h3 tk0 e (fun c u c1 c2 c3 q => b3 _ _ c2 (b1.extBut _ _ c1 q)) he3

/-- a zip's record -/
abbrev ZR (h : Heap) (z TI TO : Addr) (f0 : Value) (f : Bool) : Prop := h.get? z = some { cls := .type "zip", dict := none, data := .fields #[f0, .bool f, .bool false, .ref TI, .ref TO], slots := #[] }
theorem isFree_none {z TI TO : Addr} {f : Bool} {Q : Bool → Shared → Prop} (hz : ZR s.heap z TI TO .none f) (h : Q true s) : wpAny (model prog w) A (Builtin.SmallTypes.ownedTupleIsFree (.ref z)) Q E s := by
  unfold Builtin.SmallTypes.ownedTupleIsFree
  exact wpAny_bind (wpAny_field hz rfl (x := .none) rfl (wpAny_pure h))
theorem isFree_dead {z TI TO T : Addr} {f : Bool} {Q : Bool → Shared → Prop} (hz : ZR s.heap z TI TO (rawInt T) f) (hT : s.heap.get? T = none) (h : Q true s) : wpAny (model prog w) A (Builtin.SmallTypes.ownedTupleIsFree (.ref z)) Q E s := by
  unfold Builtin.SmallTypes.ownedTupleIsFree
  refine wpAny_bind (wpAny_field hz rfl (x := rawInt T) rfl ?_)
  show wpAny _ _ (loadIfAlive ((T : Int).toNat) >>= _) _ _ _
  rw [Int.toNat_natCast]
  have la : ∀ {R : Option Obj → Shared → Prop}, R none s → wpAny (model prog w) A (loadIfAlive T) R E s := fun {R} r => by
    have r' : R (s.heap.get? T) s := by rw [hT]; exact r
    exact fun _ _ _ => r'
  refine wpAny_bind (la ?_)
  simp only [Option.isNone_none, if_true]
  exact wpAny_pure h
theorem free_item {z TI TO j1 j2 : Addr} {g1 g2 : List Addr} {n1 n2 i : Nat} {R1 R2 : Nat → Value → Prop} {S1 S2 : Nat → Heap → Prop} {f0 : Value} {f : Bool} {a1 a2 : Value} {Q : Value → Shared → Prop} (sp : ZipSep2 z TI TO j1 j2 g1 g2)
    (d1 : Draws prog w A j1 g1 n1 R1 S1) (d2 : Draws prog w A j2 g2 n2 R2 S2) (hz : ZR s.heap z TI TO f0 f) (fr : ∀ {R : Bool → Shared → Prop}, R true s → wpAny (model prog w) A (Builtin.SmallTypes.ownedTupleIsFree (.ref z)) R E s)
    (hI : IsTupOf2 s.heap TI (.ref j1) (.ref j2)) (hO : IsTupOf2 s.heap TO a1 a2) (t1 : S1 i s.heap) (t2 : S2 i s.heap) (l1 : i < n1) (l2 : i < n2)
    (k : ∀ x1 x2 h' tk, R1 i x1 → R2 i x2 → ZR h' z TI TO (rawInt s.heap.objs.size) false → IsTupOf2 h' TO x1 x2 → S1 (i + 1) h' → S2 (i + 1) h' → IsTupOf2 h' s.heap.objs.size x1 x2 → h'.objs.size = s.heap.objs.size + 1 →
      (∀ c u, c ≠ z → c ≠ TO → c ≠ j1 → c ≠ j2 → s.heap.get? c = some u → h'.get? c = some u) → Q (.ref s.heap.objs.size) { s with heap := h', toks := tk }) :
    wpAny (model prog w) A (Builtin.«zip.__next__» ⟨[.ref z], []⟩) (fun fin s' => ∃ v, fin = .done (.ret v) ∧ Q v s') E s := by
  obtain ⟨hp, gs, dr, tk0, os⟩ := s
  show wpAny _ _ (field (.ref z) 2 >>= _) _ _ _; refine wpAny_bind (wpAny_field hz rfl (x := .bool false) rfl ?_)
  show wpAny _ _ (field (.ref z) 3 >>= _) _ _ _; refine wpAny_bind (wpAny_field hz rfl (x := .ref TI) rfl ?_)
  refine wpAny_bind (wpAny_seqItems hI rfl ?_); show wpAny _ _ (Builtin.SmallTypes.ownedTupleIsFree (.ref z) >>= _) _ _ _
  refine wpAny_bind (fr ?_); simp only [if_true]
  refine wpAny_bind (wpAny_rule ?_); refine wpAny_bind (wpAny_field hz rfl (x := .ref TO) rfl ?_)
  refine wpAny_bind (wpAny_setField_rec hz (by simp) fun p0 z0 b0 => ?_)
  replace z0 : ZR p0 z TI TO .ellipsis f := z0
  replace b0 : Heap.SameBut z hp p0 := b0
  refine wpAny_bind ?_; simp only [List.zipIdx_cons, List.zipIdx_nil, List.forIn_cons, List.forIn_nil]
  refine wpAny_bind (wpAny_bind (wpAny_onRaise ?_)); show wpAny _ _ (Builtin.SmallTypes.nextOf (.ref j1) >>= _) _ _ ⟨p0, gs, dr, tk0, os⟩
  refine wpAny_bind (d1.item i _ _ _ l1 (d1.over t1 b0 sp.zf1) fun x1 q1 tk1 r1 u1 c1 => wpAny_pure ?_)
  replace c1 : Heap.SameBut j1 p0 q1 := c1
  have O1 : IsTupOf2 q1 TO a1 a2 := c1.extBut _ _ sp.Ti1 (b0.extBut _ _ sp.TOz hO)
  refine wpAny_bind (wpAny_seqItems (s := ⟨q1, gs, dr, tk1, os⟩) O1 rfl ?_)
  refine wpAny_bind (updateSeq_IsTupOf2 (s := ⟨q1, gs, dr, tk1, os⟩) O1 fun p1 O1' b1 => ?_)
  replace O1' : IsTupOf2 p1 TO x1 a2 := O1'
  replace b1 : Heap.SameBut TO q1 p1 := b1
  refine wpAny_bind (wpAny_letGo (wpAny_pure ?_)); refine wpAny_bind (wpAny_bind (wpAny_onRaise ?_))
  show wpAny _ _ (Builtin.SmallTypes.nextOf (.ref j2) >>= _) _ _ ⟨p1, gs, dr, tk1, os⟩
  refine wpAny_bind (d2.item i _ _ _ l2 (d2.over (d2.over (d2.over t2 b0 sp.zf2) c1 sp.sep1_2) b1 sp.Tf2) fun x2 q2 tk2 r2 u2 c2 => wpAny_pure ?_)
  replace c2 : Heap.SameBut j2 p1 q2 := c2
  have O2 : IsTupOf2 q2 TO x1 a2 := c2.extBut _ _ sp.Ti2 O1'
  refine wpAny_bind (wpAny_seqItems (s := ⟨q2, gs, dr, tk2, os⟩) O2 rfl ?_)
  refine wpAny_bind (updateSeq_IsTupOf2 (s := ⟨q2, gs, dr, tk2, os⟩) O2 fun p2 O2' b2 => ?_)
  replace O2' : IsTupOf2 p2 TO x1 x2 := O2'
  replace b2 : Heap.SameBut TO q2 p2 := b2
  refine wpAny_bind (wpAny_letGo (wpAny_pure (wpAny_pure ?_))); refine wpAny_bind (wpAny_seqItems (s := ⟨p2, gs, dr, tk2, os⟩) O2' rfl ?_)
  refine wpAny_bind (wpAny_newTuple ?_)
  have sz : p2.objs.size = hp.objs.size := by rw [b2.1, c2.1, b1.1, c1.1, b0.1]
  have zz : ZR p2 z TI TO .ellipsis f := b2.extBut _ _ sp.TOz.symm (c2.extBut _ _ sp.zi2 (b1.extBut _ _ sp.TOz.symm (c1.extBut _ _ sp.zi1 z0)))
  have kk : ∀ c u, c ≠ z → c ≠ TO → c ≠ j1 → c ≠ j2 → hp.get? c = some u → p2.get? c = some u := fun c u e1 e2 e3 e4 q =>
    b2.extBut _ _ e2 (c2.extBut _ _ e4 (b1.extBut _ _ e2 (c1.extBut _ _ e3 (b0.extBut _ _ e1 q))))
  have v1 : S1 (i + 1) p2 := d1.over (d1.over (d1.over u1 b1 sp.Tf1) c2 sp.sep2_1) b2 sp.Tf1
  have v2 : S2 (i + 1) p2 := d2.over u2 b2 sp.Tf2
  have zl : z < p2.objs.size := Heap.lt_size zz
  show wpAny _ _ (Builtin.SmallTypes.ownedTupleHandOut (.ref z) (.ref p2.objs.size) >>= _) _ _ ⟨p2.push { cls := .type "tuple", data := .seq #[x1, x2] }, gs, dr, tk2, os⟩
  refine wpAny_bind ?_; unfold Builtin.SmallTypes.ownedTupleHandOut
  have z6 : ZR (p2.push { cls := .type "tuple", data := .seq #[x1, x2] }) z TI TO .ellipsis f := Heap.get?_push_of_some _ zz
  refine wpAny_bind (wpAny_setField_rec z6 (by simp) fun p7 z7 b7 => ?_)
  replace z7 : ZR p7 z TI TO (rawInt p2.objs.size) f := z7
  refine wpAny_setField_rec z7 (by simp) fun p8 z8 b8 => ?_
  replace z8 : ZR p8 z TI TO (rawInt p2.objs.size) false := z8
  replace b7 : Heap.SameBut z (p2.push { cls := .type "tuple", data := .seq #[x1, x2] }) p7 := b7
  replace b8 : Heap.SameBut z p7 p8 := b8
  have up : ∀ c u, c ≠ z → p2.get? c = some u → p8.get? c = some u := fun c u e q => b8.extBut _ _ e (b7.extBut _ _ e (Heap.get?_push_of_some _ q))
  have T8 : IsTupOf2 p8 p2.objs.size x1 x2 := b8.extBut _ _ (Nat.ne_of_gt zl) (b7.extBut _ _ (Nat.ne_of_gt zl) (Heap.get?_push_size _ rfl))
  have s8 : p8.objs.size = p2.objs.size + 1 := by rw [b8.1, b7.1, Heap.size_push]
  rw [sz] at z8 T8 s8
  refine wpAny_pure ⟨_, rfl, ?_⟩; show Q (.ref p2.objs.size) ⟨p8, gs, dr, tk2, os⟩
  rw [sz]
  exact k x1 x2 p8 tk2 r1 r2 z8 (up _ _ sp.TOz O2') (d1.frame _ _ _ v1 fun b hb u q => up b u (fun e => sp.zf1 (e ▸ hb)) q) (d2.frame _ _ _ v2 fun b hb u q => up b u (fun e => sp.zf2 (e ▸ hb)) q) T8 s8 fun c u e1 e2 e3 e4 q => up c u e1 (kk c u e1 e2 e3 e4 q)
theorem free_end {z TI TO j1 j2 : Addr} {g1 g2 : List Addr} {n1 n2 i : Nat} {R1 R2 : Nat → Value → Prop} {S1 S2 : Nat → Heap → Prop} {f0 : Value} {f : Bool} {a1 a2 : Value} {Q : Fin → Shared → Prop} (sp : ZipSep2 z TI TO j1 j2 g1 g2)
    (d1 : Draws prog w A j1 g1 n1 R1 S1) (d2 : Draws prog w A j2 g2 n2 R2 S2) (hz : ZR s.heap z TI TO f0 f) (fr : ∀ {R : Bool → Shared → Prop}, R true s → wpAny (model prog w) A (Builtin.SmallTypes.ownedTupleIsFree (.ref z)) R E s)
    (hI : IsTupOf2 s.heap TI (.ref j1) (.ref j2)) (hO : IsTupOf2 s.heap TO a1 a2) (t1 : S1 i s.heap) (t2 : S2 i s.heap) (l1 : i ≤ n1) (l2 : i ≤ n2) (he : i = n1 ∨ i = n2)
    (k : ∀ h' tk e, (∀ c u, c ≠ z → c ≠ TO → c ≠ j1 → c ≠ j2 → s.heap.get? c = some u → h'.get? c = some u) → (∃ u, h'.get? e = some u ∧ u.cls = .type "StopIteration") → E (.ref e) { s with heap := h', toks := tk }) :
    wpAny (model prog w) A (Builtin.«zip.__next__» ⟨[.ref z], []⟩) Q E s := by
  obtain ⟨hp, gs, dr, tk0, os⟩ := s
  show wpAny _ _ (field (.ref z) 2 >>= _) _ _ _; refine wpAny_bind (wpAny_field hz rfl (x := .bool false) rfl ?_)
  show wpAny _ _ (field (.ref z) 3 >>= _) _ _ _; refine wpAny_bind (wpAny_field hz rfl (x := .ref TI) rfl ?_)
  refine wpAny_bind (wpAny_seqItems hI rfl ?_); show wpAny _ _ (Builtin.SmallTypes.ownedTupleIsFree (.ref z) >>= _) _ _ _
  refine wpAny_bind (fr ?_); simp only [if_true]
  refine wpAny_bind (wpAny_rule ?_); refine wpAny_bind (wpAny_field hz rfl (x := .ref TO) rfl ?_)
  refine wpAny_bind (wpAny_setField_rec hz (by simp) fun p0 z0 b0 => ?_)
  replace z0 : ZR p0 z TI TO .ellipsis f := z0
  replace b0 : Heap.SameBut z hp p0 := b0
  refine wpAny_bind ?_; simp only [List.zipIdx_cons, List.zipIdx_nil, List.forIn_cons, List.forIn_nil]
  refine wpAny_bind (wpAny_bind (wpAny_onRaise ?_)); show wpAny _ _ (Builtin.SmallTypes.nextOf (.ref j1) >>= _) _ _ ⟨p0, gs, dr, tk0, os⟩
  by_cases q1 : i < n1
  · have i2 : i = n2 := by omega
    refine wpAny_bind (d1.item i _ _ _ q1 (d1.over t1 b0 sp.zf1) fun x1 h1 tk1 r1 u1 c1 => wpAny_pure ?_)
    replace c1 : Heap.SameBut j1 p0 h1 := c1
    have O1 : IsTupOf2 h1 TO a1 a2 := c1.extBut _ _ sp.Ti1 (b0.extBut _ _ sp.TOz hO)
    refine wpAny_bind (wpAny_seqItems (s := ⟨h1, gs, dr, tk1, os⟩) O1 rfl ?_)
    refine wpAny_bind (updateSeq_IsTupOf2 (s := ⟨h1, gs, dr, tk1, os⟩) O1 fun p1 O1' b1 => ?_)
    replace b1 : Heap.SameBut TO h1 p1 := b1
    refine wpAny_bind (wpAny_letGo (wpAny_pure ?_)); refine wpAny_bind (wpAny_bind (wpAny_onRaise ?_))
    show wpAny _ _ (Builtin.SmallTypes.nextOf (.ref j2) >>= _) _ _ ⟨p1, gs, dr, tk1, os⟩
    refine wpAny_bind (d2.done ⟨p1, gs, dr, tk1, os⟩ _ _ (by rw [← i2]; exact d2.over (d2.over (d2.over t2 b0 sp.zf2) c1 sp.sep1_2) b1 sp.Tf2) fun h3 e b3 he3 => ?_)
    replace b3 : Heap.ExtBut j2 p1 h3 := b3
    obtain ⟨oe, hoe, hce⟩ := he3
    replace hoe : h3.get? e = some oe := hoe
    have z3 : ZR h3 z TI TO .ellipsis f := b3 _ _ sp.zi2 (b1.extBut _ _ sp.TOz.symm (c1.extBut _ _ sp.zi1 z0))
    have ez : e ≠ z := fun q => by subst q; rw [z3] at hoe; cases hoe; simp at hce
    refine wpAny_setField_rec (s := ⟨h3, gs, dr, tk1, os⟩) z3 (by simp) fun h4 _ b4 => ?_
    replace b4 : Heap.SameBut z h3 h4 := b4
    exact k h4 tk1 e (fun c u e1 e2 e3 e4 q => b4.extBut _ _ e1 (b3 _ _ e4 (b1.extBut _ _ e2 (c1.extBut _ _ e3 (b0.extBut _ _ e1 q))))) ⟨oe, b4.extBut _ _ ez hoe, hce⟩
  · have i1 : i = n1 := by omega
    refine wpAny_bind (d1.done ⟨p0, gs, dr, tk0, os⟩ _ _ (by rw [← i1]; exact d1.over t1 b0 sp.zf1) fun h3 e b3 he3 => ?_)
    replace b3 : Heap.ExtBut j1 p0 h3 := b3
    obtain ⟨oe, hoe, hce⟩ := he3
    replace hoe : h3.get? e = some oe := hoe
    have z3 : ZR h3 z TI TO .ellipsis f := b3 _ _ sp.zi1 z0
    have ez : e ≠ z := fun q => by subst q; rw [z3] at hoe; cases hoe; simp at hce
    refine wpAny_setField_rec (s := ⟨h3, gs, dr, tk0, os⟩) z3 (by simp) fun h4 _ b4 => ?_
    replace b4 : Heap.SameBut z h3 h4 := b4
    exact k h4 tk0 e (fun c u e1 e2 e3 e4 q => b4.extBut _ _ e1 (b3 _ _ e3 (b0.extBut _ _ e1 q))) ⟨oe, b4.extBut _ _ ez hoe, hce⟩

/-- a zip before its first pair, or with a pair out, alive or not -/
def ZSt (h : Heap) (z TI TO : Addr) : Prop := ∃ f0 f, ZR h z TI TO f0 f ∧ (f0 = .none ∨ ∃ T : Addr, f0 = rawInt T)
/-- next of a zip, whether its pair is out or not -/
theorem zip_item {z TI TO j1 j2 : Addr} {g1 g2 : List Addr} {n1 n2 i : Nat} {R1 R2 : Nat → Value → Prop} {S1 S2 : Nat → Heap → Prop} {a1 a2 : Value} {Q : Value → Shared → Prop} (sp : ZipSep2 z TI TO j1 j2 g1 g2)
    (d1 : Draws prog w A.in1 j1 g1 n1 R1 S1) (d2 : Draws prog w A.in1 j2 g2 n2 R2 S2) (hz : ZSt s.heap z TI TO) (hI : IsTupOf2 s.heap TI (.ref j1) (.ref j2)) (hO : IsTupOf2 s.heap TO a1 a2) (t1 : S1 i s.heap) (t2 : S2 i s.heap) (l1 : i < n1) (l2 : i < n2)
    (k : ∀ x1 x2 h' tk, R1 i x1 → R2 i x2 → ZSt h' z TI TO → (∃ b1 b2, IsTupOf2 h' TO b1 b2) → S1 (i + 1) h' → S2 (i + 1) h' → IsTupOf2 h' s.heap.objs.size x1 x2 → h'.objs.size = s.heap.objs.size + 1 →
      (∀ c u, c ≠ z → c ≠ TO → c ≠ j1 → c ≠ j2 → s.heap.get? c = some u → h'.get? c = some u) → Q (.ref s.heap.objs.size) { s with heap := h', toks := tk }) :
    wpAny (model prog w) A (Builtin.SmallTypes.nextOf (.ref z)) Q E s := by
  obtain ⟨f0, f, hr, hf⟩ := hz
  have ty : s.TypeIs (.ref z) "zip" := ⟨_, hr, rfl⟩
  have fin : ∀ {x1 x2 h' tk}, R1 i x1 → R2 i x2 → ZR h' z TI TO (rawInt s.heap.objs.size) false → IsTupOf2 h' TO x1 x2 → S1 (i + 1) h' → S2 (i + 1) h' → IsTupOf2 h' s.heap.objs.size x1 x2 → h'.objs.size = s.heap.objs.size + 1 →
      (∀ c u, c ≠ z → c ≠ TO → c ≠ j1 → c ≠ j2 → s.heap.get? c = some u → h'.get? c = some u) → Q (.ref s.heap.objs.size) { s with heap := h', toks := tk } :=
    fun r1 r2 hz' hO' u1 u2 hT hs hk => k _ _ _ _ r1 r2 ⟨_, _, hz', .inr ⟨_, rfl⟩⟩ ⟨_, _, hO'⟩ u1 u2 hT hs hk
  have hi : wpAny (model prog w) A.in1 (Builtin.«zip.__next__» ⟨[.ref z], []⟩) (fun fin s' => ∃ v, fin = .done (.ret v) ∧ Q v s') E s := by
    rcases hf with rfl | ⟨T, rfl⟩
    · exact free_item sp d1 d2 hr (fun r => isFree_none hr r) hI hO t1 t2 l1 l2 fun _ _ _ _ r1 r2 a b c d e f g => fin r1 r2 a b c d e f g
    · cases qT : s.heap.get? T with
      | none => exact free_item sp d1 d2 hr (fun r => isFree_dead hr qT r) hI hO t1 t2 l1 l2 fun _ _ _ _ r1 r2 a b c d e f g => fin r1 r2 a b c d e f g
      | some o =>
        refine held_item sp d1 d2 hr qT hI t1 t2 l1 l2 fun x1 x2 h' tk r1 r2 hz' u1 u2 hT hs hk => ?_
        exact k x1 x2 h' tk r1 r2 ⟨_, _, hz', .inr ⟨_, rfl⟩⟩ ⟨_, _, hk _ _ sp.TOz sp.Ti1 sp.Ti2 hO⟩ u1 u2 hT hs fun c u c1 _ c3 c4 e => hk c u c1 c3 c4 e
  unfold Builtin.SmallTypes.nextOf
  refine wpAny_bind (wpAny_callSpecial?_slot (name := Str.ofString "__next__") ty F.slot_zip_next (wpAny_call_entry F.slot_zip_next ty F.entry_zip_next ?_ (F.args_zip_next_1 _)))
  exact wpAny_mono hi (fun fin s' ⟨v, e, q⟩ => ⟨v, e, wpAny_pure q⟩) fun _ _ q => q
theorem zip_end {z TI TO j1 j2 : Addr} {g1 g2 : List Addr} {n1 n2 i : Nat} {R1 R2 : Nat → Value → Prop} {S1 S2 : Nat → Heap → Prop} {a1 a2 : Value} {Q : Value → Shared → Prop} (sp : ZipSep2 z TI TO j1 j2 g1 g2)
    (d1 : Draws prog w A.in1 j1 g1 n1 R1 S1) (d2 : Draws prog w A.in1 j2 g2 n2 R2 S2) (hz : ZSt s.heap z TI TO) (hI : IsTupOf2 s.heap TI (.ref j1) (.ref j2)) (hO : IsTupOf2 s.heap TO a1 a2) (t1 : S1 i s.heap) (t2 : S2 i s.heap) (l1 : i ≤ n1) (l2 : i ≤ n2) (he : i = n1 ∨ i = n2)
    (k : ∀ h' tk e, (∀ c u, c ≠ z → c ≠ TO → c ≠ j1 → c ≠ j2 → s.heap.get? c = some u → h'.get? c = some u) → (∃ u, h'.get? e = some u ∧ u.cls = .type "StopIteration") → E (.ref e) { s with heap := h', toks := tk }) :
    wpAny (model prog w) A (Builtin.SmallTypes.nextOf (.ref z)) Q E s := by
  obtain ⟨f0, f, hr, hf⟩ := hz
  have ty : s.TypeIs (.ref z) "zip" := ⟨_, hr, rfl⟩
  unfold Builtin.SmallTypes.nextOf
  refine wpAny_bind (wpAny_callSpecial?_slot (name := Str.ofString "__next__") ty F.slot_zip_next (wpAny_call_entry F.slot_zip_next ty F.entry_zip_next ?_ (F.args_zip_next_1 _)))
  rcases hf with rfl | ⟨T, rfl⟩
  · exact free_end sp d1 d2 hr (fun r => isFree_none hr r) hI hO t1 t2 l1 l2 he k
  · cases qT : s.heap.get? T with
    | none => exact free_end sp d1 d2 hr (fun r => isFree_dead hr qT r) hI hO t1 t2 l1 l2 he k
    | some o => exact held_end sp d1 d2 hr qT hI t1 t2 l1 l2 he fun h' tk e a b => k h' tk e (fun c u c1 _ c3 c4 e => a c u c1 c3 c4 e) b

/-- enumerate's next over any iterator -/
theorem enum_item {e it : Addr} {c : Int} {old : Value} {Q : Value → Shared → Prop} (he : IsEnum s.heap e it c old)
    (nx : wpAny (model prog w) A (Builtin.SmallTypes.nextOf (.ref it)) (fun x s1 => IsEnum s1.heap e it c old ∧ ∀ h', IsEnumOut h' e it (c + 1) x s1.heap.objs.size → h'.get? s1.heap.objs.size = some { cls := .type "tuple", data := .seq #[.int c s1.toks, x] } →
      h'.objs.size = s1.heap.objs.size + 1 → (∀ b u, b ≠ e → s1.heap.get? b = some u → h'.get? b = some u) → Q (.ref s1.heap.objs.size) { s1 with heap := h', toks := s1.toks + 1 }) E s) :
    wpAny (model prog w) A (Builtin.«enumerate.__next__» ⟨[.ref e], []⟩) (fun fin s' => ∃ v, fin = .done (.ret v) ∧ Q v s') E s := by
  show wpAny _ _ (field (.ref e) 2 >>= _) _ _ _; refine wpAny_bind (wpAny_field he rfl (x := .ref it) rfl ?_)
  refine wpAny_bind (wpAny_mono nx (fun x s1 hs1 => ?_) fun _ _ q => q)
  obtain ⟨e1, k⟩ := hs1
  obtain ⟨h1, gs, dr, tk, os⟩ := s1
  replace e1 : IsEnum h1 e it c old := e1
  show wpAny _ _ (field (.ref e) 3 >>= _) _ _ ⟨h1, gs, dr, tk, os⟩; refine wpAny_bind (wpAny_field e1 rfl (x := rawInt c) rfl ?_)
  show wpAny _ _ (field (.ref e) 4 >>= _) _ _ ⟨h1, gs, dr, tk, os⟩; refine wpAny_bind (wpAny_field e1 rfl (x := .none) rfl ?_)
  show wpAny _ _ (mkInt c >>= _) _ _ ⟨h1, gs, dr, tk, os⟩; refine wpAny_bind (wpAny_mkInt ?_)
  show wpAny _ _ (setField (.ref e) 3 (rawInt (c + 1)) >>= _) _ _ ⟨h1, gs, dr, tk + 1, os⟩; refine wpAny_bind (wpAny_setField_rec e1 (by simp) fun h2 e2 b2 => ?_)
  replace b2 : Heap.SameBut e h1 h2 := b2
  replace e2 : IsEnum h2 e it (c + 1) old := e2
  show wpAny _ _ (setField (.ref e) 4 .none >>= _) _ _ ⟨h2, gs, dr, tk + 1, os⟩; refine wpAny_bind (wpAny_setField_rec e2 (by simp) fun h3 e3 b3 => ?_)
  replace b3 : Heap.SameBut e h2 h3 := b3
  replace e3 : IsEnum h3 e it (c + 1) old := e3
  show wpAny _ _ (newTuple [.int c tk, x] >>= _) _ _ ⟨h3, gs, dr, tk + 1, os⟩; refine wpAny_bind (wpAny_newTuple ?_)
  have e4 : IsEnum (h3.push { cls := .type "tuple", data := .seq #[.int c tk, x] }) e it (c + 1) old := Heap.get?_push_of_some _ e3
  have sz : h3.objs.size = h1.objs.size := by rw [b3.1, b2.1]
  have el : e < h1.objs.size := Heap.lt_size e1
  have t4 : (h3.push { cls := .type "tuple", data := .seq #[.int c tk, x] }).get? h1.objs.size = some { cls := .type "tuple", data := .seq #[.int c tk, x] } := by rw [← sz]; exact Heap.get?_push_size _ rfl
  have z4 : (h3.push { cls := .type "tuple", data := .seq #[.int c tk, x] }).objs.size = h1.objs.size + 1 := by rw [Heap.size_push, sz]
  have k4 : ∀ b u, b ≠ e → h1.get? b = some u → (h3.push { cls := .type "tuple", data := .seq #[.int c tk, x] }).get? b = some u := fun b u hb q => Heap.get?_push_of_some _ (b3.extBut b u hb (b2.extBut b u hb q))
  generalize hh : h3.push { cls := .type "tuple", data := .seq #[.int c tk, x] } = h4 at e4 t4 z4 k4
  show wpAny _ _ (Builtin.SmallTypes.ownedTupleIsFree (.ref e) >>= _) _ _ ⟨h4, gs, dr, tk + 1, os⟩
  rw [sz]; refine wpAny_bind ?_
  unfold Builtin.SmallTypes.ownedTupleIsFree
  refine wpAny_bind (wpAny_field e4 rfl (x := .none) rfl (wpAny_pure ?_)); simp only [if_true]
  refine wpAny_bind (wpAny_rule ?_); refine wpAny_bind (wpAny_field e4 rfl (x := old) rfl ?_)
  refine wpAny_bind (wpAny_setField_rec e4 (by simp) fun h5 e5 b5 => ?_)
  replace b5 : Heap.SameBut e h4 h5 := b5
  replace e5 : IsEnum h5 e it (c + 1) x := e5
  show wpAny _ _ (Builtin.SmallTypes.ownedTupleHandOut (.ref e) (.ref h1.objs.size) >>= _) _ _ ⟨h5, gs, dr, tk + 1, os⟩
  refine wpAny_bind ?_; unfold Builtin.SmallTypes.ownedTupleHandOut
  refine wpAny_bind (wpAny_setField_rec e5 (by simp) fun h6 e6 b6 => ?_)
  replace b6 : Heap.SameBut e h5 h6 := b6
  replace e6 : IsEnumOut h6 e it (c + 1) x h1.objs.size := e6
  refine wpAny_setField_rec e6 (by simp) fun h7 e7 b7 => ?_
  replace b7 : Heap.SameBut e h6 h7 := b7
  replace e7 : IsEnumOut h7 e it (c + 1) x h1.objs.size := e7
  refine wpAny_bind (wpAny_letGo (wpAny_pure ⟨_, rfl, ?_⟩))
  exact k h7 e7 (b7.extBut _ _ (Nat.ne_of_gt el) (b6.extBut _ _ (Nat.ne_of_gt el) (b5.extBut _ _ (Nat.ne_of_gt el) t4))) (by show h7.objs.size = h1.objs.size + 1; rw [b7.1, b6.1, b5.1, z4]) fun b u hb q => b7.extBut b u hb (b6.extBut b u hb (b5.extBut b u hb (k4 b u hb q)))
theorem enum_stop {e it : Addr} {c : Int} {old : Value} {Q : Fin → Shared → Prop} (he : IsEnum s.heap e it c old)
    (nx : wpAny (model prog w) A (Builtin.SmallTypes.nextOf (.ref it)) (fun _ _ => False) E s) : wpAny (model prog w) A (Builtin.«enumerate.__next__» ⟨[.ref e], []⟩) Q E s := by
  show wpAny _ _ (field (.ref e) 2 >>= _) _ _ _; refine wpAny_bind (wpAny_field he rfl (x := .ref it) rfl ?_)
  exact wpAny_bind (wpAny_mono nx (fun x s1 hs1 => hs1.elim) fun _ _ q => q)
end
end PuZ

set_option Elab.async false
set_option linter.all false
set_option maxRecDepth 100000
set_option maxHeartbeats 2000000
/-! PuY: enumerate(seq), zip(seq, seq), enumerate(zip(seq, seq)) over data; a seq is a list or a tuple. -/
namespace Pu
open PySem PyProof.Rows L2 Evl

def kO (k : Bool) (xs : List V) : HO := if k then .lst xs else .tup xs
def SqK (k : Bool) (H : Hp) (a : Addr) (xs : List V) : Prop := H a = some (kO k xs)
theorem kO_inj {k : Bool} {xs ys : List V} (h : kO k xs = kO k ys) : xs = ys := by
  cases k <;> exact (by simpa [kO] using h)
theorem SqK.inj {k : Bool} {H : Hp} {a : Addr} {xs ys : List V} (h : SqK k H a xs) (g : SqK k H a ys) : xs = ys := kO_inj (Option.some.inj (h.symm.trans g))
def itK (k : Bool) (h : Heap) (i a : Addr) (n : Nat) : Prop := if k then h.IsListIter i a n else h.IsTupleIter i a n
def seqK (k : Bool) (h : Heap) (a : Addr) (its : Array Value) : Prop := if k then h.IsList a its else h.IsTuple a its
theorem itK.look {k : Bool} {h : Heap} {i a : Addr} {n : Nat} (q : itK k h i a n) : ∃ o, h.get? i = some o ∧ ∀ v, o.data ≠ .cell v := by
  cases k with
  | true =>
    obtain ⟨o, ho, hc, hd⟩ := (show h.IsListIter i a n from q)
    exact ⟨o, ho, fun v z => by rw [hd] at z; cases z⟩
  | false =>
    obtain ⟨o, ho, hc, hd⟩ := (show h.IsTupleIter i a n from q)
    exact ⟨o, ho, fun v z => by rw [hd] at z; cases z⟩
theorem itK.to {k : Bool} {h h' : Heap} {i a : Addr} {n : Nat} (q : itK k h i a n) (e : ∀ o, h.get? i = some o → h'.get? i = some o) : itK k h' i a n := by
  cases k with
  | true => exact (show h.IsListIter i a n from q).at e
  | false => exact (show h.IsTupleIter i a n from q).at e
theorem seq_of {X : Cx} {pins : List (Addr × Obj)} {σ : L2.St} {H : Hp} {s : Shared} {k : Bool} {a : Addr} {xs : List V} (I : Inv X pins σ H s) (h : SqK k H a xs) : ∃ its : List Value, Vals xs its ∧ seqK k s.heap a its.toArray := by
  cases k with
  | true =>
    obtain ⟨its, r, p, _⟩ := I.list (SqL.of h)
    exact ⟨its, r, p.isList⟩
  | false =>
    obtain ⟨its, r, p, _⟩ := I.tuple (SqT.of h)
    exact ⟨its, r, p⟩
theorem drawsK {prog : Program} {w : World} {A : Around} (hh : A.handled = none) (k : Bool) (it l : Addr) (ne : l ≠ it) (its : Array Value) :
    Draws prog w A it [it, l] its.size (fun i v => its[i]? = some v) (fun i h => itK k h it l i ∧ seqK k h l its) := by
  cases k with
  | true => exact Draws.list hh it l ne its
  | false => exact Draws.tuple hh it l ne its
def iterObj (k : Bool) (a : Addr) : Obj := if k then { cls := .type "list_iterator", data := .fields #[.ref a, .int 0 0] } else { cls := .type "tuple_iterator", data := .fields #[.ref a, .int 0 0] }
theorem beginsK (k : Bool) (a : Addr) (its : Array Value) : Begins (.ref a) (iterObj k a) fun h => seqK k h a its := by
  cases k with
  | true => exact begins_list a its
  | false => exact begins_tuple a its
theorem itK.new {k : Bool} {h : Heap} {i a : Addr} (e : h.get? i = some (iterObj k a)) : itK k h i a 0 := by
  cases k with
  | true => exact ⟨_, e, rfl, rfl⟩
  | false => exact ⟨_, e, rfl, rfl⟩
theorem vget {xs : List V} {its : List Value} {i : Nat} {u : Value} (r : Vals xs its) (h : its.toArray[i]? = some u) : ∃ x, xs[i]? = some x ∧ RelV x u := by
  have h' : its[i]? = some u := by simpa using h
  cases q : xs[i]? with
  | none => rw [r.none_of q] at h'; cases h'
  | some x =>
    obtain ⟨u', h1, h2⟩ := r.get q
    rw [h1] at h'; cases h'
    exact ⟨x, rfl, h2⟩
theorem in2 {a b c : Addr} (h : c ∈ [a, b]) : c = a ∨ c = b := by simpa using h

/-! ### enumerate(seq) -/
def ItE (k : Bool) (a : Addr) : It :=
  ⟨fun i H => ∃ xs x, SqK k H a xs ∧ xs[i]? = some x, fun i H v H' => ∃ T x, v = .ref T ∧ H T = none ∧ H' = upd H T (.tup [.int (i : Nat), x]) ∧ ∀ xs, SqK k H a xs → xs[i]? = some x, fun i H => ∃ xs, SqK k H a xs ∧ xs.length = i⟩
theorem turn_E {P : Program} {w : World} {K : PySem.W.Frag} {elts : List Expr} {kk : Nat} {tpos : Pos} (k : Bool) (a e it : Addr) :
    Turn P w K (.Tuple elts kk tpos) (ItE k a) [e, it] e (fun i h => (∃ old, IsEnum h e it ((i : Nat) : Int) old) ∧ itK k h it a i ∧ e ≠ it) where
  mem := List.mem_cons_self ..
  obj := fun i h st b hb => by
    obtain ⟨⟨old, he⟩, hi, _⟩ := st
    rcases in2 hb with z | z
    · subst z; exact ⟨_, he, fun v q => nomatch q⟩
    · subst z; exact hi.look
  keep := fun i h h' st kp => by
    obtain ⟨⟨old, he⟩, hi, ne⟩ := st
    exact ⟨⟨old, kp e (by simp) _ he⟩, hi.to fun o q => kp it (by simp) o q, ne⟩
  item := by
    intro X hP hw hK hc i pins s σ H E I hf st hg
    subst hP hw hK
    obtain ⟨⟨old, he⟩, hit, ne⟩ := st
    obtain ⟨xs, x, hq, hx⟩ := hg
    obtain ⟨its, rv, sq⟩ := seq_of I hq
    have na : a ≠ it := ne_of_none hq (hf it (by simp)).1
    have nea : a ≠ e := ne_of_none hq (hf e (by simp)).1
    have hil : i < its.toArray.size := by
      have := (List.getElem?_eq_some_iff.mp hx).1
      simpa [← rv.length] using this
    have dd := drawsK (prog := X.prog) (w := X.w) (A := X.A.in1) (I.ok.hd hc) k it a na its.toArray
    have hel : e < s.heap.objs.size := Heap.lt_size he
    refine wpAny_pyNext_enum_itemC dd he ⟨hit, sq⟩ hil ne (by intro z; rcases in2 z with z | z; exact ne z; exact nea z.symm) fun u h' tk hu ho hs' hT hsz hk => ?_
    obtain ⟨y, hy, ry⟩ := vget rv hu
    refine ⟨_, rfl, wpAny_letOwnedTupleGo_enum (s := { s with heap := h', toks := tk + 1 }) ho fun h'' he' sb => ?_⟩
    have hT2 : h''.get? s.heap.objs.size = some { cls := .type "tuple", data := .seq #[.int i tk, u] } := (sb.2 _ (Nat.ne_of_gt hel)).trans hT
    have new : ObjOk X.prog X.w (upd H s.heap.objs.size (.tup [.int (i : Nat), y])) h'' s.heap.objs.size (.tup [.int (i : Nat), y]) :=
      ⟨by show 2 ≤ sizeLine; decide, [.int i tk, u], .cons ⟨_, rfl⟩ (.cons ry .nil), ⟨_, hT2, rfl, _, rfl⟩⟩
    have I1 : Inv X pins σ (upd H s.heap.objs.size (.tup [.int (i : Nat), y])) { s with heap := h'', toks := tk + 1 } :=
      I.turnedNew (ch := [e, it]) (fun b o hb q => (sb.2 b (fun z => hb (by simp [z]))).trans (hk b o (fun z => hb (by simp [z])) (fun z => hb (by simp [z])) q)) hf (Nat.le_refl _) new
    refine ⟨.ref s.heap.objs.size, _, I1, rfl, ⟨_, y, rfl, I.hok.fresh (Nat.le_refl _), rfl, fun ys hys => by rw [SqK.inj hys hq]; exact hy⟩, ⟨⟨u, ?_⟩, hs'.1.to fun o q => (sb.2 it (Ne.symm ne)).trans q, ne⟩, fun b hb => ?_⟩
    · have e1 : ((i + 1 : Nat) : Int) = (i : Int) + 1 := by omega
      rw [e1]; exact he'
    · obtain ⟨o, ho2, _⟩ : ∃ o, s.heap.get? b = some o ∧ True := by
        rcases in2 hb with z | z
        · subst z; exact ⟨_, he, trivial⟩
        · subst z; obtain ⟨o, h1, _⟩ := hit.look; exact ⟨o, h1, trivial⟩
      rw [upd_ne (Nat.ne_of_lt (Heap.lt_size ho2))]
      exact (hf b hb).1
  done := by
    intro X hP hw hK hc i pins s σ H E I hf st hg
    subst hP hw hK
    obtain ⟨⟨old, he⟩, hit, ne⟩ := st
    obtain ⟨xs, hq, hx⟩ := hg
    obtain ⟨its, rv, sq⟩ := seq_of I hq
    have na : a ≠ it := ne_of_none hq (hf it (by simp)).1
    have dd := drawsK (prog := X.prog) (w := X.w) (A := X.A.in1) (I.ok.hd hc) k it a na its.toArray
    have hn : its.toArray.size = i := by rw [← hx, rv.length]; simp
    obtain ⟨f0, f1, f2, f3, f4, f5⟩ := hf it (by simp)
    refine wpAny_pyNext_enum_endD dd he (by rw [hn]; exact ⟨hit, sq⟩) fun h' eb => ⟨rfl, I.turned (t' := s.toks) (fun b o hb q => eb b o hb q) f0 f1 f3 f4 f5⟩
  self := fun A i s Q E st h => by
    obtain ⟨⟨_, he⟩, _⟩ := st
    exact wpAny_pyIter_enum he h
def iEn (ta : TA) : TI := fun σ H R => ta σ H fun vs H1 => ∃ a k xs, vs = [.ref a] ∧ SqK k H1 a xs ∧ R (ItE k a) H1
/-- what iter(v) gives, and the heap behind it -/
structure Iters (v : Value) (ia : Heap → Addr) (hf : Heap → Heap) (H : Heap → Prop) : Prop where
  go : ∀ (prog : Program) (w : World) (A : Around) (E : Value → Shared → Prop) (s : Shared) (Q : Value → Shared → Prop), H s.heap → Q (.ref (ia s.heap)) { s with heap := hf s.heap } → wpAny (model prog w) A (pyIter v) Q E s
theorem meets_enum1 {v : Value} {ia : Heap → Addr} {hf : Heap → Heap} {H : Heap → Prop} (B : Iters v ia hf H) : Meets (Builtin.«enumerate.__new__» ⟨[.type "enumerate", v], []⟩) (fun _ R s => H s.heap ∧
    R (.ok (.ret (.ref (hf s.heap).objs.size))) { s with heap := (hf s.heap).push { cls := .type "enumerate", data := .fields #[.none, .bool false, .ref (ia s.heap), rawInt 0, .none, .none] } }) :=
  .of_wp fun prog w A R s h => by
    obtain ⟨hp, gs, dr, tk, os⟩ := s
    obtain ⟨h0, h⟩ := h
    have hsub := sub_enumerate
    have q1 : ∀ {A' : Around} {E : Value → Shared → Prop} {Q : Value → Shared → Prop}, Q (.ref (ia hp)) ⟨hf hp, gs, dr, tk, os⟩ → wpAny (model prog w) A' (pyIter v) Q E ⟨hp, gs, dr, tk, os⟩ := fun q => B.go prog w _ _ ⟨hp, gs, dr, tk, os⟩ _ h0 q
    wp_walk using q1
    refine wpAny_stack_any fun stk => wpAny_pure ?_
    split
    · rename_i c _ _ _ _ _
      cases (c == Value.type "enumerate") <;> (wp_walk using q1; exact ⟨_, rfl, h⟩)
    · wp_walk using q1; exact ⟨_, rfl, h⟩
theorem enum1 {prog : Program} {w : World} {A : Around} {E : Value → Shared → Prop} {s : Shared} {v : Value} {ia : Heap → Addr} {hf : Heap → Heap} {H : Heap → Prop} {Q : Value → Shared → Prop} (B : Iters v ia hf H) (h1 : H s.heap)
    (h : ∀ h', IsEnum h' (hf s.heap).objs.size (ia s.heap) 0 .none → h'.objs.size = (hf s.heap).objs.size + 1 → (∀ b u, (hf s.heap).get? b = some u → h'.get? b = some u) → Q (.ref (hf s.heap).objs.size) { s with heap := h' }) :
    wpAny (model prog w) A (call (.type "enumerate") [v]) Q E s := by
  refine callType_new F.called_enumerate (by decide) (F.typeCall_enumerate_1 _) (F.newCall_enumerate_1 _) (fun obj => F.args_object_init_2 obj _) F.entry_enumerate_new (meets_enum1 B) ⟨h1, ?_⟩
  have he : IsEnum ((hf s.heap).push { cls := .type "enumerate", data := .fields #[.none, .bool false, .ref (ia s.heap), rawInt 0, .none, .none] }) (hf s.heap).objs.size (ia s.heap) 0 .none := Heap.get?_push_size _ rfl
  exact ⟨⟨_, he, rfl⟩, h _ he (Heap.size_push ..) fun b u x => Heap.get?_push_of_some _ x⟩
theorem itersK (k : Bool) (a : Addr) (its : Array Value) : Iters (.ref a) (fun h => h.objs.size) (fun h => h.push (iterObj k a)) (fun h => seqK k h a its) :=
  ⟨fun prog w A E s Q h q => (beginsK k a its).iter prog w A E s Q h q⟩
theorem iterObj_free (k : Bool) (a : Addr) : (iterObj k a).isFreed = false := by cases k <;> rfl
theorem pi_En {X : Cx} {e : Expr} {ta : TA} {p pos tpos : Pos} {elts : List Expr} {kk : Nat} (hg : Gl X "enumerate") (hm : X.mg "enumerate" = none) (ha : PA X [e] ta) (hs : starEach [e] X.env = [(false, eval e X.env)] := by rfl) :
    PI X (.Tuple elts kk tpos) (.Call (.Name "enumerate" p) [e] [] pos) (iEn ta) := by
  refine ⟨fun pins s σ H R I h => ?_⟩
  refine Call_ (ld_blt I hg hm boot_enumerate (PyProof.Rows.callWith_type1 (thn (ha.run pos pins s σ H _ I h) fun us s1 ⟨vs, H1, I1, r1, q1⟩ => ?_) hs rfl))
  obtain ⟨a, k, xs, ex, hq, q⟩ := q1
  subst ex
  obtain ⟨u, rfl, ru⟩ := vals1 r1
  cases ru
  obtain ⟨its, rv, sq⟩ := seq_of I1 hq
  refine enum1 (itersK k a its.toArray) sq fun h' he hsz hk => wpAny_pyIter_enum he ?_
  have hpz : (s1.heap.push (iterObj k a)).objs.size = s1.heap.objs.size + 1 := Heap.size_push ..
  have kk : ∀ b u, s1.heap.get? b = some u → h'.get? b = some u := fun b u x => hk b u (Heap.get?_push_of_some _ x)
  have I2 : Inv X pins σ H1 { s1 with heap := h' } := I1.kept (t' := s1.toks) kk
  refine ⟨(s1.heap.push (iterObj k a)).objs.size, [(s1.heap.push (iterObj k a)).objs.size, s1.heap.objs.size], _, _, H1, rfl, I2, turn_E k a _ s1.heap.objs.size, ⟨⟨.none, he⟩, itK.new (hk _ _ (Heap.get?_push_size _ (iterObj_free k a))), by rw [hpz]; exact Nat.succ_ne_self _⟩, fun b hb => ?_, q⟩
  have hle : s1.heap.objs.size ≤ b := by
    rcases in2 hb with z | z
    · rw [z, hpz]; exact Nat.le_add_right _ _
    · rw [z]; exact Nat.le_refl _
  exact I1.fpOk hle (I1.hok.fresh hle)
/-- over data -/
def enumD (xs : List D) : List D := xs.zipIdx.map fun p => .tuple [.int (p.2 : Nat), p.1]
theorem enumD_get {xs : List D} {i : Nat} {x : D} (h : (enumD xs)[i]? = some x) : ∃ y, xs[i]? = some y ∧ x = .tuple [.int (i : Nat), y] := by
  unfold enumD at h
  rw [List.getElem?_map, List.getElem?_zipIdx] at h
  cases q : xs[i]? with
  | none => rw [q] at h; cases h
  | some y =>
    rw [q] at h
    simp only [Option.map_some, Nat.zero_add, Option.some.injEq] at h
    exact ⟨y, rfl, h.symm⟩
theorem enumD_len (xs : List D) : (enumD xs).length = xs.length := by simp [enumD]
def pEnum (a : PXA) : PXL := fun ρ Φ => a ρ fun es => match es with
  | [.d (.list xs)] => Φ (enumD xs)
  | [.d (.tuple xs)] => Φ (enumD xs)
  | _ => False
theorem okE {B1 : Hp} {k : Bool} {a : Addr} {vs : List V} {ds : List D} (h : SqK k B1 a vs) (r : RepAll B1 vs ds) : ItOk B1 (ItE k a) (enumD ds) := by
  refine ⟨fun i x B H hx e1 e2 => ?_, fun i x B H v H' hx e1 e2 y => ?_, fun B H e1 e2 => ⟨vs, e2 _ _ (e1 _ _ h), by rw [r.len, enumD_len]⟩⟩
  · obtain ⟨y, hy, _⟩ := enumD_get hx
    obtain ⟨v, hv, _⟩ := r.get hy
    exact ⟨vs, v, e2 _ _ (e1 _ _ h), hv⟩
  · obtain ⟨T, x', rfl, hT, rfl, y⟩ := y
    obtain ⟨z, hz, rfl⟩ := enumD_get hx
    obtain ⟨w, hw, rw'⟩ := r.get hz
    have := y vs (e2 _ _ (e1 _ _ h))
    rw [hw] at this
    cases this
    exact ⟨_, Grow.one hT, repT (fresh_back e2 hT) (.cons (.int _) (.cons (Rep.mono e1 _ _ rw') .nil))⟩
theorem simEn {tA : TA} {pA : PXA} (h : SimA tA pA) : SimI (iEn tA) (pEnum pA) := by
  intro T B0 H0 ρ Φ h' B H σ R S k
  refine h T B0 H0 ρ _ h' B H σ _ S fun es vs B1 H1 h1 S1 e1 r1 => ?_
  split at h1
  · obtain ⟨v, rfl, rv⟩ := resD1 r1
    cases rv with
    | lst q1 q2 => exact ⟨_, true, _, rfl, S1.ex _ _ q1, k _ _ B1 H1 h1 S1 e1 (okE (k := true) q1 q2)⟩
  · obtain ⟨v, rfl, rv⟩ := resD1 r1
    cases rv with
    | tup q1 q2 => exact ⟨_, false, _, rfl, S1.ex _ _ q1, k _ _ B1 H1 h1 S1 e1 (okE (k := false) q1 q2)⟩
  · exact h1.elim
theorem i_enum {X : Cx} {e : Expr} {tA : TA} {pA : PXA} {p pos tpos : Pos} {elts : List Expr} {kk : Nat} (hm : X.mg "enumerate" = none) (ha : DA X [e] tA pA) (hg : Gl X "enumerate" := by rfl) (hs : starEach [e] X.env = [(false, eval e X.env)] := by rfl) :
    DI X (.Tuple elts kk tpos) (.Call (.Name "enumerate" p) [e] [] pos) (iEn tA) (pEnum pA) := ⟨pi_En hg hm ha.pa hs, simEn ha.sim⟩

/-! ### zip(seq, seq) -/
structure Zc (z TI TO j1 j2 : Addr) : Prop where
  Iz : TI ≠ z
  Oz : TO ≠ z
  IO : TI ≠ TO
  I1 : TI ≠ j1
  I2 : TI ≠ j2
  z1 : z ≠ j1
  z2 : z ≠ j2
  O1 : TO ≠ j1
  O2 : TO ≠ j2
  n12 : j1 ≠ j2
theorem Zc.sep {z TI TO j1 j2 a b : Addr} (c : Zc z TI TO j1 j2) (az : a ≠ z) (aO : a ≠ TO) (a2 : a ≠ j2) (bz : b ≠ z) (bO : b ≠ TO) (b1 : b ≠ j1) : ZipSep2 z TI TO j1 j2 [j1, a] [j2, b] :=
  ⟨c.Iz, c.Oz, c.IO, c.I1, by simp, by simp [c.z1, az.symm], by simp [c.O1, aO.symm], c.I2, by simp, by simp [c.z2, bz.symm], by simp [c.O2, bO.symm], by simp [c.n12, b1.symm], by simp [c.n12.symm, a2.symm]⟩
theorem Zc.at (N : Nat) : Zc (N + 4) (N + 2) (N + 3) N (N + 1) :=
  ⟨by simp, by simp, by simp, by simp, by simp, by simp, by simp, by simp, by simp, by simp⟩
def ItZ (k l : Bool) (a b : Addr) : It :=
  ⟨fun i H => ∃ xs ys x y, SqK k H a xs ∧ SqK l H b ys ∧ xs[i]? = some x ∧ ys[i]? = some y,
    fun i H v H' => ∃ T x y, v = .ref T ∧ H T = none ∧ H' = upd H T (.tup [x, y]) ∧ (∀ xs, SqK k H a xs → xs[i]? = some x) ∧ ∀ ys, SqK l H b ys → ys[i]? = some y,
    fun i H => ∃ xs ys, SqK k H a xs ∧ SqK l H b ys ∧ i ≤ xs.length ∧ i ≤ ys.length ∧ (i = xs.length ∨ i = ys.length)⟩
theorem in5 {a b c d e x : Addr} (h : x ∈ [a, b, c, d, e]) : x = a ∨ x = b ∨ x = c ∨ x = d ∨ x = e := by simpa using h
theorem turn_Z {P : Program} {w : World} {K : PySem.W.Frag} {elts : List Expr} {kk : Nat} {tpos : Pos} (k l : Bool) {a b z TI TO j1 j2 : Addr} (c : Zc z TI TO j1 j2) :
    Turn P w K (.Tuple elts kk tpos) (ItZ k l a b) [z, TI, TO, j1, j2] z (fun i h => IsZip h z TI TO .none ∧ IsTupOf2 h TI (.ref j1) (.ref j2) ∧ (∃ x y, IsTupOf2 h TO x y) ∧ itK k h j1 a i ∧ itK l h j2 b i) where
  mem := List.mem_cons_self ..
  obj := fun i h st x hx => by
    obtain ⟨hz, hI, ⟨p, q, hO⟩, h1, h2⟩ := st
    rcases in5 hx with e | e | e | e | e
    · subst e; exact ⟨_, hz, fun v q => nomatch q⟩
    · subst e; exact ⟨_, hI, fun v q => nomatch q⟩
    · subst e; exact ⟨_, hO, fun v q => nomatch q⟩
    · subst e; exact h1.look
    · subst e; exact h2.look
  keep := fun i h h' st kp => by
    obtain ⟨hz, hI, ⟨p, q, hO⟩, h1, h2⟩ := st
    exact ⟨kp z (by simp) _ hz, kp TI (by simp) _ hI, ⟨p, q, kp TO (by simp) _ hO⟩, h1.to fun o q => kp j1 (by simp) o q, h2.to fun o q => kp j2 (by simp) o q⟩
  item := by
    intro X hP hw hK hc i pins s σ H E I hf st hg
    subst hP hw hK
    obtain ⟨hz, hI, ⟨p, q, hO⟩, h1, h2⟩ := st
    obtain ⟨xs, ys, x, y, hqx, hqy, hx, hy⟩ := hg
    obtain ⟨its, rv, sq⟩ := seq_of I hqx
    obtain ⟨its2, rv2, sq2⟩ := seq_of I hqy
    have F : ∀ b ∈ [z, TI, TO, j1, j2], H b = none := fun b hb => (hf b hb).1
    have nea : ∀ b ∈ [z, TI, TO, j1, j2], a ≠ b := fun b hb => ne_of_none hqx (F b hb)
    have neb : ∀ c ∈ [z, TI, TO, j1, j2], b ≠ c := fun c hb => ne_of_none hqy (F c hb)
    have sp := c.sep (nea z (by simp)) (nea TO (by simp)) (nea j2 (by simp)) (neb z (by simp)) (neb TO (by simp)) (neb j1 (by simp))
    have d1 := drawsK (prog := X.prog) (w := X.w) (A := X.A.in1) (I.ok.hd hc) k j1 a (nea j1 (by simp)) its.toArray
    have d2 := drawsK (prog := X.prog) (w := X.w) (A := X.A.in1) (I.ok.hd hc) l j2 b (neb j2 (by simp)) its2.toArray
    have l1 : i < its.toArray.size := by have := (List.getElem?_eq_some_iff.mp hx).1; simpa [← rv.length] using this
    have l2 : i < its2.toArray.size := by have := (List.getElem?_eq_some_iff.mp hy).1; simpa [← rv2.length] using this
    have hzl : z < s.heap.objs.size := Heap.lt_size hz
    refine wpAny_pyNext_zipD2_item sp d1 d2 hz hI hO ⟨h1, sq⟩ ⟨h2, sq2⟩ l1 l2 fun u1 u2 h' tk r1 r2 z' O' s1' s2' hT hsz hk => ?_
    obtain ⟨x', hx', rx⟩ := vget rv r1
    obtain ⟨y', hy', ry⟩ := vget rv2 r2
    refine ⟨_, rfl, wpAny_letOwnedTupleGo_zip (s := { s with heap := h', toks := tk }) z' fun h'' z'' sb => ?_⟩
    have hT2 : h''.get? s.heap.objs.size = some { cls := .type "tuple", data := .seq #[u1, u2] } := (sb.2 _ (Nat.ne_of_gt hzl)).trans hT
    have new : ObjOk X.prog X.w (upd H s.heap.objs.size (.tup [x', y'])) h'' s.heap.objs.size (.tup [x', y']) := ⟨by show 2 ≤ sizeLine; decide, [u1, u2], .cons rx (.cons ry .nil), ⟨_, hT2, rfl, _, rfl⟩⟩
    have I1 : Inv X pins σ (upd H s.heap.objs.size (.tup [x', y'])) { s with heap := h'', toks := tk } :=
      I.turnedNew (ch := [z, TI, TO, j1, j2]) (fun c o hb q => (sb.2 c (fun q' => hb (by simp [q']))).trans (hk c o (fun q' => hb (by simp [q'])) (fun q' => hb (by simp [q'])) (fun q' => hb (by simp [q'])) (fun q' => hb (by simp [q'])) q)) hf (Nat.le_refl _) new
    refine ⟨.ref s.heap.objs.size, _, I1, rfl, ⟨_, x', y', rfl, I.hok.fresh (Nat.le_refl _), rfl, fun v hv => by rw [SqK.inj hv hqx]; exact hx', fun v hv => by rw [SqK.inj hv hqy]; exact hy'⟩, ⟨z'', ?_, ⟨u1, u2, ?_⟩, ?_, ?_⟩, fun c' hcm => ?_⟩
    · exact (sb.2 _ c.Iz).trans (hk _ _ c.Iz c.IO c.I1 c.I2 hI)
    · exact (sb.2 _ c.Oz).trans O'
    · exact s1'.1.to fun o q => (sb.2 _ c.z1.symm).trans q
    · exact s2'.1.to fun o q => (sb.2 _ c.z2.symm).trans q
    · obtain ⟨o, ho⟩ : ∃ o, s.heap.get? c' = some o := by
        rcases in5 hcm with e | e | e | e | e
        · subst e; exact ⟨_, hz⟩
        · subst e; exact ⟨_, hI⟩
        · subst e; exact ⟨_, hO⟩
        · subst e; obtain ⟨o, h, _⟩ := h1.look; exact ⟨o, h⟩
        · subst e; obtain ⟨o, h, _⟩ := h2.look; exact ⟨o, h⟩
      rw [upd_ne (Nat.ne_of_lt (Heap.lt_size ho))]
      exact F c' hcm
  done := by
    intro X hP hw hK hc i pins s σ H E I hf st hg
    subst hP hw hK
    obtain ⟨hz, hI, ⟨p, q, hO⟩, h1, h2⟩ := st
    obtain ⟨xs, ys, hqx, hqy, i1, i2, ie⟩ := hg
    obtain ⟨its, rv, sq⟩ := seq_of I hqx
    obtain ⟨its2, rv2, sq2⟩ := seq_of I hqy
    have F : ∀ b ∈ [z, TI, TO, j1, j2], H b = none := fun b hb => (hf b hb).1
    have nea : ∀ b ∈ [z, TI, TO, j1, j2], a ≠ b := fun b hb => ne_of_none hqx (F b hb)
    have neb : ∀ c ∈ [z, TI, TO, j1, j2], b ≠ c := fun c hb => ne_of_none hqy (F c hb)
    have sp := c.sep (nea z (by simp)) (nea TO (by simp)) (nea j2 (by simp)) (neb z (by simp)) (neb TO (by simp)) (neb j1 (by simp))
    have d1 := drawsK (prog := X.prog) (w := X.w) (A := X.A.in1) (I.ok.hd hc) k j1 a (nea j1 (by simp)) its.toArray
    have d2 := drawsK (prog := X.prog) (w := X.w) (A := X.A.in1) (I.ok.hd hc) l j2 b (neb j2 (by simp)) its2.toArray
    have e1 : its.toArray.size = xs.length := by simp [rv.length]
    have e2 : its2.toArray.size = ys.length := by simp [rv2.length]
    exact wpAny_pyNext_zipD2_end sp d1 d2 hz hI hO ⟨h1, sq⟩ ⟨h2, sq2⟩ (by omega) (by omega) (by omega) fun h' tk hk => ⟨rfl, I.turnedL (t' := tk) (ch := [z, TI, TO, j1, j2]) (fun c o hb q =>
      hk c o (fun q' => hb (by simp [q'])) (fun q' => hb (by simp [q'])) (fun q' => hb (by simp [q'])) (fun q' => hb (by simp [q'])) q) hf⟩
  self := fun A i s Q E st h => wpAny_pyIter_zip st.1 h
def iZp (ta : TA) : TI := fun σ H R => ta σ H fun vs H1 => ∃ a b k l xs ys, vs = [.ref a, .ref b] ∧ SqK k H1 a xs ∧ SqK l H1 b ys ∧ R (ItZ k l a b) H1
theorem pi_Zp {X : Cx} {e e2 : Expr} {ta : TA} {p pos tpos : Pos} {elts : List Expr} {kk : Nat} (hg : Gl X "zip") (hm : X.mg "zip" = none) (ha : PA X [e, e2] ta)
    (hs : starEach [e, e2] X.env = (false, eval e X.env) :: starEach [e2] X.env := by rfl) (hpl : (backTo pos (starEach [e2] X.env)).any (·.1) = false := by rfl) :
    PI X (.Tuple elts kk tpos) (.Call (.Name "zip" p) [e, e2] [] pos) (iZp ta) := by
  refine ⟨fun pins s σ H R I h => ?_⟩
  refine Call_ (ld_blt I hg hm PyProof.Rows.boot_zip (PyProof.Rows.callWith_type1 (thn (ha.run pos pins s σ H _ I h) fun us s1 ⟨vs, H1, I1, r1, q1⟩ => ?_) hs hpl))
  obtain ⟨a, b, k, l, xs, ys, ex, hqx, hqy, q⟩ := q1
  subst ex
  obtain ⟨u, v, rfl, ru, rv⟩ := vals2 r1
  cases ru; cases rv
  obtain ⟨its, _, sq⟩ := seq_of I1 hqx
  obtain ⟨its2, _, sq2⟩ := seq_of I1 hqy
  refine zip_begins2 (beginsK k a its.toArray) (beginsK l b its2.toArray) sq sq2 fun h' hz hI hO g1 g2 hsz hk => wpAny_pyIter_zip hz ?_
  refine ⟨s1.heap.objs.size + 4, [s1.heap.objs.size + 4, s1.heap.objs.size + 2, s1.heap.objs.size + 3, s1.heap.objs.size, s1.heap.objs.size + 1], _, _, H1, rfl, I1.kept (t' := s1.toks) hk, turn_Z k l (Zc.at s1.heap.objs.size), ⟨hz, hI, ⟨_, _, hO⟩, itK.new g1, itK.new g2⟩, fun c hcm => ?_, q⟩
  have hle : s1.heap.objs.size ≤ c := by
    rcases in5 hcm with z | z | z | z | z <;> subst z
    · exact Nat.le_add_right _ _
    · exact Nat.le_add_right _ _
    · exact Nat.le_add_right _ _
    · exact Nat.le_refl _
    · exact Nat.le_add_right _ _
  exact I1.fpOk hle (I1.hok.fresh hle)
def zipD (xs ys : List D) : List D := List.zipWith (fun a b => .tuple [a, b]) xs ys
theorem zipD_get {xs ys : List D} {i : Nat} {x : D} (h : (zipD xs ys)[i]? = some x) : ∃ a b, xs[i]? = some a ∧ ys[i]? = some b ∧ x = .tuple [a, b] := by
  unfold zipD at h
  rw [List.getElem?_zipWith] at h
  cases q : xs[i]? with
  | none => rw [q] at h; cases h
  | some a =>
    cases q2 : ys[i]? with
    | none => rw [q, q2] at h; cases h
    | some b =>
      rw [q, q2] at h
      exact ⟨a, b, rfl, rfl, (Option.some.inj h).symm⟩
theorem zipD_len (xs ys : List D) : (zipD xs ys).length = min xs.length ys.length := by simp [zipD]
def sqD : D → Option (List D)
  | .list xs => some xs
  | .tuple xs => some xs
  | _ => none
def pZip (a : PXA) : PXL := fun ρ Φ => a ρ fun es => match es with
  | [.d x, .d y] => match sqD x, sqD y with
    | some xs, some ys => Φ (zipD xs ys)
    | _, _ => False
  | _ => False
theorem sqD_rep {B : Hp} {v : V} {d : D} {xs : List D} (r : Rep B v d) (h : sqD d = some xs) : ∃ k a vs, v = .ref a ∧ SqK k B a vs ∧ RepAll B vs xs := by
  cases r <;> first | (cases h; done) | skip
  · cases h; rename_i h1 h2; exact ⟨true, _, _, rfl, h1, h2⟩
  · cases h; rename_i h1 h2; exact ⟨false, _, _, rfl, h1, h2⟩
theorem okZ {B1 : Hp} {k l : Bool} {a b : Addr} {vs ws : List V} {xs ys : List D} (h : SqK k B1 a vs) (r : RepAll B1 vs xs) (h' : SqK l B1 b ws) (r' : RepAll B1 ws ys) : ItOk B1 (ItZ k l a b) (zipD xs ys) := by
  refine ⟨fun i x B H hx e1 e2 => ?_, fun i x B H v H' hx e1 e2 y => ?_, fun B H e1 e2 => ⟨vs, ws, e2 _ _ (e1 _ _ h), e2 _ _ (e1 _ _ h'), ?_⟩⟩
  · obtain ⟨p, q, hp, hq, _⟩ := zipD_get hx
    obtain ⟨v, hv, _⟩ := r.get hp
    obtain ⟨w, hw, _⟩ := r'.get hq
    exact ⟨vs, ws, v, w, e2 _ _ (e1 _ _ h), e2 _ _ (e1 _ _ h'), hv, hw⟩
  · obtain ⟨T, x', y', rfl, hT, rfl, y1, y2⟩ := y
    obtain ⟨p, q, hp, hq, rfl⟩ := zipD_get hx
    obtain ⟨v, hv, rv⟩ := r.get hp
    obtain ⟨w, hw, rw'⟩ := r'.get hq
    have t1 := y1 vs (e2 _ _ (e1 _ _ h))
    have t2 := y2 ws (e2 _ _ (e1 _ _ h'))
    rw [hv] at t1
    rw [hw] at t2
    cases t1; cases t2
    exact ⟨_, Grow.one hT, repT (fresh_back e2 hT) (.cons (Rep.mono e1 _ _ rv) (.cons (Rep.mono e1 _ _ rw') .nil))⟩
  · rw [zipD_len, r.len, r'.len]
    omega
theorem simZp {tA : TA} {pA : PXA} (h : SimA tA pA) : SimI (iZp tA) (pZip pA) := by
  intro T B0 H0 ρ Φ h' B H σ R S k
  refine h T B0 H0 ρ _ h' B H σ _ S fun es vs B1 H1 h1 S1 e1 r1 => ?_
  split at h1
  · obtain ⟨v, w, rfl, rv, rw'⟩ := resD2 r1
    split at h1
    · rename_i q1 q2
      obtain ⟨k1, a, vs, rfl, s1, t1⟩ := sqD_rep rv q1
      obtain ⟨k2, b, ws, rfl, s2, t2⟩ := sqD_rep rw' q2
      exact ⟨_, _, k1, k2, _, _, rfl, S1.ex _ _ s1, S1.ex _ _ s2, k _ _ B1 H1 h1 S1 e1 (okZ s1 t1 s2 t2)⟩
    · exact h1.elim
  · exact h1.elim
theorem i_zip {X : Cx} {e e2 : Expr} {tA : TA} {pA : PXA} {p pos tpos : Pos} {elts : List Expr} {kk : Nat} (hm : X.mg "zip" = none) (ha : DA X [e, e2] tA pA) (hg : Gl X "zip" := by rfl)
    (hs : starEach [e, e2] X.env = (false, eval e X.env) :: starEach [e2] X.env := by rfl) (hpl : (backTo pos (starEach [e2] X.env)).any (·.1) = false := by rfl) :
    DI X (.Tuple elts kk tpos) (.Call (.Name "zip" p) [e, e2] [] pos) (iZp tA) (pZip pA) := ⟨pi_Zp hg hm ha.pa hs hpl, simZp ha.sim⟩
end Pu

set_option Elab.async false
set_option linter.all false
set_option maxRecDepth 100000
set_option maxHeartbeats 2000000
/-! PuX: enumerate(zip(seq, seq)). -/
namespace PuZ
open PySem
section
variable {prog : Program} {w : World} {A : Around} {E : Value → Shared → Prop} {s : Shared}
theorem next_ez {e z TI TO j1 j2 : Addr} {g1 g2 : List Addr} {n1 n2 i : Nat} {c : Int} {R1 R2 : Nat → Value → Prop} {S1 S2 : Nat → Heap → Prop} {a1 a2 old : Value} {Q : Option Value → Shared → Prop} (sp : ZipSep2 z TI TO j1 j2 g1 g2)
    (d1 : Draws prog w A.in1.in1 j1 g1 n1 R1 S1) (d2 : Draws prog w A.in1.in1 j2 g2 n2 R2 S2) (he : IsEnum s.heap e z c old) (hz : ZSt s.heap z TI TO) (hI : IsTupOf2 s.heap TI (.ref j1) (.ref j2)) (hO : IsTupOf2 s.heap TO a1 a2) (t1 : S1 i s.heap) (t2 : S2 i s.heap) (l1 : i < n1) (l2 : i < n2)
    (ez : e ≠ z) (eO : e ≠ TO) (e1 : e ≠ j1) (e2 : e ≠ j2)
    (k : ∀ x1 x2 h1 tk h2, R1 i x1 → R2 i x2 → ZSt h1 z TI TO → (∃ b1 b2, IsTupOf2 h1 TO b1 b2) → S1 (i + 1) h1 → S2 (i + 1) h1 → IsTupOf2 h1 s.heap.objs.size x1 x2 → h1.objs.size = s.heap.objs.size + 1 →
      (∀ c u, c ≠ z → c ≠ TO → c ≠ j1 → c ≠ j2 → s.heap.get? c = some u → h1.get? c = some u) → IsEnumOut h2 e z (c + 1) (.ref s.heap.objs.size) h1.objs.size → h2.get? h1.objs.size = some { cls := .type "tuple", data := .seq #[.int c tk, .ref s.heap.objs.size] } → h2.objs.size = h1.objs.size + 1 →
      (∀ b u, b ≠ e → h1.get? b = some u → h2.get? b = some u) → Q (some (.ref h1.objs.size)) { s with heap := h2, toks := tk + 1 }) :
    wpAny (model prog w) A (pyNext (.ref e)) Q E s := by
  have ty : s.TypeIs (.ref e) "enumerate" := ⟨_, he, rfl⟩
  unfold pyNext
  refine wpAny_bind (wpAny_attempt (wpAny_callSpecial?_slot (name := Str.ofString "__next__") ty F.slot_enumerate_next (wpAny_call_entry F.slot_enumerate_next ty F.entry_enumerate_next ?_ (F.args_enumerate_next_1 _))))
  refine enum_item he (zip_item sp d1 d2 hz hI hO t1 t2 l1 l2 fun x1 x2 h1 tk r1 r2 zs os u1 u2 pT hs hk => ⟨?_, fun h2 eo tT s2 k2 => ?_⟩)
  · exact hk e _ ez eO e1 e2 he
  · exact wpAny_pure (k x1 x2 h1 tk h2 r1 r2 zs os u1 u2 pT hs hk eo tT s2 k2)
theorem next_ez_end {e z TI TO j1 j2 : Addr} {g1 g2 : List Addr} {n1 n2 i : Nat} {c : Int} {R1 R2 : Nat → Value → Prop} {S1 S2 : Nat → Heap → Prop} {a1 a2 old : Value} {Q : Option Value → Shared → Prop} (sp : ZipSep2 z TI TO j1 j2 g1 g2)
    (d1 : Draws prog w A.in1.in1 j1 g1 n1 R1 S1) (d2 : Draws prog w A.in1.in1 j2 g2 n2 R2 S2) (he : IsEnum s.heap e z c old) (hz : ZSt s.heap z TI TO) (hI : IsTupOf2 s.heap TI (.ref j1) (.ref j2)) (hO : IsTupOf2 s.heap TO a1 a2) (t1 : S1 i s.heap) (t2 : S2 i s.heap) (l1 : i ≤ n1) (l2 : i ≤ n2) (hend : i = n1 ∨ i = n2)
    (k : ∀ h' tk, (∀ c u, c ≠ z → c ≠ TO → c ≠ j1 → c ≠ j2 → s.heap.get? c = some u → h'.get? c = some u) → Q none { s with heap := h', toks := tk }) :
    wpAny (model prog w) A (pyNext (.ref e)) Q E s := by
  have ty : s.TypeIs (.ref e) "enumerate" := ⟨_, he, rfl⟩
  unfold pyNext
  refine wpAny_bind (wpAny_attempt (wpAny_callSpecial?_slot (name := Str.ofString "__next__") ty F.slot_enumerate_next (wpAny_call_entry F.slot_enumerate_next ty F.entry_enumerate_next ?_ (F.args_enumerate_next_1 _))))
  refine enum_stop he (zip_end sp d1 d2 hz hI hO t1 t2 l1 l2 hend fun h' tk x hk hx => ?_)
  obtain ⟨o, ho, hc⟩ := hx
  refine wpAny_bind (wpAny_isInstance (T := "StopIteration") (b := true) ⟨o, ho, hc⟩ isSubtype_stop ?_)
  exact wpAny_pure (k _ _ hk)
end
end PuZ
namespace Pu
open PySem PyProof.Rows L2 Evl PuZ
structure Ec (e z TI TO j1 j2 : Addr) : Prop where
  c : Zc z TI TO j1 j2
  z : e ≠ z
  I : e ≠ TI
  O : e ≠ TO
  n1 : e ≠ j1
  n2 : e ≠ j2
theorem Ec.at (N : Nat) : Ec (N + 5) (N + 4) (N + 2) (N + 3) N (N + 1) := ⟨Zc.at N, by simp, by simp, by simp, by simp, by simp⟩
def ItEZ (k l : Bool) (a b : Addr) : It :=
  ⟨fun i H => ∃ xs ys x y, SqK k H a xs ∧ SqK l H b ys ∧ xs[i]? = some x ∧ ys[i]? = some y,
    fun i H v H' => ∃ T T2 x y, v = .ref T2 ∧ H T = none ∧ upd H T (.tup [x, y]) T2 = none ∧ H' = upd (upd H T (.tup [x, y])) T2 (.tup [.int (i : Nat), .ref T]) ∧ (∀ xs, SqK k H a xs → xs[i]? = some x) ∧ ∀ ys, SqK l H b ys → ys[i]? = some y,
    fun i H => ∃ xs ys, SqK k H a xs ∧ SqK l H b ys ∧ i ≤ xs.length ∧ i ≤ ys.length ∧ (i = xs.length ∨ i = ys.length)⟩
theorem in6 {a b c d e f x : Addr} (h : x ∈ [a, b, c, d, e, f]) : x = a ∨ x = b ∨ x = c ∨ x = d ∨ x = e ∨ x = f := by simpa using h
theorem in4 {a b c d x : Addr} (h : x ∈ [a, b, c, d]) : x = a ∨ x = b ∨ x = c ∨ x = d := by simpa using h
theorem turn_EZ {P : Program} {w : World} {K : PySem.W.Frag} {elts : List Expr} {kk : Nat} {tpos : Pos} (k l : Bool) {a b e z TI TO j1 j2 : Addr} (c : Ec e z TI TO j1 j2) :
    Turn P w K (.Tuple elts kk tpos) (ItEZ k l a b) [e, z, TI, TO, j1, j2] e (fun i h => (∃ old, IsEnum h e z ((i : Nat) : Int) old) ∧ ZSt h z TI TO ∧ IsTupOf2 h TI (.ref j1) (.ref j2) ∧ (∃ x y, IsTupOf2 h TO x y) ∧ itK k h j1 a i ∧ itK l h j2 b i) where
  mem := List.mem_cons_self ..
  obj := fun i h st x hx => by
    obtain ⟨⟨old, he⟩, ⟨f0, f, hz, _⟩, hI, ⟨p, q, hO⟩, h1, h2⟩ := st
    rcases in6 hx with e | e | e | e | e | e
    · subst e; exact ⟨_, he, fun v q => nomatch q⟩
    · subst e; exact ⟨_, hz, fun v q => nomatch q⟩
    · subst e; exact ⟨_, hI, fun v q => nomatch q⟩
    · subst e; exact ⟨_, hO, fun v q => nomatch q⟩
    · subst e; exact h1.look
    · subst e; exact h2.look
  keep := fun i h h' st kp => by
    obtain ⟨⟨old, he⟩, ⟨f0, f, hz, hf⟩, hI, ⟨p, q, hO⟩, h1, h2⟩ := st
    exact ⟨⟨old, kp e (by simp) _ he⟩, ⟨f0, f, kp z (by simp) _ hz, hf⟩, kp TI (by simp) _ hI, ⟨p, q, kp TO (by simp) _ hO⟩, h1.to fun o q => kp j1 (by simp) o q, h2.to fun o q => kp j2 (by simp) o q⟩
  item := by
    intro X hP hw hK hc i pins s σ H E I hf st hg
    subst hP hw hK
    obtain ⟨⟨old, he⟩, hz, hI, ⟨p, q, hO⟩, h1, h2⟩ := st
    obtain ⟨xs, ys, x, y, hqx, hqy, hx, hy⟩ := hg
    obtain ⟨its, rv, sq⟩ := seq_of I hqx
    obtain ⟨its2, rv2, sq2⟩ := seq_of I hqy
    have F : ∀ b ∈ [e, z, TI, TO, j1, j2], H b = none := fun b hb => (hf b hb).1
    have nea : ∀ b ∈ [e, z, TI, TO, j1, j2], a ≠ b := fun b hb => ne_of_none hqx (F b hb)
    have neb : ∀ c ∈ [e, z, TI, TO, j1, j2], b ≠ c := fun c hb => ne_of_none hqy (F c hb)
    have sp := c.c.sep (nea z (by simp)) (nea TO (by simp)) (nea j2 (by simp)) (neb z (by simp)) (neb TO (by simp)) (neb j1 (by simp))
    have d1 := drawsK (prog := X.prog) (w := X.w) (A := X.A.in1.in1) (I.ok.hd hc) k j1 a (nea j1 (by simp)) its.toArray
    have d2 := drawsK (prog := X.prog) (w := X.w) (A := X.A.in1.in1) (I.ok.hd hc) l j2 b (neb j2 (by simp)) its2.toArray
    have l1 : i < its.toArray.size := by have := (List.getElem?_eq_some_iff.mp hx).1; simpa [← rv.length] using this
    have l2 : i < its2.toArray.size := by have := (List.getElem?_eq_some_iff.mp hy).1; simpa [← rv2.length] using this
    have old_lt : ∀ b ∈ [e, z, TI, TO, j1, j2], b < s.heap.objs.size := fun b hb => by
      obtain ⟨f0, f, hz, _⟩ := hz
      rcases in6 hb with e | e | e | e | e | e
      · subst e; exact Heap.lt_size he
      · subst e; exact Heap.lt_size hz
      · subst e; exact Heap.lt_size hI
      · subst e; exact Heap.lt_size hO
      · subst e; obtain ⟨o, h, _⟩ := h1.look; exact Heap.lt_size h
      · subst e; obtain ⟨o, h, _⟩ := h2.look; exact Heap.lt_size h
    refine next_ez sp d1 d2 he hz hI hO ⟨h1, sq⟩ ⟨h2, sq2⟩ l1 l2 c.z c.O c.n1 c.n2 fun u1 u2 g1 tk g2 r1 r2 zs os s1' s2' pT sz1 k1 eo tT sz2 k2 => ?_
    obtain ⟨x', hx', rx⟩ := vget rv r1
    obtain ⟨y', hy', ry⟩ := vget rv2 r2
    obtain ⟨b1, b2, os⟩ := os
    -- the pair
    have new1 : ObjOk X.prog X.w (upd H s.heap.objs.size (.tup [x', y'])) g1 s.heap.objs.size (.tup [x', y']) := ⟨by show 2 ≤ sizeLine; decide, [u1, u2], .cons rx (.cons ry .nil), ⟨_, pT, rfl, _, rfl⟩⟩
    have hf4 : ∀ b ∈ [z, TO, j1, j2], FpOk X pins H b := fun b hb => hf b (by rcases in4 hb with q | q | q | q <;> simp [q])
    have I1 : Inv X pins σ (upd H s.heap.objs.size (.tup [x', y'])) { s with heap := g1, toks := tk } :=
      I.turnedNew (ch := [z, TO, j1, j2]) (fun c o hb q => k1 c o (fun q' => hb (by simp [q'])) (fun q' => hb (by simp [q'])) (fun q' => hb (by simp [q'])) (fun q' => hb (by simp [q'])) q) hf4 (Nat.le_refl _) new1
    have T1 : H s.heap.objs.size = none := I.hok.fresh (Nat.le_refl _)
    have T2 : upd H s.heap.objs.size (.tup [x', y']) g1.objs.size = none := I1.hok.fresh (Nat.le_refl _)
    -- the letting go, then the outer pair
    refine ⟨_, rfl, wpAny_letOwnedTupleGo_enum (s := { s with heap := g2, toks := tk + 1 }) eo fun g3 e3 sb => ?_⟩
    have el1 : e < g1.objs.size := by rw [sz1]; exact Nat.lt_succ_of_lt (old_lt e (by simp))
    have tT3 : g3.get? g1.objs.size = some { cls := .type "tuple", data := .seq #[.int ((i : Nat) : Int) tk, .ref s.heap.objs.size] } := (sb.2 _ (Nat.ne_of_gt el1)).trans tT
    have new2 : ObjOk X.prog X.w (upd (upd H s.heap.objs.size (.tup [x', y'])) g1.objs.size (.tup [.int (i : Nat), .ref s.heap.objs.size])) g3 g1.objs.size (.tup [.int (i : Nat), .ref s.heap.objs.size]) :=
      ⟨by show 2 ≤ sizeLine; decide, [.int ((i : Nat) : Int) tk, .ref s.heap.objs.size], .cons ⟨_, rfl⟩ (.cons rfl .nil), ⟨_, tT3, rfl, _, rfl⟩⟩
    have hfe : ∀ b ∈ [e], FpOk X pins (upd H s.heap.objs.size (.tup [x', y'])) b := fun b hb => by
      have hb' : b = e := by simpa using hb
      subst hb'
      obtain ⟨f0, f1, f2, f3, f4, f5⟩ := hf b (by simp)
      exact ⟨by rw [upd_ne (Nat.ne_of_lt (old_lt b (by simp)))]; exact f0, f1, f2, f3, f4, f5⟩
    have I2 : Inv X pins σ (upd (upd H s.heap.objs.size (.tup [x', y'])) g1.objs.size (.tup [.int (i : Nat), .ref s.heap.objs.size])) { s with heap := g3, toks := tk + 1 } :=
      I1.turnedNew (ch := [e]) (fun c o hb q => (sb.2 c (by simpa using hb)).trans (k2 c o (by simpa using hb) q)) hfe (Nat.le_refl _) new2
    have up : ∀ b o, b ≠ e → g1.get? b = some o → g3.get? b = some o := fun b o hb q => (sb.2 b hb).trans (k2 b o hb q)
    refine ⟨.ref g1.objs.size, _, I2, rfl, ⟨_, _, x', y', rfl, T1, T2, rfl, fun v hv => by rw [SqK.inj hv hqx]; exact hx', fun v hv => by rw [SqK.inj hv hqy]; exact hy'⟩, ⟨⟨.ref s.heap.objs.size, ?_⟩, ?_, ?_, ⟨b1, b2, ?_⟩, ?_, ?_⟩, fun c' hcm => ?_⟩
    · have e1 : ((i + 1 : Nat) : Int) = (i : Int) + 1 := by omega
      rw [e1]; exact e3
    · obtain ⟨f0, f, hz', hf'⟩ := zs
      exact ⟨f0, f, up z _ c.z.symm hz', hf'⟩
    · exact up TI _ c.I.symm (k1 _ _ c.c.Iz c.c.IO c.c.I1 c.c.I2 hI)
    · exact up TO _ c.O.symm os
    · exact s1'.1.to fun o q => up j1 o c.n1.symm q
    · exact s2'.1.to fun o q => up j2 o c.n2.symm q
    · have lt := old_lt c' hcm
      rw [upd_ne (show c' ≠ g1.objs.size by rw [sz1]; exact Nat.ne_of_lt (Nat.lt_succ_of_lt lt)), upd_ne (Nat.ne_of_lt lt)]
      exact F c' hcm
  done := by
    intro X hP hw hK hc i pins s σ H E I hf st hg
    subst hP hw hK
    obtain ⟨⟨old, he⟩, hz, hI, ⟨p, q, hO⟩, h1, h2⟩ := st
    obtain ⟨xs, ys, hqx, hqy, i1, i2, ie⟩ := hg
    obtain ⟨its, rv, sq⟩ := seq_of I hqx
    obtain ⟨its2, rv2, sq2⟩ := seq_of I hqy
    have F : ∀ b ∈ [e, z, TI, TO, j1, j2], H b = none := fun b hb => (hf b hb).1
    have nea : ∀ b ∈ [e, z, TI, TO, j1, j2], a ≠ b := fun b hb => ne_of_none hqx (F b hb)
    have neb : ∀ c ∈ [e, z, TI, TO, j1, j2], b ≠ c := fun c hb => ne_of_none hqy (F c hb)
    have sp := c.c.sep (nea z (by simp)) (nea TO (by simp)) (nea j2 (by simp)) (neb z (by simp)) (neb TO (by simp)) (neb j1 (by simp))
    have d1 := drawsK (prog := X.prog) (w := X.w) (A := X.A.in1.in1) (I.ok.hd hc) k j1 a (nea j1 (by simp)) its.toArray
    have d2 := drawsK (prog := X.prog) (w := X.w) (A := X.A.in1.in1) (I.ok.hd hc) l j2 b (neb j2 (by simp)) its2.toArray
    have e1 : its.toArray.size = xs.length := by simp [rv.length]
    have e2 : its2.toArray.size = ys.length := by simp [rv2.length]
    exact next_ez_end sp d1 d2 he hz hI hO ⟨h1, sq⟩ ⟨h2, sq2⟩ (by omega) (by omega) (by omega) fun h' tk hk => ⟨rfl, I.turnedL (t' := tk) (ch := [e, z, TI, TO, j1, j2]) (fun c o hb q =>
      hk c o (fun q' => hb (by simp [q'])) (fun q' => hb (by simp [q'])) (fun q' => hb (by simp [q'])) (fun q' => hb (by simp [q'])) q) hf⟩
  self := fun A i s Q E st h => by
    obtain ⟨⟨_, he⟩, _⟩ := st
    exact wpAny_pyIter_enum he h
def iEZ (ta : TA) : TI := fun σ H R => ta σ H fun vs H1 => ∃ a b k l xs ys, vs = [.ref a, .ref b] ∧ SqK k H1 a xs ∧ SqK l H1 b ys ∧ R (ItEZ k l a b) H1
theorem itersZ {z TI TO : Addr} : Iters (.ref z) (fun _ => z) (fun h => h) (fun h => IsZip h z TI TO .none) := ⟨fun prog w A E s Q h q => wpAny_pyIter_zip h q⟩
theorem pi_EZ {X : Cx} {e e2 : Expr} {ta : TA} {p pos p' pos' tpos : Pos} {elts : List Expr} {kk : Nat} (hg : Gl X "zip") (hm : X.mg "zip" = none) (hg' : Gl X "enumerate") (hm' : X.mg "enumerate" = none) (ha : PA X [e, e2] ta)
    (hs : starEach [e, e2] X.env = (false, eval e X.env) :: starEach [e2] X.env := by rfl) (hpl : (backTo pos (starEach [e2] X.env)).any (·.1) = false := by rfl)
    (hs' : starEach [.Call (.Name "zip" p) [e, e2] [] pos] X.env = [(false, eval (.Call (.Name "zip" p) [e, e2] [] pos) X.env)] := by rfl) :
    PI X (.Tuple elts kk tpos) (.Call (.Name "enumerate" p') [.Call (.Name "zip" p) [e, e2] [] pos] [] pos') (iEZ ta) := by
  refine ⟨fun pins s σ H R I h => ?_⟩
  have sp : ∀ {Q : List Value → Shared → Prop}, wpAny (model X.prog X.w) X.A (eval (.Call (.Name "zip" p) [e, e2] [] pos) X.env) (fun v s2 => Q [v] s2) X.xe s → wpAny (model X.prog X.w) X.A (spliced (backTo pos' (starEach [.Call (.Name "zip" p) [e, e2] [] pos] X.env))) Q X.xe s := fun q => by
    rw [hs']
    exact Calls.spliced_cons (thn q fun v s2 h2 => Calls.spliced_nil h2)
  refine Call_ (ld_blt I hg' hm' boot_enumerate (PyProof.Rows.callWith_type1 (sp ?_) hs' rfl))
  refine Call_ (ld_blt I hg hm PyProof.Rows.boot_zip (PyProof.Rows.callWith_type1 ?_ hs hpl))
  refine thn (ha.run pos pins s σ H _ I h) fun us s1 ⟨vs, H1, I1, r1, q1⟩ => ?_
  obtain ⟨a, b, k, l, xs, ys, ex, hqx, hqy, q⟩ := q1
  subst ex
  obtain ⟨u, v, rfl, ru, rv⟩ := vals2 r1
  cases ru; cases rv
  obtain ⟨its, _, sq⟩ := seq_of I1 hqx
  obtain ⟨its2, _, sq2⟩ := seq_of I1 hqy
  refine zip_begins2 (beginsK k a its.toArray) (beginsK l b its2.toArray) sq sq2 fun h' hz hI hO g1 g2 hsz hk => ?_
  refine enum1 (s := { s1 with heap := h' }) itersZ hz fun h2 he hsz2 hk2 => wpAny_pyIter_enum he ?_
  have kk : ∀ b u, s1.heap.get? b = some u → h2.get? b = some u := fun b u x => hk2 b u (hk b u x)
  have he' : IsEnum h2 (s1.heap.objs.size + 5) (s1.heap.objs.size + 4) 0 .none := by
    have he : IsEnum h2 h'.objs.size (s1.heap.objs.size + 4) 0 .none := he
    rw [hsz] at he; exact he
  have es : h'.objs.size = s1.heap.objs.size + 5 := hsz
  show PIE X pins σ _ R (.ref h'.objs.size) _
  rw [es]
  refine ⟨s1.heap.objs.size + 5, [s1.heap.objs.size + 5, s1.heap.objs.size + 4, s1.heap.objs.size + 2, s1.heap.objs.size + 3, s1.heap.objs.size, s1.heap.objs.size + 1], _, _, H1, rfl, I1.kept (t' := s1.toks) kk, turn_EZ k l (Ec.at s1.heap.objs.size), ⟨⟨.none, he'⟩, ⟨_, _, hk2 _ _ hz, .inl rfl⟩, hk2 _ _ hI, ⟨_, _, hk2 _ _ hO⟩, (itK.new g1).to fun o q => hk2 _ _ q, (itK.new g2).to fun o q => hk2 _ _ q⟩, fun c hcm => ?_, q⟩
  have hle : s1.heap.objs.size ≤ c := by
    rcases in6 hcm with z | z | z | z | z | z <;> subst z
    · exact Nat.le_add_right _ _
    · exact Nat.le_add_right _ _
    · exact Nat.le_add_right _ _
    · exact Nat.le_add_right _ _
    · exact Nat.le_refl _
    · exact Nat.le_add_right _ _
  exact I1.fpOk hle (I1.hok.fresh hle)
/-- over data -/
def pEZ (a : PXA) : PXL := fun ρ Φ => a ρ fun es => match es with
  | [.d x, .d y] => match sqD x, sqD y with
    | some xs, some ys => Φ (enumD (zipD xs ys))
    | _, _ => False
  | _ => False
theorem okEZ {B1 : Hp} {k l : Bool} {a b : Addr} {vs ws : List V} {xs ys : List D} (h : SqK k B1 a vs) (r : RepAll B1 vs xs) (h' : SqK l B1 b ws) (r' : RepAll B1 ws ys) : ItOk B1 (ItEZ k l a b) (enumD (zipD xs ys)) := by
  refine ⟨fun i x B H hx e1 e2 => ?_, fun i x B H v H' hx e1 e2 y => ?_, fun B H e1 e2 => ⟨vs, ws, e2 _ _ (e1 _ _ h), e2 _ _ (e1 _ _ h'), ?_⟩⟩
  · obtain ⟨z, hz, _⟩ := enumD_get hx
    obtain ⟨p, q, hp, hq, _⟩ := zipD_get hz
    obtain ⟨v, hv, _⟩ := r.get hp
    obtain ⟨w, hw, _⟩ := r'.get hq
    exact ⟨vs, ws, v, w, e2 _ _ (e1 _ _ h), e2 _ _ (e1 _ _ h'), hv, hw⟩
  · obtain ⟨T, T2, x', y', rfl, hT, hT2, rfl, y1, y2⟩ := y
    obtain ⟨z, hz, rfl⟩ := enumD_get hx
    obtain ⟨p, q, hp, hq, rfl⟩ := zipD_get hz
    obtain ⟨v, hv, rv⟩ := r.get hp
    obtain ⟨w, hw, rw'⟩ := r'.get hq
    have t1 := y1 vs (e2 _ _ (e1 _ _ h))
    have t2 := y2 ws (e2 _ _ (e1 _ _ h'))
    rw [hv] at t1
    rw [hw] at t2
    cases t1; cases t2
    have b1 : B T = none := fresh_back e2 hT
    have p1 : Rep (upd B T (.tup [x', y'])) (.ref T) (.tuple [p, q]) := repT b1 (.cons (Rep.mono e1 _ _ rv) (.cons (Rep.mono e1 _ _ rw') .nil))
    have b2 : upd B T (.tup [x', y']) T2 = none := fresh_back (Ex.both e2) hT2
    exact ⟨_, .cons hT (.cons hT2 .nil), repT b2 (.cons (.int _) (.cons p1 .nil))⟩
  · rw [enumD_len, zipD_len, r.len, r'.len]
    omega
theorem simEZ {tA : TA} {pA : PXA} (h : SimA tA pA) : SimI (iEZ tA) (pEZ pA) := by
  intro T B0 H0 ρ Φ h' B H σ R S k
  refine h T B0 H0 ρ _ h' B H σ _ S fun es vs B1 H1 h1 S1 e1 r1 => ?_
  split at h1
  · obtain ⟨v, w, rfl, rv, rw'⟩ := resD2 r1
    split at h1
    · rename_i q1 q2
      obtain ⟨k1, a, vs, rfl, s1, t1⟩ := sqD_rep rv q1
      obtain ⟨k2, b, ws, rfl, s2, t2⟩ := sqD_rep rw' q2
      exact ⟨_, _, k1, k2, _, _, rfl, S1.ex _ _ s1, S1.ex _ _ s2, k _ _ B1 H1 h1 S1 e1 (okEZ s1 t1 s2 t2)⟩
    · exact h1.elim
  · exact h1.elim
theorem i_ez {X : Cx} {e e2 : Expr} {tA : TA} {pA : PXA} {p pos p' pos' tpos : Pos} {elts : List Expr} {kk : Nat} (hm : X.mg "zip" = none) (hm' : X.mg "enumerate" = none) (ha : DA X [e, e2] tA pA) (hg : Gl X "zip" := by rfl) (hg' : Gl X "enumerate" := by rfl)
    (hs : starEach [e, e2] X.env = (false, eval e X.env) :: starEach [e2] X.env := by rfl) (hpl : (backTo pos (starEach [e2] X.env)).any (·.1) = false := by rfl)
    (hs' : starEach [.Call (.Name "zip" p) [e, e2] [] pos] X.env = [(false, eval (.Call (.Name "zip" p) [e, e2] [] pos) X.env)] := by rfl) :
    DI X (.Tuple elts kk tpos) (.Call (.Name "enumerate" p') [.Call (.Name "zip" p) [e, e2] [] pos] [] pos') (iEZ tA) (pEZ pA) := ⟨pi_EZ hg hm hg' hm' ha.pa hs hpl hs', simEZ ha.sim⟩
end Pu

set_option Elab.async false
set_option linter.all false
set_option maxRecDepth 100000
set_option maxHeartbeats 2000000
/-! PuF: name = [..], isinstance, the law's tape. -/
namespace Pu
open PySem PyProof.Rows L2 Evl

section
variable {X : Cx} {elt tg iter : Expr} {ifs : List Expr} {scope : Scope} {own : List (Str × Nat)} {pos spos py : Pos} {wi : TI} {w : PXL} {g : TG} {pg : PGt} {ks : List Nat} {tt : TT} {pt : PXT} {te : TE} {pe : PX} {i : Nat} {y : Str}
theorem z_lc {g : BF TG} {tt : BF TT} {te : BF TE} (own : List (Str × Nat)) (hN : X.N.Nodup) (hi : DI X tg iter wi w) (ok : blkC X.N X.env.scope scope own = true)
    (hg : ∀ (s : Shared) (H : Hp) (C : Addr) (cl : List (Str × Addr)) (fp : List Addr), DG (X.blk s H scope (compEnvC scope cl C X.env) fp) tg (g s H C cl fp) pg ks) (ht : ∀ (s : Shared) (H : Hp) (C : Addr) (cl : List (Str × Addr)) (fp : List Addr), DTs (X.blk s H scope (compEnvC scope cl C X.env) fp) ifs (tt s H C cl fp) pt)
    (he : ∀ (s : Shared) (H : Hp) (C : Addr) (cl : List (Str × Addr)) (fp : List Addr), DE (X.blk s H scope (compEnvC scope cl C X.env) fp) elt (te s H C cl fp) pe) (cg : g.Same := by intro _ _ _ _ _; rfl) (ct : tt.Same := by intro _ _ _ _ _; rfl) (ce : te.Same := by intro _ _ _ _ _; rfl)
    (hk : ∀ i ∈ ks, i ∈ own.map (·.2) := by decide) (hy : X.N[i]? = some y := by rfl) (hyl : X.env.scope.names.lookup y = some .local := by rfl)
    (hsw : swapsWith (.ListComp elt [⟨tg, iter, ifs, 0⟩] scope pos) (some (.Name y py)) spos.line X.env = pure true := by exact sw_true rfl rfl rfl (by decide +kernel)) (hc : X.calm = true := by rfl) (hs : ∀ x, foldedSetIterable iter X.env x = pure x := by intro _; rfl) :
    DS X (.Assign [.Name y py] (.ListComp elt [⟨tg, iter, ifs, 0⟩] scope pos) spos) (tAsg (tLc wi g.one tt.one te.one (own.map (·.2))) (gName i)) (pAsg (pFrz (pLc w (own.map (·.2)) pg pt pe)) i) :=
  ⟨ps_setLc hc hN hy hyl hsw hi.pi (blkOk_by ok) (fun s H C cl fp => cast (congrArg _ (cg s H C cl fp)) (hg s H C cl fp).pg) (fun s H C cl fp => cast (congrArg _ (ct s H C cl fp)) (ht s H C cl fp).pt) (fun s H C cl fp => cast (congrArg _ (ce s H C cl fp)) (he s H C cl fp).pe) hs,
    simAsg (simFrz (simLc hi.sim (hg sh0 (fun _ => none) 0 [] []).sim hk (ht sh0 (fun _ => none) 0 [] []).sim (he sh0 (fun _ => none) 0 [] []).sim))⟩
end

/-! ### isinstance with one or two written built-in classes -/
def isaS (a t : String) : Bool := a == t || (t == "int" && a == "bool")
def isaD (x : D) (t : String) : Bool := isaS (tyD x) t
def okTy (t : String) : Bool := t == "int" || t == "bool" || t == "str" || t == "list" || t == "tuple"
theorem kit_isa (K : PySem.W.Frag) (x : D) {t : String} (h : okTy t = true) (hd : ∀ kvs, x ≠ .dict kvs) : PySem.W.kitOne K (.type (tyD x)) (.type t) = some (isaD x t) := by
  have key : ∀ a, a = "NoneType" ∨ a = "bool" ∨ a = "int" ∨ a = "str" ∨ a = "list" ∨ a = "tuple" → PySem.W.kitOne K (.type a) (.type t) = some (isaS a t) := by
    intro a ha
    unfold okTy at h
    simp only [Bool.or_eq_true, beq_iff_eq] at h
    rcases h with (((rfl | rfl) | rfl) | rfl) | rfl <;> rcases ha with rfl | rfl | rfl | rfl | rfl | rfl <;> exact kit_ty (by decide +kernel)
  apply key
  cases x <;> first | exact absurd rfl (hd _) | simp [tyD]
theorem kit_any (K : PySem.W.Frag) (x : D) {t u : String} (h : okTy t = true) (h2 : okTy u = true) (hd : ∀ kvs, x ≠ .dict kvs) : PySem.W.kitAny K (.type (tyD x)) [.type t, .type u] = some (isaD x t || isaD x u) := by
  have a := kit_isa K x h hd
  have b := kit_isa K x h2 hd
  unfold PySem.W.kitAny
  rw [a]
  cases isaD x t with
  | true => rfl
  | false =>
    show PySem.W.kitAny K (.type (tyD x)) [.type u] = _
    unfold PySem.W.kitAny
    rw [b]
    cases isaD x u with
    | true => rfl
    | false => rfl
theorem Rep.nodict {B : Hp} {v : V} {d : D} (r : Rep B v d) : ∀ kvs, d ≠ .dict kvs := fun kvs e => by subst e; cases r
def pIsa1 (t : String) (a : PX) : PX := fun ρ Φ => a ρ fun e => match e with
  | .d x => Φ (.d (.bool (isaD x t)))
  | _ => False
def pIsa2 (t u : String) (a : PX) : PX := fun ρ Φ => a ρ fun e => match e with
  | .d x => Φ (.d (.bool (isaD x t || isaD x u)))
  | _ => False
section
variable {X : Cx} {e : Expr} {te : TE} {pe : PX} {p p1 p2 pos pt : Pos} {T U : String} {x y : Str} {kt : Nat}
theorem d_isa1 (h : DE X e te pe) (hm : X.mg "isinstance" = none) (hx : X.mg x = none) (hv : bootBuiltins x = some (.type T)) (ok : okTy T = true := by decide) (hg : Gl X "isinstance" := by rfl) (hgx : Gl X x := by rfl) (hnx : x ≠ "__name__" := by decide) (hdx : (x == ("__debug__" : Str)) = false := by decide)
    (he : starEach [e, .Name x p1] X.env = (false, eval e X.env) :: starEach [.Name x p1] X.env := by rfl) (he2 : starEach [.Name x p1] X.env = (false, eval (.Name x p1) X.env) :: starEach [] X.env := by rfl) (hpl : (backTo pos (starEach [.Name x p1] X.env)).any (·.1) = false := by rfl) :
    DE X (.Call (.Name "isinstance" p) [e, .Name x p1] [] pos) (tCB (rIsi X.K) (tCons te (tCons (tC (.ty T)) tNil))) (pIsa1 T pe) := by
  refine ⟨pe_callB call_isi hg hm PyProof.Rows.boot_isinstance (pa_cons h.pe (pa_cons (pe_bltn hgx hx hv rfl hnx hdx) pa_nil he2) he) (by decide) (by decide) he hpl, ?_⟩
  intro T' B0 H0 ρ Φ h' B H σ Q S k
  refine h.sim T' B0 H0 ρ _ h' B H σ _ S fun f v B1 H1 h1 S1 e1 r1 => ?_
  cases f <;> first | exact h1.elim | skip
  rename_i d
  exact ⟨v, .ty T, _, _, _, rfl, .ty T, tyX_rep S1.ex r1, kit_isa X.K d ok r1.nodict, k _ _ B1 H1 h1 S1 e1 (show Rep _ _ _ from .bl _)⟩
theorem d_isa2 (h : DE X e te pe) (hm : X.mg "isinstance" = none) (hx : X.mg x = none) (hv : bootBuiltins x = some (.type T)) (hy : X.mg y = none) (hw : bootBuiltins y = some (.type U)) (ok : okTy T = true := by decide) (ok2 : okTy U = true := by decide) (hg : Gl X "isinstance" := by rfl) (hgx : Gl X x := by rfl) (hgy : Gl X y := by rfl)
    (hnx : x ≠ "__name__" := by decide) (hdx : (x == ("__debug__" : Str)) = false := by decide) (hny : y ≠ "__name__" := by decide) (hdy : (y == ("__debug__" : Str)) = false := by decide)
    (ht : starEach [.Name x p1, .Name y p2] X.env = (false, eval (.Name x p1) X.env) :: starEach [.Name y p2] X.env := by rfl) (ht2 : starEach [.Name y p2] X.env = (false, eval (.Name y p2) X.env) :: starEach [] X.env := by rfl)
    (he : starEach [e, .Tuple [.Name x p1, .Name y p2] kt pt] X.env = (false, eval e X.env) :: starEach [.Tuple [.Name x p1, .Name y p2] kt pt] X.env := by rfl) (he2 : starEach [.Tuple [.Name x p1, .Name y p2] kt pt] X.env = (false, eval (.Tuple [.Name x p1, .Name y p2] kt pt) X.env) :: starEach [] X.env := by rfl)
    (hpl : (backTo pos (starEach [.Tuple [.Name x p1, .Name y p2] kt pt] X.env)).any (·.1) = false := by rfl) :
    DE X (.Call (.Name "isinstance" p) [e, .Tuple [.Name x p1, .Name y p2] kt pt] [] pos) (tCB (rIsiT X.K) (tCons te (tCons (tTup (tCons (tC (.ty T)) (tCons (tC (.ty U)) tNil))) tNil))) (pIsa2 T U pe) := by
  refine ⟨pe_callB call_isiT hg hm PyProof.Rows.boot_isinstance (pa_cons h.pe (pa_cons (pe_tup (pa_cons (pe_bltn hgx hx hv rfl hnx hdx) (pa_cons (pe_bltn hgy hy hw rfl hny hdy) pa_nil ht2) ht)) pa_nil he2) he) (by decide) (by decide) he hpl, ?_⟩
  intro T' B0 H0 ρ Φ h' B H σ Q S k
  refine h.sim T' B0 H0 ρ _ h' B H σ _ S fun f v B1 H1 h1 S1 e1 r1 => ?_
  cases f <;> first | exact h1.elim | skip
  rename_i d
  refine ⟨by show 2 ≤ sizeLine; decide, fun q hq => ?_⟩
  have S2 := S1.newO (o := .tup [.ty T, .ty U]) hq
  exact ⟨v, q, _, _, _, _, rfl, upd_same, .cons (.ty T) (.cons (.ty U) .nil), tyX_rep S2.ex r1, kit_any X.K d ok ok2 r1.nodict, k _ _ B1 _ h1 S2 (e1.trans (S1.stepO hq)) (show Rep _ _ _ from .bl _)⟩
end

/-! ### the tape -/
/-- any number below many -/
def p_draw : PF := fun es Φ => ∃ n : Int, es = [.tp, .d (.int n)] ∧ 0 < n ∧ n < 4611686018427387904 ∧ ∀ k : Int, 0 ≤ k → k < n → Φ (.d (.int k))
end Pu

set_option Elab.async false
set_option linter.all false
set_option maxRecDepth 100000
set_option maxHeartbeats 2000000
/-! PuS: sorted(list of alike data). -/
namespace Pu
open PySem PySem.W PyProof.Rows L2 Evl

def sortedBy (xs ys : List D) : Prop := ys.Perm xs ∧ ys.Pairwise fun a b => dataLt b a = false
def rSortD (K : PySem.W.Frag) : List V → Hp → VK → Prop := fun vs H Q => ∃ (a : Addr) (xs : List V) (ds : List D), vs = [V.ref a] ∧ SqL K H a xs ∧ DpAll K H xs ds ∧ AllAlike ds ∧ Sortable ds ∧ (∀ d, d ∈ ds → d.depth ≤ 60) ∧
  ∀ (zs : List (V × D)) (p : Addr), zs.Perm (xs.zip ds) → (zs.Pairwise fun a b => dataLt b.2 a.2 = false) → H p = none → Q (.ref p) (upd H p (.lst (zs.map Prod.fst)))
theorem DpAll.len {K : PySem.W.Frag} {H : Hp} : ∀ {xs : List V} {ds : List D}, DpAll K H xs ds → xs.length = ds.length
  | _, _, .nil => rfl
  | _, _, .cons _ t => by simp [DpAll.len t]
theorem each_rel : ∀ {its : List Value} {xs : List V} {ds : List D}, Vals xs its → xs.length = ds.length → EachIs (fun v (p : V × D) => RelV p.1 v) its (xs.zip ds)
  | _, _, [], .nil, _ => .nil
  | _, _, _ :: _, .nil, h => by simp at h
  | _, _, [], .cons _ _, h => by simp at h
  | _, _, d :: ds, .cons r t, h => .cons r (each_rel t (by simpa using h))
theorem each_reads {h : Heap} : ∀ {its : List Value} {ds : List D} {as : List Addr}, ReadsAll h its ds as → ∀ {xs : List V}, xs.length = ds.length → EachIs (fun v (p : V × D) => ∃ as, Reads h v p.2 as) its (xs.zip ds)
  | _, _, _, .nil, xs, h => by
    cases xs with
    | nil => exact .nil
    | cons _ _ => simp at h
  | _, _, _, .cons r t, xs, h => by
    cases xs with
    | nil => simp at h
    | cons x xs => exact .cons ⟨_, r⟩ (each_reads t (by simpa using h))
theorem snd_zip {α β : Type} : ∀ {xs : List α} {ds : List β}, xs.length = ds.length → (xs.zip ds).map Prod.snd = ds
  | [], [], _ => rfl
  | [], _ :: _, h => by simp at h
  | _ :: _, [], h => by simp at h
  | x :: xs, d :: ds, h => by simp [snd_zip (xs := xs) (ds := ds) (by simpa using h)]
theorem each_vals : ∀ {out : List Value} {zs : List (V × D)}, EachIs (fun v (p : V × D) => RelV p.1 v) out zs → Vals (zs.map Prod.fst) out
  | _, _, .nil => .nil
  | _, _, .cons h t => .cons h (each_vals t)
section
variable {X : Cx}
theorem cr_sortD (hu : X.A.units + 64 < cLine) : CallR X (.builtin "sorted") (rSortD X.K) := by
  intro pins s σ H vs us Q I r h
  obtain ⟨a, xs, ds, rfl, hs, hd, al, so, dp, q⟩ := h
  obtain ⟨its, rv, hl, hz⟩ := I.list hs
  rw [Vals.ref1 r]
  have hlen := Pu.DpAll.len hd
  obtain ⟨as, ra⟩ := Dp.readsAll I ds xs its hd rv
  have es : (xs.zip ds).map Prod.snd = ds := snd_zip hlen
  have hzl : (xs.zip ds).length = xs.length := by rw [List.length_zip, hlen, Nat.min_self]
  refine sorted_data (β := V × D) (bs := xs.zip ds) (enc := Prod.snd) (R := fun v p => RelV p.1 v) hl.isList (each_rel rv hlen) (each_reads ra hlen) (by rw [es]; exact al) (by rw [es]; exact so) (by rw [hzl]; exact hz) (fun p hp => ?_) fun out ho e => ?_
  · have : p.2 ∈ ds := by rw [← es]; exact List.mem_map.mpr ⟨p, hp, rfl⟩
    have := dp _ this
    omega
  · have hp : ((xs.zip ds).mergeSort (dataLe false Prod.snd)).Perm (xs.zip ds) := List.mergeSort_perm _ _
    have pw := sort_pairwise (sortLe_total (PyProof.Rows.listOrd PyProof.Rows.itemOrd) false (fun b : V × D => keyToks b.2)) (xs.zip ds)
    obtain ⟨ep, he'⟩ := PyProof.Rows.sortedAll_at s.heap its out.toArray
    have hln : (((xs.zip ds).mergeSort (dataLe false Prod.snd)).map Prod.fst).length ≤ sizeLine := by
      rw [List.length_map, hp.length_eq, hzl]
      exact hz
    refine ⟨.ref _, upd H (s.heap.objs.size + 1) (.lst (((xs.zip ds).mergeSort (dataLe false Prod.snd)).map Prod.fst)), I.laid (t' := s.toks) (fun _ _ => PyProof.Rows.sortedAll_old) (Nat.le_succ _) ⟨hln, out, ep, each_vals e, he'⟩, rfl, q _ _ hp ?_ (I.hok.fresh (Nat.le_succ _))⟩
    refine pw.imp fun {a b} h => ?_
    have h : (!PyProof.Rows.lexLt PyProof.Rows.itemOrd (keyToks b.2) (keyToks a.2)) = true := h
    show PyProof.Rows.lexLt PyProof.Rows.itemOrd (keyToks b.2) (keyToks a.2) = false
    simpa using h
end
/-- sorted(list): alike data -/
def qSort : List Ent → (List D → Prop) → Prop := fun es Φ => match es with
  | [.d (.list xs)] => AllAlike xs ∧ Sortable xs ∧ (∀ d, d ∈ xs → d.depth ≤ 60) ∧ ∀ ys, sortedBy xs ys → Φ ys
  | _ => False
theorem zip_rep {B : Hp} : ∀ {xs : List V} {ds : List D}, RepAll B xs ds → ∀ p ∈ xs.zip ds, Rep B p.1 p.2
  | _, [], h, p, hp => by cases h; cases hp
  | _, d :: ds, h, p, hp => by
    cases h with
    | cons h1 h2 =>
      rcases List.mem_cons.mp hp with rfl | hp
      · exact h1
      · exact zip_rep h2 p hp
theorem rep_zip {B : Hp} : ∀ {zs : List (V × D)}, (∀ p ∈ zs, Rep B p.1 p.2) → RepAll B (zs.map Prod.fst) (zs.map Prod.snd)
  | [], _ => .nil
  | z :: zs, h => .cons (h z List.mem_cons_self) (rep_zip fun p hp => h p (List.mem_cons_of_mem _ hp))
theorem sclSort {K : PySem.W.Frag} : SimCL (rSortD K) qSort := by
  intro T B H xs es Φ Q ex r h k
  unfold qSort at h
  split at h
  · rename_i ys
    obtain ⟨v, rfl, rx⟩ := resD1 r
    obtain ⟨al, so, dp, h⟩ := h
    cases rx with
    | lst h1 h2 =>
      refine ⟨_, _, ys, rfl, SqL.of (ex _ _ h1), RepAll.dp ex _ _ h2, al, so, dp, fun zs p hp hw hn => ?_⟩
      have hs : (zs.map Prod.snd).Perm ys := by
        have := hp.map Prod.snd
        rwa [snd_zip h2.len] at this
      exact k _ p _ (h _ ⟨hs, List.pairwise_map.mpr hw⟩) hn (rep_zip fun p hp' => zip_rep h2 p (hp.mem_iff.mp hp'))
  · exact h.elim
/-- what the law's body must do: whatever it hands back is True -/
def LawOk (N : Nat) (body : PZ) : Prop := body { nx := fun _ => False, rt := fun e => e = .d (.bool true) } (.u :: .tp :: List.replicate (N - 2) .u)
end Pu

set_option Elab.async false
set_option linter.all false
set_option maxRecDepth 100000
set_option maxHeartbeats 1000000
/-! PuJ: an owned list is lent to a test; a call's fresh list. -/
namespace Pu
open PySem PyProof.Rows L2 Evl

def bare : Ent → Ent
  | .d x => .d x
  | _ => .u
/-- a test that reads the owned list at i -/
def pLendT (i : Nat) (c : PXT) : PXT := fun ρ Φ => match ρ[i]? with
  | some (.ol xs) => c ((ρ.map bare).set i (.d (.list xs))) Φ
  | _ => False
theorem bare_own (e : Ent) : (bare e).own = false := by cases e <;> rfl
theorem simLendT {i : Nat} {t : TT} {c : PXT} (a : SimT t c) : SimT t (pLendT i c) := by
  intro T B0 H0 ρ Φ h B H σ Q S k
  unfold pLendT at h
  split at h
  · rename_i xs e
    have hi : i < ρ.length := (List.getElem?_eq_some_iff.mp e).1
    obtain ⟨o, h1, h2⟩ := S.env i _ e
    rcases h2 with h2 | ⟨v, h2, h3 | h3⟩
    · cases h2
    · exact h3.elim
    · obtain ⟨l, vs, rfl, f0, f1, f2, f3, f4⟩ := h3
      have ex1 : Ex B (upd B l (.lst vs)) := Ex.new f1
      have S1 : St none (upd B l (.lst vs)) H (upd B l (.lst vs)) H σ ((ρ.map bare).set i (.d (.list xs))) := by
        have nown : ∀ (j : Nat) (f : Ent), ((ρ.map bare).set i (.d (.list xs)))[j]? = some f → f.own = false := fun j f hf => by
          by_cases q : i = j
          · subst q
            rw [List.getElem?_set_self (by simpa using hi)] at hf
            cases hf; rfl
          · rw [List.getElem?_set_ne q, List.getElem?_map] at hf
            cases r : ρ[j]? with
            | none => rw [r] at hf; cases hf
            | some g =>
              rw [r] at hf
              cases hf
              exact bare_own g
        refine ⟨Step.refl, fun a u hu => ?_, fun x e => (by cases e), by simp [S.len], fun j f hf => ?_, fun j k f g l hjk hf hg of og s1 s2 => by rw [nown j f hf] at of; cases of⟩
        · by_cases q : a = l
          · subst q; rw [upd_same] at hu; cases hu; exact f3
          · rw [upd_ne q] at hu; exact S.ex a u hu
        · by_cases q : i = j
          · subst q
            rw [List.getElem?_set_self (by simpa using hi)] at hf
            cases hf
            exact ⟨_, h1, .inr ⟨_, h2, .inl (show Rep _ _ _ from repL f1 f4)⟩⟩
          · rw [List.getElem?_set_ne q, List.getElem?_map] at hf
            cases r : ρ[j]? with
            | none => rw [r] at hf; cases hf
            | some g =>
              rw [r] at hf
              cases hf
              obtain ⟨o', g1, g2⟩ := S.env j g r
              refine ⟨o', g1, ?_⟩
              cases g with
              | d x =>
                rcases g2 with g2 | ⟨v, g2, g3 | g3⟩
                · cases g2
                · exact .inr ⟨v, g2, .inl (Rep.mono ex1 _ _ g3)⟩
                · exact g3.elim
              | _ => exact .inl rfl
      refine a none _ H _ Φ h _ H σ Q S1 fun b B' H' hb S' st => ?_
      have st2 : Step T B H B H' := ⟨Ex.refl B, fun a o ha _ => st.keep a o ha (by simp), fun _ _ _ _ z => z⟩
      have ex2 : Ex B H' := fun a u hu => st.keep a u (S.ex a u hu) (by simp)
      have tp2 : TapeOk T B H' := fun x e => by
        obtain ⟨g0, Sx, ns, i, c, g1, g2⟩ := S.tape x e
        exact ⟨g0, Sx, ns, i, c, st.keep _ _ g1 (by simp), g2⟩
      exact k b B H' hb (S.grow st2 ex2 tp2) st2
  · exact h.elim
theorem t_lend (i : Nat) {X : Cx} {c : Expr} {tt : TT} {pt : PXT} (h : DT X c tt pt) : DT X c tt (pLendT i pt) := ⟨h.pt, simLendT h.sim⟩

/-! a call of a def with flat arguments hands back a list that is new -/
mutual
theorem Rep.det {B : Hp} : ∀ (d : D) {e : D} {v : V}, Rep B v d → Rep B v e → d = e
  | .none, _, _, h, g => by cases h; cases g; rfl
  | .bool _, _, _, h, g => by cases h; cases g; rfl
  | .int _, _, _, h, g => by cases h; cases g; rfl
  | .str _, _, _, h, g => by cases h; cases g; rfl
  | .list ds, _, _, h, g => by
    cases h with
    | lst h1 h2 =>
      cases g with
      | lst g1 g2 =>
        rw [h1] at g1
        cases g1
        rw [RepAll.det ds h2 g2]
      | tup g1 g2 => rw [h1] at g1; cases g1
  | .tuple ds, _, _, h, g => by
    cases h with
    | tup h1 h2 =>
      cases g with
      | tup g1 g2 =>
        rw [h1] at g1
        cases g1
        rw [RepAll.det ds h2 g2]
      | lst g1 g2 => rw [h1] at g1; cases g1
  | .dict _, _, _, h, _ => nomatch h
theorem RepAll.det {B : Hp} : ∀ (ds : List D) {es : List D} {vs : List V}, RepAll B vs ds → RepAll B vs es → ds = es
  | [], _, _, h, g => by cases h; cases g; rfl
  | d :: ds, _, _, h, g => by
    cases h with
    | cons h1 h2 =>
      cases g with
      | cons g1 g2 => rw [Rep.det d h1 g1, RepAll.det ds h2 g2]
end
def hole (B : Hp) (l : Addr) : Hp := fun a => if a = l then none else B a
theorem hole_ne {B : Hp} {l a : Addr} (h : a ≠ l) : hole B l a = B a := if_neg h
theorem hole_same {B : Hp} {l : Addr} : hole B l l = none := if_pos rfl
mutual
theorem Rep.hole {B : Hp} {l : Addr} {e : D} (he : Rep B (.ref l) e) : ∀ (d : D) {v : V}, sizeOf d < sizeOf e → Rep B v d → Rep (hole B l) v d
  | .none, _, _, h => by cases h; exact .non
  | .bool _, _, _, h => by cases h; exact .bl _
  | .int _, _, _, h => by cases h; exact .int _
  | .str _, _, _, h => by cases h; exact .str _
  | .list ds, _, hs, h => by
    have h' := h
    cases h with
    | @lst a xs _ h1 h2 =>
      have ne : a ≠ l := fun q => by
        subst q
        rw [Rep.det _ h' he] at hs
        omega
      exact .lst (by rw [hole_ne ne]; exact h1) (RepAll.hole he ds (by simp at hs; omega) h2)
  | .tuple ds, _, hs, h => by
    have h' := h
    cases h with
    | @tup a xs _ h1 h2 =>
      have ne : a ≠ l := fun q => by
        subst q
        rw [Rep.det _ h' he] at hs
        omega
      exact .tup (by rw [hole_ne ne]; exact h1) (RepAll.hole he ds (by simp at hs; omega) h2)
  | .dict _, _, _, h => nomatch h
theorem RepAll.hole {B : Hp} {l : Addr} {e : D} (he : Rep B (.ref l) e) : ∀ (ds : List D) {vs : List V}, sizeOf ds < sizeOf e → RepAll B vs ds → RepAll (hole B l) vs ds
  | [], _, _, h => by cases h; exact .nil
  | d :: ds, _, hs, h => by
    cases h with
    | cons h1 h2 => exact .cons (Rep.hole he d (by simp at hs; omega) h1) (RepAll.hole he ds (by simp at hs; omega) h2)
end
/-- a thing without a list in it -/
def noL : D → Bool
  | .none => true
  | .bool _ => true
  | .int _ => true
  | .str _ => true
  | .tuple xs => xs.all fun x => match x with
    | .int _ => true
    | _ => false
  | _ => false
def flatE : Ent → Bool
  | .d x => noL x
  | _ => false
/-- the tuples of ints alone -/
def tupsOf (B : Hp) : Hp := fun a => match B a with
  | some (.tup xs) => some (.tup xs)
  | _ => none
theorem tupsOf_ex (B : Hp) : Ex (tupsOf B) B := fun a u h => by
  unfold tupsOf at h
  split at h
  · rename_i xs e; rw [e]; exact h
  · cases h
theorem tupsOf_at {B : Hp} {a : Addr} {xs : List V} (h : B a = some (.tup xs)) : tupsOf B a = some (.tup xs) := by
  unfold tupsOf
  rw [h]
theorem noL_all {B C : Hp} : ∀ {xs : List D} {vs : List V}, (xs.all fun x => match x with
    | .int _ => true
    | _ => false) = true → RepAll B vs xs → RepAll C vs xs
  | [], _, _, h => by cases h; exact .nil
  | x :: xs, _, a, h => by
    rw [List.all_cons, Bool.and_eq_true] at a
    cases h with
    | cons h1 h2 =>
      refine .cons ?_ (noL_all a.2 h2)
      cases x <;> first | (cases a.1; done) | (cases h1; exact .int _)
theorem noL_rep {B : Hp} {v : V} {x : D} (h : noL x = true) (r : Rep B v x) : Rep (tupsOf B) v x := by
  cases r with
  | non => exact .non
  | bl b => exact .bl b
  | int b => exact .int b
  | str b => exact .str b
  | lst _ _ => cases h
  | tup h1 h2 => exact .tup (tupsOf_at h1) (noL_all h h2)
theorem flat_res {T : Option Addr} {B : Hp} : ∀ {es : List Ent} {vs : List V}, es.all flatE = true → ResAll T B vs es → ResAll none (tupsOf B) vs es
  | _, _, _, .nil => .nil
  | e :: es, _, a, .cons h t => by
    rw [List.all_cons, Bool.and_eq_true] at a
    refine .cons ?_ (flat_res a.2 t)
    cases e <;> first | (cases a.1; done) | exact noL_rep a.1 h
def pCallL (p : PF) (a : PXA) : PXL := fun ρ Φ => a ρ fun es => es.all flatE = true ∧ p es fun e => match e with
  | .d (.list xs) => Φ xs
  | _ => False
theorem simCallL {p : PF} {tA : TA} {pA : PXA} (ha : SimA tA pA) : SimL (tCall (spP p) [] E0 tA) (pCallL p pA) := by
  intro T B0 H0 ρ Φ h B H σ Q S k
  refine ha T B0 H0 ρ _ h B H σ _ S fun es vs B1 H1 h1 S1 e1 r1 => ?_
  obtain ⟨fl, h1⟩ := h1
  show spP p (vs ++ []) H1 Q E0
  rw [List.append_nil]
  have exc : Ex (tupsOf B1) H1 := (tupsOf_ex B1).trans S1.ex
  refine ⟨none, tupsOf B1, es, _, exc, fun x e => by (cases e), flat_res fl r1, h1, fun e v B' H' he st ex tp rs => ?_⟩
  cases e <;> first | exact he.elim | skip
  rename_i x
  cases x <;> first | exact he.elim | skip
  rename_i xs
  have rl := (show Rep B' v (.list xs) from rs)
  cases rs with
  | @lst l ws _ q1 q2 =>
    have hl1 : H1 l = none := by
      cases z : H1 l with
      | none => rfl
      | some o =>
        exfalso
        cases y : tupsOf B1 l with
        | none =>
          have := st.new l o z (by simp) y
          rw [this] at q1; cases q1
        | some u =>
          have := st.ex l u y
          rw [q1] at this
          cases this
          unfold tupsOf at y
          split at y
          · cases y
          · cases y
    have hb1 : B1 l = none := (S1.fresh hl1).1
    have key : ∀ a o, B1 a = some o → H' a = some o := fun a o h => st.keep a o (S1.ex a o h) (by simp)
    obtain ⟨B2, hB2⟩ : ∃ B2 : Hp, B2 = fun a => match B1 a with
      | some o => some o
      | none => hole B' l a := ⟨_, rfl⟩
    have b2a : ∀ a o, B1 a = some o → B2 a = some o := fun a o h => by rw [hB2]; simp only [h]
    have b2b : ∀ a, B1 a = none → B2 a = hole B' l a := fun a h => by rw [hB2]; simp only [h]
    have exh : Ex (hole B' l) B2 := fun a o h => by
      cases z : B1 a with
      | none => rw [b2b a z]; exact h
      | some u =>
        rw [b2a a u z]
        have ne : a ≠ l := fun q => by subst q; rw [hole_same] at h; cases h
        rw [hole_ne ne] at h
        have := ex a o h
        rw [key a u z] at this
        exact this
    have ex2 : Ex B2 H' := fun a o h => by
      cases z : B1 a with
      | none =>
        rw [b2b a z] at h
        have ne : a ≠ l := fun q => by subst q; rw [hole_same] at h; cases h
        rw [hole_ne ne] at h
        exact ex a o h
      | some u =>
        rw [b2a a u z] at h
        cases h
        exact key a _ z
    have nw : ∀ a o, H1 a = some o → B1 a = none → B2 a = none := fun a o h z => by
      rw [b2b a z]
      have : tupsOf B1 a = none := by unfold tupsOf; rw [z]
      have := st.new a o h (by simp) this
      unfold hole
      split
      · rfl
      · exact this
    have st2 : Step T B1 H1 B2 H' := ⟨fun a o h => b2a a o h, fun a o h _ => st.keep a o h (by simp), fun a o h _ z => nw a o h z⟩
    have tp2 : TapeOk T B2 H' := fun x e => by
      obtain ⟨g0, Sx, ns, i, c, g1, g2, g3⟩ := S1.tape x e
      exact ⟨nw _ _ g1 g0, Sx, ns, i, c, st.keep _ _ g1 (by simp), b2a _ _ g2, g3⟩
    refine k xs l ws B2 H' he (S1.grow st2 ex2 tp2) (e1.trans st2) ?_ ?_ (ex _ _ q1) ?_
    · exact (e1.back S.tape S1.tape hl1).1
    · rw [b2b l hb1, hole_same]
    · exact RepAll.mono exh _ _ (RepAll.hole rl xs (by simp) q2)
theorem l_call {X : Cx} {x : Str} {k j : Nat} {pf : PF} {e : Expr} {es : List Expr} {tA : TA} {pA : PXA} {p pos : Pos} (C : Callee X.prog X.w X.K X.mg X.base k x pf) (hr : Room j X.A) (ha : DA X (e :: es) tA pA) (hkj : k ≤ j := by decide) (hg : Gl X x := by rfl) (hdb : (x == ("__debug__" : Str)) = false := by decide)
    (he : starEach (e :: es) X.env = (false, eval e X.env) :: starEach es X.env := by rfl) (hpl : (backTo pos (starEach es X.env)).any (·.1) = false := by rfl) : DL X (.Call (.Name x p) (e :: es) [] pos) (tCall (spP pf) [] E0 tA) (pCallL pf pA) := by
  obtain ⟨f, fd, ps, hm, hk, hb, F⟩ := C.ex
  exact ⟨pe_call F (hr.mono hkj) hg hm hk hb .nil pass0 ha.pa hdb he hpl, simCallL ha.sim⟩
/-- a def's reading, shut: its body is met through shut_eq alone -/
noncomputable def shut (p : PF) : PF := Classical.choose (⟨p, rfl⟩ : ∃ q : PF, q = p)
theorem shut_eq (p : PF) : shut p = p := Classical.choose_spec (⟨p, rfl⟩ : ∃ q : PF, q = p)
theorem callee_shut {P : Program} {w : World} {K : PySem.W.Frag} {mg : Str → Option Value} {base : Heap} {k : Nat} {x : Str} {p : PF} (h : Callee P w K mg base k x p) : Callee P w K mg base k x (shut p) := (shut_eq p).symm ▸ h
end Pu

set_option Elab.async false
set_option linter.all false
set_option maxRecDepth 100000
set_option maxHeartbeats 2000000
/-! PuDict: an owned dict of ints ({}, d[k] = True, sorted(d)), tuple(range(n)), list(range(n)), xs[::-1], range with three. -/
namespace Pu
open PySem PySem.W PyProof.Rows L2 Evl

/-- sorted(d), the keys ints -/
def rSortDK : List V → Hp → VK → Prop := fun xs H Q => ∃ (a : Addr) (kvs : List (Key × V)) (ks : List Int), xs = [V.ref a] ∧ Rd H a (.dK kvs) ∧ kvs.map (·.1) = ks.map Sum.inl ∧
    ∀ (ys : List Int) (p : Addr), ys.Perm ks → ys.Pairwise (· ≤ ·) → H p = none → Q (.ref p) (upd H p (.lst (ys.map V.int)))
theorem each_ints {h : Heap} : ∀ {vs : List Value} {ks : List Int}, IntsAre vs ks → EachIs (fun v (k : Int) => ∃ as, Reads h v (PyData.int k) as ∧ True) vs ks
  | _, _, .nil => .nil
  | _, _, .cons _ _ r => .cons ⟨_, .int _ _, trivial⟩ (each_ints r)
theorem each_ints1 {h : Heap} {a : Addr} : ∀ {vs : List Value} {ks : List Int}, IntsAre vs ks → EachIs (fun v (k : Int) => ∃ as, Reads h v (PyData.int k) as ∧ a ∉ as) vs ks
  | _, _, .nil => .nil
  | _, _, .cons _ _ r => .cons ⟨_, .int _ _, by simp⟩ (each_ints1 r)
theorem each_ints0 : ∀ {vs : List Value} {ks : List Int}, IntsAre vs ks → EachIs (fun v (k : Int) => ∃ t, v = Value.int k t) vs ks
  | _, _, .nil => .nil
  | _, _, .cons _ _ r => .cons ⟨_, rfl⟩ (each_ints0 r)
theorem ints_each0 : ∀ {vs : List Value} {ks : List Int}, EachIs (fun v (k : Int) => ∃ t, v = Value.int k t) vs ks → IntsAre vs ks
  | _, _, .nil => .nil
  | _, _, .cons ⟨t, e⟩ r => by subst e; exact .cons _ _ (ints_each0 r)
section
variable {X : Cx}
theorem cr_sortDK (hcalm : X.calm = true) (hu : X.A.units + 64 < cLine) : CallR X (.builtin "sorted") rSortDK := by
  intro pins s σ H xs us Q I r q
  obtain ⟨a, kvs, ks, ex, hd, hks, q⟩ := q
  subst ex
  obtain ⟨u, eu, rx⟩ := vals1 r
  subst eu
  cases rx
  obtain ⟨z, lo, vs, rel, dd⟩ := dk_rd I.hok hd
  obtain ⟨ep, hat⟩ := dd.dictAt
  have hkeys : vs.map (·.1) = ks.map Sum.inl := rel.keys.symm.trans hks
  have hl : vs.length = ks.length := by
    have e := congrArg List.length hkeys
    rw [List.length_map, List.length_map] at e
    exact e
  have hl2 : kvs.length = ks.length := by
    have e := congrArg List.length hks
    rw [List.length_map, List.length_map] at e
    exact e
  have h16 : vs.length ≤ sizeLine := by omega
  refine Calls.call_function_entry PyProof.Rows.kind_sorted PyProof.Rows.plain_sorted PyProof.Rows.entry_sorted (PyProof.Rows.args_sorted1 _) ?_
  unfold Builtin.«sorted»
  refine wpAny_bind (m := checkCount "sorted" 1 1 _) (wpAny_pure ?_)
  refine wpAny_bind (PySem.W.kdu_collect (A := X.A.in1) (PySem.W.kdl_dict (knd := mixKind X.prog X.w) (kvs := vs) (ep := ep) lo) (I.ok.hd hcalm) hat h16 fun h' tk acc hk hacc => ?_)
  have hal : acc.toList.length = ks.length := by rw [Array.length_toList, hacc.1, hl]
  have hS : IntsAre acc.toList ks := ints_each hal fun j v e => by
    obtain ⟨k, x, e1, e2⟩ := hacc.2 j v (by rw [← Array.getElem?_toList]; exact e)
    have e3 : (vs.map (·.1))[j]? = some k := by rw [List.getElem?_map, e1]; rfl
    rw [hkeys, List.getElem?_map] at e3
    cases e4 : ks[j]? with
    | none => rw [e4] at e3; cases e3
    | some y =>
      rw [e4] at e3
      have e5 : Sum.inl y = k := Option.some.inj e3
      subst e5
      rcases keyIs_shape (show keyIs (Sum.inl y) v = true from e2) with ⟨i, t, ek, ev⟩ | ⟨z, t, ek, ev⟩
      · cases ek
        exact ⟨y, t, rfl, ev⟩
      · cases ek
  have I1 : Inv X pins σ H { s with heap := h', toks := tk } := I.kept hk
  refine wpAny_bind (wpAny_newList ?_ (by rw [hal]; omega))
  have hoL : (h'.push (seqObj "list" acc.toList.toArray 0)).get? h'.objs.size = some (seqObj "list" acc.toList.toArray 0) := Heap.get?_push_size _ rfl
  show wpAny _ _ _ _ _ { s with heap := h'.push (seqObj "list" acc.toList.toArray 0), toks := tk }
  refine wpAny_bind (wpAny_holding (list_sort_data (β := Int) (bs := ks) (enc := PyData.int) (R := fun v (k : Int) => ∃ t, v = Value.int k t) (s := { s with heap := h'.push (seqObj "list" acc.toList.toArray 0), toks := tk }) hoL (each_ints0 hS) (each_ints1 hS) (AllAlike.of fun _ _ => by simp [alike]) (Sortable.others fun b => ⟨by simp, by simp⟩) (by omega) (fun b _ => by
    show X.A.in1.units + 1 + PyData.depth (.int b) < cLine
    simp only [PyData.depth]
    have : X.A.in1.units ≤ X.A.units + 1 := by first | exact Nat.le_refl _ | (show X.A.in1.units ≤ _; simp [Around.in1])
    omega) fun out ho eo => ?_))
  have g1 : IntsAre out (ks.mergeSort (dataLe false PyData.int)) := ints_each0 eo
  have g2 : (ks.mergeSort (dataLe false PyData.int)).Perm ks := List.mergeSort_perm _ _
  have g3 : (ks.mergeSort (dataLe false PyData.int)).Pairwise (· ≤ ·) := by
    have pw := sort_pairwise (sortLe_total (PyProof.Rows.listOrd PyProof.Rows.itemOrd) false (fun b : Int => keyToks (PyData.int b))) ks
    refine pw.imp fun {a b} h => ?_
    have h : dataLe false PyData.int a b = true := h
    rw [dataLe_int (fun b : Int => b)] at h
    exact of_decide_eq_true h
  generalize ks.mergeSort (dataLe false PyData.int) = ys at g1 g2 g3
  obtain ⟨e', he'⟩ := PyProof.Rows.sortedHeap_at (vs := acc.toList) (out := out.toArray) hoL
  have hlen : (ys.map V.int).length ≤ sizeLine := by
    rw [List.length_map, g2.length_eq]
    omega
  refine wpAny_pure ⟨_, rfl, .ref h'.objs.size, upd H h'.objs.size (.lst (ys.map V.int)), I1.laid (t' := tk) (fun b u e => ?_) (Nat.le_refl _)
    (show ObjOk X.prog X.w _ _ _ (.lst (ys.map V.int)) from ⟨hlen, out, e', vals_of_ints g1, he'⟩), rfl, q ys _ g2 g3 (I1.hok.fresh (Nat.le_refl _))⟩
  have hb : b < h'.objs.size := Heap.lt_size e
  rw [PyProof.Rows.sortedHeap_old (Nat.ne_of_lt hb) (by rw [size_push']; exact Nat.lt_succ_of_lt hb)]
  exact Heap.get?_push_of_some _ e
end

/-! the owned dict -/
def pSortDict (i : Nat) : PXL := fun ρ Φ => match ρ[i]? with
  | some (.oi ks) => ∀ ys : List Int, ys.Perm ks → ys.Pairwise (· ≤ ·) → Φ (ys.map .int)
  | _ => False
theorem dKof_keys (ks : List Int) : (ks.map fun k => ((Sum.inl k : Key), V.bl true)).map (·.1) = ks.map Sum.inl := by
  rw [List.map_map]; rfl
theorem simSortDict (i : Nat) : SimL (tCB rSortDK (tCons (tVar i) tNil)) (pSortDict i) := by
  intro T B0 H0 ρ Φ h B H σ Q S k
  unfold pSortDict at h
  split at h
  · rename_i ks e
    obtain ⟨o, h1, h2⟩ := S.env i _ e
    rcases h2 with h2 | ⟨v, h2, h3 | h3⟩
    · cases h2
    · exact h3.elim
    · obtain ⟨l, rfl, f0, f1, f2, f3⟩ := h3
      refine ⟨.ref l, by rw [h1, h2], ⟨l, _, ks, rfl, .inl f3, dKof_keys ks, fun ys p hp hw hn => ?_⟩⟩
      have fr := S.fresh hn
      exact k (ys.map .int) p (ys.map V.int) B (upd H p (.lst (ys.map V.int))) (h ys hp hw) (S.newO hn) (S.stepO hn) hn fr.1 upd_same (RepAll.ints ys)
  · exact h.elim
def pDNew (i : Nat) : PZ := fun P ρ => P.nx (ρ.set i (.oi []))
theorem simDNew (i : Nat) : SimS (tAsg tDNewK (gName i)) (pDNew i) := fun T B0 H0 ρ P h B H σ E S k p hp => by
  have f0 := S.fresh hp
  refine k.nx B _ _ _ h ((S.newO hp).setO (e := .oi []) ⟨p, rfl, f0.2.1, f0.1, f0.2.2, upd_same⟩ fun l' e j f hf ho hs => ?_) (Ex.refl B)
  cases e
  exact S.ownNe hp j f hf ho hs
def putI (ks : List Int) (k : Int) : List Int := if k ∈ ks then ks else ks ++ [k]
theorem putK_ints (ks : List Int) (k : Int) : putK (ks.map fun k => ((Sum.inl k : Key), V.bl true)) (Sum.inl k) (V.bl true) = (putI ks k).map fun k => ((Sum.inl k : Key), V.bl true) := by
  have ha : ((ks.map fun k => ((Sum.inl k : Key), V.bl true)).any fun kv => decide (kv.1 = Sum.inl k)) = decide (k ∈ ks) := by
    rw [Bool.eq_iff_iff, decide_eq_true_eq, List.any_eq_true]
    constructor
    · rintro ⟨x, hx, h⟩
      obtain ⟨j, hj, rfl⟩ := List.mem_map.mp hx
      have h := of_decide_eq_true h
      have : j = k := Sum.inl.inj h
      exact this ▸ hj
    · intro h
      exact ⟨_, List.mem_map.mpr ⟨k, h, rfl⟩, decide_eq_true rfl⟩
  unfold putK putI
  rw [ha]
  by_cases h : k ∈ ks
  · rw [if_pos (decide_eq_true h), if_pos h, List.map_map]
    refine List.map_congr_left fun j hj => ?_
    show (if (Sum.inl j : Key) = Sum.inl k then ((Sum.inl j : Key), V.bl true) else (Sum.inl j, V.bl true)) = _
    split <;> rfl
  · rw [if_neg (fun z => h (of_decide_eq_true z)), if_neg h, List.map_append]
    rfl
def pDPut (i : Nat) (pk : PX) : PZ := fun P ρ => match ρ[i]? with
  | some (.oi ks) => pk ρ fun e => match e with
    | .d (.int k) => ks.length < 100000 ∧ P.nx (ρ.set i (.oi (putI ks k)))
    | _ => False
  | _ => False
theorem simDPut {i : Nat} {tk : TE} {pk : PX} (a : SimE tk pk) : SimS (sDPut (tVar i) tk (tC (.bl true))) (pDPut i pk) := by
  intro T B0 H0 ρ P h B H σ E S k
  unfold pDPut at h
  split at h
  · rename_i ks e
    obtain ⟨o, h1, h2⟩ := S.env i _ e
    rcases h2 with h2 | ⟨v, h2, h3 | h3⟩
    · cases h2
    · exact h3.elim
    · obtain ⟨l, rfl, f0, f1, f2, f3⟩ := h3
      refine ⟨.ref l, by rw [h1, h2], a T B0 H0 ρ _ h B H σ _ S fun f w B1 H1 h4 S1 e1 r1 => ?_⟩
      cases f <;> first | exact h4.elim | skip
      rename_i y
      cases y <;> first | exact h4.elim | skip
      rename_i j
      cases r1
      obtain ⟨hz, h4⟩ := h4
      have hl1 : H1 l = some (dKof ks) := e1.keep l _ f3 f2
      have hb1 : B1 l = none := e1.new l _ f3 f2 f1
      have dp := DPut.k (H := H1) (a := l) (k := Sum.inl j) (v := V.bl true) hl1 (by rw [List.length_map]; exact sz_lt (by omega))
      rw [putK_ints] at dp
      refine ⟨l, _, rfl, dp, ?_⟩
      exact k.nx B1 _ _ _ h4 (S1.mutO e rfl (by rw [h1, h2]) hb1 f0 f2 ⟨l, rfl, f0, hb1, f2, upd_same⟩) e1.ex
  · exact h.elim

/-! the rules -/
theorem hu1 {n : Nat} (h : n + 64 < cLine) : n + 1 < cLine := by omega
section
variable {X : Cx} {pos pos' p1 p2 p3 : Pos} {x : Str}
theorem l_sortDict (i : Nat) (hu : X.A.units + 64 < cLine) (hm : X.mg "sorted" = none) (hv : bootBuiltins "sorted" = some (.builtin "sorted")) (hN : X.N[i]? = some x := by rfl) (hv2 : Vis X.env.scope x := by first | exact Or.inl rfl | exact Or.inr (Or.inl rfl) | exact Or.inr (Or.inr rfl)) (hd : (x == ("__debug__" : Str)) = false := by decide)
    (hcd : (x == ("__classdict__" : Str)) = false := by decide) (hc : X.calm = true := by rfl) (hg : Gl X "sorted" := by rfl)
    (hs : starEach [.Name x p2] X.env = (false, eval (.Name x p2) X.env) :: starEach [] X.env := by rfl) :
    DL X (.Call (.Name "sorted" p1) [.Name x p2] [] pos) (tCB rSortDK (tCons (tVar i) tNil)) (pSortDict i) :=
  ⟨pe_callB (cr_sortDK hc hu) hg hm hv (pa_cons (pv i hN hv2 hd hcd) pa_nil hs), simSortDict i⟩
theorem z_dnew {x : Str} (i : Nat) (hN : X.N.Nodup) (hi : X.N[i]? = some x := by rfl) (hx : Loc X.env.scope x := by first | exact Or.inl rfl | exact Or.inr rfl) (hs : swapsWith (.Dict [] [] p2) (some (.Name x pos')) pos.line X.env = pure false := by rfl) (hf : X.fn x = true ∨ X.env.scope.names.lookup x = some .local := by first | exact .inl rfl | exact .inr rfl | assumption) :
    DS X (.Assign [.Name x pos'] (.Dict [] [] p2) pos) (tAsg tDNewK (gName i)) (pDNew i) := ⟨ps_set hN hi hx pe_dnewK hs hf, simDNew i⟩
theorem z_dput {x : Str} {k : Expr} {tk : TE} {pk : PX} {j : Nat} (i : Nat) (hu : X.A.units + 1 < cLine) (h : DE X k tk pk) (hN : X.N[i]? = some x := by rfl) (hv : Vis X.env.scope x := by first | exact Or.inl rfl | exact Or.inr (Or.inl rfl) | exact Or.inr (Or.inr rfl)) (hd : (x == ("__debug__" : Str)) = false := by decide)
    (hcd : (x == ("__classdict__" : Str)) = false := by decide) (hs : swapsWith (.Constant (.bool true) j p3) (some (.Subscript (.Name x p1) k pos')) pos.line X.env = pure false := by rfl) :
    DS X (.Assign [.Subscript (.Name x p1) k pos'] (.Constant (.bool true) j p3) pos) (sDPut (tVar i) tk (tC (.bl true))) (pDPut i pk) := ⟨ps_dput hu (pv i hN hv hd hcd) h.pe pe_bl hs, simDPut h.sim⟩

/-! three at once -/
def pPar3 (a : PXA) (i j l : Nat) : PZ := fun P ρ => a ρ fun es => match es with
  | [x, y, z] => P.nx (((ρ.set i x).set j y).set l z)
  | _ => False
theorem simPar3 {tA : TA} {pA : PXA} {i j l : Nat} (a : SimA tA pA) : SimS (tPar3 i j l tA) (pPar3 pA i j l) := by
  intro T B0 H0 ρ P h B H σ E S k
  refine a T B0 H0 ρ _ h B H σ _ S fun es vs B1 H1 h1 S1 e1 r1 => ?_
  match es, vs, r1, h1 with
  | [x, y, z], [v, w, u], .cons r (.cons r' (.cons r'' .nil)), h1 => exact ⟨v, w, u, rfl, k.nx B1 H1 _ _ h1 (((S1.setD r).setD r').setD r'') e1.ex⟩
  | [], _, _, h1 => exact h1.elim
  | [_], _, _, h1 => exact h1.elim
  | [_, _], _, _, h1 => exact h1.elim
  | _ :: _ :: _ :: _ :: _, _, _, h1 => exact h1.elim
theorem z_par3 {a b c : Expr} {tA : TA} {pA : PXA} {i j l : Nat} {x y z : Str} {px py pz pt pt2 : Pos} {kt k2 : Nat} (hN : X.N.Nodup) (h : DA X [a, b, c] tA pA) (hij : i ≠ j := by decide) (hil : i ≠ l := by decide) (hjl : j ≠ l := by decide) (hi : X.N[i]? = some x := by rfl) (hj : X.N[j]? = some y := by rfl) (hl : X.N[l]? = some z := by rfl) (hc : X.calm = true := by rfl)
    (hx : X.env.scope.names.lookup x = some .local := by rfl) (hy : X.env.scope.names.lookup y = some .local := by rfl) (hz : X.env.scope.names.lookup z = some .local := by rfl)
    (hw : swappedStores [.Tuple [.Name x px, .Name y py, .Name z pz] kt pt] (.Tuple [a, b, c] k2 pt2) X.env = pure (some [x, y, z]) := by rfl)
    (hs : swapsWithSole [.Tuple [.Name x px, .Name y py, .Name z pz] kt pt] (.Tuple [a, b, c] k2 pt2) pos.line X.env = pure false := by rfl) :
    DS X (.Assign [.Tuple [.Name x px, .Name y py, .Name z pz] kt pt] (.Tuple [a, b, c] k2 pt2) pos) (tPar3 i j l tA) (pPar3 pA i j l) := ⟨ps_par3 hc hN hi hj hl hij hil hjl hx hy hz h.pa hw hs, simPar3 h.sim⟩

/-! tuple(range(n)), list(range(n)) -/
theorem rgV_rep (B : Hp) (n : Int) : RepAll B (rgV 0 n) (rngD 0 n.toNat) := by
  have e : rgV 0 n = ((List.range n.toNat).map fun (i : Nat) => (0 : Int) + (i : Int)).map V.int := by
    unfold rgV
    rw [List.map_map, Int.sub_zero]
    rfl
  have e2 : rngD 0 n.toNat = ((List.range n.toNat).map fun (i : Nat) => (0 : Int) + (i : Int)).map PyData.int := by
    unfold rngD
    rw [List.map_map]
    rfl
  rw [e, e2]
  exact RepAll.ints _
theorem rgOk0 {n : Int} (h0 : 0 ≤ n) (h1 : n ≤ 100000) : RgOk 0 n := RgOk.of_le (Int.le_refl _) (by omega) (by omega) h0
def pTupR (a : PX) : PX := fun ρ Φ => a ρ fun e => match e with
  | .d (.int n) => (0 ≤ n ∧ n ≤ 100000) ∧ Φ (.d (.tuple (rngD 0 n.toNat)))
  | _ => False
theorem simTupR {ta : TE} {pa : PX} (a : SimE ta pa) : SimE (tTupRg (tRg1 ta)) (pTupR pa) := by
  intro T B0 H0 ρ Φ h B H σ Q S k
  refine a T B0 H0 ρ _ h B H σ _ S fun e v B1 H1 h1 S1 e1 r1 => ?_
  cases e <;> first | exact h1.elim | skip
  rename_i d
  cases d <;> first | exact h1.elim | skip
  rename_i n
  cases r1
  refine ⟨n, rfl, rgOk0 h1.1.1 h1.1.2, fun q hq => ?_⟩
  exact k _ _ (upd B1 q (.tup (rgV 0 n))) _ h1.2 (S1.newF hq) (e1.trans (S1.stepF hq)) (Rep.tup upd_same (rgV_rep _ n))
theorem d_tupR {a : Expr} {ta : TE} {pa : PX} {p4 : Pos} (hm1 : X.mg "tuple" = none) (hm2 : X.mg "range" = none) (ha : DE X a ta pa) (hc : X.calm = true := by rfl) (hg : Gl X "tuple" := by rfl) (hg2 : Gl X "range" := by rfl)
    (na : starEach [a] X.env = (false, eval a X.env) :: starEach [] X.env := by rfl) (nb : starEach [.Call (.Name "range" p3) [a] [] p4] X.env = (false, eval (.Call (.Name "range" p3) [a] [] p4) X.env) :: starEach [] X.env := by rfl) :
    DE X (.Call (.Name "tuple" p1) [.Call (.Name "range" p3) [a] [] p4] [] pos) (tTupRg (tRg1 ta)) (pTupR pa) := ⟨pe_tupRg hc hg hm1 (prg_1 hg2 hm2 ha.pe na) nb, simTupR ha.sim⟩
def pLstR (a : PX) : PXL := fun ρ Φ => a ρ fun e => match e with
  | .d (.int n) => (0 ≤ n ∧ n ≤ 100000) ∧ Φ (rngD 0 n.toNat)
  | _ => False
theorem simLstR {ta : TE} {pa : PX} (a : SimE ta pa) : SimL (tLstRg (tRg1 ta)) (pLstR pa) := by
  intro T B0 H0 ρ Φ h B H σ Q S k
  refine a T B0 H0 ρ _ h B H σ _ S fun e v B1 H1 h1 S1 e1 r1 => ?_
  cases e <;> first | exact h1.elim | skip
  rename_i d
  cases d <;> first | exact h1.elim | skip
  rename_i n
  cases r1
  refine ⟨n, rfl, rgOk0 h1.1.1 h1.1.2, fun q hq => ?_⟩
  exact k _ q _ B1 _ h1.2 (S1.newO hq) (e1.trans (S1.stepO hq)) (e1.back S.tape S1.tape hq).1 (S1.fresh hq).1 upd_same (rgV_rep _ n)
theorem l_lstR {a : Expr} {ta : TE} {pa : PX} {p4 : Pos} (hm1 : X.mg "list" = none) (hm2 : X.mg "range" = none) (ha : DE X a ta pa) (hc : X.calm = true := by rfl) (hg : Gl X "list" := by rfl) (hg2 : Gl X "range" := by rfl)
    (na : starEach [a] X.env = (false, eval a X.env) :: starEach [] X.env := by rfl) (nb : starEach [.Call (.Name "range" p3) [a] [] p4] X.env = (false, eval (.Call (.Name "range" p3) [a] [] p4) X.env) :: starEach [] X.env := by rfl) :
    DL X (.Call (.Name "list" p1) [.Call (.Name "range" p3) [a] [] p4] [] pos) (tLstRg (tRg1 ta)) (pLstR pa) := ⟨pe_listRg hc hg hm1 (prg_1 hg2 hm2 ha.pe na) nb, simLstR ha.sim⟩
/-! xs[::-1] -/
def pRevL (a : PX) : PXL := fun ρ Φ => a ρ fun e => match e with
  | .d (.list xs) => Φ xs.reverse
  | _ => False
theorem simRevL {K : PySem.W.Frag} {ta : TE} {pa : PX} (a : SimE ta pa) : SimL (tRevL K ta) (pRevL pa) := by
  intro T B0 H0 ρ Φ h B H σ Q S k
  refine a T B0 H0 ρ _ h B H σ _ S fun e v B1 H1 h1 S1 e1 r1 => ?_
  cases e <;> first | exact h1.elim | skip
  rename_i d
  cases d <;> first | exact h1.elim | skip
  cases r1 with
  | lst q1 q2 =>
    refine ⟨_, _, rfl, SqL.of (S1.ex _ _ q1), fun q hq => ?_⟩
    exact k _ q _ B1 _ h1 (S1.newO hq) (e1.trans (S1.stepO hq)) (e1.back S.tape S1.tape hq).1 (S1.fresh hq).1 upd_same (RepAll.rev q2)
theorem l_rev {a : Expr} {ta : TE} {pa : PX} {k : Nat} (ha : DE X a ta pa) : DL X (.Subscript a (.Slice none none (some (.UnaryOp .USub (.Constant (.int 1) k p1) p2)) p3) pos) (tRevL X.K ta) (pRevL pa) := ⟨pe_revL ha.pe, simRevL ha.sim⟩
end
end Pu

set_option Elab.async false
set_option linter.all false
set_option maxRecDepth 100000
set_option maxHeartbeats 2000000
/-! PuMin: range with three, min of a list of alike data. -/
namespace Pu
open PySem PySem.W PyProof.Rows L2 Evl

/-! range(i, j, -1) -/
def rngDown (i : Int) (n : Nat) : List D := (List.range n).map fun (k : Nat) => .int (i + (k : Int) * (-1))
theorem rngDown_len (i : Int) (n : Nat) : (rngDown i n).length = n := by simp [rngDown]
theorem rngDown_get {lo : Int} {n i : Nat} {x : D} (h : (rngDown lo n)[i]? = some x) : i < n ∧ x = .int (lo + (i : Int) * (-1)) := by
  have hi : i < n := by
    have := (List.getElem?_eq_some_iff.mp h).1
    rwa [rngDown_len] at this
  refine ⟨hi, ?_⟩
  simp [rngDown, hi] at h
  rw [← h]
  congr 1
  omega
def pRng3 (a : PXA) : PXL := fun ρ Φ => a ρ fun es => match es with
  | [.d (.int i), .d (.int j), .d (.int k)] => k = -1 ∧ (-(2 ^ 62) ≤ i ∧ i < 2 ^ 62 ∧ -(2 ^ 62) ≤ j ∧ j < 2 ^ 62) ∧ Φ (rngDown i (i - j).toNat)
  | _ => False
theorem okR3 {B1 : Hp} (lo : Int) (n : Nat) : ItOk B1 (Itc lo (-1) n) (rngDown lo n) := by
  refine ⟨fun i x B H hx _ _ => (rngDown_get hx).1, fun i x B H v H' hx e1 e2 y => ?_, fun B H _ _ => by rw [rngDown_len]; exact Nat.le_refl _⟩
  obtain ⟨rfl, rfl⟩ := y
  rw [(rngDown_get hx).2]
  exact ⟨B, Grow.nil, .int _⟩
theorem resD3 {T : Option Addr} {B : Hp} {vs : List V} {x y z : D} (r : ResAll T B vs [.d x, .d y, .d z]) : ∃ u v w, vs = [u, v, w] ∧ Rep B u x ∧ Rep B v y ∧ Rep B w z := by
  match vs, r with
  | [u, v, w], .cons a (.cons b (.cons c .nil)) => exact ⟨u, v, w, rfl, a, b, c⟩
theorem simRng3 {tA : TA} {pA : PXA} (h : SimA tA pA) : SimI (iRng3 tA) (pRng3 pA) := by
  intro T B0 H0 ρ Φ h' B H σ R S k
  refine h T B0 H0 ρ _ h' B H σ _ S fun es vs B1 H1 h1 S1 e1 r1 => ?_
  split at h1
  · obtain ⟨v, w, u, rfl, rv, rw', ru⟩ := resD3 r1
    cases rv; cases rw'; cases ru
    obtain ⟨rfl, ⟨a1, a2, a3, a4⟩, h2⟩ := h1
    exact ⟨_, _, _, _, rfl, RgC.neg a1 a2 a3 a4, k _ _ B1 H1 h2 S1 e1 (okR3 _ _)⟩
  · exact h1.elim
theorem i_rng3 {X : Cx} {tg a b c : Expr} {tA : TA} {pA : PXA} {p pos : Pos} (hm : X.mg "range" = none) (ha : DA X [a, b, c] tA pA) (hg : Gl X "range" := by rfl)
    (hs : starEach [a, b, c] X.env = (false, eval a X.env) :: starEach [b, c] X.env := by rfl) (hpl : (backTo pos (starEach [b, c] X.env)).any (·.1) = false := by rfl) :
    DI X tg (.Call (.Name "range" p) [a, b, c] [] pos) (iRng3 tA) (pRng3 pA) := ⟨pi_range3 hg hm ha.pa hs hpl, simRng3 ha.sim⟩

/-! min(list) -/
def rMinD (K : PySem.W.Frag) : List V → Hp → VK → Prop := fun vs H Q => ∃ (a : Addr) (xs : List V) (x : D) (ds : List D), vs = [V.ref a] ∧ SqL K H a xs ∧ DpAll K H xs (x :: ds) ∧ AlikeAll (x :: ds) ∧ PyData.depthAll (x :: ds) ≤ 60 ∧
  ∀ (i : Nat) (v : V), xs[i]? = some v → (x :: ds)[i]? = some (minD x ds) → Q v H
theorem cr_minD {X : Cx} (hc : X.calm = true) (hu : X.A.units + 64 < cLine) : CallR X (.builtin "min") (rMinD X.K) := by
  intro pins s σ H vs us Q I r h
  obtain ⟨a, xs, x, ds, rfl, hs, hd, al, dp, q⟩ := h
  obtain ⟨its, rv, hl, hz⟩ := I.list hs
  rw [Vals.ref1 r]
  obtain ⟨as, ra⟩ := Dp.readsAll I (x :: ds) xs its hd rv
  have hn : its.length = ds.length + 1 := by
    have e1 := rv.length
    have e2 := Pu.DpAll.len hd
    rw [← e1, e2]
    rfl
  refine call_min_walkH (iter_listW (A := X.A.in1) (by simpa using I.ok.hd hc) hl.isList fun s₂ e W st hfp hw hk => ?_)
  refine ⟨_, _, _, _, _, _, _, s.heap, _, rfl, W, st, hfp, by simp [hn], hw, hk, cmpIn_lt (A := X.A.in1) (by simpa using ra) al (by show X.A.units + 1 + _ < _; omega), fun v s' hP m => ?_⟩
  obtain ⟨h', tk, rfl, hk'⟩ := moved_old e rfl m
  have e1 : its.toArray.size - 1 = ds.length := by simp [hn]
  have e2 := argBest_fold dataLt PyData.none x ds ds.length (Nat.le_refl _)
  rw [e1] at hP
  generalize argBest (fun i j => dataLt ((x :: ds).getD i .none) ((x :: ds).getD j .none)) ds.length = j at hP e2
  obtain ⟨e3, e4⟩ := e2
  rw [List.take_length] at e4
  have hj : j < (x :: ds).length := by simp; omega
  have e5 : (x :: ds)[j]? = some (minD x ds) := by
    rw [List.getD_eq_getElem?_getD, List.getElem?_eq_getElem hj] at e4
    rw [List.getElem?_eq_getElem hj]
    unfold minD
    rw [← e4]
    rfl
  have hP : its[j]? = some v := by simpa using hP
  obtain ⟨v', hv', rel⟩ : ∃ v', xs[j]? = some v' ∧ RelV v' v := by
    have : ∀ {xs : List V} {its : List Value}, Vals xs its → ∀ (j : Nat) v, its[j]? = some v → ∃ v', xs[j]? = some v' ∧ RelV v' v := by
      intro xs its r
      induction r with
      | nil => intro j v h; simp at h
      | cons h t ih =>
        intro j v hj
        cases j with
        | zero => simp at hj; subst hj; exact ⟨_, rfl, h⟩
        | succ j => exact ih j v (by simpa using hj)
    exact this rv j v hP
  exact ⟨v', H, I.kept (t' := tk) hk', rel, q j v' hv' e5⟩
def qMinP : QC := q1C fun x Φ => match x with
  | .list (x :: ds) => AlikeAll (x :: ds) ∧ PyData.depthAll (x :: ds) ≤ 60 ∧ Φ (minD x ds)
  | _ => False
theorem scMinP {K : PySem.W.Frag} : SimC (rMinD K) qMinP := by
  intro T B H xs es Φ Q ex r h k
  obtain ⟨v, x, rfl, rx, h⟩ := q1C_inv r h
  cases x <;> first | exact h.elim | skip
  rename_i ys
  cases ys with
  | nil => exact h.elim
  | cons y ys =>
    obtain ⟨al, dp, h⟩ := h
    cases rx with
    | lst h1 h2 =>
      refine ⟨_, _, y, ys, rfl, SqL.of (ex _ _ h1), RepAll.dp ex _ _ h2, al, dp, fun i v hv hd => ?_⟩
      obtain ⟨v', hv', rep⟩ := h2.get hd
      rw [hv] at hv'
      cases hv'
      exact k v _ B H h Grow.nil rep
/-- sorted(set(list of small ints)) -/
def pSortSet (a : PX) : PXL := fun ρ Φ => a ρ fun e => match e with
  | .d (.list xs) => ∃ ns : List Int, xs = ns.map .int ∧ ns.length ≤ 4000 ∧ (∀ k ∈ ns, 0 ≤ k ∧ k < 63) ∧ ∀ out : List Int, out.Pairwise (· < ·) → (∀ k, k ∈ out ↔ k ∈ ns) → Φ (out.map .int)
  | _ => False
end Pu

set_option Elab.async false
set_option linter.all false
set_option maxRecDepth 100000
set_option maxHeartbeats 2000000
/-! PuTups: sorted(list of tuples, empty ones too), (*t, x), x in list of data. -/
namespace Pu
open PySem PySem.W PyProof.Rows L2 Evl

/-! tuples of which some are empty -/
section
variable {prog : Program} {w : World} {A : Around} {E : Value → Shared → Prop} {s : Shared}
theorem tuple_lt_call {Q : Value → Shared → Prop} {l b : Addr} {items items2 : Array Value} {e r : Nat → Bool} (hl : s.heap.IsTuple l items) (hb : s.heap.IsTuple b items2)
    (he : ∀ j (h1 : j < items.size) (h2 : j < items2.size), SeqAt.EqAt A.in1 s items[j] items2[j] (e j)) (hr : ∀ j (h1 : j < items.size) (h2 : j < items2.size), e j = false → SeqAt.RcLt A.in1 s items[j] items2[j] (r j))
    (h : Q (.bool (SeqAt.firstLt e r (decide (items.size < items2.size)) (List.range (min items.size items2.size)))) s) : wpAny (model prog w) A (call (.builtin "tuple.__lt__") [.ref l, .ref b]) Q E s := by
  obtain ⟨⟨cls, dd, data, sl⟩, ho, hc, n, hd⟩ := id hl
  obtain ⟨⟨cls2, dd2, data2, sl2⟩, ho2, hc2, n2, hd2⟩ := id hb
  simp only at hc hd hc2 hd2
  subst hc hd hc2 hd2
  exact call_meets F.slot_tuple_lt ⟨_, ho, rfl⟩ F.entry_tuple_lt (F.args_tuple_lt_2 _ _) (SeqAt.tuple_ltAt l b items items2 n n2 dd dd2 sl sl2 e r) ⟨ho, ho2, he, hr, h⟩
theorem one_tuples {xs ys : List PyData} {a b : Value} {as bs : List Addr} {Q : Bool → Shared → Prop} (ra : Reads s.heap a (.tuple xs) as) (rb : Reads s.heap b (.tuple ys) bs) (h : alike (.tuple xs) (.tuple ys) = true)
    (hu : A.units + min (PyData.depth (.tuple xs)) (PyData.depth (.tuple ys)) < cLine) (hq : Q (dataLt (.tuple xs) (.tuple ys)) s) : wpAny (model prog w) A (oneLt' true a b) Q E s := by
  have hal : alikeAll xs ys = true := by simpa [alike] using h
  cases ra with
  | @tuple l o vs n _ as₁ h1 h2 h3 h4 =>
    cases rb with
    | @tuple l' o' vs' n' _ bs₁ k1 k2 k3 k4 =>
      have n1 : vs.size = xs.length := by simpa using SeqAt.ReadsAll.length _ _ _ h4
      have n2 : vs'.size = ys.length := by simpa using SeqAt.ReadsAll.length _ _ _ k4
      rw [dataLt_tuple, ← firstLt_toks xs ys hal, ← n1, ← n2] at hq
      rw [oneLt'_eq]
      simp only [if_true]
      refine wpAny_bind (wpAny_cRoomFor (SeqAt.room_here hu) ?_)
      refine wpAny_bind (wpAny_callSpecialIfBound?_slot (T := "tuple") ⟨_, h1, h2⟩ F.slot_tuple_lt (tuple_lt_call (e := SeqAt.pairEq xs ys) (r := fun j => dataLt (xs.getD j .none) (ys.getD j .none)) ⟨_, h1, h2, _, h3⟩ ⟨_, k1, k2, _, k3⟩ (fun j j1 j2 => ?_) (fun j j1 j2 hj => ?_) ?_))
      · have := eqAt_alikeAll xs ys A.in1 s vs.toList vs'.toList _ _ h4 k4 hal (SeqAt.room_in hu) j (by simpa using j1) (by simpa using j2)
        simpa using this
      · have := rcLt_alikeAll xs ys A.in1 s vs.toList vs'.toList _ _ h4 k4 hal (SeqAt.room_in hu) j (by simpa using j1) (by simpa using j2) hj
        simpa using this
      · exact wpAny_truthy_bool hq
/-- what the first item of each is -/
theorem firsts_at {Q : List (Option Value) → Shared → Prop} : ∀ {vs : List Value} {ds : List PyData}, EachIs (fun v d => ∃ as, Reads s.heap v d as) vs ds → (∀ d ∈ ds, ∃ r, d = .tuple r) →
    (∀ fs : List (Option Value), EachIs (fun (f : Option Value) (d : PyData) => f.isSome = true ↔ d ≠ .tuple []) fs ds → Q fs s) → wpAny (model prog w) A (vs.mapM firstOfTuple') Q E s
  | _, _, .nil, _, h => by
    rw [List.mapM_nil]
    exact wpAny_pure (h [] .nil)
  | v :: vs, d :: ds, .cons ⟨as, r⟩ t, ht, h => by
    rw [List.mapM_cons]
    obtain ⟨xs, rfl⟩ := ht d List.mem_cons_self
    cases r with
    | @tuple l o ys n _ as₁ h1 h2 h3 h4 =>
      rw [kas_first_eq]
      have T : Looks (model prog w) s.heap (typeOf (.ref l)) (.type "tuple") := looks_reads (Reads.tuple h1 h2 h3 h4)
      refine wpAny_bind (wpAny_bind (T.here ?_))
      rw [if_neg (by decide)]
      refine wpAny_bind (listItems_at h1 h3 (wpAny_pure ?_))
      refine wpAny_bind (firsts_at t (fun d hd => ht d (List.mem_cons_of_mem _ hd)) fun fs hfs => wpAny_pure (h _ (.cons ?_ hfs)))
      have e : ys.toList.length = xs.length := SeqAt.ReadsAll.length _ _ _ h4
      cases xs with
      | nil =>
        have : ys.size = 0 := by simpa using e
        simp [this]
      | cons x xs =>
        have : 0 < ys.size := by
          have : ys.size = xs.length + 1 := by simpa using e
          omega
        simp [this]
theorem empty_not_all : ∀ {fs : List (Option Value)} {ds : List PyData}, EachIs (fun (f : Option Value) (d : PyData) => f.isSome = true ↔ d ≠ .tuple []) fs ds → PyData.tuple [] ∈ ds → fs.all (·.isSome) = false
  | _, _, .nil, h => by simp at h
  | f :: fs, d :: ds, .cons h t, hm => by
    rw [List.all_cons]
    rcases List.mem_cons.mp hm with e | hm
    · have : f.isSome = false := by
        cases q : f.isSome with
        | true => exact absurd e.symm (h.mp q)
        | false => rfl
      rw [this]
      rfl
    · rw [empty_not_all t hm, Bool.and_false]
/-- the kind of keys that a list with an empty tuple has -/
def mixKd : List PyData → SortKind
  | .tuple (_ :: _) :: _ => general'
  | _ => oneType'
theorem mixed_kind {vs : List Value} {ds : List PyData} {Q : SortKind → Shared → Prop} (h2 : 2 ≤ vs.length) (e : EachIs (fun v d => ∃ as, Reads s.heap v d as) vs ds) (ht : ∀ d ∈ ds, ∃ r, d = .tuple r) (he : PyData.tuple [] ∈ ds) (h : Q (mixKd ds) s) :
    wpAny (model prog w) A (keyKind' vs.toArray) Q E s := by
  rw [keyKind'_eq, List.mapM_toArray, map_eq_pure_bind]
  refine wpAny_bind (wpAny_bind (firsts_at e ht fun fs hfs => wpAny_pure ?_))
  have hall : (fs.toArray.all fun x => x.isSome) = false := by
    rw [List.all_toArray]
    exact empty_not_all hfs he
  rw [hall, if_neg (by decide)]
  cases hfs with
  | nil => cases he
  | @cons f d fs ds hf t =>
    have h0 : ((f :: fs).toArray[0]?.bind id) = f := by simp
    rw [h0]
    obtain ⟨r, rfl⟩ := ht d List.mem_cons_self
    cases r with
    | cons x xs =>
      have : f.isSome = true := hf.mpr (by simp)
      rw [this, if_pos rfl]
      exact wpAny_pure h
    | nil =>
      have : f.isSome = false := by
        cases q : f.isSome with
        | true => exact absurd rfl (hf.mp q)
        | false => rfl
      rw [this, if_neg (by decide)]
      rw [oneTypeOnly'_eq, List.mapM_toArray, map_eq_pure_bind]
      refine wpAny_bind (wpAny_bind (wpAny_bind (kas_mapM (r := Value.type "tuple") _ (fun v hv Q' hq => ?_) (wpAny_pure ?_))))
      · obtain ⟨d, hd, as, rd⟩ := e.left v hv
        obtain ⟨r, rfl⟩ := ht d hd
        have T : Looks (model prog w) s.heap (typeOf v) (.type "tuple") := looks_reads rd
        exact T.here hq
      · cases vs with
        | nil => simp at h2
        | cons v vs =>
          have a1 : ((List.map (fun _ => Value.type "tuple") (v :: vs)).toArray.all fun x => x == Value.type "tuple") = true := by
            simp only [List.all_toArray, List.all_map, List.all_eq_true]
            intro _ _
            exact beq_self_eq_true _
          have a2 : (List.map (fun _ => Value.type "tuple") (v :: vs)).toArray[0]? = some (Value.type "tuple") := by simp
          rw [a2]
          simp only [a1, if_true]
          exact wpAny_pure (wpAny_pure h)
theorem sorts_mixed {vs : List Value} {ds : List PyData} (e : EachIs (fun v d => ∃ as, Reads s.heap v d as) vs ds) (hal : AllAlike ds) (ht : ∀ d ∈ ds, ∃ r, d = .tuple r) (he : PyData.tuple [] ∈ ds) (hu : ∀ d, d ∈ ds → A.units + d.depth < cLine) : SortsAt prog w A s (dataKind s.heap ds) vs := by
  have room : ∀ {d d' : PyData}, d ∈ ds → A.units + min d.depth d'.depth < cLine := fun {d d'} hd => Nat.lt_of_le_of_lt (Nat.add_le_add_left (Nat.min_le_left _ _) _) (hu d hd)
  refine ⟨fun v hv => ?_, mixKd ds, ?_, fun h2 E Q hq => mixed_kind h2 e ht he hq⟩
  · obtain ⟨d, hd, as, r⟩ := e.left v hv
    exact ⟨_, dataKind_some hal hd r⟩
  · intro E x y a b Q ha hb hq
    obtain ⟨d, as, hd, ra, rfl⟩ := dataKind_inv ha
    obtain ⟨d', as', hd', rb, rfl⟩ := dataKind_inv hb
    obtain ⟨r, rfl⟩ := ht d hd
    obtain ⟨r', rfl⟩ := ht d' hd'
    have hdd := hal _ hd _ hd'
    have hroom := room (d' := PyData.tuple r') hd
    cases ds with
    | nil => cases he
    | cons d0 ds0 =>
      obtain ⟨r0, rfl⟩ := ht d0 List.mem_cons_self
      cases r0 with
      | nil =>
        show wpAny _ _ (keyLt' oneType' x y) Q E s
        rw [keyLt'_oneType]
        exact one_tuples ra rb hdd hroom hq
      | cons x0 xs0 =>
        show wpAny _ _ (oneLt' false x y) Q E s
        exact oneLt_alike (fun h => (by cases h)) ra rb hdd (fun h => (by cases h)) hroom hq
end

/-! sorted(list of tuples) -/
def rSortT (K : PySem.W.Frag) : List V → Hp → VK → Prop := fun vs H Q => ∃ (a : Addr) (xs : List V) (ds : List D), vs = [V.ref a] ∧ SqL K H a xs ∧ DpAll K H xs ds ∧ AllAlike ds ∧ (∀ d ∈ ds, ∃ r, d = .tuple r) ∧ (∀ d, d ∈ ds → d.depth ≤ 60) ∧
  ∀ (zs : List (V × D)) (p : Addr), zs.Perm (xs.zip ds) → (zs.Pairwise fun a b => dataLt b.2 a.2 = false) → H p = none → Q (.ref p) (upd H p (.lst (zs.map Prod.fst)))
theorem cr_sortTup {X : Cx} (hu : X.A.units + 64 < cLine) : CallR X (.builtin "sorted") (rSortT X.K) := by
  intro pins s σ H vs us Q I r h
  obtain ⟨a, xs, ds, rfl, hs, hd, al, ht, dp, q⟩ := h
  by_cases he : PyData.tuple [] ∈ ds
  rotate_left
  · refine cr_sortD hu pins s σ H _ us Q I r ⟨a, xs, ds, rfl, hs, hd, al, .inl fun d hdm => ?_, dp, q⟩
    obtain ⟨r, rfl⟩ := ht d hdm
    cases r with
    | nil => exact absurd hdm he
    | cons x xs => exact ⟨x, xs, rfl⟩
  obtain ⟨its, rv, hl, hz⟩ := I.list hs
  rw [Vals.ref1 r]
  have hlen := Pu.DpAll.len hd
  obtain ⟨as, ra⟩ := Dp.readsAll I ds xs its hd rv
  have es : (xs.zip ds).map Prod.snd = ds := snd_zip hlen
  have hzl : (xs.zip ds).length = xs.length := by rw [List.length_zip, hlen, Nat.min_self]
  have e := each_rel rv hlen
  have er := each_reads ra hlen
  have er' : EachIs (fun v (p : V × D) => ∃ as, Reads (sortingHeap (copyHeap s.heap its) (s.heap.objs.size + 1) its) v p.2 as) its (xs.zip ds) := er.mono fun _ _ ⟨as, r⟩ => ⟨as, PyProof.Rows.Reads.keeps (fun _ _ => sorting_copy_old) r⟩
  refine sorted_vals (κ := dataKind (sortingHeap (copyHeap s.heap its) (s.heap.objs.size + 1) its) ((xs.zip ds).map Prod.snd)) hl.isList
    (sorts_mixed (s := { s with heap := sortingHeap (copyHeap s.heap its) (s.heap.objs.size + 1) its }) (each_map (R := fun v d => ∃ as, Reads (sortingHeap (copyHeap s.heap its) (s.heap.objs.size + 1) its) v d as) Prod.snd er') (by rw [es]; exact al) (by rw [es]; exact ht) (by rw [es]; exact he) (fun d hd => ?_)) (by rw [e.length, hzl]; exact hz) ?_
  · rw [es] at hd
    have := dp d hd
    show X.A.units + 1 + 1 + d.depth < cLine
    omega
  · have hout := sortVals_data (R := fun v (p : V × D) => RelV p.1 v) (enc := Prod.snd) (h' := sortingHeap (copyHeap s.heap its) (s.heap.objs.size + 1) its) false e er' (by rw [es]; exact al)
    generalize sortVals (dataKind (sortingHeap (copyHeap s.heap its) (s.heap.objs.size + 1) its) ((xs.zip ds).map Prod.snd)) false its its = out at hout ⊢
    have hp : ((xs.zip ds).mergeSort (dataLe false Prod.snd)).Perm (xs.zip ds) := List.mergeSort_perm _ _
    have pw := sort_pairwise (sortLe_total (PyProof.Rows.listOrd PyProof.Rows.itemOrd) false (fun b : V × D => keyToks b.2)) (xs.zip ds)
    obtain ⟨ep, he'⟩ := PyProof.Rows.sortedAll_at s.heap its out.toArray
    have hln : (((xs.zip ds).mergeSort (dataLe false Prod.snd)).map Prod.fst).length ≤ sizeLine := by
      rw [List.length_map, hp.length_eq, hzl]
      exact hz
    refine ⟨.ref _, upd H (s.heap.objs.size + 1) (.lst (((xs.zip ds).mergeSort (dataLe false Prod.snd)).map Prod.fst)), I.laid (t' := s.toks) (fun _ _ => PyProof.Rows.sortedAll_old) (Nat.le_succ _) ⟨hln, out, ep, each_vals hout, he'⟩, rfl, q _ _ hp ?_ (I.hok.fresh (Nat.le_succ _))⟩
    refine pw.imp fun {a b} h => ?_
    have h : (!PyProof.Rows.lexLt PyProof.Rows.itemOrd (keyToks b.2) (keyToks a.2)) = true := h
    show PyProof.Rows.lexLt PyProof.Rows.itemOrd (keyToks b.2) (keyToks a.2) = false
    simpa using h
def qSortT : List Ent → (List D → Prop) → Prop := fun es Φ => match es with
  | [.d (.list xs)] => AllAlike xs ∧ (∀ d ∈ xs, ∃ r, d = .tuple r) ∧ (∀ d, d ∈ xs → d.depth ≤ 60) ∧ ∀ ys, sortedBy xs ys → Φ ys
  | _ => False
theorem sclSortT {K : PySem.W.Frag} : SimCL (rSortT K) qSortT := by
  intro T B H xs es Φ Q ex r h k
  unfold qSortT at h
  split at h
  · rename_i ys
    obtain ⟨v, rfl, rx⟩ := resD1 r
    obtain ⟨al, so, dp, h⟩ := h
    cases rx with
    | lst h1 h2 =>
      refine ⟨_, _, ys, rfl, SqL.of (ex _ _ h1), RepAll.dp ex _ _ h2, al, so, dp, fun zs p hp hw hn => ?_⟩
      have hs : (zs.map Prod.snd).Perm ys := by
        have := hp.map Prod.snd
        rwa [snd_zip h2.len] at this
      exact k _ p _ (h _ ⟨hs, List.pairwise_map.mpr hw⟩) hn (rep_zip fun p hp' => zip_rep h2 p (hp.mem_iff.mp hp'))
  · exact h.elim

/-! x in list of data -/
/-- the scope of a comprehension that holds another one: the tenth statement of the law's loop -/
def inScope (st : Stmt) : Scope := match (defBody st).getD 1 (.Pass ⟨0, 0, 0, 0⟩) with
  | .For _ _ body _ _ => match body.getD 9 (.Pass ⟨0, 0, 0, 0⟩) with
    | .Assign _ (.Call _ (.ListComp _ _ sc _ :: _) _ _) _ => relabel sc { (default : Env) with scope := defScope st }
    | _ => defScope st
  | _ => defScope st
theorem room65 {k : Nat} {A : Around} (r : Room k A) : A.units + 65 < cLine := by have := r.un; omega
theorem hu65 {n k : Nat} (h : n + 16 * k + 200 < cLine) : n + 65 < cLine := by omega
def qInD (neg : Bool) : Q2 := fun x y Φ => match y with
  | .list ds => SeqAt.shaped x = true ∧ SeqAt.shaped (.list ds) = true ∧ Φ (.bool (if neg then !(ds.any fun y => PyData.eqv y x) else ds.any fun y => PyData.eqv y x))
  | _ => False
theorem s2InD {K : PySem.W.Frag} : Sim2 (rInD K) (qInD false) := by
  intro B H x y dx dy Φ Q ex rx ry h k
  cases dy <;> first | exact h.elim | skip
  obtain ⟨h1, h2, h3⟩ := h
  exact ⟨dx, _, Rep.dp ex _ _ rx, Rep.dp ex _ _ ry, h1, h2, k _ _ B H h3 Grow.nil (.bl _)⟩
theorem s2NotInD {K : PySem.W.Frag} : Sim2 (rNotInD K) (qInD true) := by
  intro B H x y dx dy Φ Q ex rx ry h k
  cases dy <;> first | exact h.elim | skip
  obtain ⟨h1, h2, h3⟩ := h
  exact ⟨dx, _, Rep.dp ex _ _ rx, Rep.dp ex _ _ ry, h1, h2, k _ _ B H h3 Grow.nil (.bl _)⟩

/-! (*t, x) -/
def pStar (e : PX) (a : PXA) : PXA := fun ρ Φ => e ρ fun x => match x with
  | .d (.tuple xs) => a ρ fun es => Φ (xs.map Ent.d ++ es)
  | _ => False
theorem resAll_d {T : Option Addr} {B : Hp} : ∀ {vs : List V} {xs : List D}, RepAll B vs xs → ResAll T B vs (xs.map Ent.d)
  | _, [], .nil => .nil
  | _, _ :: _, .cons h t => .cons h (resAll_d t)
theorem resAll_app {T : Option Addr} {B : Hp} : ∀ {vs ws : List V} {es fs : List Ent}, ResAll T B vs es → ResAll T B ws fs → ResAll T B (vs ++ ws) (es ++ fs)
  | _, _, _, _, .nil, h => h
  | _, _, _, _, .cons h t, h2 => .cons h (resAll_app t h2)
theorem simStar {K : PySem.W.Frag} {te : TE} {pe : PX} {tA : TA} {pA : PXA} (a : SimE te pe) (b : SimA tA pA) : SimA (StX.tStar K te tA) (pStar pe pA) := by
  intro T B0 H0 ρ Φ h B H σ Q S k
  refine a T B0 H0 ρ _ h B H σ _ S fun e v B1 H1 h1 S1 e1 r1 => ?_
  cases e <;> first | exact h1.elim | skip
  rename_i d
  cases d <;> first | exact h1.elim | skip
  cases r1 with
  | tup q1 q2 =>
    refine ⟨_, _, rfl, .inl (SqT.of (S1.ex _ _ q1)), b T B0 H0 ρ _ h1 B1 H1 σ _ S1 fun es ws B2 H2 h2 S2 e2 r2 => ?_⟩
    exact k _ _ B2 H2 h2 S2 (e1.trans e2) (resAll_app (resAll_d (RepAll.mono e2.ex _ _ q2)) r2)
theorem a_star {X : Cx} {e : Expr} {es : List Expr} {te : TE} {pe : PX} {tA : TA} {pA : PXA} {p : Pos} (h : DE X e te pe) (hr : DA X es tA pA) (hs : starEach (.Starred e p :: es) X.env = (true, eval e X.env) :: starEach es X.env := by rfl) : DA X (.Starred e p :: es) (StX.tStar X.K te tA) (pStar pe pA) := ⟨StX.pa_star h.pe hr.pa hs, simStar h.sim hr.sim⟩
end Pu

set_option Elab.async false
set_option linter.all false
set_option maxRecDepth 100000
set_option maxHeartbeats 2000000
/-! PuList: an owned list read and changed (x[i], len(x), x[i] = v, pop, insert), text[a:b], tuple * int. -/
namespace Pu
open PySem PySem.W PyProof.Rows L2 Evl

def pIxO (i : Nat) (pe : PX) : PX := fun ρ Φ => match ρ[i]? with
  | some (.ol xs) => pe ρ fun e => match e with
    | .d (.int j) => ∃ v, atI xs j = some v ∧ Φ (.d v)
    | _ => False
  | _ => False
def pLenO (i : Nat) : PX := fun ρ Φ => match ρ[i]? with
  | some (.ol xs) => Φ (.d (.int xs.length))
  | _ => False
def pPopO (i : Nat) (pk : PX) : PZ := fun P ρ => match ρ[i]? with
  | some (.ol xs) => pk ρ fun e => match e with
    | .d (.int j) => (0 ≤ j ∧ j < xs.length ∧ xs.length ≤ 100000) ∧ P.nx (ρ.set i (.ol (xs.eraseIdx j.toNat)))
    | _ => False
  | _ => False
def pInsO (i : Nat) (a : PXA) : PZ := fun P ρ => match ρ[i]? with
  | some (.ol xs) => a ρ fun es => match es with
    | [.d (.int j), .d y] => (0 ≤ j ∧ j ≤ xs.length ∧ xs.length < 100000) ∧ P.nx (ρ.set i (.ol (xs.take j.toNat ++ [y] ++ xs.drop j.toNat)))
    | _ => False
  | _ => False
def pStO (i : Nat) (pk pv : PX) : PZ := fun P ρ => pv ρ fun e1 => match ρ[i]? with
  | some (.ol xs) => pk ρ fun e => match e1, e with
    | .d y, .d (.int j) => (0 ≤ j ∧ j < xs.length) ∧ P.nx (ρ.set i (.ol (xs.set j.toNat y)))
    | _, _ => False
  | _ => False
section
variable {te tk tv : TE} {pe pk pv : PX} {tA : TA} {pA : PXA} {i : Nat} {K : PySem.W.Frag}
theorem simIxO (a : SimE te pe) : SimE (tOp (rIxD K) (tVar i) te) (pIxO i pe) := by
  intro T B0 H0 ρ Φ h B H σ Q S k
  unfold pIxO at h
  split at h
  · rename_i xs e
    obtain ⟨o, h1, h2⟩ := S.env i _ e
    rcases h2 with h2 | ⟨v, h2, h3 | h3⟩
    · cases h2
    · exact h3.elim
    · obtain ⟨l, vs, rfl, f0, f1, f2, f3, f4⟩ := h3
      refine ⟨.ref l, by rw [h1, h2], a T B0 H0 ρ _ h B H σ _ S fun f w B1 H1 h4 S1 e1 r1 => ?_⟩
      cases f <;> first | exact h4.elim | skip
      rename_i y
      cases y <;> first | exact h4.elim | skip
      cases r1
      obtain ⟨v, hv, h4⟩ := h4
      obtain ⟨u, hu, ru⟩ := atI_rep (RepAll.mono e1.ex _ _ f4) hv
      exact .inl ⟨l, vs, _, u, rfl, rfl, SqL.of (e1.keep l _ f3 f2), hu, k _ _ B1 H1 h4 S1 e1 ru⟩
  · exact h.elim
theorem simLenO : SimE (tCB (rLenD K) (tCons (tVar i) tNil)) (pLenO i) := by
  intro T B0 H0 ρ Φ h B H σ Q S k
  unfold pLenO at h
  split at h
  · rename_i xs e
    obtain ⟨o, h1, h2⟩ := S.env i _ e
    rcases h2 with h2 | ⟨v, h2, h3 | h3⟩
    · cases h2
    · exact h3.elim
    · obtain ⟨l, vs, rfl, f0, f1, f2, f3, f4⟩ := h3
      exact ⟨.ref l, by rw [h1, h2], .inl ⟨_, _, rfl, .inl (SqL.of f3), k _ _ B H h S Step.refl (by rw [f4.len]; exact .int _)⟩⟩
  · exact h.elim
theorem simPopO (a : SimE tk pk) : SimS (tDrop (tBM K "list" rPopAt (tVar i) (tCons tk tNil))) (pPopO i pk) := by
  intro T B0 H0 ρ P h B H σ E S k
  unfold pPopO at h
  split at h
  · rename_i xs e
    obtain ⟨o, h1, h2⟩ := S.env i _ e
    rcases h2 with h2 | ⟨v, h2, h3 | h3⟩
    · cases h2
    · exact h3.elim
    · obtain ⟨l, vs, rfl, f0, f1, f2, f3, f4⟩ := h3
      refine ⟨.ref l, by rw [h1, h2], .inl ⟨rfl, _, SqL.of f3⟩, ?_⟩
      refine a T B0 H0 ρ _ h B H σ _ S fun f w B1 H1 h4 S1 e1 r1 => ?_
      cases f <;> first | exact h4.elim | skip
      rename_i y
      cases y <;> first | exact h4.elim | skip
      rename_i j
      cases r1
      obtain ⟨⟨j0, j1, jz⟩, h4⟩ := h4
      have hl1 : H1 l = some (.lst vs) := e1.keep l _ f3 f2
      have hb1 : B1 l = none := e1.new l _ f3 f2 f1
      have rv : RepAll B1 vs xs := RepAll.mono e1.ex _ _ f4
      have hlen := rv.len
      obtain ⟨u, hu⟩ : ∃ u, vs[j.toNat]? = some u := ⟨_, List.getElem?_eq_getElem (by omega)⟩
      refine ⟨l, vs, j, j.toNat, u, rfl, rfl, hl1, by omega, by omega, seqIndex_of j0 (by omega), hu, ?_⟩
      have er : ∀ {xs : List D} {vs : List V} (n : Nat), RepAll B1 vs xs → RepAll B1 (vs.eraseIdx n) (xs.eraseIdx n) := by
        intro xs
        induction xs with
        | nil => intro vs n r; cases r; exact .nil
        | cons x xs ih =>
          intro vs n r
          cases r with
          | cons a b =>
            cases n with
            | zero => exact b
            | succ n => exact .cons a (ih n b)
      exact k.nx B1 _ _ _ h4 (S1.mutO e rfl (by rw [h1, h2]) hb1 f0 f2 ⟨l, _, rfl, f0, hb1, f2, upd_same, er _ rv⟩) e1.ex
  · exact h.elim
theorem simInsO (a : SimA tA pA) : SimS (tDrop (tBM K "list" (fun x vs H Q => ∃ (l : Addr) (xs : List V) (i : Int) (y : V), x = .ref l ∧ vs = [.int i, y] ∧ H l = some (.lst xs) ∧ xs.length < sizeLine ∧ 0 ≤ i ∧ i < 2 ^ 63 ∧
    Q .non (upd H l (.lst (xs.take i.toNat ++ [y] ++ xs.drop i.toNat)))) (tVar i) tA)) (pInsO i pA) := by
  intro T B0 H0 ρ P h B H σ E S k
  unfold pInsO at h
  split at h
  · rename_i xs e
    obtain ⟨o, h1, h2⟩ := S.env i _ e
    rcases h2 with h2 | ⟨v, h2, h3 | h3⟩
    · cases h2
    · exact h3.elim
    · obtain ⟨l, vs, rfl, f0, f1, f2, f3, f4⟩ := h3
      refine ⟨.ref l, by rw [h1, h2], .inl ⟨rfl, _, SqL.of f3⟩, ?_⟩
      refine a T B0 H0 ρ _ h B H σ _ S fun es ws B1 H1 h4 S1 e1 r1 => ?_
      split at h4
      · rename_i j y
        obtain ⟨v, w, rfl, rv, rw'⟩ := resD2 r1
        cases rv
        obtain ⟨⟨j0, j1, jz⟩, h4⟩ := h4
        have hl1 : H1 l = some (.lst vs) := e1.keep l _ f3 f2
        have hb1 : B1 l = none := e1.new l _ f3 f2 f1
        have rx : RepAll B1 vs xs := RepAll.mono e1.ex _ _ f4
        have hlen := rx.len
        refine ⟨l, vs, j, w, rfl, rfl, hl1, by rw [hlen]; exact sz_lt jz, j0, by omega, ?_⟩
        exact k.nx B1 _ _ _ h4 (S1.mutO e rfl (by rw [h1, h2]) hb1 f0 f2 ⟨l, _, rfl, f0, hb1, f2, upd_same, ((rx.take _).app (.cons rw' .nil)).app (rx.drop _)⟩) e1.ex
      · exact h4.elim
  · exact h.elim
theorem simStO (a : SimE tk pk) (b : SimE tv pv) : SimS (tAsg tv (gSub (tVar i) tk rSetL)) (pStO i pk pv) := by
  intro T B0 H0 ρ P h B H σ E S k
  refine b T B0 H0 ρ _ h B H σ _ S fun f w B1 H1 h1 S1 e1 r1 => ?_
  split at h1
  · rename_i xs e
    obtain ⟨o, g1, g2⟩ := S1.env i _ e
    rcases g2 with g2 | ⟨v, g2, g3 | g3⟩
    · cases g2
    · exact g3.elim
    · obtain ⟨l, vs, rfl, f0, f1, f2, f3, f4⟩ := g3
      refine ⟨.ref l, by rw [g1, g2], a T B0 H0 ρ _ h1 B1 H1 σ _ S1 fun g u B2 H2 h4 S2 e2 r2 => ?_⟩
      split at h4
      · rename_i y j
        cases r2
        obtain ⟨⟨j0, j1⟩, h4⟩ := h4
        have hl1 : H2 l = some (.lst vs) := e2.keep l _ f3 f2
        have hb1 : B2 l = none := e2.new l _ f3 f2 f1
        have rx : RepAll B2 vs xs := RepAll.mono e2.ex _ _ f4
        have hlen := rx.len
        refine ⟨l, vs, j, j.toNat, rfl, rfl, hl1, ?_, ?_⟩
        · unfold ixN
          rw [if_pos j0, if_pos (by omega)]
        · exact k.nx B2 _ _ _ h4 (S2.mutO e rfl (by rw [g1, g2]) hb1 f0 f2 ⟨l, _, rfl, f0, hb1, f2, upd_same, rx.set _ (Rep.mono e2.ex _ _ r1)⟩) (e1.trans e2).ex
      · exact h4.elim
  · exact h1.elim
end

/-! text[a:b], tuple * int -/
def pSlS (a : PX) (l h : PO') : PX := fun ρ Φ => a ρ fun x => l ρ fun lo => h ρ fun hi => match x with
  | .d (.str z) => z.length ≤ 100000 ∧ Φ (.d (.str (cutS z lo hi)))
  | _ => False
theorem simSlS {ta : TE} {tl th : TO} {pa : PX} {pl ph : PO'} (ha : SimE ta pa) (hl : SimO tl pl) (hh : SimO th ph) : SimE (tSl rSlS ta tl th) (pSlS pa pl ph) := by
  intro T B0 H0 ρ Φ h B H σ Q S k
  refine ha T B0 H0 ρ _ h B H σ _ S fun e v B1 H1 h1 S1 e1 r1 => ?_
  refine hl T B0 H0 ρ _ h1 B1 H1 σ _ S1 fun lo B2 H2 h2 S2 e2 => ?_
  refine hh T B0 H0 ρ _ h2 B2 H2 σ _ S2 fun hi B3 H3 h3 S3 e3 => ?_
  cases e <;> first | exact h3.elim | skip
  rename_i d
  cases d <;> first | exact h3.elim | skip
  cases r1
  exact ⟨_, rfl, sz_of h3.1, k _ _ B3 H3 h3.2 S3 (e1.trans (e2.trans e3)) (.str _)⟩
def qRepT : Q2 := fun x y Φ => match x, y with
  | .tuple xs, .int k => (xs ≠ [] ∧ 2 ≤ k ∧ k ≤ 1000 ∧ xs.length ≤ 1000) ∧ Φ (.tuple (List.replicate k.toNat xs).flatten)
  | _, _ => False
theorem rep_flat {B : Hp} {vs : List V} {ds : List D} (h : RepAll B vs ds) : ∀ n, RepAll B (List.replicate n vs).flatten (List.replicate n ds).flatten
  | 0 => .nil
  | n + 1 => by
    rw [List.replicate_succ, List.replicate_succ, List.flatten_cons, List.flatten_cons]
    exact h.app (rep_flat h n)
theorem s2RepT {K : PySem.W.Frag} : Sim2 (rRepT K) qRepT := by
  intro B H x y dx dy Φ Q ex rx ry h k
  cases dx <;> first | exact h.elim | skip
  cases dy <;> first | exact h.elim | skip
  cases ry
  obtain ⟨⟨h1, h2, h3, h4⟩, h⟩ := h
  cases rx with
  | tup q1 q2 =>
    refine ⟨_, _, _, rfl, rfl, SqT.of (ex _ _ q1), fun e => ?_, h2, h3, by rw [q2.len]; exact h4, fun p hp => ?_⟩
    · rw [e] at q2
      cases q2
      exact h1 rfl
    · exact k _ _ _ _ h (Grow.one hp) (repT (fresh_back ex hp) (rep_flat q2 _))

/-! the rules -/
section
variable {X : Cx} {a b c e e1 e2 : Expr} {ta tb tk tv t1 t2 : TE} {pa pb pk pv p1_ p2_ : PX} {tl th : TO} {pl ph : PO'} {pos pos' p1 p2 p3 px apos cpos : Pos} {x : Str}
theorem d_ixO (i : Nat) (hb : DE X b tb pb) (hN : X.N[i]? = some x := by rfl) (hv : Vis X.env.scope x := by first | exact Or.inl rfl | exact Or.inr (Or.inl rfl) | exact Or.inr (Or.inr rfl)) (hd : (x == ("__debug__" : Str)) = false := by decide)
    (hcd : (x == ("__classdict__" : Str)) = false := by decide) (hs : PlainIx b := by exact fun _ _ => rfl) : DE X (.Subscript (.Name x p1) b pos) (tOp (rIxD X.K) (tVar i) tb) (pIxO i pb) := ⟨pe_ix ix_D (pv i hN hv hd hcd) hb.pe hs, simIxO hb.sim⟩
theorem d_lenO (i : Nat) (hm : X.mg "len" = none) (hv2 : bootBuiltins "len" = some (.builtin "len")) (hN : X.N[i]? = some x := by rfl) (hv : Vis X.env.scope x := by first | exact Or.inl rfl | exact Or.inr (Or.inl rfl) | exact Or.inr (Or.inr rfl)) (hd : (x == ("__debug__" : Str)) = false := by decide)
    (hcd : (x == ("__classdict__" : Str)) = false := by decide) (hg : Gl X "len" := by rfl) (hs : starEach [.Name x p2] X.env = (false, eval (.Name x p2) X.env) :: starEach [] X.env := by rfl) :
    DE X (.Call (.Name "len" p1) [.Name x p2] [] pos) (tCB (rLenD X.K) (tCons (tVar i) tNil)) (pLenO i) := ⟨pe_callB call_lenD' hg hm hv2 (pa_cons (pv i hN hv hd hcd) pa_nil hs) (he := hs), simLenO⟩
theorem d_slS {lo hi : Option Expr} (ha : DE X a ta pa) (hl : DO X lo tl pl) (hh : DO X hi th ph) : DE X (.Subscript a (.Slice lo hi none p2) pos) (tSl rSlS ta tl th) (pSlS pa pl ph) := ⟨pe_slice sl_str ha.pe hl.po hh.po, simSlS ha.sim hl.sim hh.sim⟩
theorem z_popO (i : Nat) (h : DE X e tk pk) (hN : X.N[i]? = some x := by rfl) (hv : Vis X.env.scope x := by first | exact Or.inl rfl | exact Or.inr (Or.inl rfl) | exact Or.inr (Or.inr rfl)) (hd : (x == ("__debug__" : Str)) = false := by decide)
    (hcd : (x == ("__classdict__" : Str)) = false := by decide) (hst : starEach [e] X.env = (false, eval e X.env) :: starEach [] X.env := by rfl)
    (hpe : ∀ {t}, PE X (.Name x px) (tVar i) → PA X [e] t → PE X (.Call (.Attribute (.Name x px) "pop" apos) [e] [] cpos) (tBM X.K "list" rPopAt (tVar i) t) := by exact fun h1 h2 => pe_bm PySem.F.plainAttrs_list PySem.F.slot_list_pop PySem.F.type_list_pop mt_popAt h1 h2)
    (hs : swapsWith (.Call (.Attribute (.Name x px) "pop" apos) [e] [] cpos) none pos.line X.env = pure false := by rfl) :
    DS X (.Expr (.Call (.Attribute (.Name x px) "pop" apos) [e] [] cpos) pos) (tDrop (tBM X.K "list" rPopAt (tVar i) (tCons tk tNil))) (pPopO i pk) :=
  ⟨ps_expr (hpe (pv i hN hv hd hcd) (pa_cons h.pe pa_nil hst)) hs, simPopO h.sim⟩
def rInsO : V → List V → Hp → VK → Prop := fun x vs H Q => ∃ (l : Addr) (xs : List V) (i : Int) (y : V), x = .ref l ∧ vs = [.int i, y] ∧ H l = some (.lst xs) ∧ xs.length < sizeLine ∧ 0 ≤ i ∧ i < 2 ^ 63 ∧
    Q .non (upd H l (.lst (xs.take i.toNat ++ [y] ++ xs.drop i.toNat)))
theorem z_insO {tA : TA} {pA : PXA} (i : Nat) (h : DA X [e1, e2] tA pA) (hN : X.N[i]? = some x := by rfl) (hv : Vis X.env.scope x := by first | exact Or.inl rfl | exact Or.inr (Or.inl rfl) | exact Or.inr (Or.inr rfl)) (hd : (x == ("__debug__" : Str)) = false := by decide)
    (hcd : (x == ("__classdict__" : Str)) = false := by decide)
    (hpe : ∀ {t}, PE X (.Name x px) (tVar i) → PA X [e1, e2] t → PE X (.Call (.Attribute (.Name x px) "insert" apos) [e1, e2] [] cpos) (tBM X.K "list" rInsO (tVar i) t) := by exact fun h1 h2 => pe_bm PySem.F.plainAttrs_list PySem.F.slot_list_insert PySem.F.type_list_insert mt_insert h1 h2)
    (hs : swapsWith (.Call (.Attribute (.Name x px) "insert" apos) [e1, e2] [] cpos) none pos.line X.env = pure false := by rfl) :
    DS X (.Expr (.Call (.Attribute (.Name x px) "insert" apos) [e1, e2] [] cpos) pos) (tDrop (tBM X.K "list" rInsO (tVar i) tA)) (pInsO i pA) :=
  ⟨ps_expr (hpe (pv i hN hv hd hcd) h.pa) hs, simInsO h.sim⟩
theorem z_stO (i : Nat) (hk : DE X b tk pk) (hv : DE X c tv pv) (hN : X.N[i]? = some x := by rfl) (hv2 : Vis X.env.scope x := by first | exact Or.inl rfl | exact Or.inr (Or.inl rfl) | exact Or.inr (Or.inr rfl)) (hd : (x == ("__debug__" : Str)) = false := by decide)
    (hcd : (x == ("__classdict__" : Str)) = false := by decide) (hs : swapsWithSole [.Subscript (.Name x p1) b pos'] c pos.line X.env = pure false := by rfl) (hw : swappedStores [.Subscript (.Name x p1) b pos'] c X.env = pure none := by rfl)
    (h1 : (assignEach [.Subscript (.Name x p1) b pos'] X.env).map (·.2) = [assign (.Subscript (.Name x p1) b pos') X.env] := by rfl)
    (hg : ∀ {to ti : TE}, PE X (.Name x p1) to → PE X b ti → PG X (.Subscript (.Name x p1) b pos') (gSub to ti rSetL) := by exact fun h1 h2 => pg_sub h1 h2 set_list) :
    DS X (.Assign [.Subscript (.Name x p1) b pos'] c pos) (tAsg tv (gSub (tVar i) tk rSetL)) (pStO i pk pv) := ⟨ps_asg hv.pe (hg (L2.pv i hN hv2 hd hcd) hk.pe) hs hw h1, simStO hk.sim hv.sim⟩
end
end Pu

set_option Elab.async false
set_option linter.all false
set_option maxRecDepth 100000
set_option maxHeartbeats 2000000
/-! PuH: the law's own def: its tape is made, then its body by data. -/
namespace Pu
open PySem PyProof.Rows L2 Evl

def spLaw (K : PySem.W.Frag) : Sp := fun vs H Q _ => ∃ (a : Addr) (ns : List Int), vs = [.ref a] ∧ SqL K H a (ns.map V.int) ∧ ns.length ≤ 63 ∧ ∀ H', Q (.bl true) H'
def tTape (K : PySem.W.Frag) : TE := tLst (tCons (tCB (rListD K) (tCons (tVar 0) tNil)) (tCons (tC (.int 0)) (tCons (tC (.int 0)) tNil)))
theorem blkk {N : List Str} {sc scope : Scope} {own : List (Str × Nat)} (h : blkC N sc scope own = true) : blkC N sc scope own = true := h
section
variable {P : Program} {w : World} {K : PySem.W.Frag} {mg : Str → Option Value} {base : Heap}
theorem callee_zero {x qual : Str} {st : Stmt} {f : Addr} {fd : FuncData} {ps : List Str} (F : Fun K x qual st f fd) (hg : mg x = some (.ref f))
    (hb : ∀ (kV doc pm : Value) (an : Option Addr) (cdv ct : Value) (us : List Value), us.length = ps.length → bindArgs (PySem.W.fnOf x qual (defArgs st) (defBody st) (defScope st) .none kV doc pm an cdv ct) ⟨us, []⟩ = pure (ps.zip us)) :
    Callee P w K mg base 0 x (fun _ _ => False) :=
  ⟨f, fd, ps, hg, F.kp, F.binds hb, fun vs H Q E h => by
    obtain ⟨T, B, es, Φ, _, _, _, h, _⟩ := h
    exact h.elim, fun A outer s H args us vs Q E hr he hb hv h => by
    obtain ⟨T, B, es, Φ, _, _, _, h, _⟩ := h
    exact h.elim⟩
theorem callee_none {x qual : Str} {st : Stmt} {f : Addr} {fd : FuncData} {ps : List Str} {k : Nat} (F : Fun K x qual st f fd) (hg : mg x = some (.ref f))
    (hb : ∀ (kV doc pm : Value) (an : Option Addr) (cdv ct : Value) (us : List Value), us.length = ps.length → bindArgs (PySem.W.fnOf x qual (defArgs st) (defBody st) (defScope st) .none kV doc pm an cdv ct) ⟨us, []⟩ = pure (ps.zip us)) :
    Callee P w K mg base k x (fun _ _ => False) :=
  ⟨f, fd, ps, hg, F.kp, F.binds hb, fun vs H Q E h => by
    obtain ⟨T, B, es, Φ, _, _, _, h, _⟩ := h
    exact h.elim, fun A outer s H args us vs Q E hr he hb hv h => by
    obtain ⟨T, B, es, Φ, _, _, _, h, _⟩ := h
    exact h.elim⟩
theorem law_of {x qual : Str} {st : Stmt} {f : Addr} {fd : FuncData} {y z : Str} {N : List Str} {k : Nat} {body : PZ} (F : Fun K x qual st f fd) (S : FnScope (y :: z :: N) [y] (defScope st))
    (hbody : ∀ (cdv : Value) (A : Around) (outer : List Env) (s : Shared) (H : Hp) (E : XK), Room k (A.deeper (envOfC qual (defScope st) s.heap.objs.size f cdv)) →
      ∃ t s0 rest, defBody st = s0 :: rest ∧ PS (cxOf CX0 P w K mg base (y :: z :: N) qual (defScope st) f cdv A outer s H E).nox s0 (tAsg (tTape K) (gName 1)) ∧ DSs (cxOf CX0 P w K mg base (y :: z :: N) qual (defScope st) f cdv A outer s H E).nox rest t body)
    (hp : LawOk (N.length + 2) body) : FnOk P w K mg base CX0 (k + 1) f fd [y] (spLaw K) := by
  refine F.ok S (fun vs H Q E h => ?_) fun cdv A outer s H vs Q E hr h => ?_
  · obtain ⟨a, ns, rfl, _⟩ := h
    rfl
  · obtain ⟨a, ns, rfl, hs, hl, hq⟩ := h
    obtain ⟨t, s0, rest, e, h0, d⟩ := hbody cdv A outer s H E hr
    rw [e]
    refine ⟨tSeq _ t, pss_cons h0 d.ps, ?_⟩
    refine ⟨.ref a, rfl, a, _, rfl, .inl hs, fun Sc hSc => ⟨by show 3 ≤ sizeLine; decide, fun t0 ht0 => ?_⟩⟩
    have ne : t0 ≠ Sc := fun e => by rw [e, upd_same] at ht0; cases ht0
    show t _ (((start (y :: z :: N) [V.ref a]).set 1 (some (.ref t0)))) _
    have en : ∀ (i : Nat) (e : Ent), (Ent.u :: Ent.tp :: List.replicate (N.length + 2 - 2) Ent.u)[i]? = some e → (i = 1 ∧ e = .tp) ∨ (i < N.length + 2 ∧ e = .u) := fun i e he => by
      match i, he with
      | 0, he => exact .inr ⟨by omega, (Option.some.inj he).symm⟩
      | 1, he => exact .inl ⟨rfl, (Option.some.inj he).symm⟩
      | i + 2, he =>
        have he : (List.replicate (N.length + 2 - 2) Ent.u)[i]? = some e := he
        obtain ⟨h1, h2⟩ := List.getElem?_eq_some_iff.mp he
        rw [List.getElem_replicate] at h2
        rw [List.length_replicate] at h1
        exact .inr ⟨by omega, h2.symm⟩
    have hlen : ((start (y :: z :: N) [V.ref a]).set 1 (some (.ref t0))).length = N.length + 2 := by
      simp [L2.start]
    have S0 : St (some t0) (upd (fun _ => none) Sc (.lst (ns.map V.int))) (upd (upd H Sc (.lst (ns.map V.int))) t0 (.lst [.ref Sc, .int 0, .int 0])) (upd (fun _ => none) Sc (.lst (ns.map V.int))) (upd (upd H Sc (.lst (ns.map V.int))) t0 (.lst [.ref Sc, .int 0, .int 0]))
        ((start (y :: z :: N) [V.ref a]).set 1 (some (.ref t0))) (.u :: .tp :: List.replicate (N.length + 2 - 2) .u) := by
      refine ⟨Step.refl, fun b u hb => ?_, fun t1 e1 => ?_, by simp [L2.start], fun i e he => ?_, fun i j e f l _ he hf oe of _ _ => ?_⟩
      · by_cases h1 : b = Sc
        · subst h1
          rw [upd_same] at hb
          rw [upd_ne (Ne.symm ne), upd_same]
          exact hb
        · rw [upd_ne h1] at hb
          cases hb
      · cases e1
        exact ⟨by rw [upd_ne ne], Sc, ns, 0, 0, upd_same, upd_same, by decide, by decide⟩
      · rcases en i e he with ⟨rfl, rfl⟩ | ⟨h1, rfl⟩
        · exact ⟨some (.ref t0), by simp [L2.start], .inr ⟨_, rfl, .inl ⟨t0, rfl, rfl⟩⟩⟩
        · obtain ⟨o, ho⟩ : ∃ o, ((start (y :: z :: N) [V.ref a]).set 1 (some (.ref t0)))[i]? = some o := ⟨_, List.getElem?_eq_getElem (by rw [hlen]; exact h1)⟩
          exact ⟨o, ho, .inl rfl⟩
      · rcases en i e he with ⟨rfl, rfl⟩ | ⟨h1, rfl⟩ <;> cases oe
    refine d.sim _ _ _ _ _ hp _ _ _ _ S0 ⟨fun B' H' σ' ρ' h _ _ => h.elim, fun e v B' H' he _ _ _ r => ?_, fun B' H' σ' ρ' h _ _ => h.elim, fun B' H' σ' ρ' h _ _ => h.elim⟩
    subst he
    cases r
    exact hq H'
end
end Pu

set_option Elab.async false
set_option linter.all false
set_option maxRecDepth 100000
namespace Law
open PySem Pu
noncomputable def p_l_size : PF := shut (pFun 1 3
  (pSeq (pAsg (pC (.int 10)) 1) (pSeq (pFor (pRng1 (pCons (pVar 0) pNil)) (pGN 2) (pAsg (pOp qMul (pVar 1) (pC (.int 10))) 1)) (pRet (pVar 1)))))

noncomputable def p_l_count : PF := shut (pFun 2 4
  (pSeq (pAsg (pCall p_l_size (pCons (pVar 1) pNil)) 2) (pSeq (pAsg (pOp qAdd (pOp qMul (pOp qAdd (pOp qMul (pCall p_draw (pCons (pVar 0) (pCons (pC (.int 1000)) pNil))) (pC (.int 1000))) (pCall p_draw (pCons (pVar 0) (pCons (pC (.int 1000)) pNil)))) (pC (.int 10))) (pCall p_draw (pCons (pVar 0) (pCons (pC (.int 10)) pNil)))) 3) (pRet (pOp qIx (pFrz (pLst (pCons (pOp qMod (pVar 3) (pVar 2)) (pCons (pC (.int 0)) (pCons (pOp qSub (pOp qSub (pVar 2) (pC (.int 1))) (pCall p_draw (pCons (pVar 0) (pCons (pC (.int 20)) pNil)))) (pCons (pOp qMul (pOp qDiv (pOp qMod (pVar 3) (pVar 2)) (pC (.int 100))) (pC (.int 100))) pNil)))))) (pCall p_draw (pCons (pVar 0) (pCons (pC (.int 4)) pNil))))))))

noncomputable def p_l_like : Nat → PF
  | 0 => fun _ _ => False
  | n + 1 => shut (pFun 2 3 ((pSeq (pIf (pTst (pIsa2 "list" "tuple" (pVar 0))) (pSeq (pIf (pOrT (pTst (pOp qNe (pIsa1 "list" (pVar 0)) (pIsa1 "list" (pVar 1)))) (pTst (pOp qNe (pIsa1 "tuple" (pVar 0)) (pIsa1 "tuple" (pVar 1))))) (pRet (pC (.bool false))) pNext) (pSeq (pIf (pTst (pOp qNe (pBl qLen (pCons (pVar 0) pNil)) (pBl qLen (pCons (pVar 1) pNil)))) (pRet (pC (.bool false))) pNext) (pRet (pOp qEq (pFrz (pLc (pRng1 (pCons (pBl qLen (pCons (pVar 0) pNil)) pNil)) [2] (pGN 2) (pNotT (pTst (pCall (p_l_like n) (pCons (pOp qIx (pVar 0) (pVar 2)) (pCons (pOp qIx (pVar 1) (pVar 2)) pNil))))) (pVar 2))) (pFrz (pLst pNil)))))) pNext) (pSeq (pIf (pTst (pIsa2 "list" "tuple" (pVar 1))) (pRet (pC (.bool false))) pNext) (pRet (pAndV (pOp qEq (pIsa1 "bool" (pVar 0)) (pIsa1 "bool" (pVar 1))) (pOp qEq (pVar 0) (pVar 1))))))))

noncomputable def p_apart : PF := shut (pFun 3 4
  (pSeq (pAsg (pOp qMod (pOp qSub (pVar 0) (pVar 1)) (pVar 2)) 3) (pRet (pBl qMin2 (pCons (pVar 3) (pCons (pOp qSub (pVar 2) (pVar 3)) pNil))))))

noncomputable def p_is_near : PF := shut (pFun 4 4
  (pRet (pOp qLe (pCall p_apart (pCons (pOp qMul (pVar 0) (pVar 1)) (pCons (pVar 2) (pCons (pOp qMul (pC (.int 100)) (pVar 1)) pNil)))) (pOp qMul (pVar 3) (pVar 1)))))

noncomputable def p_total : PF := shut (pFun 1 3
  (pSeq (pAsg (pC (.int 10)) 1) (pSeq (pFor (pRng1 (pCons (pVar 0) pNil)) (pGN 2) (pAsg (pOp qMul (pVar 1) (pC (.int 10))) 1)) (pRet (pVar 1)))))

noncomputable def p_units : PF := shut (pFun 1 2
  (pRet (pFrz (pLc (pRng1 (pCons (pVar 0) pNil)) [1] (pGN 1) pYes (pOp qDiv (pCall p_total (pCons (pVar 0) pNil)) (pCall p_total (pCons (pOp qAdd (pVar 1) (pC (.int 1))) pNil)))))))

noncomputable def p_fits : PF := shut (pFun 3 5
  (pRet (pBl qAll (pCons (pFrz (pLc (pZip (pCons (pVar 0) (pCons (pCall p_units (pCons (pBl qLen (pCons (pVar 0) pNil)) pNil)) pNil))) [3, 4] (pGT (pGCons (pGN 3) (pGCons (pGN 4) pGNil))) pYes (pCall p_is_near (pCons (pVar 3) (pCons (pVar 4) (pCons (pVar 1) (pCons (pVar 2) pNil))))))) pNil))))

noncomputable def p_l_parts : PF := shut (pFun 1 4
  (pSeq (pPar (pCons (pFrz (pLst pNil)) (pCons (pC (.int 1)) pNil)) 1 2) (pSeq (pFor (pRng1 (pCons (pVar 0) pNil)) (pGN 3) (pPar (pCons (pOp qAdd (pFrz (pLst (pCons (pVar 2) pNil))) (pVar 1)) (pCons (pOp qMul (pVar 2) (pC (.int 10))) pNil)) 1 2)) (pRet (pVar 1)))))

noncomputable def p_l_gap : PF := shut (pFun 3 4
  (pSeq (pAsg (pOp qMod (pBl qAbs (pCons (pOp qSub (pVar 0) (pVar 1)) pNil)) (pVar 2)) 3) (pRet (pBl qMin2 (pCons (pVar 3) (pCons (pOp qSub (pVar 2) (pVar 3)) pNil))))))

noncomputable def p_l_near : PF := shut (pFun 4 8
  (pSeq (pAsg (pCall p_l_parts (pCons (pBl qLen (pCons (pVar 0) pNil)) pNil)) 4) (pSeq (pFor (pEnum (pCons (pVar 0) pNil)) (pGT (pGCons (pGN 5) (pGCons (pGN 6) pGNil))) (pSeq (pAsg (pOp qIx (pVar 4) (pVar 5)) 7) (pIf (pAndT (pTst (pOp qNe (pVar 5) (pVar 3))) (pTst (pOp qGt (pCall p_l_gap (pCons (pOp qMul (pVar 6) (pVar 7)) (pCons (pVar 1) (pCons (pOp qMul (pC (.int 100)) (pVar 7)) pNil)))) (pOp qMul (pVar 2) (pVar 7))))) (pRet (pC (.bool false))) pNext))) (pRet (pC (.bool true))))))

noncomputable def p_shown : PF := shut (pFun 2 3
  (pRet (pBl qTuple (pCons (pFrz (pLc (pSeqI (pCall p_units (pCons (pVar 0) pNil))) [2] (pGN 2) pYes (pOp qMod (pOp qDiv (pVar 1) (pVar 2)) (pC (.int 100))))) pNil))))

noncomputable def p_l_seen : PF := shut (pFun 4 6
  (pSeq (pAsg (pTup pNil) 4) (pSeq (pFor (pSeqI (pCall p_l_parts (pCons (pVar 1) pNil))) (pGN 5) (pAsg (pOp qAdd (pVar 4) (pTup (pCons (pOp qMod (pOp qSub (pOp qAdd (pOp qDiv (pVar 2) (pVar 5)) (pCall p_draw (pCons (pVar 0) (pCons (pOp qAdd (pOp qMul (pC (.int 2)) (pVar 3)) (pC (.int 2))) pNil)))) (pVar 3)) (pC (.int 100))) pNil))) 4)) (pRet (pVar 4)))))

noncomputable def p_l_dials : PF := shut (pFun 2 4
  (pSeq (pIf (pTst (pOp qEq (pCall p_draw (pCons (pVar 0) (pCons (pC (.int 4)) pNil))) (pC (.int 0)))) (pSeq (pAsg (pTup pNil) 2) (pSeq (pFor (pRng1 (pCons (pVar 1) pNil)) (pGN 3) (pAsg (pOp qAdd (pVar 2) (pTup (pCons (pCall p_draw (pCons (pVar 0) (pCons (pC (.int 100)) pNil))) pNil))) 2)) (pRet (pVar 2)))) pNext) (pRet (pCall p_l_seen (pCons (pVar 0) (pCons (pVar 1) (pCons (pCall p_l_count (pCons (pVar 0) (pCons (pVar 1) pNil))) (pCons (pCall p_draw (pCons (pVar 0) (pCons (pC (.int 10)) pNil))) pNil))))))))

noncomputable def p_l_counts : PF := shut (pFun 3 4
  (pRet (pFrz (pLc (pRng1 (pCons (pCall p_l_size (pCons (pBl qLen (pCons (pVar 0) pNil)) pNil)) pNil)) [3] (pGN 3) (pTst (pCall p_l_near (pCons (pVar 0) (pCons (pVar 3) (pCons (pVar 1) (pCons (pVar 2) pNil)))))) (pVar 3)))))

noncomputable def p_joined : PF := shut (pFun 1 6
  (pSeq (pAsg (pFrz (pLst pNil)) 1) (pSeq (pFor (pSeqI (pFrz (pBlL qSort (pCons (pVar 0) pNil)))) (pGT (pGCons (pGN 2) (pGCons (pGN 3) pGNil))) (pIf (pAndT (pTst (pOp qNe (pVar 1) (pFrz (pLst pNil)))) (pTst (pOp qLe (pVar 2) (pOp qAdd (pOp qIx (pOp qIx (pVar 1) (pUn qNeg (pC (.int 1)))) (pC (.int 1))) (pC (.int 1)))))) (pSeq (pAsgG (pOp qIx (pVar 1) (pUn qNeg (pC (.int 1)))) (pGT (pGCons (pGN 4) (pGCons (pGN 5) pGNil)))) (pAsg (pOp qAdd (pSl (pVar 1) pNoPart (pPart (pUn qNeg (pC (.int 1))))) (pFrz (pLst (pCons (pTup (pCons (pVar 4) (pCons (pBl qMax2 (pCons (pVar 3) (pCons (pVar 5) pNil))) pNil))) pNil)))) 1)) (pAsg (pOp qAdd (pVar 1) (pFrz (pLst (pCons (pTup (pCons (pVar 2) (pCons (pVar 3) pNil))) pNil)))) 1))) (pRet (pVar 1)))))

noncomputable def p_cut : PF := shut (pFun 4 11
  (pSeq (pAsg (pFrz (pLst pNil)) 4) (pSeq (pAsg (pOp qMul (pC (.int 100)) (pVar 2)) 5) (pSeq (pFor (pSeqI (pVar 0)) (pGT (pGCons (pGN 6) (pGCons (pGN 7) pGNil))) (pSeq (pPar (pCons (pOp qMul (pOp qSub (pVar 1) (pVar 3)) (pVar 2)) (pCons (pOp qMul (pOp qAdd (pVar 1) (pVar 3)) (pVar 2)) pNil)) 8 9) (pSeq (pAsg (pOp qMul (pUn qNeg (pOp qDiv (pOp qSub (pVar 9) (pVar 6)) (pVar 5))) (pVar 5)) 10) (pWhile (pTst (pOp qLe (pOp qAdd (pVar 8) (pVar 10)) (pVar 7))) (pSeq (pAsg (pOp qAdd (pVar 4) (pFrz (pLst (pCons (pTup (pCons (pBl qMax2 (pCons (pVar 6) (pCons (pOp qAdd (pVar 8) (pVar 10)) pNil))) (pCons (pBl qMin2 (pCons (pVar 7) (pCons (pOp qAdd (pVar 9) (pVar 10)) pNil))) pNil))) pNil)))) 4) (pAsg (pOp qAdd (pVar 10) (pVar 5)) 10)))))) (pRet (pCall p_joined (pCons (pFrz (pLc (pSeqI (pVar 4)) [6, 7] (pGT (pGCons (pGN 6) (pGCons (pGN 7) pGNil))) (pTst (pOp qLe (pVar 6) (pVar 7))) (pTup (pCons (pVar 6) (pCons (pVar 7) pNil))))) pNil)))))))

noncomputable def p_counts_without : PF := shut (pFun 3 7
  (pSeq (pAsg (pFrz (pLst (pCons (pTup (pCons (pC (.int 0)) (pCons (pOp qSub (pCall p_total (pCons (pBl qLen (pCons (pVar 0) pNil)) pNil)) (pC (.int 1))) pNil))) pNil))) 3) (pSeq (pFor (pEZ (pCons (pVar 0) (pCons (pCall p_units (pCons (pBl qLen (pCons (pVar 0) pNil)) pNil)) pNil))) (pGT (pGCons (pGN 4) (pGCons (pGT (pGCons (pGN 5) (pGCons (pGN 6) pGNil))) pGNil))) (pIf (pTst (pOp qNe (pVar 4) (pVar 2))) (pAsg (pCall p_cut (pCons (pVar 3) (pCons (pVar 5) (pCons (pVar 6) (pCons (pVar 1) pNil))))) 3) pNext)) (pRet (pVar 3)))))

noncomputable def p_counts : PF := shut (pFun 2 2
  (pRet (pCall p_counts_without (pCons (pVar 0) (pCons (pVar 1) (pCons (pC .none) pNil))))))

noncomputable def p_l_ranges : PF := shut (pFun 1 3
  (pSeq (pAsgL (pLst pNil) 1) (pSeq (pFor (pSeqI (pVar 0)) (pGN 2) (pIf (pLendT 1 (pAndT (pTst (pOp qNe (pVar 1) (pFrz (pLst pNil)))) (pTst (pOp qEq (pOp qAdd (pOp qIx (pOp qIx (pVar 1) (pUn qNeg (pC (.int 1)))) (pC (.int 1))) (pC (.int 1))) (pVar 2))))) (pFz 1 (pAsgL (pCatL (pSl (pVar 1) pNoPart (pPart (pUn qNeg (pC (.int 1))))) (pFrz (pLst (pCons (pTup (pCons (pOp qIx (pOp qIx (pVar 1) (pUn qNeg (pC (.int 1)))) (pC (.int 0))) (pCons (pVar 2) pNil))) pNil)))) 1)) (pApp 1 (pTup (pCons (pVar 2) (pCons (pVar 2) pNil)))))) (pFz 1 (pRet (pVar 1))))))

noncomputable def p_number_fitting : PF := shut (pFun 2 4
  (pRet (pBl qSum (pCons (pFrz (pLc (pSeqI (pCall p_counts (pCons (pVar 0) (pCons (pVar 1) pNil)))) [2, 3] (pGT (pGCons (pGN 2) (pGCons (pGN 3) pGNil))) pYes (pOp qAdd (pOp qSub (pVar 3) (pVar 2)) (pC (.int 1))))) pNil))))

noncomputable def p_least_error : PF := shut (pFun 1 2
  (pSeq (pFor (pRng1 (pCons (pOp qAdd (pC (.int 9)) (pC (.int 1))) pNil)) (pGN 1) (pIf (pTst (pOp qNe (pCall p_counts (pCons (pVar 0) (pCons (pVar 1) pNil))) (pFrz (pLst pNil)))) (pRet (pVar 1)) pNext)) (pRet (pC .none))))

noncomputable def p_mirrored : PF := shut (pFun 2 4
  (pRet (pBl qTuple (pCons (pFrz (pLc (pEnum (pCons (pVar 0) pNil)) [2, 3] (pGT (pGCons (pGN 2) (pGCons (pGN 3) pGNil))) pYes (pIte (pTst (pOp (qIn false) (pVar 2) (pVar 1))) (pOp qMod (pOp qSub (pC (.int 100)) (pVar 3)) (pC (.int 100))) (pVar 3)))) pNil))))

noncomputable def p_l_turned : PF := shut (pFun 2 6
  (pSeq (pAsg (pFrz (pLst pNil)) 2) (pSeq (pFor (pSeqI (pVar 0)) (pGT (pGCons (pGN 3) (pGCons (pGN 4) pGNil))) (pAsg (pOp qAdd (pVar 2) (pFrz (pLc (pRng2 (pCons (pVar 3) (pCons (pOp qAdd (pVar 4) (pC (.int 1))) pNil))) [5] (pGN 5) pYes (pOp qMod (pOp qSub (pVar 1) (pVar 5)) (pVar 1))))) 2)) (pRet (pCall p_l_ranges (pCons (pFrz (pBlL qSort (pCons (pVar 2) pNil))) pNil))))))

noncomputable def p_wrapped : PF := shut (pFun 3 5
  (pSeq (pIf (pTst (pOp qGe (pOp qAdd (pOp qSub (pVar 1) (pVar 0)) (pC (.int 1))) (pVar 2))) (pRet (pFrz (pLst (pCons (pTup (pCons (pC (.int 0)) (pCons (pOp qSub (pVar 2) (pC (.int 1))) pNil))) pNil)))) pNext) (pSeq (pPar (pCons (pOp qMod (pVar 0) (pVar 2)) (pCons (pOp qSub (pVar 1) (pVar 0)) pNil)) 3 4) (pSeq (pIf (pTst (pOp qLt (pOp qAdd (pVar 3) (pVar 4)) (pVar 2))) (pRet (pFrz (pLst (pCons (pTup (pCons (pVar 3) (pCons (pOp qAdd (pVar 3) (pVar 4)) pNil))) pNil)))) pNext) (pRet (pFrz (pLst (pCons (pTup (pCons (pC (.int 0)) (pCons (pOp qSub (pOp qAdd (pVar 3) (pVar 4)) (pVar 2)) pNil))) (pCons (pTup (pCons (pVar 3) (pCons (pOp qSub (pVar 2) (pC (.int 1))) pNil))) pNil)))))))))

noncomputable def p_uses_between : PF := shut (pFun 3 8
  (pSeq (pAsg (pFrz (pLst pNil)) 3) (pSeq (pFor (pSeqI (pVar 0)) (pGT (pGCons (pGN 4) (pGCons (pGN 5) pGNil))) (pFor (pSeqI (pVar 1)) (pGT (pGCons (pGN 6) (pGCons (pGN 7) pGNil))) (pAsg (pOp qAdd (pVar 3) (pCall p_wrapped (pCons (pOp qSub (pVar 6) (pVar 5)) (pCons (pOp qSub (pVar 7) (pVar 4)) (pCons (pVar 2) pNil))))) 3))) (pRet (pCall p_joined (pCons (pVar 3) pNil))))))

noncomputable def p_uses : PF := shut (pFun 3 3
  (pRet (pCall p_uses_between (pCons (pCall p_counts (pCons (pVar 0) (pCons (pVar 2) pNil))) (pCons (pCall p_counts (pCons (pVar 1) (pCons (pVar 2) pNil))) (pCons (pCall p_total (pCons (pBl qLen (pCons (pVar 0) pNil)) pNil)) pNil))))))

noncomputable def p_passed_end : PF := shut (pFun 3 5
  (pSeq (pPar (pCons (pCall p_counts (pCons (pVar 0) (pCons (pVar 2) pNil))) (pCons (pCall p_counts (pCons (pVar 1) (pCons (pVar 2) pNil))) pNil)) 3 4) (pSeq (pIf (pOrT (pTst (pOp qEq (pVar 3) (pFrz (pLst pNil)))) (pTst (pOp qEq (pVar 4) (pFrz (pLst pNil))))) (pRet (pC .none)) pNext) (pSeq (pIf (pTst (pOp qLt (pOp qIx (pOp qIx (pVar 4) (pUn qNeg (pC (.int 1)))) (pC (.int 1))) (pOp qIx (pOp qIx (pVar 3) (pC (.int 0))) (pC (.int 0))))) (pRet (pC (.bool true))) pNext) (pRet (pIte (pTst (pOp qGe (pOp qIx (pOp qIx (pVar 4) (pC (.int 0))) (pC (.int 0))) (pOp qIx (pOp qIx (pVar 3) (pUn qNeg (pC (.int 1)))) (pC (.int 1))))) (pC (.bool false)) (pC .none)))))))

noncomputable def p_l_near_count : PF := shut (pFun 4 8
  (pSeq (pAsg (pTup pNil) 4) (pSeq (pFor (pSeqI (pCall p_l_parts (pCons (pVar 1) pNil))) (pGN 5) (pSeq (pAsg (pFrz (pLc (pRng1 (pCons (pC (.int 100)) pNil)) [7] (pGN 7) (pTst (pOp qLe (pCall p_l_gap (pCons (pOp qMul (pVar 7) (pVar 5)) (pCons (pVar 2) (pCons (pOp qMul (pC (.int 100)) (pVar 5)) pNil)))) (pOp qMul (pVar 3) (pVar 5)))) (pVar 7))) 6) (pAsg (pOp qAdd (pVar 4) (pTup (pCons (pOp qIx (pVar 6) (pCall p_draw (pCons (pVar 0) (pCons (pBl qLen (pCons (pVar 6) pNil)) pNil)))) pNil))) 4))) (pRet (pVar 4)))))

noncomputable def p_l_inside : PF := shut (pFun 2 4
  (pRet (pOp qNe (pFrz (pLc (pSeqI (pVar 0)) [2, 3] (pGT (pGCons (pGN 2) (pGCons (pGN 3) pGNil))) (pTst (pChain qLe qLe (pVar 2) (pVar 1) (pVar 3))) (pC (.int 1)))) (pFrz (pLst pNil)))))

noncomputable def p_right_figures : PF := shut (pFun 2 3
  (pRet (pBl qTuple (pCons (pFrz (pLc (pSeqI (pCall p_units (pCons (pVar 0) pNil))) [2] (pGN 2) pYes (pOp qMod (pOp qDiv (pVar 1) (pOp qMul (pVar 2) (pC (.int 10)))) (pC (.int 10))))) pNil))))

noncomputable def p_figures_in : PF := shut (pFun 2 8
  (pSeq (pDNew 2) (pSeq (pFor (pSeqI (pVar 0)) (pGT (pGCons (pGN 3) (pGCons (pGN 4) pGNil))) (pSeq (pPar (pCons (pOp qDiv (pVar 3) (pOp qMul (pVar 1) (pC (.int 10)))) (pCons (pOp qDiv (pVar 4) (pOp qMul (pVar 1) (pC (.int 10)))) pNil)) 5 6) (pFor (pRng2 (pCons (pVar 5) (pCons (pOp qAdd (pBl qMin2 (pCons (pVar 6) (pCons (pOp qSub (pOp qAdd (pVar 5) (pC (.int 10))) (pC (.int 1))) pNil))) (pC (.int 1))) pNil))) (pGN 7) (pDPut 2 (pOp qMod (pVar 7) (pC (.int 10))))))) (pRet (pFrz (pSortDict 2))))))

noncomputable def p_sure_figures : PF := shut (pFun 2 6
  (pSeq (pAsg (pCall p_counts (pCons (pVar 0) (pCons (pVar 1) pNil))) 2) (pSeq (pIf (pTst (pOp qEq (pVar 2) (pFrz (pLst pNil)))) (pRet (pC .none)) pNext) (pSeq (pAsgL (pLst pNil) 3) (pSeq (pFor (pSeqI (pCall p_units (pCons (pBl qLen (pCons (pVar 0) pNil)) pNil))) (pGN 4) (pSeq (pAsg (pCall p_figures_in (pCons (pVar 2) (pCons (pVar 4) pNil))) 5) (pApp 3 (pIte (pTst (pOp qEq (pBl qLen (pCons (pVar 5) pNil)) (pC (.int 1)))) (pOp qIx (pVar 5) (pC (.int 0))) (pC .none))))) (pFz 3 (pRet (pBl qTuple (pCons (pVar 3) pNil)))))))))

noncomputable def p_corrected : PF := shut (pFun 1 9
  (pSeq (pAsg (pFrz (pLc (pZip (pCons (pVar 0) (pCons (pCall p_units (pCons (pBl qLen (pCons (pVar 0) pNil)) pNil)) pNil))) [3, 4] (pGT (pGCons (pGN 3) (pGCons (pGN 4) pGNil))) pYes (pTup (pCons (pVar 3) (pCons (pVar 4) pNil))))) 1) (pSeq (pAsg (pOp qIx (pVar 0) (pUn qNeg (pC (.int 1)))) 2) (pSeq (pFor (pSeqI (pFrz (pRevL (pSl (pVar 1) pNoPart (pPart (pUn qNeg (pC (.int 1)))))))) (pGT (pGCons (pGN 3) (pGCons (pGN 4) pGNil))) (pSeq (pAsg (pC .none) 5) (pSeq (pFor (pRng1 (pCons (pC (.int 10)) pNil)) (pGN 6) (pSeq (pAsg (pOp qAdd (pVar 2) (pOp qMul (pOp qMul (pVar 6) (pVar 4)) (pC (.int 10)))) 7) (pSeq (pAsg (pCall p_apart (pCons (pVar 7) (pCons (pOp qMul (pVar 3) (pVar 4)) (pCons (pOp qMul (pC (.int 100)) (pVar 4)) pNil)))) 8) (pIf (pOrT (pTst (pOp qIs (pVar 5) (pC .none))) (pTst (pOp qLt (pVar 8) (pOp qIx (pVar 5) (pC (.int 0)))))) (pAsg (pTup (pCons (pVar 8) (pCons (pVar 7) pNil))) 5) pNext)))) (pAsg (pOp qIx (pVar 5) (pC (.int 1))) 2)))) (pRet (pVar 2))))))

noncomputable def p_l_corrected : PF := shut (pFun 1 7
  (pSeq (pAsg (pCall p_l_parts (pCons (pBl qLen (pCons (pVar 0) pNil)) pNil)) 1) (pSeq (pAsg (pOp qIx (pVar 0) (pUn qNeg (pC (.int 1)))) 2) (pSeq (pFor (pRng3 (pCons (pOp qSub (pBl qLen (pCons (pVar 0) pNil)) (pC (.int 2))) (pCons (pUn qNeg (pC (.int 1))) (pCons (pUn qNeg (pC (.int 1))) pNil)))) (pGN 3) (pSeq (pAsgL (pLst pNil) 4) (pSeq (pFor (pRng1 (pCons (pC (.int 10)) pNil)) (pGN 5) (pSeq (pAsg (pOp qAdd (pVar 2) (pOp qMul (pOp qMul (pVar 5) (pC (.int 10))) (pOp qIx (pVar 1) (pVar 3)))) 6) (pApp 4 (pTup (pCons (pCall p_l_gap (pCons (pVar 6) (pCons (pOp qMul (pOp qIx (pVar 0) (pVar 3)) (pOp qIx (pVar 1) (pVar 3))) (pCons (pOp qMul (pC (.int 100)) (pOp qIx (pVar 1) (pVar 3))) pNil)))) (pCons (pVar 6) pNil)))))) (pFz 4 (pAsg (pOp qIx (pBl qMinP (pCons (pVar 4) pNil)) (pC (.int 1))) 2))))) (pRet (pVar 2))))))

noncomputable def p_read_figures : PF := shut (pFun 1 2
  (pRet (pBl qTuple (pCons (pFrz (pLc (pSeqI (pVar 0)) [1] (pGN 1) pYes (pOp qDiv (pVar 1) (pC (.int 10))))) pNil))))

noncomputable def p_l_figures : PF := shut (pFun 2 3
  (pRet (pBl qTuple (pCons (pFrz (pLc (pSeqI (pCall p_l_parts (pCons (pVar 0) pNil))) [2] (pGN 2) pYes (pOp qMod (pOp qDiv (pVar 1) (pOp qMul (pC (.int 10)) (pVar 2))) (pC (.int 10))))) pNil))))

noncomputable def p_wrong_dials : PF := shut (pFun 2 3
  (pSeq (pIf (pTst (pOp qNe (pCall p_counts (pCons (pVar 0) (pCons (pVar 1) pNil))) (pFrz (pLst pNil)))) (pRet (pFrz (pLst pNil))) pNext) (pRet (pFrz (pLc (pRng1 (pCons (pBl qLen (pCons (pVar 0) pNil)) pNil)) [2] (pGN 2) (pTst (pOp qNe (pCall p_counts_without (pCons (pVar 0) (pCons (pVar 1) (pCons (pVar 2) pNil)))) (pFrz (pLst pNil)))) (pVar 2))))))

noncomputable def p_possible_figures : PF := shut (pFun 3 3
  (pRet (pCall p_figures_in (pCons (pCall p_counts_without (pCons (pVar 0) (pCons (pVar 1) (pCons (pVar 2) pNil)))) (pCons (pOp qIx (pCall p_units (pCons (pBl qLen (pCons (pVar 0) pNil)) pNil)) (pVar 2)) pNil)))))

noncomputable def p_missing_positions : PF := shut (pFun 3 10
  (pSeq (pAsg (pOp qIx (pCall p_units (pCons (pBl qLen (pCons (pVar 0) pNil)) pNil)) (pVar 2)) 3) (pSeq (pDNew 4) (pSeq (pFor (pSeqI (pCall p_counts_without (pCons (pVar 0) (pCons (pVar 1) (pCons (pVar 2) pNil))))) (pGT (pGCons (pGN 5) (pGCons (pGN 6) pGNil))) (pSeq (pPar (pCons (pUn qNeg (pOp qDiv (pOp qSub (pOp qMul (pVar 1) (pVar 3)) (pVar 5)) (pVar 3))) (pCons (pOp qDiv (pOp qAdd (pVar 6) (pOp qMul (pVar 1) (pVar 3))) (pVar 3)) pNil)) 7 8) (pFor (pRng2 (pCons (pVar 7) (pCons (pOp qAdd (pBl qMin2 (pCons (pVar 8) (pCons (pOp qSub (pOp qAdd (pVar 7) (pC (.int 100))) (pC (.int 1))) pNil))) (pC (.int 1))) pNil))) (pGN 9) (pDPut 4 (pOp qMod (pVar 9) (pC (.int 100))))))) (pRet (pFrz (pSortDict 4)))))))

noncomputable def p_wrong_directions : PF := shut (pFun 2 5
  (pSeq (pAsg (pFrz (pLst (pCons (pTup pNil) pNil))) 2) (pSeq (pFor (pRng1 (pCons (pBl qLen (pCons (pVar 0) pNil)) pNil)) (pGN 3) (pAsg (pOp qAdd (pVar 2) (pFrz (pLc (pSeqI (pVar 2)) [4] (pGN 4) pYes (pTup (pStar (pVar 4) (pCons (pVar 3) pNil)))))) 2)) (pRet (pFrz (pLc (pSeqI (pFrz (pBlL qSortT (pCons (pVar 2) pNil)))) [4] (pGN 4) (pTst (pOp qNe (pCall p_counts (pCons (pCall p_mirrored (pCons (pVar 0) (pCons (pVar 4) pNil))) (pCons (pVar 1) pNil))) (pFrz (pLst pNil)))) (pVar 4)))))))

noncomputable def p_l_sets : PF := shut (pFun 1 4
  (pSeq (pAsg (pFrz (pLst (pCons (pTup pNil) pNil))) 1) (pSeq (pFor (pRng1 (pCons (pVar 0) pNil)) (pGN 2) (pAsg (pOp qAdd (pVar 1) (pFrz (pLc (pSeqI (pVar 1)) [3] (pGN 3) pYes (pOp qAdd (pVar 3) (pTup (pCons (pVar 2) pNil)))))) 1)) (pRet (pFrz (pBlL qSortT (pCons (pVar 1) pNil)))))))

noncomputable def p_l_any : Nat → PF
  | 0 => fun _ _ => False
  | 1 => fun _ _ => False
  | n + 2 => shut (pFun 2 5 ((pSeq (pAsg (pCall p_draw (pCons (pVar 0) (pCons (pC (.int 13)) pNil))) 2) (pSeq (pIf (pAndT (pTst (pOp qLt (pVar 2) (pC (.int 4)))) (pTst (pOp qGt (pVar 1) (pC (.int 0))))) (pSeq (pAsg (pFrz (pLc (pRng1 (pCons (pCall p_draw (pCons (pVar 0) (pCons (pC (.int 4)) pNil))) pNil)) [4] (pGN 4) pYes (pCall (p_l_any (n + 1)) (pCons (pVar 0) (pCons (pOp qSub (pVar 1) (pC (.int 1))) pNil))))) 3) (pRet (pOp qIx (pFrz (pLst (pCons (pVar 3) (pCons (pBl qTuple (pCons (pVar 3) pNil)) (pCons (pBl qTuple (pCons (pVar 3) pNil)) (pCons (pBl qTuple (pCons (pVar 3) pNil)) pNil)))))) (pVar 2)))) pNext) (pSeq (pIf (pTst (pOp qLt (pVar 2) (pC (.int 8)))) (pRet (pOp qIx (pFrz (pLst (pCons (pOp qSub (pCall p_draw (pCons (pVar 0) (pCons (pC (.int 12)) pNil))) (pC (.int 2))) (pCons (pCall p_draw (pCons (pVar 0) (pCons (pOp qPow (pC (.int 10)) (pC (.int 12))) pNil))) (pCons (pC (.int 0)) (pCons (pC (.int 3)) pNil)))))) (pBl qMax2 (pCons (pC (.int 0)) (pCons (pOp qSub (pVar 2) (pC (.int 4))) pNil))))) pNext) (pSeq (pAsg (pFrz (pLst (pCons (pC (.str "")) (pCons (pC (.str " ")) (pCons (pC (.str "34")) (pCons (pC (.str "45")) (pCons (pC (.str "dial")) (pCons (pC (.str "A")) (pCons (pC (.str "3\n4")) pNil))))))))) 3) (pRet (pOp qIx (pFrz (pLst (pCons (pC (.bool true)) (pCons (pC (.bool false)) (pCons (pC .none) (pCons (pOp qIx (pVar 3) (pCall p_draw (pCons (pVar 0) (pCons (pC (.int 7)) pNil)))) (pCons (pTup (pCons (pC (.int 1)) (pCons (pC (.int 2)) pNil))) pNil))))))) (pOp qSub (pVar 2) (pC (.int 8)))))))))))

noncomputable def p_l_whole : PF := shut (pFun 1 1
  (pRet (pAndV (pIsa1 "int" (pVar 0)) (pNotV (pIsa1 "bool" (pVar 0))))))

noncomputable def p_l_spoilt : Nat → PF
  | 0 => fun _ _ => False
  | 1 => fun _ _ => False
  | 2 => fun _ _ => False
  | 3 => fun _ _ => False
  | 4 => fun _ _ => False
  | n + 5 => shut (pFun 2 6 ((pSeq (pIf (pAndT (pTst (pIsa2 "tuple" "list" (pVar 1))) (pAndT (pTst (pOp qGt (pBl qLen (pCons (pVar 1) pNil)) (pC (.int 0)))) (pTst (pOp qGt (pCall p_draw (pCons (pVar 0) (pCons (pC (.int 7)) pNil))) (pC (.int 0)))))) (pSeq (pAsg (pCall p_draw (pCons (pVar 0) (pCons (pBl qLen (pCons (pVar 1) pNil)) pNil))) 2) (pSeq (pAsgL (pBlL qListL (pCons (pVar 1) pNil)) 3) (pSeq (pAsg (pCall p_draw (pCons (pVar 0) (pCons (pC (.int 12)) pNil))) 4) (pSeq (pIf (pTst (pOp qLt (pVar 4) (pC (.int 8)))) (pStO 3 (pVar 2) (pCall (p_l_spoilt (n + 4)) (pCons (pVar 0) (pCons (pIxO 3 (pVar 2)) pNil)))) (pIf (pTst (pOp qEq (pVar 4) (pC (.int 8)))) (pPopO 3 (pVar 2)) (pIf (pTst (pOp qEq (pVar 4) (pC (.int 9)))) (pInsO 3 (pCons (pVar 2) (pCons (pIxO 3 (pCall p_draw (pCons (pVar 0) (pCons (pLenO 3) pNil)))) pNil))) (pIf (pTst (pOp qEq (pVar 4) (pC (.int 10)))) (pFz 3 (pAsgL (pRevL (pVar 3)) 3)) (pInsO 3 (pCons (pVar 2) (pCons (pCall (p_l_any 4) (pCons (pVar 0) (pCons (pC (.int 1)) pNil))) pNil))))))) (pFz 3 (pRet (pIte (pTst (pIsa1 "tuple" (pVar 1))) (pBl qTuple (pCons (pVar 3) pNil)) (pVar 3)))))))) pNext) (pSeq (pIf (pAndT (pTst (pCall p_l_whole (pCons (pVar 1) pNil))) (pTst (pOp qGt (pCall p_draw (pCons (pVar 0) (pCons (pC (.int 6)) pNil))) (pC (.int 0))))) (pRet (pOp qAdd (pVar 1) (pOp qIx (pFrz (pLst (pCons (pC (.int 1)) (pCons (pUn qNeg (pC (.int 1))) (pCons (pC (.int 2)) (pCons (pUn qNeg (pC (.int 2))) (pCons (pC (.int 9)) (pCons (pC (.int 1000)) pNil)))))))) (pCall p_draw (pCons (pVar 0) (pCons (pC (.int 6)) pNil)))))) pNext) (pSeq (pIf (pAndT (pTst (pIsa1 "str" (pVar 1))) (pTst (pOp qGt (pCall p_draw (pCons (pVar 0) (pCons (pC (.int 3)) pNil))) (pC (.int 0))))) (pSeq (pAsg (pCall p_draw (pCons (pVar 0) (pCons (pOp qAdd (pBl qLen (pCons (pVar 1) pNil)) (pC (.int 1))) pNil))) 5) (pRet (pOp qAdd (pOp qAdd (pSlS (pVar 1) pNoPart (pPart (pVar 5))) (pOp qIx (pFrz (pLst (pCons (pC (.str " ")) (pCons (pC (.str "z")) (pCons (pC (.str "A")) (pCons (pC (.str "|")) (pCons (pC (.str "abcdefgh")) (pCons (pC (.str "")) pNil)))))))) (pCall p_draw (pCons (pVar 0) (pCons (pC (.int 6)) pNil))))) (pSlS (pVar 1) (pPart (pVar 5)) pNoPart)))) pNext) (pSeq (pIf (pAndT (pTst (pIsa2 "tuple" "list" (pVar 1))) (pTst (pOp qEq (pCall p_draw (pCons (pVar 0) (pCons (pC (.int 2)) pNil))) (pC (.int 0))))) (pRet (pIte (pTst (pIsa1 "tuple" (pVar 1))) (pFrz (pBlL qListL (pCons (pVar 1) pNil))) (pBl qTuple (pCons (pVar 1) pNil)))) pNext) (pRet (pCall (p_l_any 4) (pCons (pVar 0) (pCons (pC (.int 2)) pNil))))))))))

noncomputable def p_is_integer : PF := shut (pFun 3 3
  (pRet (pAndV (pIsa1 "int" (pVar 0)) (pAndV (pNotV (pIsa1 "bool" (pVar 0))) (pChain qLe qLe (pVar 1) (pVar 0) (pVar 2))))))

noncomputable def p_is_dials : PF := shut (pFun 1 2
  (pSeq (pIf (pOrT (pNotT (pTst (pIsa1 "tuple" (pVar 0)))) (pNotT (pTst (pChain qLe qLe (pC (.int 1)) (pBl qLen (pCons (pVar 0) pNil)) (pC (.int 6)))))) (pRet (pC (.bool false))) pNext) (pRet (pBl qAll (pCons (pFrz (pLc (pSeqI (pVar 0)) [1] (pGN 1) pYes (pCall p_is_integer (pCons (pVar 1) (pCons (pC (.int 0)) (pCons (pOp qSub (pC (.int 100)) (pC (.int 1))) pNil)))))) pNil)))))

noncomputable def p_l_within : PF := shut (pFun 3 3
  (pRet (pAndV (pCall p_l_whole (pCons (pVar 0) pNil)) (pChain qLe qLe (pVar 1) (pVar 0) (pVar 2)))))

end Law

set_option Elab.async false
set_option linter.all false
set_option maxRecDepth 100000
set_option maxHeartbeats 1000000
/-! PuT: how a body read by data is worked out. -/
namespace Pu
open PySem L2 Evl

/-! ### the words, as equations -/
section
variable {a b c : PX} {tt tu : PXT} {s r : PZ} {q : Q2} {ρ : En} {P : Pn}
theorem x_If : pIf tt s r P ρ = tt ρ fun z => (z = true → s P ρ) ∧ (z = false → r P ρ) := by
  unfold pIf
  congr 1; funext z
  cases z <;> simp
theorem x_Ite {Φ : Ent → Prop} : pIte tt a b ρ Φ = tt ρ fun z => (z = true → a ρ Φ) ∧ (z = false → b ρ Φ) := by
  unfold pIte
  congr 1; funext z
  cases z <;> simp
theorem x_AndT {Φ : Bool → Prop} : pAndT tt tu ρ Φ = tt ρ fun z => (z = true → tu ρ Φ) ∧ (z = false → Φ false) := by
  unfold pAndT
  congr 1; funext z
  cases z <;> simp
theorem x_OrT {Φ : Bool → Prop} : pOrT tt tu ρ Φ = tt ρ fun z => (z = true → Φ true) ∧ (z = false → tu ρ Φ) := by
  unfold pOrT
  congr 1; funext z
  cases z <;> simp
def boolD (Φ : Bool → Prop) : Ent → Prop
  | .d (.bool z) => Φ z
  | _ => False
theorem boolD_d {Φ : Bool → Prop} {z : Bool} : boolD Φ (.d (.bool z)) = Φ z := rfl
theorem x_Tst {Φ : Bool → Prop} : pTst a ρ Φ = a ρ (boolD Φ) := by
  unfold pTst
  congr 1
theorem x_AndV {Φ : Ent → Prop} : pAndV a b ρ Φ = a ρ (boolD fun z => (z = true → b ρ Φ) ∧ (z = false → Φ (.d (.bool false)))) := by
  unfold pAndV
  congr 1; funext e
  cases e with
  | d x =>
    cases x with
    | bool z => cases z <;> simp [boolD]
    | _ => rfl
  | _ => rfl
theorem x_OrV {Φ : Ent → Prop} : pOrV a b ρ Φ = a ρ (boolD fun z => (z = true → Φ (.d (.bool true))) ∧ (z = false → b ρ Φ)) := by
  unfold pOrV
  congr 1; funext e
  cases e with
  | d x =>
    cases x with
    | bool z => cases z <;> simp [boolD]
    | _ => rfl
  | _ => rfl
theorem x_NotV {Φ : Ent → Prop} : pNotV a ρ Φ = a ρ (boolD fun z => Φ (.d (.bool (!z)))) := by
  unfold pNotV
  congr 1
theorem x_IxL {xs : List D} {i : Int} {Φ : D → Prop} : qIx (.list xs) (.int i) Φ = ∃ v, atI xs i = some v ∧ Φ v := by
  unfold qIx
  cases h : atI xs i <;> simp [h]
theorem x_IxT {xs : List D} {i : Int} {Φ : D → Prop} : qIx (.tuple xs) (.int i) Φ = ∃ v, atI xs i = some v ∧ Φ v := by
  unfold qIx
  cases h : atI xs i <;> simp [h]
end

/-! ### for, while, comprehensions -/
theorem forL_rule {g : PGt} {body : PZ} {P : Pn} (I : List D → En → Prop) (h0 : ∀ ρ, I [] ρ → P.nx ρ)
    (hs : ∀ x xs ρ, I (x :: xs) ρ → ∀ Ψ : En → Prop, (∀ ρ', I xs ρ' → Ψ ρ') → g x ρ fun ρ1 => body { P with nx := Ψ, ct := Ψ, bk := P.nx } ρ1) : ∀ xs ρ, I xs ρ → forL g body xs P ρ
  | [], ρ, h => h0 ρ h
  | x :: xs, ρ, h => hs x xs ρ h _ fun ρ' h' => forL_rule I h0 hs xs ρ' h'
/-- a loop over typed things: what is done, what is left -/
theorem for_rule {α : Type} {F : α → D} {g : PGt} {body : PZ} {P : Pn} (I : List α → List α → En → Prop) {l : List α} {ρ : En} (hI : I [] l ρ)
    (h0 : ∀ ρ, I l [] ρ → P.nx ρ)
    (hs : ∀ ls a rs ρ, l = ls ++ a :: rs → I ls (a :: rs) ρ → ∀ Ψ : En → Prop, (∀ ρ', I (ls ++ [a]) rs ρ' → Ψ ρ') → g (F a) ρ fun ρ1 => body { P with nx := Ψ, ct := Ψ, bk := P.nx } ρ1) : forL g body (l.map F) P ρ := by
  have key : ∀ (rs ls : List α) (ρ : En), l = ls ++ rs → I ls rs ρ → forL g body (rs.map F) P ρ := by
    intro rs
    induction rs with
    | nil =>
      intro ls ρ e h
      rw [List.append_nil] at e
      subst e
      exact h0 ρ h
    | cons a rs ih =>
      intro ls ρ e h
      exact hs ls a rs ρ e h _ fun ρ' h' => ih (ls ++ [a]) ρ' (by rw [e]; simp) h'
  exact key l [] ρ rfl hI
theorem x_wh {c : PXT} {body : PZ} {P : Pn} {n : Nat} {ρ : En} : whL c body (n + 1) P ρ = c ρ fun z => (z = true → body { P with nx := fun ρ' => whL c body n P ρ', ct := fun ρ' => whL c body n P ρ', bk := P.nx } ρ) ∧ (z = false → P.nx ρ) := by
  show c ρ _ = _
  congr 1; funext z
  cases z <;> simp
theorem wh_rule {c : PXT} {body : PZ} {P : Pn} (I : Nat → En → Prop)
    (hs : ∀ m ρ, I m ρ → ∀ Ψ : En → Prop, (∀ m' ρ', m' < m → I m' ρ' → Ψ ρ') → c ρ fun z => (z = true → body { P with nx := Ψ, ct := Ψ, bk := P.nx } ρ) ∧ (z = false → P.nx ρ)) : ∀ n m ρ, m < n → I m ρ → whL c body n P ρ := by
  intro n
  induction n with
  | zero => intro m ρ h; omega
  | succ n ih =>
    intro m ρ h hI
    rw [x_wh]
    exact hs m ρ hI (fun ρ' => whL c body n P ρ') fun m' ρ' hm h' => ih m' ρ' (by omega) h'
theorem x_While {c : PXT} {body : PZ} {P : Pn} {ρ : En} (I : Nat → En → Prop) (m : Nat) (hI : I m ρ)
    (hs : ∀ m ρ, I m ρ → ∀ Ψ : En → Prop, (∀ m' ρ', m' < m → I m' ρ' → Ψ ρ') → c ρ fun z => (z = true → body { P with nx := Ψ, ct := Ψ, bk := P.nx } ρ) ∧ (z = false → P.nx ρ)) : pWhile c body P ρ :=
  ⟨m + 1, wh_rule I hs (m + 1) m ρ (Nat.lt_succ_self m) hI⟩

theorem elD_d {Ψ : Option D → Prop} {y : D} : elD Ψ (.d y) = Ψ (some y) := rfl
/-- a comprehension whose turns are known -/
theorem lc_rule {α β : Type} {F : α → D} {G : β → D} {g : PGt} {t : PXT} {e : PX} {ρ : En} (f : α → Option β) : ∀ {l : List α} {Φ : List D → Prop}, (∀ a ∈ l, ∀ Ψ : Option D → Prop, Ψ ((f a).map G) → g (F a) ρ fun ρ1 => t ρ1 fun z => (z = true → e ρ1 (elD Ψ)) ∧ (z = false → Ψ none)) → Φ ((l.filterMap f).map G) → lcL g t e ρ (l.map F) Φ
  | [], _, _, k => k
  | a :: l, Φ, h, k => by
    rw [List.map_cons]
    refine h a List.mem_cons_self _ ?_
    cases q : f a with
    | none =>
      rw [List.filterMap_cons_none q] at k
      exact lc_rule f (fun b hb => h b (List.mem_cons_of_mem _ hb)) k
    | some y =>
      rw [List.filterMap_cons_some q] at k
      exact lc_rule f (Φ := fun r => Φ (G y :: r)) (fun b hb => h b (List.mem_cons_of_mem _ hb)) k
theorem lc_map {α β : Type} {F : α → D} {G : β → D} {g : PGt} {t : PXT} {e : PX} {ρ : En} (f : α → β) {l : List α} {Φ : List D → Prop} (h : ∀ a ∈ l, ∀ Ψ : Option D → Prop, Ψ (some (G (f a))) → g (F a) ρ fun ρ1 => t ρ1 fun z => (z = true → e ρ1 (elD Ψ)) ∧ (z = false → Ψ none)) (k : Φ ((l.map f).map G)) : lcL g t e ρ (l.map F) Φ := by
  refine lc_rule (G := G) (fun a => some (f a)) h ?_
  have e : (fun a => some (f a)) = some ∘ f := rfl
  rw [e, List.filterMap_eq_map]
  exact k
theorem lc_filter {α : Type} {F G : α → D} {g : PGt} {t : PXT} {e : PX} {ρ : En} (f : α → Bool) {l : List α} {Φ : List D → Prop} (h : ∀ a ∈ l, ∀ Ψ : Option D → Prop, Ψ (if f a = true then some (G a) else none) → g (F a) ρ fun ρ1 => t ρ1 fun z => (z = true → e ρ1 (elD Ψ)) ∧ (z = false → Ψ none)) (k : Φ ((l.filter f).map G)) : lcL g t e ρ (l.map F) Φ := by
  refine lc_rule (G := G) (fun a => if f a = true then some a else none) (fun a ha Ψ hΨ => h a ha Ψ ?_) ?_
  · by_cases q : f a = true
    · simp only [q, if_true] at hΨ ⊢; exact hΨ
    · simp only [q] at hΨ ⊢; exact hΨ
  · have e : l.filterMap (fun a => if f a = true then some a else none) = l.filter f := by
      rw [← List.filterMap_eq_filter]
      congr 1
    rw [e]
    exact k
inductive All2 {α β : Type} (R : α → β → Prop) : List α → List β → Prop
  | nil : All2 R [] []
  | cons {a : α} {b : β} {as : List α} {bs : List β} : R a b → All2 R as bs → All2 R (a :: as) (b :: bs)
/-- a comprehension whose turns are not known for sure -/
theorem lc_rel {α : Type} {F : α → D} {g : PGt} {t : PXT} {e : PX} {ρ : En} {β : Type} {G : β → D} (R : α → β → Prop) : ∀ {l : List α} {Φ : List D → Prop}, (∀ a ∈ l, ∀ Ψ : Option D → Prop, (∀ y, R a y → Ψ (some (G y))) → g (F a) ρ fun ρ1 => t ρ1 fun z => (z = true → e ρ1 (elD Ψ)) ∧ (z = false → Ψ none)) → (∀ ys : List β, All2 R l ys → Φ (ys.map G)) → lcL g t e ρ (l.map F) Φ
  | [], _, _, k => k [] .nil
  | a :: l, Φ, h, k => by
    rw [List.map_cons]
    refine h a List.mem_cons_self _ fun y hy => ?_
    exact lc_rel R (Φ := fun r => Φ (G y :: r)) (fun b hb => h b (List.mem_cons_of_mem _ hb)) fun ys hys => k (y :: ys) (.cons hy hys)
/-- one statement after another -/
theorem seq {a b : PZ} {P : Pn} {ρ : En} (h : a { P with nx := b P } ρ) : pSeq a b P ρ := h
/-- a test that is false: nothing is done -/
theorem skip_if {c : PXT} {a b : PZ} {P : Pn} {ρ : En} (h : ∀ Φ : Bool → Prop, Φ false → c ρ Φ) (k : b P ρ) : pSeq (pIf c a pNext) b P ρ := h _ k
theorem skip_if1 {c : PXT} {a : PZ} {P : Pn} {ρ : En} (h : ∀ Φ : Bool → Prop, Φ false → c ρ Φ) (k : P.nx ρ) : pIf c a pNext P ρ := h _ k
/-- what holds behind the first statement -/
theorem seq_cut {a b : PZ} {P : Pn} {ρ : En} (J : En → Prop) (h : ∀ Ψ : En → Prop, (∀ ρ', J ρ' → Ψ ρ') → a { P with nx := Ψ } ρ) (k : ∀ ρ', J ρ' → b P ρ') : pSeq a b P ρ := h _ k
end Pu

set_option Elab.async false
set_option linter.all false
set_option maxRecDepth 100000
set_option maxHeartbeats 1000000
/-! PuM: data: equality, size, _law_like. -/
namespace Law
open PySem Pu

abbrev LI (xs : List Int) : D := .list (xs.map .int)
abbrev TI (xs : List Int) : D := .tuple (xs.map .int)
def pairD (r : Int × Int) : D := .tuple [.int r.1, .int r.2]
abbrev LR (rs : List (Int × Int)) : D := .list (rs.map pairD)
def optD : Option Int → D
  | some i => .int i
  | none => .none

/-! data small enough -/
def Sm : Nat → D → Prop
  | 0, _ => False
  | n + 1, .list xs => xs.length ≤ 100000 ∧ ∀ x ∈ xs, Sm n x
  | n + 1, .tuple xs => xs.length ≤ 100000 ∧ ∀ x ∈ xs, Sm n x
  | _ + 1, .int _ => True
  | _ + 1, .bool _ => True
  | _ + 1, .none => True
  | _, _ => False
theorem Sm.up : ∀ {n : Nat} {d : D}, Sm n d → Sm (n + 1) d
  | 0, _, h => h.elim
  | n + 1, .list xs, h => ⟨h.1, fun x hx => (h.2 x hx).up⟩
  | n + 1, .tuple xs, h => ⟨h.1, fun x hx => (h.2 x hx).up⟩
  | n + 1, .int _, _ => trivial
  | n + 1, .bool _, _ => trivial
  | n + 1, .none, _ => trivial
theorem Sm.le {n m : Nat} {d : D} (h : Sm n d) (k : n ≤ m) : Sm m d := by
  induction k with
  | refl => exact h
  | step _ ih => exact ih.up
theorem Sm.lay : ∀ {n : Nat} {d : D}, Sm n d → d.canLay0 = true ∧ d.depth ≤ n
  | 0, _, h => h.elim
  | n + 1, .list xs, h => by
    have key : ∀ ys : List D, (∀ x ∈ ys, Sm n x) → PyData.canLayAll0 ys = true ∧ PyData.depthAll ys ≤ n := by
      intro ys
      induction ys with
      | nil => intro _; exact ⟨by simp [PyData.canLayAll0], by simp [PyData.depthAll]⟩
      | cons y ys ih =>
        intro h
        have a := (h y List.mem_cons_self).lay
        have b := ih fun x hx => h x (List.mem_cons_of_mem _ hx)
        exact ⟨by simp [PyData.canLayAll0, a.1, b.1], by simp only [PyData.depthAll]; omega⟩
    have k := key xs h.2
    exact ⟨by simp [PyData.canLay0, k.1], by simp only [PyData.depth]; omega⟩
  | n + 1, .tuple xs, h => by
    have key : ∀ ys : List D, (∀ x ∈ ys, Sm n x) → PyData.canLayAll0 ys = true ∧ PyData.depthAll ys ≤ n := by
      intro ys
      induction ys with
      | nil => intro _; exact ⟨by simp [PyData.canLayAll0], by simp [PyData.depthAll]⟩
      | cons y ys ih =>
        intro h
        have a := (h y List.mem_cons_self).lay
        have b := ih fun x hx => h x (List.mem_cons_of_mem _ hx)
        exact ⟨by simp [PyData.canLayAll0, a.1, b.1], by simp only [PyData.depthAll]; omega⟩
    have k := key xs h.2
    exact ⟨by simp [PyData.canLay0, k.1], by simp only [PyData.depth]; omega⟩
  | n + 1, .int _, _ => ⟨by simp [PyData.canLay0], by simp [PyData.depth]⟩
  | n + 1, .bool _, _ => ⟨by simp [PyData.canLay0], by simp [PyData.depth]⟩
  | n + 1, .none, _ => ⟨by simp [PyData.canLay0], by simp [PyData.depth]⟩
theorem Sm.shp {n : Nat} {d : D} (h : Sm n d) (hn : n ≤ 64) : SeqAt.shaped d = true := by
  have a := h.lay
  unfold SeqAt.shaped
  rw [a.1, Bool.true_and]
  exact decide_eq_true (Nat.le_trans a.2 hn)
theorem Sm.refl {n : Nat} {d : D} (h : Sm n d) : PyData.eqv d d = true := SeqAt.eqv_refl d h.lay.1
theorem Sm.ints {xs : List Int} (h : xs.length ≤ 100000) : Sm 2 (LI xs) := ⟨by rw [List.length_map]; exact h, fun x hx => by
  obtain ⟨i, _, rfl⟩ := List.mem_map.mp hx
  trivial⟩
theorem Sm.tints {xs : List Int} (h : xs.length ≤ 100000) : Sm 2 (TI xs) := ⟨by rw [List.length_map]; exact h, fun x hx => by
  obtain ⟨i, _, rfl⟩ := List.mem_map.mp hx
  trivial⟩
theorem Sm.bools {xs : List Bool} (h : xs.length ≤ 100000) : Sm 2 (.list (xs.map .bool)) := ⟨by rw [List.length_map]; exact h, fun x hx => by
  obtain ⟨i, _, rfl⟩ := List.mem_map.mp hx
  trivial⟩
theorem Sm.pair (r : Int × Int) : Sm 2 (pairD r) := ⟨by show 2 ≤ 100000; decide, fun x hx => by
  simp only [List.mem_cons, List.not_mem_nil, or_false] at hx
  rcases hx with rfl | rfl <;> trivial⟩
theorem Sm.pairs {xs : List (Int × Int)} (h : xs.length ≤ 100000) : Sm 3 (LR xs) := ⟨by rw [List.length_map]; exact h, fun x hx => by
  obtain ⟨i, _, rfl⟩ := List.mem_map.mp hx
  exact Sm.pair i⟩

/-! equality -/
theorem eqvAll_map {α : Type} [DecidableEq α] {G : α → D} (h : ∀ x y, PyData.eqv (G x) (G y) = decide (x = y)) : ∀ xs ys : List α, PyData.eqvAll (xs.map G) (ys.map G) = decide (xs = ys)
  | [], [] => by simp [PyData.eqvAll]
  | [], _ :: _ => by simp [PyData.eqvAll]
  | _ :: _, [] => by simp [PyData.eqvAll]
  | x :: xs, y :: ys => by simp [PyData.eqvAll, h x y, eqvAll_map h xs ys]
theorem eqv_i (x y : Int) : PyData.eqv (.int x) (.int y) = decide (x = y) := by
  by_cases h : x = y <;> simp [PyData.eqv, h]
theorem eqv_b (x y : Bool) : PyData.eqv (.bool x) (.bool y) = decide (x = y) := by
  cases x <;> cases y <;> simp [PyData.eqv]
theorem eqv_LI (xs ys : List Int) : PyData.eqv (.list (xs.map .int)) (.list (ys.map .int)) = decide (xs = ys) := by
  rw [PyData.eqv]; exact eqvAll_map eqv_i xs ys
theorem eqv_TI (xs ys : List Int) : PyData.eqv (.tuple (xs.map .int)) (.tuple (ys.map .int)) = decide (xs = ys) := by
  rw [PyData.eqv]; exact eqvAll_map eqv_i xs ys
theorem eqv_LB (xs ys : List Bool) : PyData.eqv (.list (xs.map .bool)) (.list (ys.map .bool)) = decide (xs = ys) := by
  rw [PyData.eqv]; exact eqvAll_map eqv_b xs ys
theorem eqv_pair (x y : Int × Int) : PyData.eqv (pairD x) (pairD y) = decide (x = y) := by
  obtain ⟨a, b⟩ := x
  obtain ⟨c, d⟩ := y
  by_cases h1 : a = c <;> by_cases h2 : b = d <;> simp [pairD, PyData.eqv, PyData.eqvAll, h1, h2]
theorem eqv_LR (xs ys : List (Int × Int)) : PyData.eqv (.list (xs.map pairD)) (.list (ys.map pairD)) = decide (xs = ys) := by
  rw [PyData.eqv]; exact eqvAll_map eqv_pair xs ys
theorem eqv_opt (x y : Option Int) : PyData.eqv (optD x) (optD y) = decide (x = y) := by
  match x, y with
  | none, none => simp [optD, PyData.eqv]
  | none, some b => simp [optD, PyData.eqv]
  | some a, none => simp [optD, PyData.eqv]
  | some a, some b =>
    have := eqv_i a b
    simp [optD, this]

/-! indexes -/
theorem atI_lt {α : Type} {xs : List α} {i : Nat} (h : i < xs.length) : L2.atI xs (i : Int) = some xs[i] := L2.atI_nat (List.getElem?_eq_getElem h)
theorem atI_map {xs : List Int} {i : Nat} (h : i < xs.length) : L2.atI (xs.map PyData.int) (i : Int) = some (.int xs[i]) := L2.atI_nat (by rw [List.getElem?_map, List.getElem?_eq_getElem h]; rfl)

/-! _law_like: a thing is like itself -/
theorem rngD_map (lo : Int) (n : Nat) : rngD lo n = (List.range n).map fun (i : Nat) => PyData.int (lo + (i : Int)) := rfl
theorem s_like : ∀ (n : Nat) {d : D} {Φ : Ent → Prop}, n ≤ 60 → Sm n d → Φ (.d (.bool true)) → p_l_like n [.d d, .d d] Φ
  | 0, _, _, _, h, _ => h.elim
  | n + 1, d, Φ, hn, h, k => by
    show (shut (pFun 2 3 _)) _ _
    rw [shut_eq]
    have seq : ∀ xs : List D, (xs.length ≤ 100000 ∧ ∀ x ∈ xs, Sm n x) → ∀ (mk : List D → D), (∀ i Ψ, qIx (mk xs) (.int i) Ψ = ∃ v, L2.atI xs i = some v ∧ Ψ v) → ∀ Φ : List D → Prop, Φ [] → lcL (pGN 2) (pNotT (pTst (pCall (p_l_like n) (pCons (pOp qIx (pVar 0) (pVar 2)) (pCons (pOp qIx (pVar 1) (pVar 2)) pNil))))) (pVar 2) [.d (mk xs), .d (mk xs), .u] (rngD 0 xs.length) Φ := by
      intro xs hx mk hm Φ k
      rw [rngD_map]
      refine lc_filter (α := Nat) (G := fun i => PyData.int (i : Int)) (fun _ => false) (fun i hi Ψ hΨ => ?_) ?_
      · have hi := List.mem_range.mp hi
        have e : (0 : Int) + (i : Int) = (i : Int) := by omega
        simp only [pFun, pIxO, pLenO, pPopO, pInsO, pStO, pSlS, qRepT, pStar, qSortT, qInD, pSortSet, pRng3, qMinP, pPar3, pDNew, pDPut, pSortDict, pTupR, pLstR, pRevL, pSeq, pRet, pRetN, pNext, pAsg, pAsgL, pAsgG, pPar, pAug, pApp, pFz, pFor, pGN, pGNil, pGCons, pGT, pVar, pC, pOp, pUn, pFrz, pNil, pCons, pDs, pTup, pLst, pNotT, pChain, pBl, pBlL, pLc, pYes, pCall, pSeqI, pRng1, pRng2, pEnum, pZip, pEZ, pSl, pNoPart, pPart, pIsa1, pIsa2, pCatL, x_If, x_Ite, x_AndT, x_OrT, x_Tst, x_AndV, x_OrV, x_NotV, boolD_d, elD_d, x_IxL, x_IxT, qII, qIC, qAdd, q1C, q2C, qLen, qTuple, qListL, qSum, qAll, qMin2, qMax2, qAbs, qInt, qEq, qNe, qIs, qIsNot, qIn, qNeg, qCatL, qSort, sqD, flatD, dIsN, wipeE, List.getElem?_cons_zero, List.getElem?_cons_succ, List.set_cons_zero, List.set_cons_succ, List.cons_append, List.nil_append, List.replicate_succ, List.replicate_zero, List.length_cons, List.length_nil, List.length_map, decide_eq_true_eq, decide_eq_false_iff_not, Bool.not_eq_true', Bool.not_eq_false', Bool.true_eq_false, Bool.false_eq_true, true_implies, false_implies, implies_true, true_and, and_true, Nat.reduceSub, Nat.reduceAdd, reduceCtorEq, Option.map_some, Option.map_none, if_true, if_false, Option.some.injEq, Int.toNat_natCast, e, hm, atI_lt hi]
        refine ⟨_, rfl, _, rfl, ?_⟩
        refine s_like n (by omega) (hx.2 _ (List.getElem_mem hi)) ?_
        simp only [pFun, pIxO, pLenO, pPopO, pInsO, pStO, pSlS, qRepT, pStar, qSortT, qInD, pSortSet, pRng3, qMinP, pPar3, pDNew, pDPut, pSortDict, pTupR, pLstR, pRevL, pSeq, pRet, pRetN, pNext, pAsg, pAsgL, pAsgG, pPar, pAug, pApp, pFz, pFor, pGN, pGNil, pGCons, pGT, pVar, pC, pOp, pUn, pFrz, pNil, pCons, pDs, pTup, pLst, pNotT, pChain, pBl, pBlL, pLc, pYes, pCall, pSeqI, pRng1, pRng2, pEnum, pZip, pEZ, pSl, pNoPart, pPart, pIsa1, pIsa2, pCatL, x_If, x_Ite, x_AndT, x_OrT, x_Tst, x_AndV, x_OrV, x_NotV, boolD_d, elD_d, x_IxL, x_IxT, qII, qIC, qAdd, q1C, q2C, qLen, qTuple, qListL, qSum, qAll, qMin2, qMax2, qAbs, qInt, qEq, qNe, qIs, qIsNot, qIn, qNeg, qCatL, qSort, sqD, flatD, dIsN, wipeE, List.getElem?_cons_zero, List.getElem?_cons_succ, List.set_cons_zero, List.set_cons_succ, List.cons_append, List.nil_append, List.replicate_succ, List.replicate_zero, List.length_cons, List.length_nil, List.length_map, decide_eq_true_eq, decide_eq_false_iff_not, Bool.not_eq_true', Bool.not_eq_false', Bool.true_eq_false, Bool.false_eq_true, true_implies, false_implies, implies_true, true_and, and_true, Nat.reduceSub, Nat.reduceAdd, reduceCtorEq, Option.map_some, Option.map_none, if_true, if_false, Option.some.injEq, Int.toNat_natCast]
        simpa using hΨ
      · have e : (List.range xs.length).filter (fun _ => false) = [] := List.filter_eq_nil_iff.mpr (by simp)
        rw [e]
        exact k
    have bnd : ∀ xs : List D, xs.length ≤ 100000 → -(2 ^ 62) ≤ (xs.length : Int) ∧ (xs.length : Int) < 2 ^ 62 := fun xs h => by omega
    cases d with
    | list xs =>
      have b := bnd xs h.1
      simp only [pFun, pIxO, pLenO, pPopO, pInsO, pStO, pSlS, qRepT, pStar, qSortT, qInD, pSortSet, pRng3, qMinP, pPar3, pDNew, pDPut, pSortDict, pTupR, pLstR, pRevL, pSeq, pRet, pRetN, pNext, pAsg, pAsgL, pAsgG, pPar, pAug, pApp, pFz, pFor, pGN, pGNil, pGCons, pGT, pVar, pC, pOp, pUn, pFrz, pNil, pCons, pDs, pTup, pLst, pNotT, pChain, pBl, pBlL, pLc, pYes, pCall, pSeqI, pRng1, pRng2, pEnum, pZip, pEZ, pSl, pNoPart, pPart, pIsa1, pIsa2, pCatL, x_If, x_Ite, x_AndT, x_OrT, x_Tst, x_AndV, x_OrV, x_NotV, boolD_d, elD_d, x_IxL, x_IxT, qII, qIC, qAdd, q1C, q2C, qLen, qTuple, qListL, qSum, qAll, qMin2, qMax2, qAbs, qInt, qEq, qNe, qIs, qIsNot, qIn, qNeg, qCatL, qSort, sqD, flatD, dIsN, wipeE, List.getElem?_cons_zero, List.getElem?_cons_succ, List.set_cons_zero, List.set_cons_succ, List.cons_append, List.nil_append, List.replicate_succ, List.replicate_zero, List.length_cons, List.length_nil, List.length_map, decide_eq_true_eq, decide_eq_false_iff_not, Bool.not_eq_true', Bool.not_eq_false', Bool.true_eq_false, Bool.false_eq_true, true_implies, false_implies, implies_true, true_and, and_true, Nat.reduceSub, Nat.reduceAdd, reduceCtorEq, Option.map_some, Option.map_none, if_true, if_false, Option.some.injEq, Int.toNat_natCast]
      simp [isaD, isaS, tyD, PyData.eqv, SeqAt.shaped, PyData.canLay0, PyData.depth]
      refine ⟨by omega, by simpa [rngD] using h.1, ?_⟩
      refine seq xs h .list (fun i Ψ => x_IxL) _ ?_
      simp [PyData.eqv, PyData.eqvAll, SeqAt.shaped, PyData.canLay0, PyData.canLayAll0, PyData.depth, PyData.depthAll]
      exact k
    | tuple xs =>
      have b := bnd xs h.1
      simp only [pFun, pIxO, pLenO, pPopO, pInsO, pStO, pSlS, qRepT, pStar, qSortT, qInD, pSortSet, pRng3, qMinP, pPar3, pDNew, pDPut, pSortDict, pTupR, pLstR, pRevL, pSeq, pRet, pRetN, pNext, pAsg, pAsgL, pAsgG, pPar, pAug, pApp, pFz, pFor, pGN, pGNil, pGCons, pGT, pVar, pC, pOp, pUn, pFrz, pNil, pCons, pDs, pTup, pLst, pNotT, pChain, pBl, pBlL, pLc, pYes, pCall, pSeqI, pRng1, pRng2, pEnum, pZip, pEZ, pSl, pNoPart, pPart, pIsa1, pIsa2, pCatL, x_If, x_Ite, x_AndT, x_OrT, x_Tst, x_AndV, x_OrV, x_NotV, boolD_d, elD_d, x_IxL, x_IxT, qII, qIC, qAdd, q1C, q2C, qLen, qTuple, qListL, qSum, qAll, qMin2, qMax2, qAbs, qInt, qEq, qNe, qIs, qIsNot, qIn, qNeg, qCatL, qSort, sqD, flatD, dIsN, wipeE, List.getElem?_cons_zero, List.getElem?_cons_succ, List.set_cons_zero, List.set_cons_succ, List.cons_append, List.nil_append, List.replicate_succ, List.replicate_zero, List.length_cons, List.length_nil, List.length_map, decide_eq_true_eq, decide_eq_false_iff_not, Bool.not_eq_true', Bool.not_eq_false', Bool.true_eq_false, Bool.false_eq_true, true_implies, false_implies, implies_true, true_and, and_true, Nat.reduceSub, Nat.reduceAdd, reduceCtorEq, Option.map_some, Option.map_none, if_true, if_false, Option.some.injEq, Int.toNat_natCast]
      simp [isaD, isaS, tyD, PyData.eqv, SeqAt.shaped, PyData.canLay0, PyData.depth]
      refine ⟨by omega, by simpa [rngD] using h.1, ?_⟩
      refine seq xs h .tuple (fun i Ψ => x_IxT) _ ?_
      simp [PyData.eqv, PyData.eqvAll, SeqAt.shaped, PyData.canLay0, PyData.canLayAll0, PyData.depth, PyData.depthAll]
      exact k
    | int i => simp only [pFun, pIxO, pLenO, pPopO, pInsO, pStO, pSlS, qRepT, pStar, qSortT, qInD, pSortSet, pRng3, qMinP, pPar3, pDNew, pDPut, pSortDict, pTupR, pLstR, pRevL, pSeq, pRet, pRetN, pNext, pAsg, pAsgL, pAsgG, pPar, pAug, pApp, pFz, pFor, pGN, pGNil, pGCons, pGT, pVar, pC, pOp, pUn, pFrz, pNil, pCons, pDs, pTup, pLst, pNotT, pChain, pBl, pBlL, pLc, pYes, pCall, pSeqI, pRng1, pRng2, pEnum, pZip, pEZ, pSl, pNoPart, pPart, pIsa1, pIsa2, pCatL, x_If, x_Ite, x_AndT, x_OrT, x_Tst, x_AndV, x_OrV, x_NotV, boolD_d, elD_d, x_IxL, x_IxT, qII, qIC, qAdd, q1C, q2C, qLen, qTuple, qListL, qSum, qAll, qMin2, qMax2, qAbs, qInt, qEq, qNe, qIs, qIsNot, qIn, qNeg, qCatL, qSort, sqD, flatD, dIsN, wipeE, List.getElem?_cons_zero, List.getElem?_cons_succ, List.set_cons_zero, List.set_cons_succ, List.cons_append, List.nil_append, List.replicate_succ, List.replicate_zero, List.length_cons, List.length_nil, List.length_map, decide_eq_true_eq, decide_eq_false_iff_not, Bool.not_eq_true', Bool.not_eq_false', Bool.true_eq_false, Bool.false_eq_true, true_implies, false_implies, implies_true, true_and, and_true, Nat.reduceSub, Nat.reduceAdd, reduceCtorEq, Option.map_some, Option.map_none, if_true, if_false, Option.some.injEq, Int.toNat_natCast]; simp [isaD, isaS, tyD, PyData.eqv, SeqAt.shaped, PyData.canLay0, PyData.depth]; exact k
    | bool i => simp only [pFun, pIxO, pLenO, pPopO, pInsO, pStO, pSlS, qRepT, pStar, qSortT, qInD, pSortSet, pRng3, qMinP, pPar3, pDNew, pDPut, pSortDict, pTupR, pLstR, pRevL, pSeq, pRet, pRetN, pNext, pAsg, pAsgL, pAsgG, pPar, pAug, pApp, pFz, pFor, pGN, pGNil, pGCons, pGT, pVar, pC, pOp, pUn, pFrz, pNil, pCons, pDs, pTup, pLst, pNotT, pChain, pBl, pBlL, pLc, pYes, pCall, pSeqI, pRng1, pRng2, pEnum, pZip, pEZ, pSl, pNoPart, pPart, pIsa1, pIsa2, pCatL, x_If, x_Ite, x_AndT, x_OrT, x_Tst, x_AndV, x_OrV, x_NotV, boolD_d, elD_d, x_IxL, x_IxT, qII, qIC, qAdd, q1C, q2C, qLen, qTuple, qListL, qSum, qAll, qMin2, qMax2, qAbs, qInt, qEq, qNe, qIs, qIsNot, qIn, qNeg, qCatL, qSort, sqD, flatD, dIsN, wipeE, List.getElem?_cons_zero, List.getElem?_cons_succ, List.set_cons_zero, List.set_cons_succ, List.cons_append, List.nil_append, List.replicate_succ, List.replicate_zero, List.length_cons, List.length_nil, List.length_map, decide_eq_true_eq, decide_eq_false_iff_not, Bool.not_eq_true', Bool.not_eq_false', Bool.true_eq_false, Bool.false_eq_true, true_implies, false_implies, implies_true, true_and, and_true, Nat.reduceSub, Nat.reduceAdd, reduceCtorEq, Option.map_some, Option.map_none, if_true, if_false, Option.some.injEq, Int.toNat_natCast]; simp [isaD, isaS, tyD, PyData.eqv, SeqAt.shaped, PyData.canLay0, PyData.depth]; exact k
    | none => simp only [pFun, pIxO, pLenO, pPopO, pInsO, pStO, pSlS, qRepT, pStar, qSortT, qInD, pSortSet, pRng3, qMinP, pPar3, pDNew, pDPut, pSortDict, pTupR, pLstR, pRevL, pSeq, pRet, pRetN, pNext, pAsg, pAsgL, pAsgG, pPar, pAug, pApp, pFz, pFor, pGN, pGNil, pGCons, pGT, pVar, pC, pOp, pUn, pFrz, pNil, pCons, pDs, pTup, pLst, pNotT, pChain, pBl, pBlL, pLc, pYes, pCall, pSeqI, pRng1, pRng2, pEnum, pZip, pEZ, pSl, pNoPart, pPart, pIsa1, pIsa2, pCatL, x_If, x_Ite, x_AndT, x_OrT, x_Tst, x_AndV, x_OrV, x_NotV, boolD_d, elD_d, x_IxL, x_IxT, qII, qIC, qAdd, q1C, q2C, qLen, qTuple, qListL, qSum, qAll, qMin2, qMax2, qAbs, qInt, qEq, qNe, qIs, qIsNot, qIn, qNeg, qCatL, qSort, sqD, flatD, dIsN, wipeE, List.getElem?_cons_zero, List.getElem?_cons_succ, List.set_cons_zero, List.set_cons_succ, List.cons_append, List.nil_append, List.replicate_succ, List.replicate_zero, List.length_cons, List.length_nil, List.length_map, decide_eq_true_eq, decide_eq_false_iff_not, Bool.not_eq_true', Bool.not_eq_false', Bool.true_eq_false, Bool.false_eq_true, true_implies, false_implies, implies_true, true_and, and_true, Nat.reduceSub, Nat.reduceAdd, reduceCtorEq, Option.map_some, Option.map_none, if_true, if_false, Option.some.injEq, Int.toNat_natCast]; simp [isaD, isaS, tyD, PyData.eqv, SeqAt.shaped, PyData.canLay0, PyData.depth]; exact k
    | str s => exact h.elim
    | dict s => exact h.elim
end Law

set_option Elab.async false
set_option linter.all false
set_option maxRecDepth 100000
set_option maxHeartbeats 1000000
/-! PuQ: what the small functions do. -/
namespace Law
open PySem Pu

/-! powers of ten -/
def ten (n : Nat) : Int := 10 ^ n
theorem ten_succ (n : Nat) : ten (n + 1) = ten n * 10 := Int.pow_succ ..
theorem ten_zero : ten 0 = 1 := rfl
theorem ten_pos (n : Nat) : 0 < ten n := Int.pow_pos (by decide)
theorem ten_add (a b : Nat) : ten (a + b) = ten a * ten b := Int.pow_add ..
theorem ten_le {a b : Nat} (h : a ≤ b) : ten a ≤ ten b := by
  induction h with
  | refl => exact Int.le_refl _
  | step _ ih => rw [ten_succ]; have := ten_pos a; omega
theorem ten_le7 {n : Nat} (h : n ≤ 7) : ten n ≤ 10000000 := ten_le h
theorem ten_ge1 (n : Nat) : 1 ≤ ten n := ten_pos n

theorem mulL {i j : Int} (h0 : 0 ≤ i) (h : i < 2 ^ 64) : L2.CMul i j := .inl ⟨by omega, h⟩
theorem mulR {i j : Int} (h0 : -1000000000000000000 < j) (h : j < 1000000000000000000) : L2.CMul i j := .inr ⟨by omega, by omega⟩
theorem divOk {i j : Int} (h0 : 0 < j) (h : j ≤ 1000000000) : L2.CDiv i j := ⟨h0, by omega⟩

theorem s_draw {n : Int} {Φ : Ent → Prop} (h0 : 0 < n) (h1 : n < 4611686018427387904) (h : ∀ k : Int, 0 ≤ k → k < n → Φ (.d (.int k))) : p_draw [.tp, .d (.int n)] Φ := ⟨n, rfl, h0, h1, h⟩

theorem s_size {n : Nat} {Φ : Ent → Prop} (hn : n ≤ 1000) (k : Φ (.d (.int (ten (n + 1))))) : p_l_size [.d (.int n)] Φ := by
  unfold p_l_size
  rw [shut_eq]
  simp only [pFun, pIxO, pLenO, pPopO, pInsO, pStO, pSlS, qRepT, pStar, qSortT, qInD, pSortSet, pRng3, qMinP, pPar3, pDNew, pDPut, pSortDict, pTupR, pLstR, pRevL, pSeq, pRet, pRetN, pNext, pAsg, pAsgL, pAsgG, pPar, pAug, pApp, pFz, pFor, pGN, pGNil, pGCons, pGT, pVar, pC, pOp, pUn, pFrz, pNil, pCons, pDs, pTup, pLst, pNotT, pChain, pBl, pBlL, pLc, pYes, pCall, pSeqI, pRng1, pRng2, pEnum, pZip, pEZ, pSl, pNoPart, pPart, pIsa1, pIsa2, pCatL, x_If, x_Ite, x_AndT, x_OrT, x_Tst, x_AndV, x_OrV, x_NotV, boolD_d, elD_d, x_IxL, x_IxT, qII, qIC, qAdd, q1C, q2C, qLen, qTuple, qListL, qSum, qAll, qMin2, qMax2, qAbs, qInt, qEq, qNe, qIs, qIsNot, qIn, qNeg, qCatL, qSort, sqD, flatD, dIsN, wipeE, List.getElem?_cons_zero, List.getElem?_cons_succ, List.set_cons_zero, List.set_cons_succ, List.cons_append, List.nil_append, List.replicate_succ, List.replicate_zero, List.length_cons, List.length_nil, List.length_map, decide_eq_true_eq, decide_eq_false_iff_not, Bool.not_eq_true', Bool.not_eq_false', Bool.true_eq_false, Bool.false_eq_true, true_implies, false_implies, implies_true, true_and, and_true, Nat.reduceSub, Nat.reduceAdd, reduceCtorEq, Option.map_some, Option.map_none, if_true, if_false, Option.some.injEq, Int.toNat_natCast]
  refine ⟨by omega, by omega, ?_⟩
  rw [rngD_map]
  refine for_rule (fun ls _ ρ => ∃ x, ρ = [.d (.int n), .d (.int (ten (ls.length + 1))), x]) ⟨_, rfl⟩ ?_ ?_
  · rintro ρ ⟨x, rfl⟩
    simp only [pFun, pIxO, pLenO, pPopO, pInsO, pStO, pSlS, qRepT, pStar, qSortT, qInD, pSortSet, pRng3, qMinP, pPar3, pDNew, pDPut, pSortDict, pTupR, pLstR, pRevL, pSeq, pRet, pRetN, pNext, pAsg, pAsgL, pAsgG, pPar, pAug, pApp, pFz, pFor, pGN, pGNil, pGCons, pGT, pVar, pC, pOp, pUn, pFrz, pNil, pCons, pDs, pTup, pLst, pNotT, pChain, pBl, pBlL, pLc, pYes, pCall, pSeqI, pRng1, pRng2, pEnum, pZip, pEZ, pSl, pNoPart, pPart, pIsa1, pIsa2, pCatL, x_If, x_Ite, x_AndT, x_OrT, x_Tst, x_AndV, x_OrV, x_NotV, boolD_d, elD_d, x_IxL, x_IxT, qII, qIC, qAdd, q1C, q2C, qLen, qTuple, qListL, qSum, qAll, qMin2, qMax2, qAbs, qInt, qEq, qNe, qIs, qIsNot, qIn, qNeg, qCatL, qSort, sqD, flatD, dIsN, wipeE, List.getElem?_cons_zero, List.getElem?_cons_succ, List.set_cons_zero, List.set_cons_succ, List.cons_append, List.nil_append, List.replicate_succ, List.replicate_zero, List.length_cons, List.length_nil, List.length_map, decide_eq_true_eq, decide_eq_false_iff_not, Bool.not_eq_true', Bool.not_eq_false', Bool.true_eq_false, Bool.false_eq_true, true_implies, false_implies, implies_true, true_and, and_true, Nat.reduceSub, Nat.reduceAdd, reduceCtorEq, Option.map_some, Option.map_none, if_true, if_false, Option.some.injEq, Int.toNat_natCast]
    simpa using k
  · rintro ls a rs ρ e ⟨x, rfl⟩ Ψ hΨ
    simp only [pFun, pIxO, pLenO, pPopO, pInsO, pStO, pSlS, qRepT, pStar, qSortT, qInD, pSortSet, pRng3, qMinP, pPar3, pDNew, pDPut, pSortDict, pTupR, pLstR, pRevL, pSeq, pRet, pRetN, pNext, pAsg, pAsgL, pAsgG, pPar, pAug, pApp, pFz, pFor, pGN, pGNil, pGCons, pGT, pVar, pC, pOp, pUn, pFrz, pNil, pCons, pDs, pTup, pLst, pNotT, pChain, pBl, pBlL, pLc, pYes, pCall, pSeqI, pRng1, pRng2, pEnum, pZip, pEZ, pSl, pNoPart, pPart, pIsa1, pIsa2, pCatL, x_If, x_Ite, x_AndT, x_OrT, x_Tst, x_AndV, x_OrV, x_NotV, boolD_d, elD_d, x_IxL, x_IxT, qII, qIC, qAdd, q1C, q2C, qLen, qTuple, qListL, qSum, qAll, qMin2, qMax2, qAbs, qInt, qEq, qNe, qIs, qIsNot, qIn, qNeg, qCatL, qSort, sqD, flatD, dIsN, wipeE, List.getElem?_cons_zero, List.getElem?_cons_succ, List.set_cons_zero, List.set_cons_succ, List.cons_append, List.nil_append, List.replicate_succ, List.replicate_zero, List.length_cons, List.length_nil, List.length_map, decide_eq_true_eq, decide_eq_false_iff_not, Bool.not_eq_true', Bool.not_eq_false', Bool.true_eq_false, Bool.false_eq_true, true_implies, false_implies, implies_true, true_and, and_true, Nat.reduceSub, Nat.reduceAdd, reduceCtorEq, Option.map_some, Option.map_none, if_true, if_false, Option.some.injEq, Int.toNat_natCast]
    refine ⟨.inr ⟨by decide, by decide⟩, ?_⟩
    exact hΨ _ ⟨_, by rw [List.length_append, ten_succ (_ + _)]; rfl⟩
theorem s_total {n : Nat} {Φ : Ent → Prop} (hn : n ≤ 1000) (k : Φ (.d (.int (ten (n + 1))))) : p_total [.d (.int n)] Φ := by
  unfold p_total
  rw [shut_eq]
  simp only [pFun, pIxO, pLenO, pPopO, pInsO, pStO, pSlS, qRepT, pStar, qSortT, qInD, pSortSet, pRng3, qMinP, pPar3, pDNew, pDPut, pSortDict, pTupR, pLstR, pRevL, pSeq, pRet, pRetN, pNext, pAsg, pAsgL, pAsgG, pPar, pAug, pApp, pFz, pFor, pGN, pGNil, pGCons, pGT, pVar, pC, pOp, pUn, pFrz, pNil, pCons, pDs, pTup, pLst, pNotT, pChain, pBl, pBlL, pLc, pYes, pCall, pSeqI, pRng1, pRng2, pEnum, pZip, pEZ, pSl, pNoPart, pPart, pIsa1, pIsa2, pCatL, x_If, x_Ite, x_AndT, x_OrT, x_Tst, x_AndV, x_OrV, x_NotV, boolD_d, elD_d, x_IxL, x_IxT, qII, qIC, qAdd, q1C, q2C, qLen, qTuple, qListL, qSum, qAll, qMin2, qMax2, qAbs, qInt, qEq, qNe, qIs, qIsNot, qIn, qNeg, qCatL, qSort, sqD, flatD, dIsN, wipeE, List.getElem?_cons_zero, List.getElem?_cons_succ, List.set_cons_zero, List.set_cons_succ, List.cons_append, List.nil_append, List.replicate_succ, List.replicate_zero, List.length_cons, List.length_nil, List.length_map, decide_eq_true_eq, decide_eq_false_iff_not, Bool.not_eq_true', Bool.not_eq_false', Bool.true_eq_false, Bool.false_eq_true, true_implies, false_implies, implies_true, true_and, and_true, Nat.reduceSub, Nat.reduceAdd, reduceCtorEq, Option.map_some, Option.map_none, if_true, if_false, Option.some.injEq, Int.toNat_natCast]
  refine ⟨by omega, by omega, ?_⟩
  rw [rngD_map]
  refine for_rule (fun ls _ ρ => ∃ x, ρ = [.d (.int n), .d (.int (ten (ls.length + 1))), x]) ⟨_, rfl⟩ ?_ ?_
  · rintro ρ ⟨x, rfl⟩
    simp only [pFun, pIxO, pLenO, pPopO, pInsO, pStO, pSlS, qRepT, pStar, qSortT, qInD, pSortSet, pRng3, qMinP, pPar3, pDNew, pDPut, pSortDict, pTupR, pLstR, pRevL, pSeq, pRet, pRetN, pNext, pAsg, pAsgL, pAsgG, pPar, pAug, pApp, pFz, pFor, pGN, pGNil, pGCons, pGT, pVar, pC, pOp, pUn, pFrz, pNil, pCons, pDs, pTup, pLst, pNotT, pChain, pBl, pBlL, pLc, pYes, pCall, pSeqI, pRng1, pRng2, pEnum, pZip, pEZ, pSl, pNoPart, pPart, pIsa1, pIsa2, pCatL, x_If, x_Ite, x_AndT, x_OrT, x_Tst, x_AndV, x_OrV, x_NotV, boolD_d, elD_d, x_IxL, x_IxT, qII, qIC, qAdd, q1C, q2C, qLen, qTuple, qListL, qSum, qAll, qMin2, qMax2, qAbs, qInt, qEq, qNe, qIs, qIsNot, qIn, qNeg, qCatL, qSort, sqD, flatD, dIsN, wipeE, List.getElem?_cons_zero, List.getElem?_cons_succ, List.set_cons_zero, List.set_cons_succ, List.cons_append, List.nil_append, List.replicate_succ, List.replicate_zero, List.length_cons, List.length_nil, List.length_map, decide_eq_true_eq, decide_eq_false_iff_not, Bool.not_eq_true', Bool.not_eq_false', Bool.true_eq_false, Bool.false_eq_true, true_implies, false_implies, implies_true, true_and, and_true, Nat.reduceSub, Nat.reduceAdd, reduceCtorEq, Option.map_some, Option.map_none, if_true, if_false, Option.some.injEq, Int.toNat_natCast]
    simpa using k
  · rintro ls a rs ρ e ⟨x, rfl⟩ Ψ hΨ
    simp only [pFun, pIxO, pLenO, pPopO, pInsO, pStO, pSlS, qRepT, pStar, qSortT, qInD, pSortSet, pRng3, qMinP, pPar3, pDNew, pDPut, pSortDict, pTupR, pLstR, pRevL, pSeq, pRet, pRetN, pNext, pAsg, pAsgL, pAsgG, pPar, pAug, pApp, pFz, pFor, pGN, pGNil, pGCons, pGT, pVar, pC, pOp, pUn, pFrz, pNil, pCons, pDs, pTup, pLst, pNotT, pChain, pBl, pBlL, pLc, pYes, pCall, pSeqI, pRng1, pRng2, pEnum, pZip, pEZ, pSl, pNoPart, pPart, pIsa1, pIsa2, pCatL, x_If, x_Ite, x_AndT, x_OrT, x_Tst, x_AndV, x_OrV, x_NotV, boolD_d, elD_d, x_IxL, x_IxT, qII, qIC, qAdd, q1C, q2C, qLen, qTuple, qListL, qSum, qAll, qMin2, qMax2, qAbs, qInt, qEq, qNe, qIs, qIsNot, qIn, qNeg, qCatL, qSort, sqD, flatD, dIsN, wipeE, List.getElem?_cons_zero, List.getElem?_cons_succ, List.set_cons_zero, List.set_cons_succ, List.cons_append, List.nil_append, List.replicate_succ, List.replicate_zero, List.length_cons, List.length_nil, List.length_map, decide_eq_true_eq, decide_eq_false_iff_not, Bool.not_eq_true', Bool.not_eq_false', Bool.true_eq_false, Bool.false_eq_true, true_implies, false_implies, implies_true, true_and, and_true, Nat.reduceSub, Nat.reduceAdd, reduceCtorEq, Option.map_some, Option.map_none, if_true, if_false, Option.some.injEq, Int.toNat_natCast]
    refine ⟨.inr ⟨by decide, by decide⟩, ?_⟩
    exact hΨ _ ⟨_, by rw [List.length_append, ten_succ (_ + _)]; rfl⟩

/-! the units of the dials -/
def parts : Nat → List Int
  | 0 => []
  | n + 1 => ten n :: parts n
theorem parts_len : ∀ n, (parts n).length = n
  | 0 => rfl
  | n + 1 => by simp [parts, parts_len n]
theorem parts_get : ∀ {n i : Nat}, i < n → (parts n)[i]? = some (ten (n - 1 - i))
  | 0, _, h => by omega
  | n + 1, 0, _ => rfl
  | n + 1, i + 1, h => by
    show (parts n)[i]? = _
    rw [parts_get (by omega)]
    congr 2
    omega
theorem parts_eq (n : Nat) : parts n = (List.range n).map fun i => ten (n - 1 - i) := by
  apply List.ext_getElem?
  intro i
  by_cases h : i < n
  · rw [parts_get h, List.getElem?_map, List.getElem?_range h]
    rfl
  · rw [List.getElem?_eq_none (by rw [parts_len]; omega), List.getElem?_eq_none (by simp; omega)]
theorem parts_mem {n : Nat} {p : Int} (h : p ∈ parts n) : ∃ j, j < n ∧ p = ten j := by
  rw [parts_eq] at h
  obtain ⟨i, hi, rfl⟩ := List.mem_map.mp h
  have := List.mem_range.mp hi
  exact ⟨n - 1 - i, by omega, rfl⟩
theorem s_parts {n : Nat} {Φ : Ent → Prop} (hn : n ≤ 1000) (k : Φ (.d (LI (parts n)))) : p_l_parts [.d (.int n)] Φ := by
  unfold p_l_parts
  rw [shut_eq]
  simp only [pFun, pIxO, pLenO, pPopO, pInsO, pStO, pSlS, qRepT, pStar, qSortT, qInD, pSortSet, pRng3, qMinP, pPar3, pDNew, pDPut, pSortDict, pTupR, pLstR, pRevL, pSeq, pRet, pRetN, pNext, pAsg, pAsgL, pAsgG, pPar, pAug, pApp, pFz, pFor, pGN, pGNil, pGCons, pGT, pVar, pC, pOp, pUn, pFrz, pNil, pCons, pDs, pTup, pLst, pNotT, pChain, pBl, pBlL, pLc, pYes, pCall, pSeqI, pRng1, pRng2, pEnum, pZip, pEZ, pSl, pNoPart, pPart, pIsa1, pIsa2, pCatL, x_If, x_Ite, x_AndT, x_OrT, x_Tst, x_AndV, x_OrV, x_NotV, boolD_d, elD_d, x_IxL, x_IxT, qII, qIC, qAdd, q1C, q2C, qLen, qTuple, qListL, qSum, qAll, qMin2, qMax2, qAbs, qInt, qEq, qNe, qIs, qIsNot, qIn, qNeg, qCatL, qSort, sqD, flatD, dIsN, wipeE, List.getElem?_cons_zero, List.getElem?_cons_succ, List.set_cons_zero, List.set_cons_succ, List.cons_append, List.nil_append, List.replicate_succ, List.replicate_zero, List.length_cons, List.length_nil, List.length_map, decide_eq_true_eq, decide_eq_false_iff_not, Bool.not_eq_true', Bool.not_eq_false', Bool.true_eq_false, Bool.false_eq_true, true_implies, false_implies, implies_true, true_and, and_true, Nat.reduceSub, Nat.reduceAdd, reduceCtorEq, Option.map_some, Option.map_none, if_true, if_false, Option.some.injEq, Int.toNat_natCast]
  refine ⟨by omega, by omega, by omega, ?_⟩
  rw [rngD_map]
  refine for_rule (fun ls rs ρ => ls.length + rs.length = n ∧ ∃ x, ρ = [.d (.int n), .d (LI (parts ls.length)), .d (.int (ten ls.length)), x]) ⟨by simp, _, rfl⟩ ?_ ?_
  · rintro ρ ⟨_, x, rfl⟩
    simp only [pFun, pIxO, pLenO, pPopO, pInsO, pStO, pSlS, qRepT, pStar, qSortT, qInD, pSortSet, pRng3, qMinP, pPar3, pDNew, pDPut, pSortDict, pTupR, pLstR, pRevL, pSeq, pRet, pRetN, pNext, pAsg, pAsgL, pAsgG, pPar, pAug, pApp, pFz, pFor, pGN, pGNil, pGCons, pGT, pVar, pC, pOp, pUn, pFrz, pNil, pCons, pDs, pTup, pLst, pNotT, pChain, pBl, pBlL, pLc, pYes, pCall, pSeqI, pRng1, pRng2, pEnum, pZip, pEZ, pSl, pNoPart, pPart, pIsa1, pIsa2, pCatL, x_If, x_Ite, x_AndT, x_OrT, x_Tst, x_AndV, x_OrV, x_NotV, boolD_d, elD_d, x_IxL, x_IxT, qII, qIC, qAdd, q1C, q2C, qLen, qTuple, qListL, qSum, qAll, qMin2, qMax2, qAbs, qInt, qEq, qNe, qIs, qIsNot, qIn, qNeg, qCatL, qSort, sqD, flatD, dIsN, wipeE, List.getElem?_cons_zero, List.getElem?_cons_succ, List.set_cons_zero, List.set_cons_succ, List.cons_append, List.nil_append, List.replicate_succ, List.replicate_zero, List.length_cons, List.length_nil, List.length_map, decide_eq_true_eq, decide_eq_false_iff_not, Bool.not_eq_true', Bool.not_eq_false', Bool.true_eq_false, Bool.false_eq_true, true_implies, false_implies, implies_true, true_and, and_true, Nat.reduceSub, Nat.reduceAdd, reduceCtorEq, Option.map_some, Option.map_none, if_true, if_false, Option.some.injEq, Int.toNat_natCast]
    simpa using k
  · rintro ls a rs ρ e ⟨hl, x, rfl⟩ Ψ hΨ
    rw [List.length_cons] at hl
    simp only [pFun, pIxO, pLenO, pPopO, pInsO, pStO, pSlS, qRepT, pStar, qSortT, qInD, pSortSet, pRng3, qMinP, pPar3, pDNew, pDPut, pSortDict, pTupR, pLstR, pRevL, pSeq, pRet, pRetN, pNext, pAsg, pAsgL, pAsgG, pPar, pAug, pApp, pFz, pFor, pGN, pGNil, pGCons, pGT, pVar, pC, pOp, pUn, pFrz, pNil, pCons, pDs, pTup, pLst, pNotT, pChain, pBl, pBlL, pLc, pYes, pCall, pSeqI, pRng1, pRng2, pEnum, pZip, pEZ, pSl, pNoPart, pPart, pIsa1, pIsa2, pCatL, x_If, x_Ite, x_AndT, x_OrT, x_Tst, x_AndV, x_OrV, x_NotV, boolD_d, elD_d, x_IxL, x_IxT, qII, qIC, qAdd, q1C, q2C, qLen, qTuple, qListL, qSum, qAll, qMin2, qMax2, qAbs, qInt, qEq, qNe, qIs, qIsNot, qIn, qNeg, qCatL, qSort, sqD, flatD, dIsN, wipeE, List.getElem?_cons_zero, List.getElem?_cons_succ, List.set_cons_zero, List.set_cons_succ, List.cons_append, List.nil_append, List.replicate_succ, List.replicate_zero, List.length_cons, List.length_nil, List.length_map, decide_eq_true_eq, decide_eq_false_iff_not, Bool.not_eq_true', Bool.not_eq_false', Bool.true_eq_false, Bool.false_eq_true, true_implies, false_implies, implies_true, true_and, and_true, Nat.reduceSub, Nat.reduceAdd, reduceCtorEq, Option.map_some, Option.map_none, if_true, if_false, Option.some.injEq, Int.toNat_natCast]
    refine ⟨by omega, by rw [parts_len]; omega, .inr ⟨by decide, by decide⟩, ?_⟩
    exact hΨ _ ⟨by rw [List.length_append, List.length_singleton]; omega, _, by rw [List.length_append, List.length_singleton, ten_succ]; rfl⟩
theorem s_units {n : Nat} {Φ : Ent → Prop} (hn : n ≤ 7) (k : Φ (.d (LI (parts n)))) : p_units [.d (.int n)] Φ := by
  unfold p_units
  rw [shut_eq]
  simp only [pFun, pIxO, pLenO, pPopO, pInsO, pStO, pSlS, qRepT, pStar, qSortT, qInD, pSortSet, pRng3, qMinP, pPar3, pDNew, pDPut, pSortDict, pTupR, pLstR, pRevL, pSeq, pRet, pRetN, pNext, pAsg, pAsgL, pAsgG, pPar, pAug, pApp, pFz, pFor, pGN, pGNil, pGCons, pGT, pVar, pC, pOp, pUn, pFrz, pNil, pCons, pDs, pTup, pLst, pNotT, pChain, pBl, pBlL, pLc, pYes, pCall, pSeqI, pRng1, pRng2, pEnum, pZip, pEZ, pSl, pNoPart, pPart, pIsa1, pIsa2, pCatL, x_If, x_Ite, x_AndT, x_OrT, x_Tst, x_AndV, x_OrV, x_NotV, boolD_d, elD_d, x_IxL, x_IxT, qII, qIC, qAdd, q1C, q2C, qLen, qTuple, qListL, qSum, qAll, qMin2, qMax2, qAbs, qInt, qEq, qNe, qIs, qIsNot, qIn, qNeg, qCatL, qSort, sqD, flatD, dIsN, wipeE, List.getElem?_cons_zero, List.getElem?_cons_succ, List.set_cons_zero, List.set_cons_succ, List.cons_append, List.nil_append, List.replicate_succ, List.replicate_zero, List.length_cons, List.length_nil, List.length_map, decide_eq_true_eq, decide_eq_false_iff_not, Bool.not_eq_true', Bool.not_eq_false', Bool.true_eq_false, Bool.false_eq_true, true_implies, false_implies, implies_true, true_and, and_true, Nat.reduceSub, Nat.reduceAdd, reduceCtorEq, Option.map_some, Option.map_none, if_true, if_false, Option.some.injEq, Int.toNat_natCast]
  refine ⟨by omega, by omega, ?_, ?_⟩
  · rw [rngD_len]; omega
  rw [rngD_map]
  refine lc_map (G := PyData.int) (fun i => ten (n - 1 - i)) (fun i hi Ψ hΨ => ?_) ?_
  · have hi := List.mem_range.mp hi
    simp only [pFun, pIxO, pLenO, pPopO, pInsO, pStO, pSlS, qRepT, pStar, qSortT, qInD, pSortSet, pRng3, qMinP, pPar3, pDNew, pDPut, pSortDict, pTupR, pLstR, pRevL, pSeq, pRet, pRetN, pNext, pAsg, pAsgL, pAsgG, pPar, pAug, pApp, pFz, pFor, pGN, pGNil, pGCons, pGT, pVar, pC, pOp, pUn, pFrz, pNil, pCons, pDs, pTup, pLst, pNotT, pChain, pBl, pBlL, pLc, pYes, pCall, pSeqI, pRng1, pRng2, pEnum, pZip, pEZ, pSl, pNoPart, pPart, pIsa1, pIsa2, pCatL, x_If, x_Ite, x_AndT, x_OrT, x_Tst, x_AndV, x_OrV, x_NotV, boolD_d, elD_d, x_IxL, x_IxT, qII, qIC, qAdd, q1C, q2C, qLen, qTuple, qListL, qSum, qAll, qMin2, qMax2, qAbs, qInt, qEq, qNe, qIs, qIsNot, qIn, qNeg, qCatL, qSort, sqD, flatD, dIsN, wipeE, List.getElem?_cons_zero, List.getElem?_cons_succ, List.set_cons_zero, List.set_cons_succ, List.cons_append, List.nil_append, List.replicate_succ, List.replicate_zero, List.length_cons, List.length_nil, List.length_map, decide_eq_true_eq, decide_eq_false_iff_not, Bool.not_eq_true', Bool.not_eq_false', Bool.true_eq_false, Bool.false_eq_true, true_implies, false_implies, implies_true, true_and, and_true, Nat.reduceSub, Nat.reduceAdd, reduceCtorEq, Option.map_some, Option.map_none, if_true, if_false, Option.some.injEq, Int.toNat_natCast]
    refine s_total (by omega) ?_
    have e : (0 : Int) + (i : Int) + 1 = ((i + 1 : Nat) : Int) := by omega
    rw [e]
    refine s_total (by omega) ?_
    simp only [pFun, pIxO, pLenO, pPopO, pInsO, pStO, pSlS, qRepT, pStar, qSortT, qInD, pSortSet, pRng3, qMinP, pPar3, pDNew, pDPut, pSortDict, pTupR, pLstR, pRevL, pSeq, pRet, pRetN, pNext, pAsg, pAsgL, pAsgG, pPar, pAug, pApp, pFz, pFor, pGN, pGNil, pGCons, pGT, pVar, pC, pOp, pUn, pFrz, pNil, pCons, pDs, pTup, pLst, pNotT, pChain, pBl, pBlL, pLc, pYes, pCall, pSeqI, pRng1, pRng2, pEnum, pZip, pEZ, pSl, pNoPart, pPart, pIsa1, pIsa2, pCatL, x_If, x_Ite, x_AndT, x_OrT, x_Tst, x_AndV, x_OrV, x_NotV, boolD_d, elD_d, x_IxL, x_IxT, qII, qIC, qAdd, q1C, q2C, qLen, qTuple, qListL, qSum, qAll, qMin2, qMax2, qAbs, qInt, qEq, qNe, qIs, qIsNot, qIn, qNeg, qCatL, qSort, sqD, flatD, dIsN, wipeE, List.getElem?_cons_zero, List.getElem?_cons_succ, List.set_cons_zero, List.set_cons_succ, List.cons_append, List.nil_append, List.replicate_succ, List.replicate_zero, List.length_cons, List.length_nil, List.length_map, decide_eq_true_eq, decide_eq_false_iff_not, Bool.not_eq_true', Bool.not_eq_false', Bool.true_eq_false, Bool.false_eq_true, true_implies, false_implies, implies_true, true_and, and_true, Nat.reduceSub, Nat.reduceAdd, reduceCtorEq, Option.map_some, Option.map_none, if_true, if_false, Option.some.injEq, Int.toNat_natCast]
    refine ⟨divOk (ten_pos _) (Int.le_trans (ten_le (b := 9) (by omega)) (by decide)), ?_⟩
    have e2 : n + 1 = (n - 1 - i) + (i + 1 + 1) := by omega
    have e3 : ten (n + 1) / ten (i + 1 + 1) = ten (n - 1 - i) := by
      rw [e2, ten_add]
      exact Int.mul_ediv_cancel _ (Int.ne_of_gt (ten_pos _))
    rw [e3]
    exact hΨ
  · rw [← parts_eq]
    exact k

/-! the gap of two places on a circle -/
def gap (a b w : Int) : Int := if w - (a - b) % w < (a - b) % w then w - (a - b) % w else (a - b) % w
theorem s_apart {a b w : Int} {Φ : Ent → Prop} (hw : 0 < w) (k : Φ (.d (.int (gap a b w)))) : p_apart [.d (.int a), .d (.int b), .d (.int w)] Φ := by
  unfold p_apart
  rw [shut_eq]
  simp only [pFun, pIxO, pLenO, pPopO, pInsO, pStO, pSlS, qRepT, pStar, qSortT, qInD, pSortSet, pRng3, qMinP, pPar3, pDNew, pDPut, pSortDict, pTupR, pLstR, pRevL, pSeq, pRet, pRetN, pNext, pAsg, pAsgL, pAsgG, pPar, pAug, pApp, pFz, pFor, pGN, pGNil, pGCons, pGT, pVar, pC, pOp, pUn, pFrz, pNil, pCons, pDs, pTup, pLst, pNotT, pChain, pBl, pBlL, pLc, pYes, pCall, pSeqI, pRng1, pRng2, pEnum, pZip, pEZ, pSl, pNoPart, pPart, pIsa1, pIsa2, pCatL, x_If, x_Ite, x_AndT, x_OrT, x_Tst, x_AndV, x_OrV, x_NotV, boolD_d, elD_d, x_IxL, x_IxT, qII, qIC, qAdd, q1C, q2C, qLen, qTuple, qListL, qSum, qAll, qMin2, qMax2, qAbs, qInt, qEq, qNe, qIs, qIsNot, qIn, qNeg, qCatL, qSort, sqD, flatD, dIsN, wipeE, List.getElem?_cons_zero, List.getElem?_cons_succ, List.set_cons_zero, List.set_cons_succ, List.cons_append, List.nil_append, List.replicate_succ, List.replicate_zero, List.length_cons, List.length_nil, List.length_map, decide_eq_true_eq, decide_eq_false_iff_not, Bool.not_eq_true', Bool.not_eq_false', Bool.true_eq_false, Bool.false_eq_true, true_implies, false_implies, implies_true, true_and, and_true, Nat.reduceSub, Nat.reduceAdd, reduceCtorEq, Option.map_some, Option.map_none, if_true, if_false, Option.some.injEq, Int.toNat_natCast]
  exact ⟨hw, k⟩
theorem gap_abs {a b w : Int} (hw : 0 < w) : gap a b w = if w - (if a - b < 0 then -(a - b) else a - b) % w < (if a - b < 0 then -(a - b) else a - b) % w then w - (if a - b < 0 then -(a - b) else a - b) % w else (if a - b < 0 then -(a - b) else a - b) % w := by
  unfold gap
  generalize a - b = d
  by_cases h : d < 0
  · rw [if_pos h]
    have m0 := Int.emod_nonneg d (Int.ne_of_gt hw)
    have m1 := Int.emod_lt_of_pos d hw
    have e1 := Int.mul_ediv_add_emod d w
    by_cases z : d % w = 0
    · have e2 : (-d) % w = 0 := Int.emod_eq_zero_of_dvd (Int.dvd_neg.mpr (Int.dvd_of_emod_eq_zero z))
      rw [z, e2]
    · have e2 : (-d) % w = w - d % w := by
        have : -d = (w - d % w) + w * (-(d / w) - 1) := by
          rw [Int.mul_sub, Int.mul_neg]; omega
        rw [this, Int.add_mul_emod_self_left]
        exact Int.emod_eq_of_lt (by omega) (by omega)
      rw [e2]
      split <;> split <;> omega
  · rw [if_neg h]
theorem s_gap {a b w : Int} {Φ : Ent → Prop} (hw : 0 < w) (k : Φ (.d (.int (gap a b w)))) : p_l_gap [.d (.int a), .d (.int b), .d (.int w)] Φ := by
  unfold p_l_gap
  rw [shut_eq]
  simp only [pFun, pIxO, pLenO, pPopO, pInsO, pStO, pSlS, qRepT, pStar, qSortT, qInD, pSortSet, pRng3, qMinP, pPar3, pDNew, pDPut, pSortDict, pTupR, pLstR, pRevL, pSeq, pRet, pRetN, pNext, pAsg, pAsgL, pAsgG, pPar, pAug, pApp, pFz, pFor, pGN, pGNil, pGCons, pGT, pVar, pC, pOp, pUn, pFrz, pNil, pCons, pDs, pTup, pLst, pNotT, pChain, pBl, pBlL, pLc, pYes, pCall, pSeqI, pRng1, pRng2, pEnum, pZip, pEZ, pSl, pNoPart, pPart, pIsa1, pIsa2, pCatL, x_If, x_Ite, x_AndT, x_OrT, x_Tst, x_AndV, x_OrV, x_NotV, boolD_d, elD_d, x_IxL, x_IxT, qII, qIC, qAdd, q1C, q2C, qLen, qTuple, qListL, qSum, qAll, qMin2, qMax2, qAbs, qInt, qEq, qNe, qIs, qIsNot, qIn, qNeg, qCatL, qSort, sqD, flatD, dIsN, wipeE, List.getElem?_cons_zero, List.getElem?_cons_succ, List.set_cons_zero, List.set_cons_succ, List.cons_append, List.nil_append, List.replicate_succ, List.replicate_zero, List.length_cons, List.length_nil, List.length_map, decide_eq_true_eq, decide_eq_false_iff_not, Bool.not_eq_true', Bool.not_eq_false', Bool.true_eq_false, Bool.false_eq_true, true_implies, false_implies, implies_true, true_and, and_true, Nat.reduceSub, Nat.reduceAdd, reduceCtorEq, Option.map_some, Option.map_none, if_true, if_false, Option.some.injEq, Int.toNat_natCast]
  refine ⟨hw, ?_⟩
  rw [gap_abs hw] at k
  exact k
/-- one dial -/
def NearD (p u w c : Int) : Prop := gap (p * u) c (100 * u) ≤ w * u
/-- all dials but the one left out -/
def Near (ig : Option Int) (w c : Int) (ps : List Int) : Prop := ∀ (i : Nat) (p : Int), ps[i]? = some p → ig ≠ some (i : Int) → NearD p (ten (ps.length - 1 - i)) w c
theorem s_is_near {p u c w : Int} {Φ : Ent → Prop} (hu : 0 < u) (hu2 : u ≤ 1000000000) (k : ∀ b : Bool, (b = true ↔ NearD p u w c) → Φ (.d (.bool b))) : p_is_near [.d (.int p), .d (.int u), .d (.int c), .d (.int w)] Φ := by
  unfold p_is_near
  rw [shut_eq]
  simp only [pFun, pIxO, pLenO, pPopO, pInsO, pStO, pSlS, qRepT, pStar, qSortT, qInD, pSortSet, pRng3, qMinP, pPar3, pDNew, pDPut, pSortDict, pTupR, pLstR, pRevL, pSeq, pRet, pRetN, pNext, pAsg, pAsgL, pAsgG, pPar, pAug, pApp, pFz, pFor, pGN, pGNil, pGCons, pGT, pVar, pC, pOp, pUn, pFrz, pNil, pCons, pDs, pTup, pLst, pNotT, pChain, pBl, pBlL, pLc, pYes, pCall, pSeqI, pRng1, pRng2, pEnum, pZip, pEZ, pSl, pNoPart, pPart, pIsa1, pIsa2, pCatL, x_If, x_Ite, x_AndT, x_OrT, x_Tst, x_AndV, x_OrV, x_NotV, boolD_d, elD_d, x_IxL, x_IxT, qII, qIC, qAdd, q1C, q2C, qLen, qTuple, qListL, qSum, qAll, qMin2, qMax2, qAbs, qInt, qEq, qNe, qIs, qIsNot, qIn, qNeg, qCatL, qSort, sqD, flatD, dIsN, wipeE, List.getElem?_cons_zero, List.getElem?_cons_succ, List.set_cons_zero, List.set_cons_succ, List.cons_append, List.nil_append, List.replicate_succ, List.replicate_zero, List.length_cons, List.length_nil, List.length_map, decide_eq_true_eq, decide_eq_false_iff_not, Bool.not_eq_true', Bool.not_eq_false', Bool.true_eq_false, Bool.false_eq_true, true_implies, false_implies, implies_true, true_and, and_true, Nat.reduceSub, Nat.reduceAdd, reduceCtorEq, Option.map_some, Option.map_none, if_true, if_false, Option.some.injEq, Int.toNat_natCast]
  refine ⟨mulR (by omega) (by omega), .inl ⟨by decide, by decide⟩, ?_⟩
  refine s_apart (by omega) ?_
  simp only [pFun, pIxO, pLenO, pPopO, pInsO, pStO, pSlS, qRepT, pStar, qSortT, qInD, pSortSet, pRng3, qMinP, pPar3, pDNew, pDPut, pSortDict, pTupR, pLstR, pRevL, pSeq, pRet, pRetN, pNext, pAsg, pAsgL, pAsgG, pPar, pAug, pApp, pFz, pFor, pGN, pGNil, pGCons, pGT, pVar, pC, pOp, pUn, pFrz, pNil, pCons, pDs, pTup, pLst, pNotT, pChain, pBl, pBlL, pLc, pYes, pCall, pSeqI, pRng1, pRng2, pEnum, pZip, pEZ, pSl, pNoPart, pPart, pIsa1, pIsa2, pCatL, x_If, x_Ite, x_AndT, x_OrT, x_Tst, x_AndV, x_OrV, x_NotV, boolD_d, elD_d, x_IxL, x_IxT, qII, qIC, qAdd, q1C, q2C, qLen, qTuple, qListL, qSum, qAll, qMin2, qMax2, qAbs, qInt, qEq, qNe, qIs, qIsNot, qIn, qNeg, qCatL, qSort, sqD, flatD, dIsN, wipeE, List.getElem?_cons_zero, List.getElem?_cons_succ, List.set_cons_zero, List.set_cons_succ, List.cons_append, List.nil_append, List.replicate_succ, List.replicate_zero, List.length_cons, List.length_nil, List.length_map, decide_eq_true_eq, decide_eq_false_iff_not, Bool.not_eq_true', Bool.not_eq_false', Bool.true_eq_false, Bool.false_eq_true, true_implies, false_implies, implies_true, true_and, and_true, Nat.reduceSub, Nat.reduceAdd, reduceCtorEq, Option.map_some, Option.map_none, if_true, if_false, Option.some.injEq, Int.toNat_natCast]
  exact ⟨mulR (by omega) (by omega), k _ (by unfold NearD; exact decide_eq_true_iff)⟩
theorem enum_map (ps : List Int) : enumD (ps.map PyData.int) = ps.zipIdx.map fun p => .tuple [.int (p.2 : Nat), .int p.1] := by
  unfold enumD
  rw [List.zipIdx_map, List.map_map]
  rfl
theorem zipIdx_mid {α : Type} {l ls rs : List (α × Nat)} {xs : List α} {a : α × Nat} (h : xs.zipIdx = l) (e : l = ls ++ a :: rs) : xs[a.2]? = some a.1 ∧ a.2 = ls.length := by
  have h1 : xs.zipIdx[ls.length]? = some a := by rw [h, e]; simp
  rw [List.getElem?_zipIdx] at h1
  cases q : xs[ls.length]? with
  | none => rw [q] at h1; cases h1
  | some x =>
    rw [q] at h1
    simp at h1
    subst h1
    exact ⟨by simpa using q, by simp⟩
theorem s_near {ps : List Int} {c w : Int} {ig : Option Int} {Φ : Ent → Prop} (hn : ps.length ≤ 7) (k : ∀ b : Bool, (b = true ↔ Near ig w c ps) → Φ (.d (.bool b))) : p_l_near [.d (TI ps), .d (.int c), .d (.int w), .d (optD ig)] Φ := by
  unfold p_l_near
  rw [shut_eq]
  simp only [pFun, pIxO, pLenO, pPopO, pInsO, pStO, pSlS, qRepT, pStar, qSortT, qInD, pSortSet, pRng3, qMinP, pPar3, pDNew, pDPut, pSortDict, pTupR, pLstR, pRevL, pSeq, pRet, pRetN, pNext, pAsg, pAsgL, pAsgG, pPar, pAug, pApp, pFz, pFor, pGN, pGNil, pGCons, pGT, pVar, pC, pOp, pUn, pFrz, pNil, pCons, pDs, pTup, pLst, pNotT, pChain, pBl, pBlL, pLc, pYes, pCall, pSeqI, pRng1, pRng2, pEnum, pZip, pEZ, pSl, pNoPart, pPart, pIsa1, pIsa2, pCatL, x_If, x_Ite, x_AndT, x_OrT, x_Tst, x_AndV, x_OrV, x_NotV, boolD_d, elD_d, x_IxL, x_IxT, qII, qIC, qAdd, q1C, q2C, qLen, qTuple, qListL, qSum, qAll, qMin2, qMax2, qAbs, qInt, qEq, qNe, qIs, qIsNot, qIn, qNeg, qCatL, qSort, sqD, flatD, dIsN, wipeE, List.getElem?_cons_zero, List.getElem?_cons_succ, List.set_cons_zero, List.set_cons_succ, List.cons_append, List.nil_append, List.replicate_succ, List.replicate_zero, List.length_cons, List.length_nil, List.length_map, decide_eq_true_eq, decide_eq_false_iff_not, Bool.not_eq_true', Bool.not_eq_false', Bool.true_eq_false, Bool.false_eq_true, true_implies, false_implies, implies_true, true_and, and_true, Nat.reduceSub, Nat.reduceAdd, reduceCtorEq, Option.map_some, Option.map_none, if_true, if_false, Option.some.injEq, Int.toNat_natCast]
  refine s_parts (by omega) ?_
  rw [enum_map]
  refine for_rule (fun ls rs ρ => (∀ x ∈ ls, ig ≠ some (x.2 : Int) → NearD x.1 (ten (ps.length - 1 - x.2)) w c) ∧ ∃ x y z, ρ = [.d (TI ps), .d (.int c), .d (.int w), .d (optD ig), .d (LI (parts ps.length)), x, y, z]) ⟨fun _ h => by simp at h, _, _, _, rfl⟩ ?_ ?_
  · rintro ρ ⟨h, x, y, z, rfl⟩
    simp only [pFun, pIxO, pLenO, pPopO, pInsO, pStO, pSlS, qRepT, pStar, qSortT, qInD, pSortSet, pRng3, qMinP, pPar3, pDNew, pDPut, pSortDict, pTupR, pLstR, pRevL, pSeq, pRet, pRetN, pNext, pAsg, pAsgL, pAsgG, pPar, pAug, pApp, pFz, pFor, pGN, pGNil, pGCons, pGT, pVar, pC, pOp, pUn, pFrz, pNil, pCons, pDs, pTup, pLst, pNotT, pChain, pBl, pBlL, pLc, pYes, pCall, pSeqI, pRng1, pRng2, pEnum, pZip, pEZ, pSl, pNoPart, pPart, pIsa1, pIsa2, pCatL, x_If, x_Ite, x_AndT, x_OrT, x_Tst, x_AndV, x_OrV, x_NotV, boolD_d, elD_d, x_IxL, x_IxT, qII, qIC, qAdd, q1C, q2C, qLen, qTuple, qListL, qSum, qAll, qMin2, qMax2, qAbs, qInt, qEq, qNe, qIs, qIsNot, qIn, qNeg, qCatL, qSort, sqD, flatD, dIsN, wipeE, List.getElem?_cons_zero, List.getElem?_cons_succ, List.set_cons_zero, List.set_cons_succ, List.cons_append, List.nil_append, List.replicate_succ, List.replicate_zero, List.length_cons, List.length_nil, List.length_map, decide_eq_true_eq, decide_eq_false_iff_not, Bool.not_eq_true', Bool.not_eq_false', Bool.true_eq_false, Bool.false_eq_true, true_implies, false_implies, implies_true, true_and, and_true, Nat.reduceSub, Nat.reduceAdd, reduceCtorEq, Option.map_some, Option.map_none, if_true, if_false, Option.some.injEq, Int.toNat_natCast]
    refine k _ (iff_of_true rfl fun i p hp hi => ?_)
    exact h (p, i) (List.mem_iff_getElem?.mpr ⟨i, by rw [List.getElem?_zipIdx, hp]; simp⟩) hi
  · rintro ls ⟨p, i⟩ rs ρ e ⟨h, x, y, z, rfl⟩ Ψ hΨ
    obtain ⟨hp, hi⟩ := zipIdx_mid rfl e
    have hp : ps[i]? = some p := hp
    have hlt : i < ps.length := (List.getElem?_eq_some_iff.mp hp).1
    have tp := ten_pos (ps.length - 1 - i)
    have t7 := ten_le7 (n := ps.length - 1 - i) (by omega)
    have ix : L2.atI (parts ps.length |>.map PyData.int) (i : Int) = some (.int (ten (ps.length - 1 - i))) := L2.atI_nat (by rw [List.getElem?_map, parts_get hlt]; rfl)
    simp only [pFun, pIxO, pLenO, pPopO, pInsO, pStO, pSlS, qRepT, pStar, qSortT, qInD, pSortSet, pRng3, qMinP, pPar3, pDNew, pDPut, pSortDict, pTupR, pLstR, pRevL, pSeq, pRet, pRetN, pNext, pAsg, pAsgL, pAsgG, pPar, pAug, pApp, pFz, pFor, pGN, pGNil, pGCons, pGT, pVar, pC, pOp, pUn, pFrz, pNil, pCons, pDs, pTup, pLst, pNotT, pChain, pBl, pBlL, pLc, pYes, pCall, pSeqI, pRng1, pRng2, pEnum, pZip, pEZ, pSl, pNoPart, pPart, pIsa1, pIsa2, pCatL, x_If, x_Ite, x_AndT, x_OrT, x_Tst, x_AndV, x_OrV, x_NotV, boolD_d, elD_d, x_IxL, x_IxT, qII, qIC, qAdd, q1C, q2C, qLen, qTuple, qListL, qSum, qAll, qMin2, qMax2, qAbs, qInt, qEq, qNe, qIs, qIsNot, qIn, qNeg, qCatL, qSort, sqD, flatD, dIsN, wipeE, List.getElem?_cons_zero, List.getElem?_cons_succ, List.set_cons_zero, List.set_cons_succ, List.cons_append, List.nil_append, List.replicate_succ, List.replicate_zero, List.length_cons, List.length_nil, List.length_map, decide_eq_true_eq, decide_eq_false_iff_not, Bool.not_eq_true', Bool.not_eq_false', Bool.true_eq_false, Bool.false_eq_true, true_implies, false_implies, implies_true, true_and, and_true, Nat.reduceSub, Nat.reduceAdd, reduceCtorEq, Option.map_some, Option.map_none, if_true, if_false, Option.some.injEq, Int.toNat_natCast, ix]
    refine ⟨_, rfl, by simp [SeqAt.shaped, PyData.canLay0, PyData.depth], by cases ig <;> simp [optD, SeqAt.shaped, PyData.canLay0, PyData.depth], ?_⟩
    have eq : PyData.eqv (.int (i : Int)) (optD ig) = decide (some (i : Int) = ig) := by
      have := eqv_opt (some (i : Int)) ig
      exact this
    rw [eq]
    have nxt : (ig ≠ some (i : Int) → NearD p (ten (ps.length - 1 - i)) w c) → Ψ [.d (TI ps), .d (.int c), .d (.int w), .d (optD ig), .d (LI (parts ps.length)), .d (.int i), .d (.int p), .d (.int (ten (ps.length - 1 - i)))] := fun h2 => hΨ _ ⟨fun x hx hxi => by
      rcases List.mem_append.mp hx with hx | hx
      · exact h x hx hxi
      · rw [List.mem_singleton] at hx
        subst hx
        exact h2 hxi, _, _, _, rfl⟩
    refine ⟨fun hne => ?_, fun he => nxt fun hne => absurd (of_decide_eq_true he).symm hne⟩
    refine ⟨mulR (by omega) (by omega), .inl ⟨by decide, by decide⟩, ?_⟩
    refine s_gap (by omega) ?_
    simp only [pFun, pIxO, pLenO, pPopO, pInsO, pStO, pSlS, qRepT, pStar, qSortT, qInD, pSortSet, pRng3, qMinP, pPar3, pDNew, pDPut, pSortDict, pTupR, pLstR, pRevL, pSeq, pRet, pRetN, pNext, pAsg, pAsgL, pAsgG, pPar, pAug, pApp, pFz, pFor, pGN, pGNil, pGCons, pGT, pVar, pC, pOp, pUn, pFrz, pNil, pCons, pDs, pTup, pLst, pNotT, pChain, pBl, pBlL, pLc, pYes, pCall, pSeqI, pRng1, pRng2, pEnum, pZip, pEZ, pSl, pNoPart, pPart, pIsa1, pIsa2, pCatL, x_If, x_Ite, x_AndT, x_OrT, x_Tst, x_AndV, x_OrV, x_NotV, boolD_d, elD_d, x_IxL, x_IxT, qII, qIC, qAdd, q1C, q2C, qLen, qTuple, qListL, qSum, qAll, qMin2, qMax2, qAbs, qInt, qEq, qNe, qIs, qIsNot, qIn, qNeg, qCatL, qSort, sqD, flatD, dIsN, wipeE, List.getElem?_cons_zero, List.getElem?_cons_succ, List.set_cons_zero, List.set_cons_succ, List.cons_append, List.nil_append, List.replicate_succ, List.replicate_zero, List.length_cons, List.length_nil, List.length_map, decide_eq_true_eq, decide_eq_false_iff_not, Bool.not_eq_true', Bool.not_eq_false', Bool.true_eq_false, Bool.false_eq_true, true_implies, false_implies, implies_true, true_and, and_true, Nat.reduceSub, Nat.reduceAdd, reduceCtorEq, Option.map_some, Option.map_none, if_true, if_false, Option.some.injEq, Int.toNat_natCast]
    refine ⟨mulR (by omega) (by omega), fun hb => ?_, fun hb => ?_⟩
    · refine k _ (iff_of_false (by simp) fun hN => ?_)
      have := hN i p hp fun q => by simp [q] at hne
      unfold NearD at this
      omega
    · refine nxt fun _ => ?_
      unfold NearD
      omega
end Law

set_option Elab.async false
set_option linter.all false
set_option maxRecDepth 100000
set_option maxHeartbeats 1000000
/-! PuR: fits, shown, drawn counts and dials. -/
namespace Law
open PySem Pu

theorem zip_map (ps us : List Int) : zipD (ps.map PyData.int) (us.map PyData.int) = (ps.zip us).map pairD := by
  unfold zipD
  rw [List.zipWith_map, List.zip_eq_zipWith, List.map_zipWith]
  rfl
theorem zip_parts_mem {ps : List Int} {a : Int × Int} (h : a ∈ ps.zip (parts ps.length)) : ∃ i, ps[i]? = some a.1 ∧ i < ps.length ∧ a.2 = ten (ps.length - 1 - i) := by
  obtain ⟨i, hi⟩ := List.mem_iff_getElem?.mp h
  rw [List.getElem?_zip_eq_some] at hi
  have hl := (List.getElem?_eq_some_iff.mp hi.1).1
  rw [parts_get hl] at hi
  exact ⟨i, hi.1, hl, (Option.some.inj hi.2).symm⟩
theorem zip_parts_get {ps : List Int} {i : Nat} {p : Int} (h : ps[i]? = some p) : (p, ten (ps.length - 1 - i)) ∈ ps.zip (parts ps.length) := by
  have hl := (List.getElem?_eq_some_iff.mp h).1
  exact List.mem_iff_getElem?.mpr ⟨i, List.getElem?_zip_eq_some.mpr ⟨h, parts_get hl⟩⟩
theorem all2_bool {α : Type} {R : α → Prop} : ∀ {l : List α} {bs : List Bool}, All2 (fun a b => b = true ↔ R a) l bs → (bs.all id = true ↔ ∀ a ∈ l, R a)
  | _, _, .nil => by simp
  | _, _, .cons h t => by
    simp only [List.all_cons, Bool.and_eq_true, List.mem_cons, forall_eq_or_imp, id_eq]
    rw [all2_bool t, h]
theorem _root_.Pu.All2.len {α β : Type} {R : α → β → Prop} : ∀ {as : List α} {bs : List β}, All2 R as bs → bs.length = as.length
  | _, _, .nil => rfl
  | _, _, .cons _ t => by simp [Pu.All2.len t]
theorem s_fits {ps : List Int} {c w : Int} {Φ : Ent → Prop} (hn : ps.length ≤ 7) (k : ∀ b : Bool, (b = true ↔ Near none w c ps) → Φ (.d (.bool b))) : p_fits [.d (TI ps), .d (.int c), .d (.int w)] Φ := by
  unfold p_fits
  rw [shut_eq]
  simp only [pFun, pIxO, pLenO, pPopO, pInsO, pStO, pSlS, qRepT, pStar, qSortT, qInD, pSortSet, pRng3, qMinP, pPar3, pDNew, pDPut, pSortDict, pTupR, pLstR, pRevL, pSeq, pRet, pRetN, pNext, pAsg, pAsgL, pAsgG, pPar, pAug, pApp, pFz, pFor, pGN, pGNil, pGCons, pGT, pVar, pC, pOp, pUn, pFrz, pNil, pCons, pDs, pTup, pLst, pNotT, pChain, pBl, pBlL, pLc, pYes, pCall, pSeqI, pRng1, pRng2, pEnum, pZip, pEZ, pSl, pNoPart, pPart, pIsa1, pIsa2, pCatL, x_If, x_Ite, x_AndT, x_OrT, x_Tst, x_AndV, x_OrV, x_NotV, boolD_d, elD_d, x_IxL, x_IxT, qII, qIC, qAdd, q1C, q2C, qLen, qTuple, qListL, qSum, qAll, qMin2, qMax2, qAbs, qInt, qEq, qNe, qIs, qIsNot, qIn, qNeg, qCatL, qSort, sqD, flatD, dIsN, wipeE, List.getElem?_cons_zero, List.getElem?_cons_succ, List.set_cons_zero, List.set_cons_succ, List.cons_append, List.nil_append, List.replicate_succ, List.replicate_zero, List.length_cons, List.length_nil, List.length_map, decide_eq_true_eq, decide_eq_false_iff_not, Bool.not_eq_true', Bool.not_eq_false', Bool.true_eq_false, Bool.false_eq_true, true_implies, false_implies, implies_true, true_and, and_true, Nat.reduceSub, Nat.reduceAdd, reduceCtorEq, Option.map_some, Option.map_none, if_true, if_false, Option.some.injEq, Int.toNat_natCast]
  refine s_units hn ?_
  simp only [pFun, pIxO, pLenO, pPopO, pInsO, pStO, pSlS, qRepT, pStar, qSortT, qInD, pSortSet, pRng3, qMinP, pPar3, pDNew, pDPut, pSortDict, pTupR, pLstR, pRevL, pSeq, pRet, pRetN, pNext, pAsg, pAsgL, pAsgG, pPar, pAug, pApp, pFz, pFor, pGN, pGNil, pGCons, pGT, pVar, pC, pOp, pUn, pFrz, pNil, pCons, pDs, pTup, pLst, pNotT, pChain, pBl, pBlL, pLc, pYes, pCall, pSeqI, pRng1, pRng2, pEnum, pZip, pEZ, pSl, pNoPart, pPart, pIsa1, pIsa2, pCatL, x_If, x_Ite, x_AndT, x_OrT, x_Tst, x_AndV, x_OrV, x_NotV, boolD_d, elD_d, x_IxL, x_IxT, qII, qIC, qAdd, q1C, q2C, qLen, qTuple, qListL, qSum, qAll, qMin2, qMax2, qAbs, qInt, qEq, qNe, qIs, qIsNot, qIn, qNeg, qCatL, qSort, sqD, flatD, dIsN, wipeE, List.getElem?_cons_zero, List.getElem?_cons_succ, List.set_cons_zero, List.set_cons_succ, List.cons_append, List.nil_append, List.replicate_succ, List.replicate_zero, List.length_cons, List.length_nil, List.length_map, decide_eq_true_eq, decide_eq_false_iff_not, Bool.not_eq_true', Bool.not_eq_false', Bool.true_eq_false, Bool.false_eq_true, true_implies, false_implies, implies_true, true_and, and_true, Nat.reduceSub, Nat.reduceAdd, reduceCtorEq, Option.map_some, Option.map_none, if_true, if_false, Option.some.injEq, Int.toNat_natCast]
  refine ⟨by rw [zip_map]; simp [parts_len]; omega, ?_⟩
  rw [zip_map]
  refine lc_rel (G := PyData.bool) (fun a b => b = true ↔ NearD a.1 a.2 w c) (fun a ha Ψ hΨ => ?_) fun ys hys => ?_
  · obtain ⟨i, hi, hl, e⟩ := zip_parts_mem ha
    simp only [pFun, pIxO, pLenO, pPopO, pInsO, pStO, pSlS, qRepT, pStar, qSortT, qInD, pSortSet, pRng3, qMinP, pPar3, pDNew, pDPut, pSortDict, pTupR, pLstR, pRevL, pSeq, pRet, pRetN, pNext, pAsg, pAsgL, pAsgG, pPar, pAug, pApp, pFz, pFor, pGN, pGNil, pGCons, pGT, pVar, pC, pOp, pUn, pFrz, pNil, pCons, pDs, pTup, pLst, pNotT, pChain, pBl, pBlL, pLc, pYes, pCall, pSeqI, pRng1, pRng2, pEnum, pZip, pEZ, pSl, pNoPart, pPart, pIsa1, pIsa2, pCatL, x_If, x_Ite, x_AndT, x_OrT, x_Tst, x_AndV, x_OrV, x_NotV, boolD_d, elD_d, x_IxL, x_IxT, qII, qIC, qAdd, q1C, q2C, qLen, qTuple, qListL, qSum, qAll, qMin2, qMax2, qAbs, qInt, qEq, qNe, qIs, qIsNot, qIn, qNeg, qCatL, qSort, sqD, flatD, dIsN, wipeE, List.getElem?_cons_zero, List.getElem?_cons_succ, List.set_cons_zero, List.set_cons_succ, List.cons_append, List.nil_append, List.replicate_succ, List.replicate_zero, List.length_cons, List.length_nil, List.length_map, decide_eq_true_eq, decide_eq_false_iff_not, Bool.not_eq_true', Bool.not_eq_false', Bool.true_eq_false, Bool.false_eq_true, true_implies, false_implies, implies_true, true_and, and_true, Nat.reduceSub, Nat.reduceAdd, reduceCtorEq, Option.map_some, Option.map_none, if_true, if_false, Option.some.injEq, Int.toNat_natCast, pairD]
    have t7 := ten_le7 (n := ps.length - 1 - i) (by omega)
    have tp := ten_pos (ps.length - 1 - i)
    refine s_is_near (by rw [e]; exact tp) (by rw [e]; omega) fun b hb => hΨ b hb
  · refine ⟨ys, rfl, k _ ?_⟩
    rw [all2_bool hys]
    constructor
    · exact fun h i p hp _ => h _ (zip_parts_get hp)
    · intro h a ha
      obtain ⟨i, hi, hl, e⟩ := zip_parts_mem ha
      have := h i a.1 hi (by simp)
      rw [e]
      exact this

/-- the exact positions, rounded down -/
def shownL (n : Nat) (c : Int) : List Int := (parts n).map fun u => c / u % 100
theorem s_shown {n : Nat} {c : Int} {Φ : Ent → Prop} (hn : n ≤ 7) (k : Φ (.d (TI (shownL n c)))) : p_shown [.d (.int n), .d (.int c)] Φ := by
  unfold p_shown
  rw [shut_eq]
  simp only [pFun, pIxO, pLenO, pPopO, pInsO, pStO, pSlS, qRepT, pStar, qSortT, qInD, pSortSet, pRng3, qMinP, pPar3, pDNew, pDPut, pSortDict, pTupR, pLstR, pRevL, pSeq, pRet, pRetN, pNext, pAsg, pAsgL, pAsgG, pPar, pAug, pApp, pFz, pFor, pGN, pGNil, pGCons, pGT, pVar, pC, pOp, pUn, pFrz, pNil, pCons, pDs, pTup, pLst, pNotT, pChain, pBl, pBlL, pLc, pYes, pCall, pSeqI, pRng1, pRng2, pEnum, pZip, pEZ, pSl, pNoPart, pPart, pIsa1, pIsa2, pCatL, x_If, x_Ite, x_AndT, x_OrT, x_Tst, x_AndV, x_OrV, x_NotV, boolD_d, elD_d, x_IxL, x_IxT, qII, qIC, qAdd, q1C, q2C, qLen, qTuple, qListL, qSum, qAll, qMin2, qMax2, qAbs, qInt, qEq, qNe, qIs, qIsNot, qIn, qNeg, qCatL, qSort, sqD, flatD, dIsN, wipeE, List.getElem?_cons_zero, List.getElem?_cons_succ, List.set_cons_zero, List.set_cons_succ, List.cons_append, List.nil_append, List.replicate_succ, List.replicate_zero, List.length_cons, List.length_nil, List.length_map, decide_eq_true_eq, decide_eq_false_iff_not, Bool.not_eq_true', Bool.not_eq_false', Bool.true_eq_false, Bool.false_eq_true, true_implies, false_implies, implies_true, true_and, and_true, Nat.reduceSub, Nat.reduceAdd, reduceCtorEq, Option.map_some, Option.map_none, if_true, if_false, Option.some.injEq, Int.toNat_natCast]
  refine s_units hn ?_
  simp only [pFun, pIxO, pLenO, pPopO, pInsO, pStO, pSlS, qRepT, pStar, qSortT, qInD, pSortSet, pRng3, qMinP, pPar3, pDNew, pDPut, pSortDict, pTupR, pLstR, pRevL, pSeq, pRet, pRetN, pNext, pAsg, pAsgL, pAsgG, pPar, pAug, pApp, pFz, pFor, pGN, pGNil, pGCons, pGT, pVar, pC, pOp, pUn, pFrz, pNil, pCons, pDs, pTup, pLst, pNotT, pChain, pBl, pBlL, pLc, pYes, pCall, pSeqI, pRng1, pRng2, pEnum, pZip, pEZ, pSl, pNoPart, pPart, pIsa1, pIsa2, pCatL, x_If, x_Ite, x_AndT, x_OrT, x_Tst, x_AndV, x_OrV, x_NotV, boolD_d, elD_d, x_IxL, x_IxT, qII, qIC, qAdd, q1C, q2C, qLen, qTuple, qListL, qSum, qAll, qMin2, qMax2, qAbs, qInt, qEq, qNe, qIs, qIsNot, qIn, qNeg, qCatL, qSort, sqD, flatD, dIsN, wipeE, List.getElem?_cons_zero, List.getElem?_cons_succ, List.set_cons_zero, List.set_cons_succ, List.cons_append, List.nil_append, List.replicate_succ, List.replicate_zero, List.length_cons, List.length_nil, List.length_map, decide_eq_true_eq, decide_eq_false_iff_not, Bool.not_eq_true', Bool.not_eq_false', Bool.true_eq_false, Bool.false_eq_true, true_implies, false_implies, implies_true, true_and, and_true, Nat.reduceSub, Nat.reduceAdd, reduceCtorEq, Option.map_some, Option.map_none, if_true, if_false, Option.some.injEq, Int.toNat_natCast]
  refine ⟨by rw [parts_len]; omega, ?_⟩
  refine lc_map (G := PyData.int) (fun u => c / u % 100) (fun u hu Ψ hΨ => ?_) k
  obtain ⟨j, hj, rfl⟩ := parts_mem hu
  simp only [pFun, pIxO, pLenO, pPopO, pInsO, pStO, pSlS, qRepT, pStar, qSortT, qInD, pSortSet, pRng3, qMinP, pPar3, pDNew, pDPut, pSortDict, pTupR, pLstR, pRevL, pSeq, pRet, pRetN, pNext, pAsg, pAsgL, pAsgG, pPar, pAug, pApp, pFz, pFor, pGN, pGNil, pGCons, pGT, pVar, pC, pOp, pUn, pFrz, pNil, pCons, pDs, pTup, pLst, pNotT, pChain, pBl, pBlL, pLc, pYes, pCall, pSeqI, pRng1, pRng2, pEnum, pZip, pEZ, pSl, pNoPart, pPart, pIsa1, pIsa2, pCatL, x_If, x_Ite, x_AndT, x_OrT, x_Tst, x_AndV, x_OrV, x_NotV, boolD_d, elD_d, x_IxL, x_IxT, qII, qIC, qAdd, q1C, q2C, qLen, qTuple, qListL, qSum, qAll, qMin2, qMax2, qAbs, qInt, qEq, qNe, qIs, qIsNot, qIn, qNeg, qCatL, qSort, sqD, flatD, dIsN, wipeE, List.getElem?_cons_zero, List.getElem?_cons_succ, List.set_cons_zero, List.set_cons_succ, List.cons_append, List.nil_append, List.replicate_succ, List.replicate_zero, List.length_cons, List.length_nil, List.length_map, decide_eq_true_eq, decide_eq_false_iff_not, Bool.not_eq_true', Bool.not_eq_false', Bool.true_eq_false, Bool.false_eq_true, true_implies, false_implies, implies_true, true_and, and_true, Nat.reduceSub, Nat.reduceAdd, reduceCtorEq, Option.map_some, Option.map_none, if_true, if_false, Option.some.injEq, Int.toNat_natCast]
  exact ⟨divOk (ten_pos _) (Int.le_trans (ten_le7 (by omega)) (by decide)), by decide, hΨ⟩

/-! what is drawn -/
theorem s_count {n : Nat} {Φ : Ent → Prop} (hn : n ≤ 6) (h1 : 1 ≤ n) (k : ∀ c : Int, 0 ≤ c → c < ten (n + 1) → Φ (.d (.int c))) : p_l_count [.tp, .d (.int n)] Φ := by
  unfold p_l_count
  rw [shut_eq]
  simp only [pFun, pIxO, pLenO, pPopO, pInsO, pStO, pSlS, qRepT, pStar, qSortT, qInD, pSortSet, pRng3, qMinP, pPar3, pDNew, pDPut, pSortDict, pTupR, pLstR, pRevL, pSeq, pRet, pRetN, pNext, pAsg, pAsgL, pAsgG, pPar, pAug, pApp, pFz, pFor, pGN, pGNil, pGCons, pGT, pVar, pC, pOp, pUn, pFrz, pNil, pCons, pDs, pTup, pLst, pNotT, pChain, pBl, pBlL, pLc, pYes, pCall, pSeqI, pRng1, pRng2, pEnum, pZip, pEZ, pSl, pNoPart, pPart, pIsa1, pIsa2, pCatL, x_If, x_Ite, x_AndT, x_OrT, x_Tst, x_AndV, x_OrV, x_NotV, boolD_d, elD_d, x_IxL, x_IxT, qII, qIC, qAdd, q1C, q2C, qLen, qTuple, qListL, qSum, qAll, qMin2, qMax2, qAbs, qInt, qEq, qNe, qIs, qIsNot, qIn, qNeg, qCatL, qSort, sqD, flatD, dIsN, wipeE, List.getElem?_cons_zero, List.getElem?_cons_succ, List.set_cons_zero, List.set_cons_succ, List.cons_append, List.nil_append, List.replicate_succ, List.replicate_zero, List.length_cons, List.length_nil, List.length_map, decide_eq_true_eq, decide_eq_false_iff_not, Bool.not_eq_true', Bool.not_eq_false', Bool.true_eq_false, Bool.false_eq_true, true_implies, false_implies, implies_true, true_and, and_true, Nat.reduceSub, Nat.reduceAdd, reduceCtorEq, Option.map_some, Option.map_none, if_true, if_false, Option.some.injEq, Int.toNat_natCast]
  refine s_size (by omega) ?_
  have t2 : ten 2 ≤ ten (n + 1) := ten_le (by omega)
  have t2' : ten 2 = 100 := rfl
  have t7 := ten_le7 (n := n + 1) (by omega)
  refine s_draw (by decide) (by decide) fun d1 a1 b1 => ?_
  simp only [pFun, pIxO, pLenO, pPopO, pInsO, pStO, pSlS, qRepT, pStar, qSortT, qInD, pSortSet, pRng3, qMinP, pPar3, pDNew, pDPut, pSortDict, pTupR, pLstR, pRevL, pSeq, pRet, pRetN, pNext, pAsg, pAsgL, pAsgG, pPar, pAug, pApp, pFz, pFor, pGN, pGNil, pGCons, pGT, pVar, pC, pOp, pUn, pFrz, pNil, pCons, pDs, pTup, pLst, pNotT, pChain, pBl, pBlL, pLc, pYes, pCall, pSeqI, pRng1, pRng2, pEnum, pZip, pEZ, pSl, pNoPart, pPart, pIsa1, pIsa2, pCatL, x_If, x_Ite, x_AndT, x_OrT, x_Tst, x_AndV, x_OrV, x_NotV, boolD_d, elD_d, x_IxL, x_IxT, qII, qIC, qAdd, q1C, q2C, qLen, qTuple, qListL, qSum, qAll, qMin2, qMax2, qAbs, qInt, qEq, qNe, qIs, qIsNot, qIn, qNeg, qCatL, qSort, sqD, flatD, dIsN, wipeE, List.getElem?_cons_zero, List.getElem?_cons_succ, List.set_cons_zero, List.set_cons_succ, List.cons_append, List.nil_append, List.replicate_succ, List.replicate_zero, List.length_cons, List.length_nil, List.length_map, decide_eq_true_eq, decide_eq_false_iff_not, Bool.not_eq_true', Bool.not_eq_false', Bool.true_eq_false, Bool.false_eq_true, true_implies, false_implies, implies_true, true_and, and_true, Nat.reduceSub, Nat.reduceAdd, reduceCtorEq, Option.map_some, Option.map_none, if_true, if_false, Option.some.injEq, Int.toNat_natCast]
  refine ⟨mulR (by decide) (by decide), ?_⟩
  refine s_draw (by decide) (by decide) fun d2 a2 b2 => ?_
  simp only [pFun, pIxO, pLenO, pPopO, pInsO, pStO, pSlS, qRepT, pStar, qSortT, qInD, pSortSet, pRng3, qMinP, pPar3, pDNew, pDPut, pSortDict, pTupR, pLstR, pRevL, pSeq, pRet, pRetN, pNext, pAsg, pAsgL, pAsgG, pPar, pAug, pApp, pFz, pFor, pGN, pGNil, pGCons, pGT, pVar, pC, pOp, pUn, pFrz, pNil, pCons, pDs, pTup, pLst, pNotT, pChain, pBl, pBlL, pLc, pYes, pCall, pSeqI, pRng1, pRng2, pEnum, pZip, pEZ, pSl, pNoPart, pPart, pIsa1, pIsa2, pCatL, x_If, x_Ite, x_AndT, x_OrT, x_Tst, x_AndV, x_OrV, x_NotV, boolD_d, elD_d, x_IxL, x_IxT, qII, qIC, qAdd, q1C, q2C, qLen, qTuple, qListL, qSum, qAll, qMin2, qMax2, qAbs, qInt, qEq, qNe, qIs, qIsNot, qIn, qNeg, qCatL, qSort, sqD, flatD, dIsN, wipeE, List.getElem?_cons_zero, List.getElem?_cons_succ, List.set_cons_zero, List.set_cons_succ, List.cons_append, List.nil_append, List.replicate_succ, List.replicate_zero, List.length_cons, List.length_nil, List.length_map, decide_eq_true_eq, decide_eq_false_iff_not, Bool.not_eq_true', Bool.not_eq_false', Bool.true_eq_false, Bool.false_eq_true, true_implies, false_implies, implies_true, true_and, and_true, Nat.reduceSub, Nat.reduceAdd, reduceCtorEq, Option.map_some, Option.map_none, if_true, if_false, Option.some.injEq, Int.toNat_natCast]
  refine ⟨mulR (by decide) (by decide), ?_⟩
  refine s_draw (by decide) (by decide) fun d3 a3 b3 => ?_
  simp only [pFun, pIxO, pLenO, pPopO, pInsO, pStO, pSlS, qRepT, pStar, qSortT, qInD, pSortSet, pRng3, qMinP, pPar3, pDNew, pDPut, pSortDict, pTupR, pLstR, pRevL, pSeq, pRet, pRetN, pNext, pAsg, pAsgL, pAsgG, pPar, pAug, pApp, pFz, pFor, pGN, pGNil, pGCons, pGT, pVar, pC, pOp, pUn, pFrz, pNil, pCons, pDs, pTup, pLst, pNotT, pChain, pBl, pBlL, pLc, pYes, pCall, pSeqI, pRng1, pRng2, pEnum, pZip, pEZ, pSl, pNoPart, pPart, pIsa1, pIsa2, pCatL, x_If, x_Ite, x_AndT, x_OrT, x_Tst, x_AndV, x_OrV, x_NotV, boolD_d, elD_d, x_IxL, x_IxT, qII, qIC, qAdd, q1C, q2C, qLen, qTuple, qListL, qSum, qAll, qMin2, qMax2, qAbs, qInt, qEq, qNe, qIs, qIsNot, qIn, qNeg, qCatL, qSort, sqD, flatD, dIsN, wipeE, List.getElem?_cons_zero, List.getElem?_cons_succ, List.set_cons_zero, List.set_cons_succ, List.cons_append, List.nil_append, List.replicate_succ, List.replicate_zero, List.length_cons, List.length_nil, List.length_map, decide_eq_true_eq, decide_eq_false_iff_not, Bool.not_eq_true', Bool.not_eq_false', Bool.true_eq_false, Bool.false_eq_true, true_implies, false_implies, implies_true, true_and, and_true, Nat.reduceSub, Nat.reduceAdd, reduceCtorEq, Option.map_some, Option.map_none, if_true, if_false, Option.some.injEq, Int.toNat_natCast]
  refine ⟨by omega, ?_⟩
  refine s_draw (by decide) (by decide) fun d4 a4 b4 => ?_
  simp only [pFun, pIxO, pLenO, pPopO, pInsO, pStO, pSlS, qRepT, pStar, qSortT, qInD, pSortSet, pRng3, qMinP, pPar3, pDNew, pDPut, pSortDict, pTupR, pLstR, pRevL, pSeq, pRet, pRetN, pNext, pAsg, pAsgL, pAsgG, pPar, pAug, pApp, pFz, pFor, pGN, pGNil, pGCons, pGT, pVar, pC, pOp, pUn, pFrz, pNil, pCons, pDs, pTup, pLst, pNotT, pChain, pBl, pBlL, pLc, pYes, pCall, pSeqI, pRng1, pRng2, pEnum, pZip, pEZ, pSl, pNoPart, pPart, pIsa1, pIsa2, pCatL, x_If, x_Ite, x_AndT, x_OrT, x_Tst, x_AndV, x_OrV, x_NotV, boolD_d, elD_d, x_IxL, x_IxT, qII, qIC, qAdd, q1C, q2C, qLen, qTuple, qListL, qSum, qAll, qMin2, qMax2, qAbs, qInt, qEq, qNe, qIs, qIsNot, qIn, qNeg, qCatL, qSort, sqD, flatD, dIsN, wipeE, List.getElem?_cons_zero, List.getElem?_cons_succ, List.set_cons_zero, List.set_cons_succ, List.cons_append, List.nil_append, List.replicate_succ, List.replicate_zero, List.length_cons, List.length_nil, List.length_map, decide_eq_true_eq, decide_eq_false_iff_not, Bool.not_eq_true', Bool.not_eq_false', Bool.true_eq_false, Bool.false_eq_true, true_implies, false_implies, implies_true, true_and, and_true, Nat.reduceSub, Nat.reduceAdd, reduceCtorEq, Option.map_some, Option.map_none, if_true, if_false, Option.some.injEq, Int.toNat_natCast]
  refine ⟨by omega, divOk (by decide) (by decide), mulR (by decide) (by decide), by decide, ?_⟩
  refine s_draw (by decide) (by decide) fun d5 a5 b5 => ?_
  simp only [pFun, pIxO, pLenO, pPopO, pInsO, pStO, pSlS, qRepT, pStar, qSortT, qInD, pSortSet, pRng3, qMinP, pPar3, pDNew, pDPut, pSortDict, pTupR, pLstR, pRevL, pSeq, pRet, pRetN, pNext, pAsg, pAsgL, pAsgG, pPar, pAug, pApp, pFz, pFor, pGN, pGNil, pGCons, pGT, pVar, pC, pOp, pUn, pFrz, pNil, pCons, pDs, pTup, pLst, pNotT, pChain, pBl, pBlL, pLc, pYes, pCall, pSeqI, pRng1, pRng2, pEnum, pZip, pEZ, pSl, pNoPart, pPart, pIsa1, pIsa2, pCatL, x_If, x_Ite, x_AndT, x_OrT, x_Tst, x_AndV, x_OrV, x_NotV, boolD_d, elD_d, x_IxL, x_IxT, qII, qIC, qAdd, q1C, q2C, qLen, qTuple, qListL, qSum, qAll, qMin2, qMax2, qAbs, qInt, qEq, qNe, qIs, qIsNot, qIn, qNeg, qCatL, qSort, sqD, flatD, dIsN, wipeE, List.getElem?_cons_zero, List.getElem?_cons_succ, List.set_cons_zero, List.set_cons_succ, List.cons_append, List.nil_append, List.replicate_succ, List.replicate_zero, List.length_cons, List.length_nil, List.length_map, decide_eq_true_eq, decide_eq_false_iff_not, Bool.not_eq_true', Bool.not_eq_false', Bool.true_eq_false, Bool.false_eq_true, true_implies, false_implies, implies_true, true_and, and_true, Nat.reduceSub, Nat.reduceAdd, reduceCtorEq, Option.map_some, Option.map_none, if_true, if_false, Option.some.injEq, Int.toNat_natCast]
  have m0 := Int.emod_nonneg (((d1 * 1000 + d2) * 10) + d3) (show ten (n + 1) ≠ 0 by omega)
  have m1 := Int.emod_lt_of_pos (((d1 * 1000 + d2) * 10) + d3) (show 0 < ten (n + 1) by omega)
  have z : d5 = 0 ∨ d5 = 1 ∨ d5 = 2 ∨ d5 = 3 := by omega
  rcases z with rfl | rfl | rfl | rfl
  · exact ⟨_, rfl, k _ m0 m1⟩
  · exact ⟨_, rfl, k _ (by omega) (by omega)⟩
  · exact ⟨_, rfl, k _ (by omega) (by omega)⟩
  · exact ⟨_, rfl, k _ (by omega) (by omega)⟩
/-- positions seen of a count, each at most `most` down and `most + 1` up -/
def SeenOf (c m : Int) (ps : List Int) : Prop := ∀ i p, ps[i]? = some p → 0 ≤ p ∧ p < 100 ∧ ∃ e, -m ≤ e ∧ e ≤ m + 1 ∧ p = (c / ten (ps.length - 1 - i) + e) % 100
def Pos (ps : List Int) : Prop := ∀ p ∈ ps, 0 ≤ p ∧ p < 100
theorem s_seen {n : Nat} {c m : Int} {Φ : Ent → Prop} (hn : n ≤ 7) (hm : 0 ≤ m) (hm2 : m ≤ 1000) (k : ∀ ps, ps.length = n → SeenOf c m ps → Φ (.d (TI ps))) : p_l_seen [.tp, .d (.int n), .d (.int c), .d (.int m)] Φ := by
  unfold p_l_seen
  rw [shut_eq]
  simp only [pFun, pIxO, pLenO, pPopO, pInsO, pStO, pSlS, qRepT, pStar, qSortT, qInD, pSortSet, pRng3, qMinP, pPar3, pDNew, pDPut, pSortDict, pTupR, pLstR, pRevL, pSeq, pRet, pRetN, pNext, pAsg, pAsgL, pAsgG, pPar, pAug, pApp, pFz, pFor, pGN, pGNil, pGCons, pGT, pVar, pC, pOp, pUn, pFrz, pNil, pCons, pDs, pTup, pLst, pNotT, pChain, pBl, pBlL, pLc, pYes, pCall, pSeqI, pRng1, pRng2, pEnum, pZip, pEZ, pSl, pNoPart, pPart, pIsa1, pIsa2, pCatL, x_If, x_Ite, x_AndT, x_OrT, x_Tst, x_AndV, x_OrV, x_NotV, boolD_d, elD_d, x_IxL, x_IxT, qII, qIC, qAdd, q1C, q2C, qLen, qTuple, qListL, qSum, qAll, qMin2, qMax2, qAbs, qInt, qEq, qNe, qIs, qIsNot, qIn, qNeg, qCatL, qSort, sqD, flatD, dIsN, wipeE, List.getElem?_cons_zero, List.getElem?_cons_succ, List.set_cons_zero, List.set_cons_succ, List.cons_append, List.nil_append, List.replicate_succ, List.replicate_zero, List.length_cons, List.length_nil, List.length_map, decide_eq_true_eq, decide_eq_false_iff_not, Bool.not_eq_true', Bool.not_eq_false', Bool.true_eq_false, Bool.false_eq_true, true_implies, false_implies, implies_true, true_and, and_true, Nat.reduceSub, Nat.reduceAdd, reduceCtorEq, Option.map_some, Option.map_none, if_true, if_false, Option.some.injEq, Int.toNat_natCast]
  refine ⟨by decide, ?_⟩
  refine s_parts (by omega) ?_
  simp only [pFun, pIxO, pLenO, pPopO, pInsO, pStO, pSlS, qRepT, pStar, qSortT, qInD, pSortSet, pRng3, qMinP, pPar3, pDNew, pDPut, pSortDict, pTupR, pLstR, pRevL, pSeq, pRet, pRetN, pNext, pAsg, pAsgL, pAsgG, pPar, pAug, pApp, pFz, pFor, pGN, pGNil, pGCons, pGT, pVar, pC, pOp, pUn, pFrz, pNil, pCons, pDs, pTup, pLst, pNotT, pChain, pBl, pBlL, pLc, pYes, pCall, pSeqI, pRng1, pRng2, pEnum, pZip, pEZ, pSl, pNoPart, pPart, pIsa1, pIsa2, pCatL, x_If, x_Ite, x_AndT, x_OrT, x_Tst, x_AndV, x_OrV, x_NotV, boolD_d, elD_d, x_IxL, x_IxT, qII, qIC, qAdd, q1C, q2C, qLen, qTuple, qListL, qSum, qAll, qMin2, qMax2, qAbs, qInt, qEq, qNe, qIs, qIsNot, qIn, qNeg, qCatL, qSort, sqD, flatD, dIsN, wipeE, List.getElem?_cons_zero, List.getElem?_cons_succ, List.set_cons_zero, List.set_cons_succ, List.cons_append, List.nil_append, List.replicate_succ, List.replicate_zero, List.length_cons, List.length_nil, List.length_map, decide_eq_true_eq, decide_eq_false_iff_not, Bool.not_eq_true', Bool.not_eq_false', Bool.true_eq_false, Bool.false_eq_true, true_implies, false_implies, implies_true, true_and, and_true, Nat.reduceSub, Nat.reduceAdd, reduceCtorEq, Option.map_some, Option.map_none, if_true, if_false, Option.some.injEq, Int.toNat_natCast]
  refine for_rule (fun ls rs ρ => ∃ ps x, ps.length = ls.length ∧ ρ = [.tp, .d (.int n), .d (.int c), .d (.int m), .d (TI ps), x] ∧ ∀ i p, ps[i]? = some p → 0 ≤ p ∧ p < 100 ∧ ∃ e, -m ≤ e ∧ e ≤ m + 1 ∧ p = (c / ten (n - 1 - i) + e) % 100) ⟨[], _, rfl, rfl, fun i p h => by simp at h⟩ ?_ ?_
  · rintro ρ ⟨ps, x, hl, rfl, h⟩
    rw [parts_len] at hl
    simp only [pFun, pIxO, pLenO, pPopO, pInsO, pStO, pSlS, qRepT, pStar, qSortT, qInD, pSortSet, pRng3, qMinP, pPar3, pDNew, pDPut, pSortDict, pTupR, pLstR, pRevL, pSeq, pRet, pRetN, pNext, pAsg, pAsgL, pAsgG, pPar, pAug, pApp, pFz, pFor, pGN, pGNil, pGCons, pGT, pVar, pC, pOp, pUn, pFrz, pNil, pCons, pDs, pTup, pLst, pNotT, pChain, pBl, pBlL, pLc, pYes, pCall, pSeqI, pRng1, pRng2, pEnum, pZip, pEZ, pSl, pNoPart, pPart, pIsa1, pIsa2, pCatL, x_If, x_Ite, x_AndT, x_OrT, x_Tst, x_AndV, x_OrV, x_NotV, boolD_d, elD_d, x_IxL, x_IxT, qII, qIC, qAdd, q1C, q2C, qLen, qTuple, qListL, qSum, qAll, qMin2, qMax2, qAbs, qInt, qEq, qNe, qIs, qIsNot, qIn, qNeg, qCatL, qSort, sqD, flatD, dIsN, wipeE, List.getElem?_cons_zero, List.getElem?_cons_succ, List.set_cons_zero, List.set_cons_succ, List.cons_append, List.nil_append, List.replicate_succ, List.replicate_zero, List.length_cons, List.length_nil, List.length_map, decide_eq_true_eq, decide_eq_false_iff_not, Bool.not_eq_true', Bool.not_eq_false', Bool.true_eq_false, Bool.false_eq_true, true_implies, false_implies, implies_true, true_and, and_true, Nat.reduceSub, Nat.reduceAdd, reduceCtorEq, Option.map_some, Option.map_none, if_true, if_false, Option.some.injEq, Int.toNat_natCast]
    exact k ps hl (by unfold SeenOf; rw [hl]; exact h)
  · rintro ls u rs ρ e ⟨ps, x, hl, rfl, h⟩ Ψ hΨ
    have hu : (parts n)[ls.length]? = some u := by rw [e]; simp
    have hlt : ls.length < n := by have := (List.getElem?_eq_some_iff.mp hu).1; rwa [parts_len] at this
    rw [parts_get hlt] at hu
    have hu := Option.some.inj hu
    have tp := ten_pos (n - 1 - ls.length)
    have t7 := ten_le7 (n := n - 1 - ls.length) (by omega)
    simp only [pFun, pIxO, pLenO, pPopO, pInsO, pStO, pSlS, qRepT, pStar, qSortT, qInD, pSortSet, pRng3, qMinP, pPar3, pDNew, pDPut, pSortDict, pTupR, pLstR, pRevL, pSeq, pRet, pRetN, pNext, pAsg, pAsgL, pAsgG, pPar, pAug, pApp, pFz, pFor, pGN, pGNil, pGCons, pGT, pVar, pC, pOp, pUn, pFrz, pNil, pCons, pDs, pTup, pLst, pNotT, pChain, pBl, pBlL, pLc, pYes, pCall, pSeqI, pRng1, pRng2, pEnum, pZip, pEZ, pSl, pNoPart, pPart, pIsa1, pIsa2, pCatL, x_If, x_Ite, x_AndT, x_OrT, x_Tst, x_AndV, x_OrV, x_NotV, boolD_d, elD_d, x_IxL, x_IxT, qII, qIC, qAdd, q1C, q2C, qLen, qTuple, qListL, qSum, qAll, qMin2, qMax2, qAbs, qInt, qEq, qNe, qIs, qIsNot, qIn, qNeg, qCatL, qSort, sqD, flatD, dIsN, wipeE, List.getElem?_cons_zero, List.getElem?_cons_succ, List.set_cons_zero, List.set_cons_succ, List.cons_append, List.nil_append, List.replicate_succ, List.replicate_zero, List.length_cons, List.length_nil, List.length_map, decide_eq_true_eq, decide_eq_false_iff_not, Bool.not_eq_true', Bool.not_eq_false', Bool.true_eq_false, Bool.false_eq_true, true_implies, false_implies, implies_true, true_and, and_true, Nat.reduceSub, Nat.reduceAdd, reduceCtorEq, Option.map_some, Option.map_none, if_true, if_false, Option.some.injEq, Int.toNat_natCast]
    refine ⟨divOk (by omega) (by omega), .inl ⟨by decide, by decide⟩, ?_⟩
    refine s_draw (by omega) (by omega) fun d a b => ?_
    simp only [pFun, pIxO, pLenO, pPopO, pInsO, pStO, pSlS, qRepT, pStar, qSortT, qInD, pSortSet, pRng3, qMinP, pPar3, pDNew, pDPut, pSortDict, pTupR, pLstR, pRevL, pSeq, pRet, pRetN, pNext, pAsg, pAsgL, pAsgG, pPar, pAug, pApp, pFz, pFor, pGN, pGNil, pGCons, pGT, pVar, pC, pOp, pUn, pFrz, pNil, pCons, pDs, pTup, pLst, pNotT, pChain, pBl, pBlL, pLc, pYes, pCall, pSeqI, pRng1, pRng2, pEnum, pZip, pEZ, pSl, pNoPart, pPart, pIsa1, pIsa2, pCatL, x_If, x_Ite, x_AndT, x_OrT, x_Tst, x_AndV, x_OrV, x_NotV, boolD_d, elD_d, x_IxL, x_IxT, qII, qIC, qAdd, q1C, q2C, qLen, qTuple, qListL, qSum, qAll, qMin2, qMax2, qAbs, qInt, qEq, qNe, qIs, qIsNot, qIn, qNeg, qCatL, qSort, sqD, flatD, dIsN, wipeE, List.getElem?_cons_zero, List.getElem?_cons_succ, List.set_cons_zero, List.set_cons_succ, List.cons_append, List.nil_append, List.replicate_succ, List.replicate_zero, List.length_cons, List.length_nil, List.length_map, decide_eq_true_eq, decide_eq_false_iff_not, Bool.not_eq_true', Bool.not_eq_false', Bool.true_eq_false, Bool.false_eq_true, true_implies, false_implies, implies_true, true_and, and_true, Nat.reduceSub, Nat.reduceAdd, reduceCtorEq, Option.map_some, Option.map_none, if_true, if_false, Option.some.injEq, Int.toNat_natCast]
    refine ⟨by decide, by decide, by omega, ?_⟩
    refine hΨ _ ⟨ps ++ [(c / u + d - m) % 100], _, by simp [hl], by simp only [TI, List.map_append]; rfl, fun i p hp => ?_⟩
    by_cases hi : i < ps.length
    · rw [List.getElem?_append_left hi] at hp
      exact h i p hp
    · have hi2 : i = ps.length := by
        have := (List.getElem?_eq_some_iff.mp hp).1
        simp at this
        omega
      subst hi2
      simp at hp
      subst hp
      refine ⟨Int.emod_nonneg _ (by decide), Int.emod_lt_of_pos _ (by decide), d - m, by omega, by omega, ?_⟩
      rw [hl, hu, Int.add_sub_assoc]
theorem SeenOf.pos {c m : Int} {ps : List Int} (h : SeenOf c m ps) : Pos ps := fun p hp => by
  obtain ⟨i, hi⟩ := List.mem_iff_getElem?.mp hp
  have := h i p hi
  exact ⟨this.1, this.2.1⟩
theorem s_dials {n : Nat} {Φ : Ent → Prop} (hn : n ≤ 6) (h1 : 1 ≤ n) (k : ∀ ps, ps.length = n → Pos ps → Φ (.d (TI ps))) : p_l_dials [.tp, .d (.int n)] Φ := by
  unfold p_l_dials
  rw [shut_eq]
  simp only [pFun, pIxO, pLenO, pPopO, pInsO, pStO, pSlS, qRepT, pStar, qSortT, qInD, pSortSet, pRng3, qMinP, pPar3, pDNew, pDPut, pSortDict, pTupR, pLstR, pRevL, pSeq, pRet, pRetN, pNext, pAsg, pAsgL, pAsgG, pPar, pAug, pApp, pFz, pFor, pGN, pGNil, pGCons, pGT, pVar, pC, pOp, pUn, pFrz, pNil, pCons, pDs, pTup, pLst, pNotT, pChain, pBl, pBlL, pLc, pYes, pCall, pSeqI, pRng1, pRng2, pEnum, pZip, pEZ, pSl, pNoPart, pPart, pIsa1, pIsa2, pCatL, x_If, x_Ite, x_AndT, x_OrT, x_Tst, x_AndV, x_OrV, x_NotV, boolD_d, elD_d, x_IxL, x_IxT, qII, qIC, qAdd, q1C, q2C, qLen, qTuple, qListL, qSum, qAll, qMin2, qMax2, qAbs, qInt, qEq, qNe, qIs, qIsNot, qIn, qNeg, qCatL, qSort, sqD, flatD, dIsN, wipeE, List.getElem?_cons_zero, List.getElem?_cons_succ, List.set_cons_zero, List.set_cons_succ, List.cons_append, List.nil_append, List.replicate_succ, List.replicate_zero, List.length_cons, List.length_nil, List.length_map, decide_eq_true_eq, decide_eq_false_iff_not, Bool.not_eq_true', Bool.not_eq_false', Bool.true_eq_false, Bool.false_eq_true, true_implies, false_implies, implies_true, true_and, and_true, Nat.reduceSub, Nat.reduceAdd, reduceCtorEq, Option.map_some, Option.map_none, if_true, if_false, Option.some.injEq, Int.toNat_natCast]
  refine s_draw (by decide) (by decide) fun d a b => ?_
  simp only [pFun, pIxO, pLenO, pPopO, pInsO, pStO, pSlS, qRepT, pStar, qSortT, qInD, pSortSet, pRng3, qMinP, pPar3, pDNew, pDPut, pSortDict, pTupR, pLstR, pRevL, pSeq, pRet, pRetN, pNext, pAsg, pAsgL, pAsgG, pPar, pAug, pApp, pFz, pFor, pGN, pGNil, pGCons, pGT, pVar, pC, pOp, pUn, pFrz, pNil, pCons, pDs, pTup, pLst, pNotT, pChain, pBl, pBlL, pLc, pYes, pCall, pSeqI, pRng1, pRng2, pEnum, pZip, pEZ, pSl, pNoPart, pPart, pIsa1, pIsa2, pCatL, x_If, x_Ite, x_AndT, x_OrT, x_Tst, x_AndV, x_OrV, x_NotV, boolD_d, elD_d, x_IxL, x_IxT, qII, qIC, qAdd, q1C, q2C, qLen, qTuple, qListL, qSum, qAll, qMin2, qMax2, qAbs, qInt, qEq, qNe, qIs, qIsNot, qIn, qNeg, qCatL, qSort, sqD, flatD, dIsN, wipeE, List.getElem?_cons_zero, List.getElem?_cons_succ, List.set_cons_zero, List.set_cons_succ, List.cons_append, List.nil_append, List.replicate_succ, List.replicate_zero, List.length_cons, List.length_nil, List.length_map, decide_eq_true_eq, decide_eq_false_iff_not, Bool.not_eq_true', Bool.not_eq_false', Bool.true_eq_false, Bool.false_eq_true, true_implies, false_implies, implies_true, true_and, and_true, Nat.reduceSub, Nat.reduceAdd, reduceCtorEq, Option.map_some, Option.map_none, if_true, if_false, Option.some.injEq, Int.toNat_natCast]
  refine ⟨by simp [SeqAt.shaped, PyData.canLay0, PyData.depth], by simp [SeqAt.shaped, PyData.canLay0, PyData.depth], fun _ => ?_, fun _ => ?_⟩
  · refine ⟨by decide, by omega, by omega, ?_⟩
    rw [rngD_map]
    refine for_rule (fun ls rs ρ => ls.length + rs.length = n ∧ ∃ ps x, ps.length = ls.length ∧ ρ = [.tp, .d (.int n), .d (TI ps), x] ∧ Pos ps) ⟨by simp, [], _, rfl, rfl, fun p h => by simp at h⟩ ?_ ?_
    · rintro ρ ⟨_, ps, x, hl, rfl, h⟩
      simp only [pFun, pIxO, pLenO, pPopO, pInsO, pStO, pSlS, qRepT, pStar, qSortT, qInD, pSortSet, pRng3, qMinP, pPar3, pDNew, pDPut, pSortDict, pTupR, pLstR, pRevL, pSeq, pRet, pRetN, pNext, pAsg, pAsgL, pAsgG, pPar, pAug, pApp, pFz, pFor, pGN, pGNil, pGCons, pGT, pVar, pC, pOp, pUn, pFrz, pNil, pCons, pDs, pTup, pLst, pNotT, pChain, pBl, pBlL, pLc, pYes, pCall, pSeqI, pRng1, pRng2, pEnum, pZip, pEZ, pSl, pNoPart, pPart, pIsa1, pIsa2, pCatL, x_If, x_Ite, x_AndT, x_OrT, x_Tst, x_AndV, x_OrV, x_NotV, boolD_d, elD_d, x_IxL, x_IxT, qII, qIC, qAdd, q1C, q2C, qLen, qTuple, qListL, qSum, qAll, qMin2, qMax2, qAbs, qInt, qEq, qNe, qIs, qIsNot, qIn, qNeg, qCatL, qSort, sqD, flatD, dIsN, wipeE, List.getElem?_cons_zero, List.getElem?_cons_succ, List.set_cons_zero, List.set_cons_succ, List.cons_append, List.nil_append, List.replicate_succ, List.replicate_zero, List.length_cons, List.length_nil, List.length_map, decide_eq_true_eq, decide_eq_false_iff_not, Bool.not_eq_true', Bool.not_eq_false', Bool.true_eq_false, Bool.false_eq_true, true_implies, false_implies, implies_true, true_and, and_true, Nat.reduceSub, Nat.reduceAdd, reduceCtorEq, Option.map_some, Option.map_none, if_true, if_false, Option.some.injEq, Int.toNat_natCast]
      exact k ps (by simpa using hl) h
    · rintro ls u rs ρ e ⟨hlr, ps, x, hl, rfl, h⟩ Ψ hΨ
      rw [List.length_cons] at hlr
      simp only [pFun, pIxO, pLenO, pPopO, pInsO, pStO, pSlS, qRepT, pStar, qSortT, qInD, pSortSet, pRng3, qMinP, pPar3, pDNew, pDPut, pSortDict, pTupR, pLstR, pRevL, pSeq, pRet, pRetN, pNext, pAsg, pAsgL, pAsgG, pPar, pAug, pApp, pFz, pFor, pGN, pGNil, pGCons, pGT, pVar, pC, pOp, pUn, pFrz, pNil, pCons, pDs, pTup, pLst, pNotT, pChain, pBl, pBlL, pLc, pYes, pCall, pSeqI, pRng1, pRng2, pEnum, pZip, pEZ, pSl, pNoPart, pPart, pIsa1, pIsa2, pCatL, x_If, x_Ite, x_AndT, x_OrT, x_Tst, x_AndV, x_OrV, x_NotV, boolD_d, elD_d, x_IxL, x_IxT, qII, qIC, qAdd, q1C, q2C, qLen, qTuple, qListL, qSum, qAll, qMin2, qMax2, qAbs, qInt, qEq, qNe, qIs, qIsNot, qIn, qNeg, qCatL, qSort, sqD, flatD, dIsN, wipeE, List.getElem?_cons_zero, List.getElem?_cons_succ, List.set_cons_zero, List.set_cons_succ, List.cons_append, List.nil_append, List.replicate_succ, List.replicate_zero, List.length_cons, List.length_nil, List.length_map, decide_eq_true_eq, decide_eq_false_iff_not, Bool.not_eq_true', Bool.not_eq_false', Bool.true_eq_false, Bool.false_eq_true, true_implies, false_implies, implies_true, true_and, and_true, Nat.reduceSub, Nat.reduceAdd, reduceCtorEq, Option.map_some, Option.map_none, if_true, if_false, Option.some.injEq, Int.toNat_natCast]
      refine s_draw (by decide) (by decide) fun d a b => ?_
      simp only [pFun, pIxO, pLenO, pPopO, pInsO, pStO, pSlS, qRepT, pStar, qSortT, qInD, pSortSet, pRng3, qMinP, pPar3, pDNew, pDPut, pSortDict, pTupR, pLstR, pRevL, pSeq, pRet, pRetN, pNext, pAsg, pAsgL, pAsgG, pPar, pAug, pApp, pFz, pFor, pGN, pGNil, pGCons, pGT, pVar, pC, pOp, pUn, pFrz, pNil, pCons, pDs, pTup, pLst, pNotT, pChain, pBl, pBlL, pLc, pYes, pCall, pSeqI, pRng1, pRng2, pEnum, pZip, pEZ, pSl, pNoPart, pPart, pIsa1, pIsa2, pCatL, x_If, x_Ite, x_AndT, x_OrT, x_Tst, x_AndV, x_OrV, x_NotV, boolD_d, elD_d, x_IxL, x_IxT, qII, qIC, qAdd, q1C, q2C, qLen, qTuple, qListL, qSum, qAll, qMin2, qMax2, qAbs, qInt, qEq, qNe, qIs, qIsNot, qIn, qNeg, qCatL, qSort, sqD, flatD, dIsN, wipeE, List.getElem?_cons_zero, List.getElem?_cons_succ, List.set_cons_zero, List.set_cons_succ, List.cons_append, List.nil_append, List.replicate_succ, List.replicate_zero, List.length_cons, List.length_nil, List.length_map, decide_eq_true_eq, decide_eq_false_iff_not, Bool.not_eq_true', Bool.not_eq_false', Bool.true_eq_false, Bool.false_eq_true, true_implies, false_implies, implies_true, true_and, and_true, Nat.reduceSub, Nat.reduceAdd, reduceCtorEq, Option.map_some, Option.map_none, if_true, if_false, Option.some.injEq, Int.toNat_natCast]
      refine ⟨by decide, by omega, ?_⟩
      refine hΨ _ ⟨by simp; omega, ps ++ [d], _, by simp [hl], by simp only [TI, List.map_append]; rfl, fun p hp => ?_⟩
      rcases List.mem_append.mp hp with hp | hp
      · exact h p hp
      · rw [List.mem_singleton] at hp
        subst hp
        exact ⟨a, b⟩
  · refine s_count hn h1 fun c c0 c1 => ?_
    refine s_draw (by decide) (by decide) fun d a b => ?_
    exact s_seen (by omega) a (by omega) fun ps hl hs => k ps hl hs.pos
end Law

set_option Elab.async false
set_option linter.all false
set_option maxRecDepth 100000
set_option maxHeartbeats 1000000
/-! PuU: lemmas that several laws use. -/
namespace Law
open PySem PySem.W Pu

theorem perm_one {α : Type} {R : α → α → Prop} : ∀ {xs ys : List α}, ys.Perm xs → ys.Pairwise R → xs.Pairwise R → (∀ a ∈ xs, ∀ b ∈ xs, R a b → R b a → a = b) → ys = xs
  | [], ys, p, _, _, _ => List.perm_nil.mp p
  | x :: xs, [], p, _, _, _ => by simpa using p.length_eq
  | x :: xs, y :: ys, p, h1, h2, ha => by
    have hy : y ∈ x :: xs := p.mem_iff.mp List.mem_cons_self
    have hx : x ∈ y :: ys := p.mem_iff.mpr List.mem_cons_self
    have e : y = x := by
      rcases List.mem_cons.mp hy with q | q
      · exact q
      · rcases List.mem_cons.mp hx with r | r
        · exact r.symm
        · exact ha y hy x List.mem_cons_self ((List.pairwise_cons.mp h1).1 x r) ((List.pairwise_cons.mp h2).1 y q)
    subst e
    rw [perm_one (p.cons_inv) (List.pairwise_cons.mp h1).2 (List.pairwise_cons.mp h2).2 fun a h b g => ha a (List.mem_cons_of_mem _ h) b (List.mem_cons_of_mem _ g)]
theorem alike_bools (bs : List Bool) : AllAlike (bs.map PyData.bool) := fun d hd d' hd' => by
  obtain ⟨a, _, rfl⟩ := List.mem_map.mp hd
  obtain ⟨b, _, rfl⟩ := List.mem_map.mp hd'
  simp [alike]
theorem sortable_bools (bs : List Bool) : Sortable (bs.map PyData.bool) := .inr fun d hd => by
  obtain ⟨a, _, rfl⟩ := List.mem_map.mp hd
  exact ⟨by simp, by simp⟩
theorem depth_bools (bs : List Bool) : ∀ d ∈ bs.map PyData.bool, d.depth ≤ 60 := fun d hd => by
  obtain ⟨a, _, rfl⟩ := List.mem_map.mp hd
  simp [PyData.depth]
theorem sorted_bools {bs : List Bool} {ys : List D} (h : sortedBy (bs.map PyData.bool) ys) (m : bs.Pairwise fun a b => a = true → b = true) : ys = bs.map PyData.bool := by
  refine perm_one h.1 h.2 (List.pairwise_map.mpr (m.imp fun {a b} q => ?_)) fun a ha b hb p q => ?_
  · rw [dataLt_bool]
    cases a <;> cases b <;> simp_all [PyProof.Rows.b2i]
  · obtain ⟨a, _, rfl⟩ := List.mem_map.mp ha
    obtain ⟨b, _, rfl⟩ := List.mem_map.mp hb
    rw [dataLt_bool] at p q
    cases a <;> cases b <;> simp_all [PyProof.Rows.b2i]
theorem all2_fun {α : Type} {R : α → Prop} : ∀ {l : List α} {bs cs : List Bool}, All2 (fun a b => b = true ↔ R a) l bs → All2 (fun a b => b = true ↔ R a) l cs → bs = cs
  | _, _, _, .nil, .nil => rfl
  | _, _, _, .cons h t, .cons g s => by
    rw [all2_fun t s, Bool.eq_iff_iff.mpr (h.trans g.symm)]
theorem all2_mono {α : Type} {R : α → Prop} {S : α → α → Prop} (hS : ∀ a b, S a b → R a → R b) : ∀ {l : List α} {bs : List Bool}, l.Pairwise S → All2 (fun a b => b = true ↔ R a) l bs → bs.Pairwise fun a b => a = true → b = true
  | _, _, _, .nil => .nil
  | _, _, hp, .cons h t => by
    obtain ⟨h1, h2⟩ := List.pairwise_cons.mp hp
    refine List.pairwise_cons.mpr ⟨fun b hb ha => ?_, all2_mono hS h2 t⟩
    have key : ∀ {l : List α} {bs : List Bool}, All2 (fun a b => b = true ↔ R a) l bs → ∀ b ∈ bs, ∃ a ∈ l, (b = true ↔ R a) := by
      intro l bs t
      induction t with
      | nil => intro b hb; simp at hb
      | cons h t ih =>
        intro b hb
        rcases List.mem_cons.mp hb with rfl | hb
        · exact ⟨_, List.mem_cons_self, h⟩
        · obtain ⟨a, ha, q⟩ := ih b hb
          exact ⟨a, List.mem_cons_of_mem _ ha, q⟩
    obtain ⟨a', ha', q⟩ := key t b hb
    exact q.mpr (hS _ _ (h1 a' ha') (h.mp ha))
theorem Near.mono {ig : Option Int} {w w' c : Int} {ps : List Int} (h : Near ig w c ps) (k : w ≤ w') : Near ig w' c ps := fun i p hp hi => by
  have a := h i p hp hi
  unfold NearD at a ⊢
  have := Int.mul_le_mul_of_nonneg_right k (Int.le_of_lt (ten_pos (ps.length - 1 - i)))
  omega
theorem near_shown {u c : Int} (hu : 0 < u) : NearD (c / u % 100) u 1 c := by
  unfold NearD gap
  have e1 := Int.mul_ediv_add_emod c u
  have m0 := Int.emod_nonneg c (Int.ne_of_gt hu)
  have m1 := Int.emod_lt_of_pos c hu
  have e2 := Int.mul_ediv_add_emod (c / u) 100
  have e : c / u % 100 * u - c = -(c % u) + 100 * u * (-(c / u / 100)) := by
    generalize c / u = k at *
    generalize k / 100 = l at *
    have e3 : k % 100 = k - 100 * l := by omega
    rw [e3, Int.sub_mul, Int.mul_neg, Int.mul_comm k u, Int.mul_assoc 100 l u, Int.mul_comm l u, ← Int.mul_assoc 100 u l]
    omega
  rw [e, Int.add_mul_emod_self_left]
  by_cases z : c % u = 0
  · rw [z]
    simp
    omega
  · have : (-(c % u)) % (100 * u) = 100 * u - c % u := by
      rw [← Int.add_emod_right]
      exact (Int.emod_eq_of_lt (by omega) (by omega)).trans (by omega)
    rw [this]
    split <;> omega
theorem shown_len (n : Nat) (c : Int) : (shownL n c).length = n := by unfold shownL; rw [List.length_map, parts_len]
theorem shown_get {n i : Nat} {c : Int} (h : i < n) : (shownL n c)[i]? = some (c / ten (n - 1 - i) % 100) := by
  unfold shownL
  rw [List.getElem?_map, parts_get h]
  rfl
theorem shown_near (n : Nat) (c : Int) : Near none 1 c (shownL n c) := fun i p hp _ => by
  have hl := (List.getElem?_eq_some_iff.mp hp).1
  rw [shown_len] at hl ⊢
  rw [shown_get hl] at hp
  cases hp
  exact near_shown (ten_pos _)
theorem shown_pos (n : Nat) (c : Int) : Pos (shownL n c) := fun p hp => by
  obtain ⟨u, _, rfl⟩ := List.mem_map.mp hp
  exact ⟨Int.emod_nonneg _ (by decide), Int.emod_lt_of_pos _ (by decide)⟩
end Law

set_option Elab.async false
set_option linter.all false
set_option maxRecDepth 100000
set_option maxHeartbeats 1000000
/-! PuN: ranges in ascending order that do not touch. -/
namespace Law
open PySem PySem.W Pu

def Canon : List (Int × Int) → Prop
  | [] => True
  | r :: rs => r.1 ≤ r.2 ∧ (∀ s ∈ rs, r.2 + 1 < s.1) ∧ Canon rs
def In (rs : List (Int × Int)) (c : Int) : Prop := ∃ r ∈ rs, r.1 ≤ c ∧ c ≤ r.2
theorem in_nil {c : Int} : ¬ In [] c := fun ⟨_, h, _⟩ => by simp at h
theorem in_cons {r : Int × Int} {rs : List (Int × Int)} {c : Int} : In (r :: rs) c ↔ (r.1 ≤ c ∧ c ≤ r.2) ∨ In rs c := by
  constructor
  · rintro ⟨s, hs, h⟩
    rcases List.mem_cons.mp hs with rfl | hs
    · exact .inl h
    · exact .inr ⟨s, hs, h⟩
  · rintro (h | ⟨s, hs, h⟩)
    · exact ⟨r, List.mem_cons_self, h⟩
    · exact ⟨s, List.mem_cons_of_mem _ hs, h⟩
theorem in_app {rs ss : List (Int × Int)} {c : Int} : In (rs ++ ss) c ↔ In rs c ∨ In ss c := by
  constructor
  · rintro ⟨s, hs, h⟩
    rcases List.mem_append.mp hs with hs | hs
    · exact .inl ⟨s, hs, h⟩
    · exact .inr ⟨s, hs, h⟩
  · rintro (⟨s, hs, h⟩ | ⟨s, hs, h⟩)
    · exact ⟨s, List.mem_append_left _ hs, h⟩
    · exact ⟨s, List.mem_append_right _ hs, h⟩
theorem in_one {r : Int × Int} {c : Int} : In [r] c ↔ r.1 ≤ c ∧ c ≤ r.2 := by
  rw [in_cons]
  exact ⟨fun h => h.elim id fun h => absurd h in_nil, .inl⟩
theorem in_perm {rs ss : List (Int × Int)} (p : rs.Perm ss) {c : Int} : In rs c ↔ In ss c :=
  ⟨fun ⟨r, h, k⟩ => ⟨r, p.mem_iff.mp h, k⟩, fun ⟨r, h, k⟩ => ⟨r, p.mem_iff.mpr h, k⟩⟩
theorem Canon.le {rs : List (Int × Int)} (h : Canon rs) : ∀ r ∈ rs, r.1 ≤ r.2 := by
  induction rs with
  | nil => intro r hr; simp at hr
  | cons s rs ih =>
    intro r hr
    rcases List.mem_cons.mp hr with rfl | hr
    · exact h.1
    · exact ih h.2.2 r hr
theorem Canon.one {r : Int × Int} (h : r.1 ≤ r.2) : Canon [r] := ⟨h, fun s hs => by simp at hs, trivial⟩
theorem canon_app {rs ss : List (Int × Int)} : Canon (rs ++ ss) ↔ Canon rs ∧ Canon ss ∧ ∀ r ∈ rs, ∀ s ∈ ss, r.2 + 1 < s.1 := by
  induction rs with
  | nil => simp [Canon]
  | cons r rs ih =>
    show (r.1 ≤ r.2 ∧ (∀ s ∈ rs ++ ss, r.2 + 1 < s.1) ∧ Canon (rs ++ ss)) ↔ (r.1 ≤ r.2 ∧ (∀ s ∈ rs, r.2 + 1 < s.1) ∧ Canon rs) ∧ _
    rw [ih]
    constructor
    · rintro ⟨h1, h2, h3, h4, h5⟩
      refine ⟨⟨h1, fun s hs => h2 s (List.mem_append_left _ hs), h3⟩, h4, fun q hq s hs => ?_⟩
      rcases List.mem_cons.mp hq with rfl | hq
      · exact h2 s (List.mem_append_right _ hs)
      · exact h5 q hq s hs
    · rintro ⟨⟨h1, h2, h3⟩, h4, h5⟩
      refine ⟨h1, fun s hs => ?_, h3, h4, fun q hq => h5 q (List.mem_cons_of_mem _ hq)⟩
      rcases List.mem_append.mp hs with hs | hs
      · exact h2 s hs
      · exact h5 r List.mem_cons_self s hs
/-- two such lists of the same numbers are one -/
theorem canon_ext : ∀ {as bs : List (Int × Int)}, Canon as → Canon bs → (∀ c, In as c ↔ In bs c) → as = bs
  | [], [], _, _, _ => rfl
  | [], b :: bs, _, hb, h => absurd ((h b.1).mpr (in_cons.mpr (.inl ⟨Int.le_refl _, hb.1⟩))) in_nil
  | a :: as, [], ha, _, h => absurd ((h a.1).mp (in_cons.mpr (.inl ⟨Int.le_refl _, ha.1⟩))) in_nil
  | a :: as, b :: bs, ha, hb, h => by
    have low : ∀ {r : Int × Int} {rs : List (Int × Int)}, Canon (r :: rs) → ∀ c, In (r :: rs) c → r.1 ≤ c := fun {r rs} hc c hi => by
      rcases in_cons.mp hi with q | ⟨s, hs, q⟩
      · exact q.1
      · have := hc.2.1 s hs; have := hc.1; omega
    have e1 : a.1 = b.1 := by
      have h1 := low hb _ ((h a.1).mp (in_cons.mpr (.inl ⟨Int.le_refl _, ha.1⟩)))
      have h2 := low ha _ ((h b.1).mpr (in_cons.mpr (.inl ⟨Int.le_refl _, hb.1⟩)))
      omega
    have up : ∀ {r : Int × Int} {rs : List (Int × Int)}, Canon (r :: rs) → ¬ In (r :: rs) (r.2 + 1) := fun {r rs} hc hi => by
      rcases in_cons.mp hi with q | ⟨s, hs, q⟩
      · omega
      · have := hc.2.1 s hs; omega
    have e2 : a.2 = b.2 := by
      have a1 := ha.1
      have b1 := hb.1
      rcases Int.lt_trichotomy a.2 b.2 with q | q | q
      · exact absurd ((h _).mpr (in_cons.mpr (.inl ⟨by omega, by omega⟩))) (up ha)
      · exact q
      · exact absurd ((h _).mp (in_cons.mpr (.inl ⟨by omega, by omega⟩))) (up hb)
    have e : a = b := Prod.ext e1 e2
    subst e
    rw [canon_ext ha.2.2 hb.2.2 fun c => ?_]
    have gt : ∀ {rs : List (Int × Int)}, Canon (a :: rs) → In rs c → a.2 < c := fun hc ⟨s, hs, q⟩ => by
      have := hc.2.1 s hs; omega
    constructor
    · intro hi
      have g := gt ha hi
      rcases in_cons.mp ((h c).mp (in_cons.mpr (.inr hi))) with q | q
      · omega
      · exact q
    · intro hi
      have g := gt hb hi
      rcases in_cons.mp ((h c).mpr (in_cons.mpr (.inr hi))) with q | q
      · omega
      · exact q

/-! the data of ranges -/
theorem atI_last {α : Type} {xs : List α} {x : α} : L2.atI (xs ++ [x]) (-1) = some x := by
  unfold L2.atI L2.ixN
  have e : ((xs ++ [x]).length : Int) = (xs.length : Int) + 1 := by simp
  rw [if_neg (by decide), if_pos (by omega)]
  show (xs ++ [x])[(-1 + ((xs ++ [x]).length : Int)).toNat]? = _
  rw [e, show (-1 + ((xs.length : Int) + 1)).toNat = xs.length by omega]
  simp
theorem cut_init {xs : List D} {x : D} : cutD (xs ++ [x]) none (some (-1)) = xs := by
  unfold cutD
  have e : HT.sIx (xs ++ [x]).length (xs ++ [x]).length (some (-1)) = xs.length := by
    have : HT.sIx (xs ++ [x]).length (xs ++ [x]).length (some (-1)) = (-1 + ((xs ++ [x]).length : Int)).toNat := rfl
    rw [this]
    simp
    omega
  have e0 : HT.sIx (xs ++ [x]).length 0 none = 0 := rfl
  rw [e, e0]
  simp
theorem alike_pairs (rs : List (Int × Int)) : AllAlike (rs.map pairD) := fun d hd d' hd' => by
  obtain ⟨a, _, rfl⟩ := List.mem_map.mp hd
  obtain ⟨b, _, rfl⟩ := List.mem_map.mp hd'
  simp [pairD, alike, alikeAll]
theorem sortable_pairs (rs : List (Int × Int)) : Sortable (rs.map pairD) := .inl fun d hd => by
  obtain ⟨a, _, rfl⟩ := List.mem_map.mp hd
  exact ⟨_, _, rfl⟩
theorem depth_pairs (rs : List (Int × Int)) : ∀ d ∈ rs.map pairD, d.depth ≤ 60 := fun d hd => by
  obtain ⟨a, _, rfl⟩ := List.mem_map.mp hd
  simp [pairD, PyData.depth, PyData.depthAll]
theorem perm_map {α : Type} {G : α → D} : ∀ {xs : List α} {ys : List D}, ys.Perm (xs.map G) → ∃ zs : List α, ys = zs.map G ∧ zs.Perm xs := by
  intro xs ys p
  have key : ∀ {as bs : List D}, as.Perm bs → ∀ xs : List α, bs = xs.map G → ∃ zs : List α, as = zs.map G ∧ zs.Perm xs := by
    intro as bs p
    induction p with
    | nil => intro xs e; exact ⟨[], rfl, by cases xs with | nil => exact .refl _ | cons _ _ => simp at e⟩
    | cons x _ ih =>
      intro xs e
      cases xs with
      | nil => simp at e
      | cons y xs =>
        simp only [List.map_cons, List.cons.injEq] at e
        obtain ⟨zs, h1, h2⟩ := ih xs e.2
        exact ⟨y :: zs, by simp [h1, e.1], h2.cons _⟩
    | swap x y l =>
      intro xs e
      match xs, e with
      | a :: b :: xs, e =>
        simp only [List.map_cons, List.cons.injEq] at e
        exact ⟨b :: a :: xs, by simp [e.1, e.2.1, e.2.2], List.Perm.swap _ _ _⟩
      | [], e => simp at e
      | [_], e => simp at e
    | trans _ _ ih1 ih2 =>
      intro xs e
      obtain ⟨zs, h1, h2⟩ := ih2 xs e
      obtain ⟨us, h3, h4⟩ := ih1 zs h1
      exact ⟨us, h3, h4.trans h2⟩
  exact key p xs rfl
theorem sorted_pairs {rs : List (Int × Int)} {ys : List D} (h : sortedBy (rs.map pairD) ys) : ∃ zs : List (Int × Int), ys = zs.map pairD ∧ zs.Perm rs ∧ zs.Pairwise fun a b => a.1 ≤ b.1 := by
  obtain ⟨zs, rfl, p⟩ := perm_map h.1
  refine ⟨zs, rfl, p, (List.pairwise_map.mp h.2).imp fun {a b} q => ?_⟩
  have q : dataLt (.tuple [.int b.1, .int b.2]) (.tuple [.int a.1, .int a.2]) = false := q
  rw [dataLt_ii, decide_eq_false_iff_not] at q
  omega
theorem last_or {α : Type} (xs : List α) : xs = [] ∨ ∃ ys y, xs = ys ++ [y] := by
  rcases List.eq_nil_or_concat xs with h | ⟨ys, y, h⟩
  · exact .inl h
  · exact .inr ⟨ys, y, by simpa using h⟩
theorem LR_ne {fs : List (Int × Int)} : PyData.eqv (.list (fs.map pairD)) (.list []) = decide (fs = []) := eqv_LR fs []

theorem s_joined {rs : List (Int × Int)} {Φ : Ent → Prop} (hl : rs.length ≤ 50000) (hr : ∀ r ∈ rs, r.1 ≤ r.2) (k : ∀ fs, Canon fs → (∀ c, In fs c ↔ In rs c) → fs.length ≤ rs.length → Φ (.d (LR fs))) : p_joined [.d (LR rs)] Φ := by
  unfold p_joined
  rw [shut_eq]
  simp only [pFun, pIxO, pLenO, pPopO, pInsO, pStO, pSlS, qRepT, pStar, qSortT, qInD, pSortSet, pRng3, qMinP, pPar3, pDNew, pDPut, pSortDict, pTupR, pLstR, pRevL, pSeq, pRet, pRetN, pNext, pAsg, pAsgL, pAsgG, pPar, pAug, pApp, pFz, pFor, pGN, pGNil, pGCons, pGT, pVar, pC, pOp, pUn, pFrz, pNil, pCons, pDs, pTup, pLst, pNotT, pChain, pBl, pBlL, pLc, pYes, pCall, pSeqI, pRng1, pRng2, pEnum, pZip, pEZ, pSl, pNoPart, pPart, pIsa1, pIsa2, pCatL, x_If, x_Ite, x_AndT, x_OrT, x_Tst, x_AndV, x_OrV, x_NotV, boolD_d, elD_d, x_IxL, x_IxT, qII, qIC, qAdd, q1C, q2C, qLen, qTuple, qListL, qSum, qAll, qMin2, qMax2, qAbs, qInt, qEq, qNe, qIs, qIsNot, qIn, qNeg, qCatL, qSort, sqD, flatD, dIsN, wipeE, List.getElem?_cons_zero, List.getElem?_cons_succ, List.set_cons_zero, List.set_cons_succ, List.cons_append, List.nil_append, List.replicate_succ, List.replicate_zero, List.length_cons, List.length_nil, List.length_map, decide_eq_true_eq, decide_eq_false_iff_not, Bool.not_eq_true', Bool.not_eq_false', Bool.true_eq_false, Bool.false_eq_true, true_implies, false_implies, implies_true, true_and, and_true, Nat.reduceSub, Nat.reduceAdd, reduceCtorEq, Option.map_some, Option.map_none, if_true, if_false, Option.some.injEq, Int.toNat_natCast]
  refine ⟨by decide, alike_pairs rs, sortable_pairs rs, depth_pairs rs, fun ys hys => ?_⟩
  obtain ⟨zs, rfl, hp, hpw⟩ := sorted_pairs hys
  refine for_rule (fun ls _ ρ => ∃ fs a b c d, ρ = [.d (LR rs), .d (LR fs), a, b, c, d] ∧ Canon fs ∧ (∀ c, In fs c ↔ In ls c) ∧ fs.length ≤ ls.length ∧ ∀ f ∈ fs, ∃ a ∈ ls, f.1 = a.1) ⟨[], _, _, _, _, rfl, trivial, fun c => Iff.rfl, Nat.le_refl _, fun f h => by simp at h⟩ ?_ ?_
  · rintro ρ ⟨fs, a, b, c, d, rfl, h1, h2, h3, h4⟩
    simp only [pFun, pIxO, pLenO, pPopO, pInsO, pStO, pSlS, qRepT, pStar, qSortT, qInD, pSortSet, pRng3, qMinP, pPar3, pDNew, pDPut, pSortDict, pTupR, pLstR, pRevL, pSeq, pRet, pRetN, pNext, pAsg, pAsgL, pAsgG, pPar, pAug, pApp, pFz, pFor, pGN, pGNil, pGCons, pGT, pVar, pC, pOp, pUn, pFrz, pNil, pCons, pDs, pTup, pLst, pNotT, pChain, pBl, pBlL, pLc, pYes, pCall, pSeqI, pRng1, pRng2, pEnum, pZip, pEZ, pSl, pNoPart, pPart, pIsa1, pIsa2, pCatL, x_If, x_Ite, x_AndT, x_OrT, x_Tst, x_AndV, x_OrV, x_NotV, boolD_d, elD_d, x_IxL, x_IxT, qII, qIC, qAdd, q1C, q2C, qLen, qTuple, qListL, qSum, qAll, qMin2, qMax2, qAbs, qInt, qEq, qNe, qIs, qIsNot, qIn, qNeg, qCatL, qSort, sqD, flatD, dIsN, wipeE, List.getElem?_cons_zero, List.getElem?_cons_succ, List.set_cons_zero, List.set_cons_succ, List.cons_append, List.nil_append, List.replicate_succ, List.replicate_zero, List.length_cons, List.length_nil, List.length_map, decide_eq_true_eq, decide_eq_false_iff_not, Bool.not_eq_true', Bool.not_eq_false', Bool.true_eq_false, Bool.false_eq_true, true_implies, false_implies, implies_true, true_and, and_true, Nat.reduceSub, Nat.reduceAdd, reduceCtorEq, Option.map_some, Option.map_none, if_true, if_false, Option.some.injEq, Int.toNat_natCast]
    exact k fs h1 (fun c => (h2 c).trans (in_perm hp)) (by rw [← hp.length_eq]; exact h3)
  · rintro ls ⟨lo, hi⟩ rest ρ e ⟨fs, x1, x2, x3, x4, rfl, h1, h2, h3, h4⟩ Ψ hΨ
    have hle : lo ≤ hi := hr (lo, hi) (hp.mem_iff.mp (by rw [e]; simp))
    have hlen : ls.length < rs.length := by rw [← hp.length_eq, e]; simp
    have hlo : ∀ f ∈ fs, f.1 ≤ lo := fun f hf => by
      obtain ⟨a, ha, q⟩ := h4 f hf
      rw [e, List.pairwise_append] at hpw
      have := hpw.2.2 a ha (lo, hi) List.mem_cons_self
      rw [q]; exact this
    have sf : Sm 3 (LR fs) := Sm.pairs (by omega)
    have new : ∀ gs : List (Int × Int), Canon gs → (∀ c, In gs c ↔ In fs c ∨ (lo ≤ c ∧ c ≤ hi)) → gs.length ≤ fs.length + 1 → (∀ f ∈ gs, f.1 = lo ∨ ∃ g ∈ fs, f.1 = g.1) → ∀ y1 y2 y3 y4, Ψ [.d (LR rs), .d (LR gs), y1, y2, y3, y4] := fun gs g1 g2 g3 g4 y1 y2 y3 y4 =>
      hΨ _ ⟨gs, y1, y2, y3, y4, rfl, g1, fun c => by rw [g2, in_app, in_one, h2], by simp; omega, fun f hf => by
        rcases g4 f hf with q | ⟨g, hg, q⟩
        · exact ⟨(lo, hi), by simp, q⟩
        · obtain ⟨a, ha, q2⟩ := h4 g hg
          exact ⟨a, List.mem_append_left _ ha, q.trans q2⟩⟩
    simp only [pFun, pIxO, pLenO, pPopO, pInsO, pStO, pSlS, qRepT, pStar, qSortT, qInD, pSortSet, pRng3, qMinP, pPar3, pDNew, pDPut, pSortDict, pTupR, pLstR, pRevL, pSeq, pRet, pRetN, pNext, pAsg, pAsgL, pAsgG, pPar, pAug, pApp, pFz, pFor, pGN, pGNil, pGCons, pGT, pVar, pC, pOp, pUn, pFrz, pNil, pCons, pDs, pTup, pLst, pNotT, pChain, pBl, pBlL, pLc, pYes, pCall, pSeqI, pRng1, pRng2, pEnum, pZip, pEZ, pSl, pNoPart, pPart, pIsa1, pIsa2, pCatL, x_If, x_Ite, x_AndT, x_OrT, x_Tst, x_AndV, x_OrV, x_NotV, boolD_d, elD_d, x_IxL, x_IxT, qII, qIC, qAdd, q1C, q2C, qLen, qTuple, qListL, qSum, qAll, qMin2, qMax2, qAbs, qInt, qEq, qNe, qIs, qIsNot, qIn, qNeg, qCatL, qSort, sqD, flatD, dIsN, wipeE, List.getElem?_cons_zero, List.getElem?_cons_succ, List.set_cons_zero, List.set_cons_succ, List.cons_append, List.nil_append, List.replicate_succ, List.replicate_zero, List.length_cons, List.length_nil, List.length_map, decide_eq_true_eq, decide_eq_false_iff_not, Bool.not_eq_true', Bool.not_eq_false', Bool.true_eq_false, Bool.false_eq_true, true_implies, false_implies, implies_true, true_and, and_true, Nat.reduceSub, Nat.reduceAdd, reduceCtorEq, Option.map_some, Option.map_none, if_true, if_false, Option.some.injEq, Int.toNat_natCast, pairD]
    rw [LR_ne]
    refine ⟨by decide, sf.shp (by decide), by simp [SeqAt.shaped, PyData.canLay0, PyData.canLayAll0, PyData.depth, PyData.depthAll], fun hne => ?_, fun he => ?_⟩
    · have hne := of_decide_eq_false hne
      rcases last_or fs with rfl | ⟨gs, ⟨b, t⟩, rfl⟩
      · exact absurd rfl hne
      · have hb := hlo (b, t) (by simp)
        rw [canon_app] at h1
        obtain ⟨c1, c2, c3⟩ := h1
        have hbt : b ≤ t := c2.1
        rw [List.map_append, List.map_cons, List.map_nil, atI_last, cut_init]
        refine ⟨_, rfl, fun hle2 => ⟨_, rfl, by decide, by decide, ?_, ?_⟩, fun hn => ⟨by decide, by decide, ?_, ?_⟩⟩
        all_goals dsimp only at *
        · simp at h3 ⊢; omega
        · refine (show ∀ m : Int, (m = if t > hi then t else hi) → Ψ [.d (LR rs), .d (PyData.list (gs.map pairD ++ [PyData.tuple [.int b, .int m]])), .d (.int lo), .d (.int hi), .d (.int b), .d (.int t)] from fun m hm => ?_) _ rfl
          have hm2 : hi ≤ m ∧ t ≤ m ∧ (m = hi ∨ m = t) := by rw [hm]; split <;> omega
          have := new (gs ++ [(b, m)]) (canon_app.mpr ⟨c1, Canon.one (by show b ≤ m; omega), fun r hr s hs => by
            rw [List.mem_singleton] at hs
            subst hs
            exact c3 r hr (b, t) List.mem_cons_self⟩) (fun c => by
              rw [in_app, in_app, in_one, in_one]
              constructor
              · rintro (q | ⟨q1, q2⟩)
                · exact .inl (.inl q)
                · by_cases z : c ≤ t
                  · exact .inl (.inr ⟨q1, z⟩)
                  · exact .inr ⟨by omega, by dsimp only at q2; omega⟩
              · rintro ((q | ⟨q1, q2⟩) | ⟨q1, q2⟩)
                · exact .inl q
                · exact .inr ⟨q1, by dsimp only at q2 ⊢; omega⟩
                · exact .inr ⟨by dsimp only; omega, by dsimp only; omega⟩) (by simp) (fun f hf => by
              rcases List.mem_append.mp hf with hf | hf
              · exact .inr ⟨f, List.mem_append_left _ hf, rfl⟩
              · rw [List.mem_singleton] at hf
                subst hf
                exact .inr ⟨(b, t), by simp, rfl⟩) (.d (.int lo)) (.d (.int hi)) (.d (.int b)) (.d (.int t))
          simp only [LR, List.map_append] at this
          exact this
        · simp at h3 ⊢; omega
        · have := new (gs ++ [(b, t)] ++ [(lo, hi)]) (canon_app.mpr ⟨canon_app.mpr ⟨c1, c2, c3⟩, Canon.one hle, fun r hr s hs => by
            rw [List.mem_singleton] at hs
            subst hs
            rcases List.mem_append.mp hr with hr | hr
            · have := c3 r hr (b, t) List.mem_cons_self
              dsimp only at this ⊢
              omega
            · rw [List.mem_singleton] at hr
              subst hr
              dsimp only
              omega⟩) (fun c => by rw [in_app, in_one]) (by simp) (fun f hf => by
              rcases List.mem_append.mp hf with hf | hf
              · exact .inr ⟨f, hf, rfl⟩
              · rw [List.mem_singleton] at hf
                subst hf
                exact .inl rfl) (.d (.int lo)) (.d (.int hi)) x3 x4
          simp only [LR, List.map_append] at this
          exact this
    · have he := of_decide_eq_true he
      subst he
      refine ⟨by decide, by decide, by simp, ?_⟩
      exact new [(lo, hi)] (Canon.one hle) (fun c => by rw [in_one]; exact ⟨.inr, fun h => h.elim (fun h => absurd h in_nil) id⟩) (by simp) (fun f hf => by
        rw [List.mem_singleton] at hf
        subst hf
        exact .inl rfl) _ _ _ _
end Law

set_option Elab.async false
set_option linter.all false
set_option maxRecDepth 100000
set_option maxHeartbeats 1000000
/-! PuO: cut, counts_without, counts. -/
namespace Law
open PySem PySem.W Pu

theorem gap_iff {a b W d : Int} (hW : 0 < W) : gap a b W ≤ d ↔ ∃ k : Int, -d ≤ a - b + k * W ∧ a - b + k * W ≤ d := by
  unfold gap
  generalize a - b = x
  have m0 := Int.emod_nonneg x (Int.ne_of_gt hW)
  have m1 := Int.emod_lt_of_pos x hW
  have e1 := Int.mul_ediv_add_emod x W
  constructor
  · intro h
    split at h
    · refine ⟨-(x / W) - 1, ?_⟩
      have : (-(x / W) - 1) * W = -(W * (x / W)) - W := by rw [Int.sub_mul, Int.neg_mul, Int.mul_comm (x / W) W]; omega
      rw [this]
      omega
    · refine ⟨-(x / W), ?_⟩
      have : (-(x / W)) * W = -(W * (x / W)) := by rw [Int.neg_mul, Int.mul_comm (x / W) W]
      rw [this]
      omega
  · rintro ⟨k, h1, h2⟩
    have e2 : x % W = (x + k * W) % W := (Int.add_mul_emod_self_right x k W).symm
    generalize x + k * W = v at *
    have e3 := Int.mul_ediv_add_emod v W
    rw [← e2] at e3
    by_cases hv : 0 ≤ v
    · have : 0 ≤ W * (v / W) := Int.mul_nonneg (by omega) (Int.ediv_nonneg hv (by omega))
      split <;> omega
    · have h3 : v / W ≤ -1 := by
        have : v / W < 0 := Int.ediv_neg_of_neg_of_pos (by omega) hW
        omega
      have h4 : W * (v / W) ≤ W * (-1) := Int.mul_le_mul_of_nonneg_left h3 (by omega)
      split <;> omega
theorem nearD_iff {p u w c : Int} (hu : 0 < u) : NearD p u w c ↔ ∃ k : Int, (p - w) * u + k * (100 * u) ≤ c ∧ c ≤ (p + w) * u + k * (100 * u) := by
  unfold NearD
  rw [gap_iff (by omega)]
  have e1 : (p - w) * u = p * u - w * u := Int.sub_mul ..
  have e2 : (p + w) * u = p * u + w * u := Int.add_mul ..
  rw [e1, e2]
  constructor <;> rintro ⟨k, h1, h2⟩ <;> exact ⟨k, by omega, by omega⟩
theorem mulT {a b T : Int} (h : a ≤ b) (hT : 0 < T) : a * T ≤ b * T := Int.mul_le_mul_of_nonneg_right h (Int.le_of_lt hT)

theorem s_cut {rs : List (Int × Int)} {p u w : Int} {m : Nat} {Φ : Ent → Prop} (hu : 0 < u) (hu2 : u ≤ 10000000) (hw : 0 ≤ w) (hw2 : w ≤ 9) (hp : 0 ≤ p) (hp2 : p < 100)
    (hr : ∀ r ∈ rs, r.1 ≤ r.2 ∧ r.2 - r.1 + 2 * (w * u) < (m : Int) * (100 * u)) (hm : rs.length * m ≤ 50000)
    (k : ∀ fs, Canon fs → (∀ c, In fs c ↔ In rs c ∧ NearD p u w c) → fs.length ≤ rs.length * m → Φ (.d (LR fs))) : p_cut [.d (LR rs), .d (.int p), .d (.int u), .d (.int w)] Φ := by
  unfold p_cut
  rw [shut_eq]
  have hT : 0 < 100 * u := by omega
  have ul : -1000000000000000000 < 100 * u := by omega
  have uh : 100 * u < 1000000000000000000 := by omega
  simp only [pFun, pIxO, pLenO, pPopO, pInsO, pStO, pSlS, qRepT, pStar, qSortT, qInD, pSortSet, pRng3, qMinP, pPar3, pDNew, pDPut, pSortDict, pTupR, pLstR, pRevL, pSeq, pRet, pRetN, pNext, pAsg, pAsgL, pAsgG, pPar, pAug, pApp, pFz, pFor, pGN, pGNil, pGCons, pGT, pVar, pC, pOp, pUn, pFrz, pNil, pCons, pDs, pTup, pLst, pNotT, pChain, pBl, pBlL, pLc, pYes, pCall, pSeqI, pRng1, pRng2, pEnum, pZip, pEZ, pSl, pNoPart, pPart, pIsa1, pIsa2, pCatL, x_If, x_Ite, x_AndT, x_OrT, x_Tst, x_AndV, x_OrV, x_NotV, boolD_d, elD_d, x_IxL, x_IxT, qII, qIC, qAdd, q1C, q2C, qLen, qTuple, qListL, qSum, qAll, qMin2, qMax2, qAbs, qInt, qEq, qNe, qIs, qIsNot, qIn, qNeg, qCatL, qSort, sqD, flatD, dIsN, wipeE, List.getElem?_cons_zero, List.getElem?_cons_succ, List.set_cons_zero, List.set_cons_succ, List.cons_append, List.nil_append, List.replicate_succ, List.replicate_zero, List.length_cons, List.length_nil, List.length_map, decide_eq_true_eq, decide_eq_false_iff_not, Bool.not_eq_true', Bool.not_eq_false', Bool.true_eq_false, Bool.false_eq_true, true_implies, false_implies, implies_true, true_and, and_true, Nat.reduceSub, Nat.reduceAdd, reduceCtorEq, Option.map_some, Option.map_none, if_true, if_false, Option.some.injEq, Int.toNat_natCast]
  refine ⟨by decide, .inl ⟨by decide, by decide⟩, ?_⟩
  refine for_rule (fun ls rest ρ => ∃ fs a b c d e, ρ = [.d (LR rs), .d (.int p), .d (.int u), .d (.int w), .d (LR fs), .d (.int (100 * u)), a, b, c, d, e] ∧ (∀ c, In fs c ↔ In ls c ∧ NearD p u w c) ∧ fs.length ≤ ls.length * m) ⟨[], _, _, _, _, _, rfl, fun c => by simp [In], by simp⟩ ?_ ?_
  · rintro ρ ⟨fs, x1, x2, x3, x4, x5, rfl, h1, h2⟩
    simp only [pFun, pIxO, pLenO, pPopO, pInsO, pStO, pSlS, qRepT, pStar, qSortT, qInD, pSortSet, pRng3, qMinP, pPar3, pDNew, pDPut, pSortDict, pTupR, pLstR, pRevL, pSeq, pRet, pRetN, pNext, pAsg, pAsgL, pAsgG, pPar, pAug, pApp, pFz, pFor, pGN, pGNil, pGCons, pGT, pVar, pC, pOp, pUn, pFrz, pNil, pCons, pDs, pTup, pLst, pNotT, pChain, pBl, pBlL, pLc, pYes, pCall, pSeqI, pRng1, pRng2, pEnum, pZip, pEZ, pSl, pNoPart, pPart, pIsa1, pIsa2, pCatL, x_If, x_Ite, x_AndT, x_OrT, x_Tst, x_AndV, x_OrV, x_NotV, boolD_d, elD_d, x_IxL, x_IxT, qII, qIC, qAdd, q1C, q2C, qLen, qTuple, qListL, qSum, qAll, qMin2, qMax2, qAbs, qInt, qEq, qNe, qIs, qIsNot, qIn, qNeg, qCatL, qSort, sqD, flatD, dIsN, wipeE, List.getElem?_cons_zero, List.getElem?_cons_succ, List.set_cons_zero, List.set_cons_succ, List.cons_append, List.nil_append, List.replicate_succ, List.replicate_zero, List.length_cons, List.length_nil, List.length_map, decide_eq_true_eq, decide_eq_false_iff_not, Bool.not_eq_true', Bool.not_eq_false', Bool.true_eq_false, Bool.false_eq_true, true_implies, false_implies, implies_true, true_and, and_true, Nat.reduceSub, Nat.reduceAdd, reduceCtorEq, Option.map_some, Option.map_none, if_true, if_false, Option.some.injEq, Int.toNat_natCast]
    refine ⟨by omega, ?_⟩
    refine lc_filter (G := pairD) (fun r : Int × Int => decide (r.1 ≤ r.2)) (fun r hr Ψ hΨ => ?_) ?_
    · simp only [pFun, pIxO, pLenO, pPopO, pInsO, pStO, pSlS, qRepT, pStar, qSortT, qInD, pSortSet, pRng3, qMinP, pPar3, pDNew, pDPut, pSortDict, pTupR, pLstR, pRevL, pSeq, pRet, pRetN, pNext, pAsg, pAsgL, pAsgG, pPar, pAug, pApp, pFz, pFor, pGN, pGNil, pGCons, pGT, pVar, pC, pOp, pUn, pFrz, pNil, pCons, pDs, pTup, pLst, pNotT, pChain, pBl, pBlL, pLc, pYes, pCall, pSeqI, pRng1, pRng2, pEnum, pZip, pEZ, pSl, pNoPart, pPart, pIsa1, pIsa2, pCatL, x_If, x_Ite, x_AndT, x_OrT, x_Tst, x_AndV, x_OrV, x_NotV, boolD_d, elD_d, x_IxL, x_IxT, qII, qIC, qAdd, q1C, q2C, qLen, qTuple, qListL, qSum, qAll, qMin2, qMax2, qAbs, qInt, qEq, qNe, qIs, qIsNot, qIn, qNeg, qCatL, qSort, sqD, flatD, dIsN, wipeE, List.getElem?_cons_zero, List.getElem?_cons_succ, List.set_cons_zero, List.set_cons_succ, List.cons_append, List.nil_append, List.replicate_succ, List.replicate_zero, List.length_cons, List.length_nil, List.length_map, decide_eq_true_eq, decide_eq_false_iff_not, Bool.not_eq_true', Bool.not_eq_false', Bool.true_eq_false, Bool.false_eq_true, true_implies, false_implies, implies_true, true_and, and_true, Nat.reduceSub, Nat.reduceAdd, reduceCtorEq, Option.map_some, Option.map_none, if_true, if_false, Option.some.injEq, Int.toNat_natCast, pairD]
      refine ⟨fun h => ⟨by decide, ?_⟩, fun h => ?_⟩
      · rw [if_pos (decide_eq_true h)] at hΨ; exact hΨ
      · rw [if_neg (by simpa using h)] at hΨ; exact hΨ
    · have fl : (fs.filter fun r => decide (r.1 ≤ r.2)).length ≤ fs.length := List.length_filter_le _ _
      refine s_joined (by omega) (fun r hr => by simpa using (List.mem_filter.mp hr).2) fun gs g1 g2 g3 => ?_
      refine k gs g1 (fun c => ?_) (by omega)
      rw [g2, ← h1]
      constructor
      · rintro ⟨r, h, q⟩
        exact ⟨r, (List.mem_filter.mp h).1, q⟩
      · rintro ⟨r, h, q⟩
        exact ⟨r, List.mem_filter.mpr ⟨h, decide_eq_true (by omega)⟩, q⟩
  · rintro ls ⟨lo, hi⟩ rest ρ e ⟨fs, x1, x2, x3, x4, x5, rfl, h1, h2⟩ Ψ hΨ
    obtain ⟨hle, hsz⟩ := hr (lo, hi) (by rw [e]; simp)
    dsimp only at hle hsz
    have hlen : (ls.length + 1) * m ≤ rs.length * m := Nat.mul_le_mul_right m (by rw [e, List.length_append, List.length_cons]; omega)
    rw [Nat.add_mul, Nat.one_mul] at hlen
    obtain ⟨A, hA⟩ : ∃ A, A = (p - w) * u := ⟨_, rfl⟩
    obtain ⟨B, hB⟩ : ∃ B, B = (p + w) * u := ⟨_, rfl⟩
    have hAB : B = A + 2 * (w * u) := by rw [hA, hB, Int.sub_mul, Int.add_mul]; omega
    have hwu : 0 ≤ w * u := Int.mul_nonneg hw (Int.le_of_lt hu)
    obtain ⟨T, hTT⟩ : ∃ T, T = 100 * u := ⟨_, rfl⟩
    have nd : ∀ c, NearD p u w c ↔ ∃ k : Int, A + k * T ≤ c ∧ c ≤ B + k * T := fun c => by rw [nearD_iff hu, hA, hB, hTT]
    rw [← hTT] at hT ul uh hsz
    obtain ⟨q, hq⟩ : ∃ q, q = (B - lo) / T := ⟨_, rfl⟩
    have eq1 := Int.mul_ediv_add_emod (B - lo) T
    have eq2 := Int.emod_nonneg (B - lo) (Int.ne_of_gt hT)
    have eq3 := Int.emod_lt_of_pos (B - lo) hT
    rw [← hq] at eq1
    have k0a : lo ≤ B + (-q) * T := by rw [Int.neg_mul, Int.mul_comm q T]; omega
    have k0b : B + (-q - 1) * T < lo := by rw [Int.sub_mul, Int.neg_mul, Int.mul_comm q T]; omega
    simp only [pFun, pIxO, pLenO, pPopO, pInsO, pStO, pSlS, qRepT, pStar, qSortT, qInD, pSortSet, pRng3, qMinP, pPar3, pDNew, pDPut, pSortDict, pTupR, pLstR, pRevL, pSeq, pRet, pRetN, pNext, pAsg, pAsgL, pAsgG, pPar, pAug, pApp, pFz, pFor, pGN, pGNil, pGCons, pGT, pVar, pC, pOp, pUn, pFrz, pNil, pCons, pDs, pTup, pLst, pNotT, pChain, pBl, pBlL, pLc, pYes, pCall, pSeqI, pRng1, pRng2, pEnum, pZip, pEZ, pSl, pNoPart, pPart, pIsa1, pIsa2, pCatL, x_If, x_Ite, x_AndT, x_OrT, x_Tst, x_AndV, x_OrV, x_NotV, boolD_d, elD_d, x_IxL, x_IxT, qII, qIC, qAdd, q1C, q2C, qLen, qTuple, qListL, qSum, qAll, qMin2, qMax2, qAbs, qInt, qEq, qNe, qIs, qIsNot, qIn, qNeg, qCatL, qSort, sqD, flatD, dIsN, wipeE, List.getElem?_cons_zero, List.getElem?_cons_succ, List.set_cons_zero, List.set_cons_succ, List.cons_append, List.nil_append, List.replicate_succ, List.replicate_zero, List.length_cons, List.length_nil, List.length_map, decide_eq_true_eq, decide_eq_false_iff_not, Bool.not_eq_true', Bool.not_eq_false', Bool.true_eq_false, Bool.false_eq_true, true_implies, false_implies, implies_true, true_and, and_true, Nat.reduceSub, Nat.reduceAdd, reduceCtorEq, Option.map_some, Option.map_none, if_true, if_false, Option.some.injEq, Int.toNat_natCast, pairD]
    rw [← hTT, ← hA, ← hB, ← hq]
    refine ⟨mulR (by omega) (by omega), mulR (by omega) (by omega), ⟨hT, by omega⟩, mulR ul uh, ?_⟩
    refine x_While (fun M ρ => ∃ k gs, M = (hi + 1 - (A + k * T)).toNat ∧ -q ≤ k ∧ (k = -q ∨ A + (k - 1) * T ≤ hi) ∧ ρ = [.d (LR rs), .d (.int p), .d (.int u), .d (.int w), .d (LR gs), .d (.int T), .d (.int lo), .d (.int hi), .d (.int A), .d (.int B), .d (.int (k * T))] ∧ (gs.length : Int) ≤ fs.length + (k + q) ∧ ∀ c, In gs c ↔ In fs c ∨ (lo ≤ c ∧ c ≤ hi ∧ ∃ k', -q ≤ k' ∧ k' < k ∧ A + k' * T ≤ c ∧ c ≤ B + k' * T)) _ ⟨-q, fs, rfl, Int.le_refl _, .inl rfl, rfl, by omega, fun c => ⟨.inl, fun h => h.elim id fun ⟨_, _, k', a, b, _⟩ => by omega⟩⟩ ?_
    rintro M ρ ⟨k, gs, rfl, hk0, hk1, rfl, hgl, hg⟩ Ψ2 hΨ2
    have km : k + q ≤ (m : Int) := by
      rcases hk1 with rfl | hk1
      · omega
      · by_cases z : (m : Int) ≤ k - 1 + q
        · have := mulT z hT
          rw [Int.add_mul] at this
          rw [Int.neg_mul] at k0a
          omega
        · omega
    simp only [pFun, pIxO, pLenO, pPopO, pInsO, pStO, pSlS, qRepT, pStar, qSortT, qInD, pSortSet, pRng3, qMinP, pPar3, pDNew, pDPut, pSortDict, pTupR, pLstR, pRevL, pSeq, pRet, pRetN, pNext, pAsg, pAsgL, pAsgG, pPar, pAug, pApp, pFz, pFor, pGN, pGNil, pGCons, pGT, pVar, pC, pOp, pUn, pFrz, pNil, pCons, pDs, pTup, pLst, pNotT, pChain, pBl, pBlL, pLc, pYes, pCall, pSeqI, pRng1, pRng2, pEnum, pZip, pEZ, pSl, pNoPart, pPart, pIsa1, pIsa2, pCatL, x_If, x_Ite, x_AndT, x_OrT, x_Tst, x_AndV, x_OrV, x_NotV, boolD_d, elD_d, x_IxL, x_IxT, qII, qIC, qAdd, q1C, q2C, qLen, qTuple, qListL, qSum, qAll, qMin2, qMax2, qAbs, qInt, qEq, qNe, qIs, qIsNot, qIn, qNeg, qCatL, qSort, sqD, flatD, dIsN, wipeE, List.getElem?_cons_zero, List.getElem?_cons_succ, List.set_cons_zero, List.set_cons_succ, List.cons_append, List.nil_append, List.replicate_succ, List.replicate_zero, List.length_cons, List.length_nil, List.length_map, decide_eq_true_eq, decide_eq_false_iff_not, Bool.not_eq_true', Bool.not_eq_false', Bool.true_eq_false, Bool.false_eq_true, true_implies, false_implies, implies_true, true_and, and_true, Nat.reduceSub, Nat.reduceAdd, reduceCtorEq, Option.map_some, Option.map_none, if_true, if_false, Option.some.injEq, Int.toNat_natCast]
    refine ⟨fun hle2 => ⟨by decide, by decide, by omega, ?_⟩, fun hgt => ?_⟩
    · refine hΨ2 (hi + 1 - (A + (k + 1) * T)).toNat _ (by rw [Int.add_mul]; omega) ⟨k + 1, gs ++ [(if A + k * T > lo then A + k * T else lo, if B + k * T < hi then B + k * T else hi)], rfl, by omega, .inr (by rw [Int.add_sub_cancel]; exact hle2), ?_, by simp; omega, fun c => ?_⟩
      · simp only [LR, List.map_append, Int.add_mul, Int.one_mul]
        rfl
      · rw [in_app, in_one, hg]
        dsimp only
        constructor
        · rintro ((h | ⟨a, b, k', c1, c2, c3⟩) | ⟨a, b⟩)
          · exact .inl h
          · exact .inr ⟨a, b, k', c1, by omega, c3⟩
          · refine .inr ⟨?_, ?_, k, hk0, by omega, ?_, ?_⟩
            · split at a <;> omega
            · split at b <;> omega
            · split at a <;> omega
            · split at b <;> omega
        · rintro (h | ⟨a, b, k', c1, c2, c3⟩)
          · exact .inl (.inl h)
          · by_cases z : k' = k
            · subst z
              refine .inr ⟨?_, ?_⟩ <;> split <;> omega
            · exact .inl (.inr ⟨a, b, k', c1, by omega, c3⟩)
    · refine hΨ _ ⟨gs, _, _, _, _, _, by rw [← hTT], fun c => ?_, ?_⟩
      · rw [hg, in_app, in_one, h1]
        dsimp only
        constructor
        · rintro (⟨a, b⟩ | ⟨a, b, k', c1, c2, c3⟩)
          · exact ⟨.inl a, b⟩
          · exact ⟨.inr ⟨a, b⟩, (nd c).mpr ⟨k', c3⟩⟩
        · rintro ⟨a | ⟨a, b⟩, h⟩
          · exact .inl ⟨a, h⟩
          · obtain ⟨k', c1, c2⟩ := (nd c).mp h
            refine .inr ⟨a, b, k', ?_, ?_, c1, c2⟩
            · by_cases z : k' ≤ -q - 1
              · have := mulT z hT
                omega
              · omega
            · by_cases z : k ≤ k'
              · have := mulT z hT
                omega
              · omega
      · rw [List.length_append, List.length_singleton, Nat.add_mul, Nat.one_mul]
        omega

theorem run_len {p u w lo hi : Int} (hu : 0 < u) (hw : 0 ≤ w) (hw2 : w ≤ 9) (hle : lo ≤ hi) (h : ∀ c, lo ≤ c → c ≤ hi → NearD p u w c) : hi - lo ≤ 2 * (w * u) := by
  obtain ⟨k, h1, h2⟩ := (nearD_iff hu).mp (h lo (Int.le_refl _) hle)
  have e1 : (p - w) * u = p * u - w * u := Int.sub_mul ..
  have e2 : (p + w) * u = p * u + w * u := Int.add_mul ..
  have hwu : w * u ≤ 9 * u := Int.mul_le_mul_of_nonneg_right hw2 (Int.le_of_lt hu)
  rw [e1] at h1
  rw [e2] at h2
  by_cases z : hi - lo ≤ 2 * (w * u)
  · exact z
  · exfalso
    obtain ⟨k', h3, h4⟩ := (nearD_iff hu).mp (h (p * u + w * u + k * (100 * u) + 1) (by omega) (by omega))
    rw [e1] at h3
    rw [e2] at h4
    rcases Int.lt_trichotomy k k' with q | q | q
    · have := mulT (show k + 1 ≤ k' by omega) (show 0 < 100 * u by omega)
      rw [Int.add_mul] at this
      omega
    · subst q; omega
    · have := mulT (show k' + 1 ≤ k by omega) (show 0 < 100 * u by omega)
      rw [Int.add_mul] at this
      omega
theorem enumZ_map (xs : List (Int × Int)) : enumD (xs.map pairD) = xs.zipIdx.map fun x => .tuple [.int (x.2 : Nat), pairD x.1] := by
  unfold enumD
  rw [List.zipIdx_map, List.map_map]
  rfl
/-- the counts that fit -/
def Fits (ig : Option Int) (w : Int) (ps : List Int) (c : Int) : Prop := 0 ≤ c ∧ c < ten (ps.length + 1) ∧ Near ig w c ps
def Rng (ig : Option Int) (w : Int) (ps : List Int) (fs : List (Int × Int)) : Prop := Canon fs ∧ ∀ c, In fs c ↔ Fits ig w ps c
theorem Rng.one {ig : Option Int} {w : Int} {ps : List Int} {fs gs : List (Int × Int)} (a : Rng ig w ps fs) (b : Rng ig w ps gs) : fs = gs := canon_ext a.1 b.1 fun c => (a.2 c).trans (b.2 c).symm
theorem s_counts_without {ps : List Int} {w : Int} {ig : Option Int} {Φ : Ent → Prop} (hn : ps.length ≤ 6) (hp : Pos ps) (hw : 0 ≤ w) (hw2 : w ≤ 9)
    (k : ∀ fs, Rng ig w ps fs → fs.length ≤ 1344 ∧ (ig = none → fs.length ≤ 2 ^ ps.length) → Φ (.d (LR fs))) : p_counts_without [.d (TI ps), .d (.int w), .d (optD ig)] Φ := by
  unfold p_counts_without
  rw [shut_eq]
  obtain ⟨n, en⟩ : ∃ n, n = ps.length := ⟨_, rfl⟩
  simp only [pFun, pIxO, pLenO, pPopO, pInsO, pStO, pSlS, qRepT, pStar, qSortT, qInD, pSortSet, pRng3, qMinP, pPar3, pDNew, pDPut, pSortDict, pTupR, pLstR, pRevL, pSeq, pRet, pRetN, pNext, pAsg, pAsgL, pAsgG, pPar, pAug, pApp, pFz, pFor, pGN, pGNil, pGCons, pGT, pVar, pC, pOp, pUn, pFrz, pNil, pCons, pDs, pTup, pLst, pNotT, pChain, pBl, pBlL, pLc, pYes, pCall, pSeqI, pRng1, pRng2, pEnum, pZip, pEZ, pSl, pNoPart, pPart, pIsa1, pIsa2, pCatL, x_If, x_Ite, x_AndT, x_OrT, x_Tst, x_AndV, x_OrV, x_NotV, boolD_d, elD_d, x_IxL, x_IxT, qII, qIC, qAdd, q1C, q2C, qLen, qTuple, qListL, qSum, qAll, qMin2, qMax2, qAbs, qInt, qEq, qNe, qIs, qIsNot, qIn, qNeg, qCatL, qSort, sqD, flatD, dIsN, wipeE, List.getElem?_cons_zero, List.getElem?_cons_succ, List.set_cons_zero, List.set_cons_succ, List.cons_append, List.nil_append, List.replicate_succ, List.replicate_zero, List.length_cons, List.length_nil, List.length_map, decide_eq_true_eq, decide_eq_false_iff_not, Bool.not_eq_true', Bool.not_eq_false', Bool.true_eq_false, Bool.false_eq_true, true_implies, false_implies, implies_true, true_and, and_true, Nat.reduceSub, Nat.reduceAdd, reduceCtorEq, Option.map_some, Option.map_none, if_true, if_false, Option.some.injEq, Int.toNat_natCast]
  refine s_total (by omega) ?_
  simp only [pFun, pIxO, pLenO, pPopO, pInsO, pStO, pSlS, qRepT, pStar, qSortT, qInD, pSortSet, pRng3, qMinP, pPar3, pDNew, pDPut, pSortDict, pTupR, pLstR, pRevL, pSeq, pRet, pRetN, pNext, pAsg, pAsgL, pAsgG, pPar, pAug, pApp, pFz, pFor, pGN, pGNil, pGCons, pGT, pVar, pC, pOp, pUn, pFrz, pNil, pCons, pDs, pTup, pLst, pNotT, pChain, pBl, pBlL, pLc, pYes, pCall, pSeqI, pRng1, pRng2, pEnum, pZip, pEZ, pSl, pNoPart, pPart, pIsa1, pIsa2, pCatL, x_If, x_Ite, x_AndT, x_OrT, x_Tst, x_AndV, x_OrV, x_NotV, boolD_d, elD_d, x_IxL, x_IxT, qII, qIC, qAdd, q1C, q2C, qLen, qTuple, qListL, qSum, qAll, qMin2, qMax2, qAbs, qInt, qEq, qNe, qIs, qIsNot, qIn, qNeg, qCatL, qSort, sqD, flatD, dIsN, wipeE, List.getElem?_cons_zero, List.getElem?_cons_succ, List.set_cons_zero, List.set_cons_succ, List.cons_append, List.nil_append, List.replicate_succ, List.replicate_zero, List.length_cons, List.length_nil, List.length_map, decide_eq_true_eq, decide_eq_false_iff_not, Bool.not_eq_true', Bool.not_eq_false', Bool.true_eq_false, Bool.false_eq_true, true_implies, false_implies, implies_true, true_and, and_true, Nat.reduceSub, Nat.reduceAdd, reduceCtorEq, Option.map_some, Option.map_none, if_true, if_false, Option.some.injEq, Int.toNat_natCast]
  refine ⟨by decide, by decide, ?_⟩
  refine s_units (by omega) ?_
  simp only [pFun, pIxO, pLenO, pPopO, pInsO, pStO, pSlS, qRepT, pStar, qSortT, qInD, pSortSet, pRng3, qMinP, pPar3, pDNew, pDPut, pSortDict, pTupR, pLstR, pRevL, pSeq, pRet, pRetN, pNext, pAsg, pAsgL, pAsgG, pPar, pAug, pApp, pFz, pFor, pGN, pGNil, pGCons, pGT, pVar, pC, pOp, pUn, pFrz, pNil, pCons, pDs, pTup, pLst, pNotT, pChain, pBl, pBlL, pLc, pYes, pCall, pSeqI, pRng1, pRng2, pEnum, pZip, pEZ, pSl, pNoPart, pPart, pIsa1, pIsa2, pCatL, x_If, x_Ite, x_AndT, x_OrT, x_Tst, x_AndV, x_OrV, x_NotV, boolD_d, elD_d, x_IxL, x_IxT, qII, qIC, qAdd, q1C, q2C, qLen, qTuple, qListL, qSum, qAll, qMin2, qMax2, qAbs, qInt, qEq, qNe, qIs, qIsNot, qIn, qNeg, qCatL, qSort, sqD, flatD, dIsN, wipeE, List.getElem?_cons_zero, List.getElem?_cons_succ, List.set_cons_zero, List.set_cons_succ, List.cons_append, List.nil_append, List.replicate_succ, List.replicate_zero, List.length_cons, List.length_nil, List.length_map, decide_eq_true_eq, decide_eq_false_iff_not, Bool.not_eq_true', Bool.not_eq_false', Bool.true_eq_false, Bool.false_eq_true, true_implies, false_implies, implies_true, true_and, and_true, Nat.reduceSub, Nat.reduceAdd, reduceCtorEq, Option.map_some, Option.map_none, if_true, if_false, Option.some.injEq, Int.toNat_natCast]
  rw [zip_map, enumZ_map]
  refine for_rule (fun ls rest ρ => ls.length + rest.length = n ∧ ∃ fs x1 x2 x3, ρ = [.d (TI ps), .d (.int w), .d (optD ig), .d (LR fs), x1, x2, x3] ∧ Canon fs ∧
    (∀ c, In fs c ↔ 0 ≤ c ∧ c < ten (n + 1) ∧ ∀ (j : Nat) (p : Int), j < ls.length → ps[j]? = some p → ig ≠ some (j : Int) → NearD p (ten (n - 1 - j)) w c) ∧
    ∃ m : Nat, (ls.length < n → ∀ r ∈ fs, r.2 - r.1 + 2 * (w * ten (n - 1 - ls.length)) < (m : Int) * (100 * ten (n - 1 - ls.length))) ∧ (((∀ j : Nat, j < ls.length → ig ≠ some (j : Int)) ∧ fs.length ≤ 2 ^ ls.length ∧ m = 2) ∨ ((∃ j : Nat, j < ls.length ∧ ig = some (j : Int)) ∧ 2 ≤ m ∧ fs.length * m ≤ 21 * 2 ^ ls.length))) ?_ ?_ ?_
  · refine ⟨by simp [parts_len]; omega, [(0, ten (n + 1) - 1)], _, _, _, by rw [en]; rfl, Canon.one (by have := ten_pos (n + 1); dsimp only; omega), fun c => ?_, 2, fun h r hr => ?_, .inl ⟨fun j hj => by simp at hj, by simp, rfl⟩⟩
    · rw [in_one]
      dsimp only
      exact ⟨fun ⟨a, b⟩ => ⟨a, by omega, fun j p hj => by simp at hj⟩, fun ⟨a, b, _⟩ => ⟨a, by omega⟩⟩
    · rw [List.mem_singleton] at hr
      subst hr
      have h : 0 < n := h
      have e : n + 1 = (n - 1) + 1 + 1 := by omega
      have tp := ten_pos (n - 1)
      have := Int.mul_le_mul_of_nonneg_right hw2 (Int.le_of_lt tp)
      simp only [List.length_nil, Nat.sub_zero]
      rw [e, ten_succ, ten_succ]
      omega
  · rintro ρ ⟨hl, fs, x1, x2, x3, rfl, h1, h2, m, h3, h4⟩
    rw [List.length_nil, Nat.add_zero] at hl
    simp only [pFun, pIxO, pLenO, pPopO, pInsO, pStO, pSlS, qRepT, pStar, qSortT, qInD, pSortSet, pRng3, qMinP, pPar3, pDNew, pDPut, pSortDict, pTupR, pLstR, pRevL, pSeq, pRet, pRetN, pNext, pAsg, pAsgL, pAsgG, pPar, pAug, pApp, pFz, pFor, pGN, pGNil, pGCons, pGT, pVar, pC, pOp, pUn, pFrz, pNil, pCons, pDs, pTup, pLst, pNotT, pChain, pBl, pBlL, pLc, pYes, pCall, pSeqI, pRng1, pRng2, pEnum, pZip, pEZ, pSl, pNoPart, pPart, pIsa1, pIsa2, pCatL, x_If, x_Ite, x_AndT, x_OrT, x_Tst, x_AndV, x_OrV, x_NotV, boolD_d, elD_d, x_IxL, x_IxT, qII, qIC, qAdd, q1C, q2C, qLen, qTuple, qListL, qSum, qAll, qMin2, qMax2, qAbs, qInt, qEq, qNe, qIs, qIsNot, qIn, qNeg, qCatL, qSort, sqD, flatD, dIsN, wipeE, List.getElem?_cons_zero, List.getElem?_cons_succ, List.set_cons_zero, List.set_cons_succ, List.cons_append, List.nil_append, List.replicate_succ, List.replicate_zero, List.length_cons, List.length_nil, List.length_map, decide_eq_true_eq, decide_eq_false_iff_not, Bool.not_eq_true', Bool.not_eq_false', Bool.true_eq_false, Bool.false_eq_true, true_implies, false_implies, implies_true, true_and, and_true, Nat.reduceSub, Nat.reduceAdd, reduceCtorEq, Option.map_some, Option.map_none, if_true, if_false, Option.some.injEq, Int.toNat_natCast]
    rw [hl] at h2 h4
    have h26 : 2 ^ n ≤ 2 ^ 6 := Nat.pow_le_pow_right (by decide) (by omega)
    refine k fs ⟨h1, fun c => (h2 c).trans ?_⟩ ?_
    · unfold Fits Near
      rw [← en]
      constructor
      · rintro ⟨a, b, h⟩
        exact ⟨a, b, fun i p hp hi => h i p (by have := (List.getElem?_eq_some_iff.mp hp).1; omega) hp hi⟩
      · rintro ⟨a, b, h⟩
        exact ⟨a, b, fun j p _ hp hi => h j p hp hi⟩
    · rcases h4 with ⟨_, q, _⟩ | ⟨⟨j, _, q0⟩, q1, q2⟩
      · exact ⟨by omega, fun _ => by rw [← en]; exact q⟩
      · have : fs.length * 1 ≤ fs.length * m := Nat.mul_le_mul_left _ (by omega)
        exact ⟨by omega, fun z => by rw [z] at q0; cases q0⟩
  · rintro ls ⟨⟨p, u⟩, i⟩ rest ρ e ⟨hl, fs, x1, x2, x3, rfl, h1, h2, m, h3, h4⟩ Ψ hΨ
    rw [List.length_cons] at hl
    obtain ⟨hz, hi⟩ := zipIdx_mid rfl e
    dsimp only at hz hi
    rw [List.getElem?_zip_eq_some] at hz
    obtain ⟨hpi, hui⟩ := hz
    have hpi : ps[i]? = some p := hpi
    have hlt : i < n := by omega
    rw [parts_get (by omega)] at hui
    have hui : ten (ps.length - 1 - i) = u := Option.some.inj hui
    rw [← en] at hui
    have tp : 0 < u := by rw [← hui]; exact ten_pos _
    have t7 : u ≤ 10000000 := by rw [← hui]; exact ten_le7 (by omega)
    have pp := hp p (List.mem_iff_getElem?.mpr ⟨i, hpi⟩)
    rw [← hi] at h2 h3 h4
    have h3 := h3 hlt
    rw [hui] at h3
    have h26 : 2 ^ i ≤ 2 ^ 5 := Nat.pow_le_pow_right (by decide) (by omega)
    have e2 : 2 ^ (i + 1) = 2 * 2 ^ i := by rw [Nat.pow_succ]; omega
    have hwu : w * u ≤ 9 * u := Int.mul_le_mul_of_nonneg_right hw2 (Int.le_of_lt tp)
    have hwu0 : 0 ≤ w * u := Int.mul_nonneg hw (Int.le_of_lt tp)
    have nextu : i + 1 < n → u = 10 * ten (n - 1 - (i + 1)) := fun h => by
      rw [← hui, show n - 1 - i = (n - 1 - (i + 1)) + 1 by omega, ten_succ]; omega
    have lsl : (ls ++ [((p, u), i)]).length = i + 1 := by simp; omega
    simp only [pFun, pIxO, pLenO, pPopO, pInsO, pStO, pSlS, qRepT, pStar, qSortT, qInD, pSortSet, pRng3, qMinP, pPar3, pDNew, pDPut, pSortDict, pTupR, pLstR, pRevL, pSeq, pRet, pRetN, pNext, pAsg, pAsgL, pAsgG, pPar, pAug, pApp, pFz, pFor, pGN, pGNil, pGCons, pGT, pVar, pC, pOp, pUn, pFrz, pNil, pCons, pDs, pTup, pLst, pNotT, pChain, pBl, pBlL, pLc, pYes, pCall, pSeqI, pRng1, pRng2, pEnum, pZip, pEZ, pSl, pNoPart, pPart, pIsa1, pIsa2, pCatL, x_If, x_Ite, x_AndT, x_OrT, x_Tst, x_AndV, x_OrV, x_NotV, boolD_d, elD_d, x_IxL, x_IxT, qII, qIC, qAdd, q1C, q2C, qLen, qTuple, qListL, qSum, qAll, qMin2, qMax2, qAbs, qInt, qEq, qNe, qIs, qIsNot, qIn, qNeg, qCatL, qSort, sqD, flatD, dIsN, wipeE, List.getElem?_cons_zero, List.getElem?_cons_succ, List.set_cons_zero, List.set_cons_succ, List.cons_append, List.nil_append, List.replicate_succ, List.replicate_zero, List.length_cons, List.length_nil, List.length_map, decide_eq_true_eq, decide_eq_false_iff_not, Bool.not_eq_true', Bool.not_eq_false', Bool.true_eq_false, Bool.false_eq_true, true_implies, false_implies, implies_true, true_and, and_true, Nat.reduceSub, Nat.reduceAdd, reduceCtorEq, Option.map_some, Option.map_none, if_true, if_false, Option.some.injEq, Int.toNat_natCast, pairD]
    have eq : PyData.eqv (.int (i : Int)) (optD ig) = decide (some (i : Int) = ig) := eqv_opt (some (i : Int)) ig
    rw [eq]
    refine ⟨by simp [SeqAt.shaped, PyData.canLay0, PyData.depth], by cases ig <;> simp [optD, SeqAt.shaped, PyData.canLay0, PyData.depth], fun hne => ?_, fun he => ?_⟩
    · have hne := of_decide_eq_false hne
      have hm : fs.length * m ≤ 21 * 2 ^ i := by
        rcases h4 with ⟨_, q, rfl⟩ | ⟨_, _, q2⟩
        · omega
        · exact q2
      refine s_cut (m := m) tp t7 hw hw2 pp.1 pp.2 (fun r hr => ⟨h1.le r hr, h3 r hr⟩) (by omega) fun gs g1 g2 g3 => ?_
      refine hΨ _ ⟨by simp; omega, gs, _, _, _, rfl, g1, fun c => ?_, 2, fun hlt2 r hr => ?_, ?_⟩
      · rw [g2, h2, lsl]
        constructor
        · rintro ⟨⟨a, b, h⟩, hN⟩
          refine ⟨a, b, fun j q hj hq hji => ?_⟩
          by_cases z : j = i
          · subst z
            rw [hpi] at hq
            cases hq
            rw [hui]
            exact hN
          · exact h j q (by omega) hq hji
        · rintro ⟨a, b, h⟩
          refine ⟨⟨a, b, fun j q hj hq hji => h j q (by omega) hq hji⟩, ?_⟩
          rw [← hui]
          exact h i p (by omega) hpi fun q => hne q.symm
      · rw [lsl] at hlt2 ⊢
        have hu' := nextu hlt2
        have tp' := ten_pos (n - 1 - (i + 1))
        generalize ten (n - 1 - (i + 1)) = u' at hu' tp' ⊢
        have rl := run_len tp hw hw2 (g1.le r hr) fun c a b => ((g2 c).mp ⟨r, hr, a, b⟩).2
        have : w * u' ≤ 9 * u' := Int.mul_le_mul_of_nonneg_right hw2 (Int.le_of_lt tp')
        have : w * u = 10 * (w * u') := by rw [hu', Int.mul_left_comm]
        omega
      · rw [lsl, e2]
        rcases h4 with ⟨q1, q2, rfl⟩ | ⟨⟨j, hj, q1⟩, q2, q3⟩
        · exact .inl ⟨fun j hj => by
            by_cases z : j = i
            · subst z; exact fun q => hne q.symm
            · exact q1 j (by omega), by omega, rfl⟩
        · exact .inr ⟨⟨j, by omega, q1⟩, by decide, by omega⟩
    · have he := of_decide_eq_true he
      have hns : ∀ j : Nat, j < i → ig ≠ some (j : Int) := fun j hj q => by
        rw [← he] at q
        have := Option.some.inj q
        omega
      rcases h4 with ⟨q1, q2, rfl⟩ | ⟨⟨j, hj, q1⟩, q2, q3⟩
      · refine hΨ _ ⟨by simp; omega, fs, _, _, _, rfl, h1, fun c => ?_, 21, fun hlt2 r hr => ?_, ?_⟩
        · rw [h2, lsl]
          constructor
          · rintro ⟨a, b, h⟩
            refine ⟨a, b, fun j q hj hq hji => ?_⟩
            by_cases z : j = i
            · subst z; exact absurd he.symm hji
            · exact h j q (by omega) hq hji
          · rintro ⟨a, b, h⟩
            exact ⟨a, b, fun j q hj hq hji => h j q (by omega) hq hji⟩
        · rw [lsl] at hlt2 ⊢
          have hu' := nextu hlt2
          have tp' := ten_pos (n - 1 - (i + 1))
          generalize ten (n - 1 - (i + 1)) = u' at hu' tp' ⊢
          have := h3 r hr
          have : w * u' ≤ 9 * u' := Int.mul_le_mul_of_nonneg_right hw2 (Int.le_of_lt tp')
          omega
        · rw [lsl, e2]
          exact .inr ⟨⟨i, by omega, he.symm⟩, by decide, by omega⟩
      · exact absurd q1 (hns j hj)
theorem s_counts {ps : List Int} {w : Int} {Φ : Ent → Prop} (hn : ps.length ≤ 6) (hp : Pos ps) (hw : 0 ≤ w) (hw2 : w ≤ 9)
    (k : ∀ fs, Rng none w ps fs → fs.length ≤ 1344 → Φ (.d (LR fs))) : p_counts [.d (TI ps), .d (.int w)] Φ := by
  unfold p_counts
  rw [shut_eq]
  simp only [pFun, pIxO, pLenO, pPopO, pInsO, pStO, pSlS, qRepT, pStar, qSortT, qInD, pSortSet, pRng3, qMinP, pPar3, pDNew, pDPut, pSortDict, pTupR, pLstR, pRevL, pSeq, pRet, pRetN, pNext, pAsg, pAsgL, pAsgG, pPar, pAug, pApp, pFz, pFor, pGN, pGNil, pGCons, pGT, pVar, pC, pOp, pUn, pFrz, pNil, pCons, pDs, pTup, pLst, pNotT, pChain, pBl, pBlL, pLc, pYes, pCall, pSeqI, pRng1, pRng2, pEnum, pZip, pEZ, pSl, pNoPart, pPart, pIsa1, pIsa2, pCatL, x_If, x_Ite, x_AndT, x_OrT, x_Tst, x_AndV, x_OrV, x_NotV, boolD_d, elD_d, x_IxL, x_IxT, qII, qIC, qAdd, q1C, q2C, qLen, qTuple, qListL, qSum, qAll, qMin2, qMax2, qAbs, qInt, qEq, qNe, qIs, qIsNot, qIn, qNeg, qCatL, qSort, sqD, flatD, dIsN, wipeE, List.getElem?_cons_zero, List.getElem?_cons_succ, List.set_cons_zero, List.set_cons_succ, List.cons_append, List.nil_append, List.replicate_succ, List.replicate_zero, List.length_cons, List.length_nil, List.length_map, decide_eq_true_eq, decide_eq_false_iff_not, Bool.not_eq_true', Bool.not_eq_false', Bool.true_eq_false, Bool.false_eq_true, true_implies, false_implies, implies_true, true_and, and_true, Nat.reduceSub, Nat.reduceAdd, reduceCtorEq, Option.map_some, Option.map_none, if_true, if_false, Option.some.injEq, Int.toNat_natCast]
  exact s_counts_without (ig := none) hn hp hw hw2 fun fs hR hL => k fs hR hL.1
theorem s_counts2 {ps : List Int} {w : Int} {Φ : Ent → Prop} (hn : ps.length ≤ 6) (hp : Pos ps) (hw : 0 ≤ w) (hw2 : w ≤ 9)
    (k : ∀ fs, Rng none w ps fs → fs.length ≤ 2 ^ ps.length → Φ (.d (LR fs))) : p_counts [.d (TI ps), .d (.int w)] Φ := by
  unfold p_counts
  rw [shut_eq]
  simp only [pFun, pIxO, pLenO, pPopO, pInsO, pStO, pSlS, qRepT, pStar, qSortT, qInD, pSortSet, pRng3, qMinP, pPar3, pDNew, pDPut, pSortDict, pTupR, pLstR, pRevL, pSeq, pRet, pRetN, pNext, pAsg, pAsgL, pAsgG, pPar, pAug, pApp, pFz, pFor, pGN, pGNil, pGCons, pGT, pVar, pC, pOp, pUn, pFrz, pNil, pCons, pDs, pTup, pLst, pNotT, pChain, pBl, pBlL, pLc, pYes, pCall, pSeqI, pRng1, pRng2, pEnum, pZip, pEZ, pSl, pNoPart, pPart, pIsa1, pIsa2, pCatL, x_If, x_Ite, x_AndT, x_OrT, x_Tst, x_AndV, x_OrV, x_NotV, boolD_d, elD_d, x_IxL, x_IxT, qII, qIC, qAdd, q1C, q2C, qLen, qTuple, qListL, qSum, qAll, qMin2, qMax2, qAbs, qInt, qEq, qNe, qIs, qIsNot, qIn, qNeg, qCatL, qSort, sqD, flatD, dIsN, wipeE, List.getElem?_cons_zero, List.getElem?_cons_succ, List.set_cons_zero, List.set_cons_succ, List.cons_append, List.nil_append, List.replicate_succ, List.replicate_zero, List.length_cons, List.length_nil, List.length_map, decide_eq_true_eq, decide_eq_false_iff_not, Bool.not_eq_true', Bool.not_eq_false', Bool.true_eq_false, Bool.false_eq_true, true_implies, false_implies, implies_true, true_and, and_true, Nat.reduceSub, Nat.reduceAdd, reduceCtorEq, Option.map_some, Option.map_none, if_true, if_false, Option.some.injEq, Int.toNat_natCast]
  exact s_counts_without (ig := none) hn hp hw hw2 fun fs hR hL => k fs hR (hL.2 rfl)
end Law

set_option Elab.async false
set_option linter.all false
set_option maxRecDepth 100000
set_option maxHeartbeats 1000000
/-! PuV: the counts that fit lie on one piece of the circle. -/
namespace Law
open PySem PySem.W Pu

theorem eqv_nil (xs : List D) : PyData.eqv (.list xs) (.list []) = decide (xs = []) := by
  cases xs <;> simp [PyData.eqv, PyData.eqvAll]
theorem shp_nil : SeqAt.shaped (.list []) = true := by simp [SeqAt.shaped, PyData.canLay0, PyData.canLayAll0, PyData.depth, PyData.depthAll]
theorem shp_int (i : Int) : SeqAt.shaped (.int i) = true := by simp [SeqAt.shaped, PyData.canLay0, PyData.depth]
theorem shp_none : SeqAt.shaped .none = true := by simp [SeqAt.shaped, PyData.canLay0, PyData.depth]
theorem shp_bool (i : Bool) : SeqAt.shaped (.bool i) = true := by simp [SeqAt.shaped, PyData.canLay0, PyData.depth]
theorem shp_opt (i : Option Int) : SeqAt.shaped (optD i) = true := by cases i <;> simp [optD, SeqAt.shaped, PyData.canLay0, PyData.depth]
theorem Sm.ones {α : Type} {l : List α} (h : l.length ≤ 100000) : Sm 2 (.list (l.map fun _ => PyData.int 1)) := ⟨by rw [List.length_map]; exact h, fun x hx => by
  obtain ⟨i, _, rfl⟩ := List.mem_map.mp hx
  trivial⟩
/-- how many numbers -/
def size (fs : List (Int × Int)) : Int := (fs.map fun r => r.2 - r.1 + 1).sum
theorem s_number_fitting {ps : List Int} {w : Int} {Φ : Ent → Prop} (hn : ps.length ≤ 6) (hp : Pos ps) (hw : 0 ≤ w) (hw2 : w ≤ 9)
    (k : ∀ fs, Rng none w ps fs → fs.length ≤ 1344 → Φ (.d (.int (size fs)))) : p_number_fitting [.d (TI ps), .d (.int w)] Φ := by
  unfold p_number_fitting
  rw [shut_eq]
  simp only [pFun, pIxO, pLenO, pPopO, pInsO, pStO, pSlS, qRepT, pStar, qSortT, qInD, pSortSet, pRng3, qMinP, pPar3, pDNew, pDPut, pSortDict, pTupR, pLstR, pRevL, pSeq, pRet, pRetN, pNext, pAsg, pAsgL, pAsgG, pPar, pAug, pApp, pFz, pFor, pGN, pGNil, pGCons, pGT, pVar, pC, pOp, pUn, pFrz, pNil, pCons, pDs, pTup, pLst, pNotT, pChain, pBl, pBlL, pLc, pYes, pCall, pSeqI, pRng1, pRng2, pEnum, pZip, pEZ, pSl, pNoPart, pPart, pIsa1, pIsa2, pCatL, x_If, x_Ite, x_AndT, x_OrT, x_Tst, x_AndV, x_OrV, x_NotV, boolD_d, elD_d, x_IxL, x_IxT, qII, qIC, qAdd, q1C, q2C, qLen, qTuple, qListL, qSum, qAll, qMin2, qMax2, qAbs, qInt, qEq, qNe, qIs, qIsNot, qIn, qNeg, qCatL, qSort, sqD, flatD, dIsN, wipeE, List.getElem?_cons_zero, List.getElem?_cons_succ, List.set_cons_zero, List.set_cons_succ, List.cons_append, List.nil_append, List.replicate_succ, List.replicate_zero, List.length_cons, List.length_nil, List.length_map, decide_eq_true_eq, decide_eq_false_iff_not, Bool.not_eq_true', Bool.not_eq_false', Bool.true_eq_false, Bool.false_eq_true, true_implies, false_implies, implies_true, true_and, and_true, Nat.reduceSub, Nat.reduceAdd, reduceCtorEq, Option.map_some, Option.map_none, if_true, if_false, Option.some.injEq, Int.toNat_natCast]
  refine s_counts hn hp hw hw2 fun fs hR hL => ?_
  try simp only [pFun, pIxO, pLenO, pPopO, pInsO, pStO, pSlS, qRepT, pStar, qSortT, qInD, pSortSet, pRng3, qMinP, pPar3, pDNew, pDPut, pSortDict, pTupR, pLstR, pRevL, pSeq, pRet, pRetN, pNext, pAsg, pAsgL, pAsgG, pPar, pAug, pApp, pFz, pFor, pGN, pGNil, pGCons, pGT, pVar, pC, pOp, pUn, pFrz, pNil, pCons, pDs, pTup, pLst, pNotT, pChain, pBl, pBlL, pLc, pYes, pCall, pSeqI, pRng1, pRng2, pEnum, pZip, pEZ, pSl, pNoPart, pPart, pIsa1, pIsa2, pCatL, x_If, x_Ite, x_AndT, x_OrT, x_Tst, x_AndV, x_OrV, x_NotV, boolD_d, elD_d, x_IxL, x_IxT, qII, qIC, qAdd, q1C, q2C, qLen, qTuple, qListL, qSum, qAll, qMin2, qMax2, qAbs, qInt, qEq, qNe, qIs, qIsNot, qIn, qNeg, qCatL, qSort, sqD, flatD, dIsN, wipeE, List.getElem?_cons_zero, List.getElem?_cons_succ, List.set_cons_zero, List.set_cons_succ, List.cons_append, List.nil_append, List.replicate_succ, List.replicate_zero, List.length_cons, List.length_nil, List.length_map, decide_eq_true_eq, decide_eq_false_iff_not, Bool.not_eq_true', Bool.not_eq_false', Bool.true_eq_false, Bool.false_eq_true, true_implies, false_implies, implies_true, true_and, and_true, Nat.reduceSub, Nat.reduceAdd, reduceCtorEq, Option.map_some, Option.map_none, if_true, if_false, Option.some.injEq, Int.toNat_natCast]
  refine ⟨by omega, ?_⟩
  refine lc_map (G := PyData.int) (fun r : Int × Int => r.2 - r.1 + 1) (fun r hr Ψ hΨ => ?_) ?_
  · simp only [pFun, pIxO, pLenO, pPopO, pInsO, pStO, pSlS, qRepT, pStar, qSortT, qInD, pSortSet, pRng3, qMinP, pPar3, pDNew, pDPut, pSortDict, pTupR, pLstR, pRevL, pSeq, pRet, pRetN, pNext, pAsg, pAsgL, pAsgG, pPar, pAug, pApp, pFz, pFor, pGN, pGNil, pGCons, pGT, pVar, pC, pOp, pUn, pFrz, pNil, pCons, pDs, pTup, pLst, pNotT, pChain, pBl, pBlL, pLc, pYes, pCall, pSeqI, pRng1, pRng2, pEnum, pZip, pEZ, pSl, pNoPart, pPart, pIsa1, pIsa2, pCatL, x_If, x_Ite, x_AndT, x_OrT, x_Tst, x_AndV, x_OrV, x_NotV, boolD_d, elD_d, x_IxL, x_IxT, qII, qIC, qAdd, q1C, q2C, qLen, qTuple, qListL, qSum, qAll, qMin2, qMax2, qAbs, qInt, qEq, qNe, qIs, qIsNot, qIn, qNeg, qCatL, qSort, sqD, flatD, dIsN, wipeE, List.getElem?_cons_zero, List.getElem?_cons_succ, List.set_cons_zero, List.set_cons_succ, List.cons_append, List.nil_append, List.replicate_succ, List.replicate_zero, List.length_cons, List.length_nil, List.length_map, decide_eq_true_eq, decide_eq_false_iff_not, Bool.not_eq_true', Bool.not_eq_false', Bool.true_eq_false, Bool.false_eq_true, true_implies, false_implies, implies_true, true_and, and_true, Nat.reduceSub, Nat.reduceAdd, reduceCtorEq, Option.map_some, Option.map_none, if_true, if_false, Option.some.injEq, Int.toNat_natCast, pairD]
    exact hΨ
  · exact ⟨_, rfl, k fs hR hL⟩

/-! shifts -/
theorem nearD_shift {p u w c q : Int} (hu : 0 < u) : NearD p u w (c + q * (100 * u)) ↔ NearD p u w c := by
  rw [nearD_iff hu, nearD_iff hu]
  constructor
  · rintro ⟨k, h1, h2⟩
    have e : (k - q) * (100 * u) = k * (100 * u) - q * (100 * u) := Int.sub_mul ..
    exact ⟨k - q, by omega, by omega⟩
  · rintro ⟨k, h1, h2⟩
    have e : (k + q) * (100 * u) = k * (100 * u) + q * (100 * u) := Int.add_mul ..
    exact ⟨k + q, by omega, by omega⟩
theorem ten_split {n i : Nat} (h : i < n) : ten (n + 1) = ten i * (100 * ten (n - 1 - i)) := by
  have e : n + 1 = i + (n - 1 - i) + 1 + 1 := by omega
  rw [e, ten_succ, ten_succ, ten_add, Int.mul_assoc, Int.mul_assoc]
  congr 1
  omega
theorem near_shift {ig : Option Int} {w c q : Int} {ps : List Int} : Near ig w (c + q * ten (ps.length + 1)) ps ↔ Near ig w c ps := by
  have key : ∀ i p, ps[i]? = some p → (NearD p (ten (ps.length - 1 - i)) w (c + q * ten (ps.length + 1)) ↔ NearD p (ten (ps.length - 1 - i)) w c) := fun i p hp => by
    have hl := (List.getElem?_eq_some_iff.mp hp).1
    rw [ten_split hl, ← Int.mul_assoc]
    exact nearD_shift (ten_pos _)
  exact ⟨fun h i p hp hi => (key i p hp).mp (h i p hp hi), fun h i p hp hi => (key i p hp).mpr (h i p hp hi)⟩
/-- two counts that fit: all between them fit, if they are near each other -/
theorem near_between {ig : Option Int} {w c δ t : Int} {ps : List Int} (hw : 0 ≤ w) (hw2 : w ≤ 9) (h1 : Near ig w c ps) (h2 : Near ig w (c + δ) ps) (hδ : δ < 82) (t0 : 0 ≤ t) (t1 : t ≤ δ) : Near ig w (c + t) ps := fun i p hp hi => by
  have tp := ten_pos (ps.length - 1 - i)
  have a := h1 i p hp hi
  have b := h2 i p hp hi
  generalize ten (ps.length - 1 - i) = u at *
  rw [nearD_iff tp] at a b ⊢
  obtain ⟨k, a1, a2⟩ := a
  obtain ⟨k', b1, b2⟩ := b
  have e1 : (p - w) * u = p * u - w * u := Int.sub_mul ..
  have e2 : (p + w) * u = p * u + w * u := Int.add_mul ..
  have hwu : w * u ≤ 9 * u := Int.mul_le_mul_of_nonneg_right hw2 (Int.le_of_lt tp)
  rw [e1] at a1 b1 ⊢
  rw [e2] at a2 b2 ⊢
  rcases Int.lt_trichotomy k k' with q | q | q
  · have := mulT (show k + 1 ≤ k' by omega) (show 0 < 100 * u by omega)
    rw [Int.add_mul] at this
    omega
  · subst q
    exact ⟨k, by omega, by omega⟩
  · have := mulT (show k' + 1 ≤ k by omega) (show 0 < 100 * u by omega)
    rw [Int.add_mul] at this
    omega
theorem near_pair {p u w c c' : Int} (hu : 0 < u) (h1 : NearD p u w c) (h2 : NearD p u w c') : ∃ δ q : Int, -(2 * (w * u)) ≤ δ ∧ δ ≤ 2 * (w * u) ∧ c' = c + δ + q * (100 * u) := by
  rw [nearD_iff hu] at h1 h2
  obtain ⟨k, a1, a2⟩ := h1
  obtain ⟨k', b1, b2⟩ := h2
  have e1 : (p - w) * u = p * u - w * u := Int.sub_mul ..
  have e2 : (p + w) * u = p * u + w * u := Int.add_mul ..
  rw [e1] at a1 b1
  rw [e2] at a2 b2
  refine ⟨c' - c - (k' - k) * (100 * u), k' - k, ?_, ?_, by omega⟩
  · rw [Int.sub_mul]; omega
  · rw [Int.sub_mul]; omega
/-- two counts that fit with an error of at most 4 differ by at most twice the error on the circle -/
theorem near_diff {w c c' : Int} {ps : List Int} (hn : 0 < ps.length) (hw : 0 ≤ w) (hw2 : w ≤ 4) (h1 : Near none w c ps) (h2 : Near none w c' ps) : ∃ δ q : Int, -(2 * w) ≤ δ ∧ δ ≤ 2 * w ∧ c' = c + δ + q * ten (ps.length + 1) := by
  have key : ∀ k, k < ps.length → ∃ δ q : Int, -(2 * w) ≤ δ ∧ δ ≤ 2 * w ∧ c' = c + δ + q * (100 * ten k) := by
    intro k
    induction k with
    | zero =>
      intro h
      have hp : ps[ps.length - 1]? = some ps[ps.length - 1] := List.getElem?_eq_getElem (by omega)
      have e : ps.length - 1 - (ps.length - 1) = 0 := by omega
      have a := h1 _ _ hp (by simp)
      have b := h2 _ _ hp (by simp)
      rw [e] at a b
      obtain ⟨δ, q, x, y, z⟩ := near_pair (ten_pos 0) a b
      rw [ten_zero] at x y z
      exact ⟨δ, q, by omega, by omega, by rw [ten_zero]; exact z⟩
    | succ k ih =>
      intro h
      obtain ⟨δ, q, x, y, z⟩ := ih (by omega)
      have hp : ps[ps.length - 1 - (k + 1)]? = some ps[ps.length - 1 - (k + 1)] := List.getElem?_eq_getElem (by omega)
      have e : ps.length - 1 - (ps.length - 1 - (k + 1)) = k + 1 := by omega
      have a := h1 _ _ hp (by simp)
      have b := h2 _ _ hp (by simp)
      rw [e] at a b
      obtain ⟨δ', q', x', y', z'⟩ := near_pair (ten_pos (k + 1)) a b
      rw [ten_succ] at x' y' z'
      have tp := ten_pos k
      obtain ⟨u, hu⟩ : ∃ u, u = ten k := ⟨_, rfl⟩
      rw [← hu] at x' y' z' z tp
      have hwu : w * u ≤ 4 * u := Int.mul_le_mul_of_nonneg_right hw2 (Int.le_of_lt tp)
      have hwu0 : 0 ≤ w * u := Int.mul_nonneg hw (Int.le_of_lt tp)
      have ew : w * (u * 10) = 10 * (w * u) := by rw [← Int.mul_assoc]; omega
      rw [ew] at x' y'
      have e1 : q' * (100 * (u * 10)) = (10 * q') * (100 * u) := by
        rw [show (100 : Int) * (u * 10) = 10 * (100 * u) by omega, ← Int.mul_assoc, Int.mul_comm q' 10]
      have e2 : δ - δ' = (10 * q' - q) * (100 * u) := by rw [Int.sub_mul, ← e1]; omega
      have e3 : 10 * q' - q = 0 := by
        rcases Int.lt_trichotomy (10 * q' - q) 0 with r | r | r
        · have := mulT (show 10 * q' - q ≤ -1 by omega) (show 0 < 100 * u by omega)
          rw [← e2] at this
          omega
        · exact r
        · have := mulT (show 1 ≤ 10 * q' - q by omega) (show 0 < 100 * u by omega)
          rw [← e2] at this
          omega
      rw [e3, Int.zero_mul] at e2
      refine ⟨δ, q', x, y, ?_⟩
      rw [ten_succ, ← hu, show δ = δ' by omega]
      exact z'
  obtain ⟨δ, q, x, y, z⟩ := key (ps.length - 1) (by omega)
  refine ⟨δ, q, x, y, ?_⟩
  rw [show ps.length + 1 = (ps.length - 1) + 1 + 1 by omega, ten_succ, ten_succ, show ten (ps.length - 1) * 10 * 10 = 100 * ten (ps.length - 1) by omega]
  exact z

/-! the ranges -/
theorem Canon.up {fs : List (Int × Int)} (h : Canon fs) : ∀ r ∈ fs, ¬ In fs (r.2 + 1) := by
  induction fs with
  | nil => intro r hr; simp at hr
  | cons s fs ih =>
    intro r hr hi
    rcases List.mem_cons.mp hr with rfl | hr
    · rcases in_cons.mp hi with q | ⟨t, ht, q⟩
      · omega
      · have := h.2.1 t ht; omega
    · rcases in_cons.mp hi with q | q
      · have := h.2.1 r hr; have := h.2.2.le r hr; omega
      · exact ih h.2.2 r hr q
theorem Canon.down {fs : List (Int × Int)} (h : Canon fs) : ∀ r ∈ fs, ¬ In fs (r.1 - 1) := by
  induction fs with
  | nil => intro r hr; simp at hr
  | cons s fs ih =>
    intro r hr hi
    rcases List.mem_cons.mp hr with rfl | hr
    · rcases in_cons.mp hi with q | ⟨t, ht, q⟩
      · omega
      · have := h.2.1 t ht; have := h.1; omega
    · rcases in_cons.mp hi with q | q
      · have := h.2.1 r hr; omega
      · exact ih h.2.2 r hr q
theorem Rng.fitL {ig : Option Int} {w : Int} {ps : List Int} {fs : List (Int × Int)} (h : Rng ig w ps fs) {r : Int × Int} (hr : r ∈ fs) : Fits ig w ps r.1 := (h.2 _).mp ⟨r, hr, Int.le_refl _, h.1.le r hr⟩
theorem Rng.fitH {ig : Option Int} {w : Int} {ps : List Int} {fs : List (Int × Int)} (h : Rng ig w ps fs) {r : Int × Int} (hr : r ∈ fs) : Fits ig w ps r.2 := (h.2 _).mp ⟨r, hr, h.1.le r hr, Int.le_refl _⟩
/-- two ranges: the first begins at 0, the last ends at the end, and together they are short -/
theorem two_ranges {w : Int} {ps : List Int} {fs l1 l2 l3 : List (Int × Int)} {r s : Int × Int} (hn : 0 < ps.length) (hw : 0 ≤ w) (hw2 : w ≤ 4) (h : Rng none w ps fs) (e : fs = l1 ++ r :: (l2 ++ s :: l3)) :
    r.1 = 0 ∧ s.2 = ten (ps.length + 1) - 1 ∧ r.2 + ten (ps.length + 1) - s.1 ≤ 2 * w := by
  have hr : r ∈ fs := by rw [e]; simp
  have hs : s ∈ fs := by rw [e]; simp
  have c := h.1
  rw [e, canon_app] at c
  have hrs : r.2 + 1 < s.1 := c.2.1.2.1 s (by simp)
  have r0 := h.fitL hr
  have r1 := h.fitH hr
  have s0 := h.fitL hs
  have s1 := h.fitH hs
  have rle := h.1.le r hr
  have sle := h.1.le s hs
  obtain ⟨δ, q, d1, d2, d3⟩ := near_diff hn hw hw2 r1.2.2 s0.2.2
  have W100 : 100 ≤ ten (ps.length + 1) := ten_le (a := 2) (by omega)
  have r12 := r1.2.1
  have s02 := s0.2.1
  have r11 := r1.1
  have per := @near_shift none w (r.1 - 1) 1 ps
  generalize hW : ten (ps.length + 1) = W at *
  have hq : q = 0 ∨ q = 1 := by
    rcases Int.lt_trichotomy q 0 with z | z | z
    · have := mulT (show q ≤ -1 by omega) (show 0 < W by omega)
      omega
    · exact .inl z
    · rcases Int.lt_trichotomy q 1 with z2 | z2 | z2
      · omega
      · exact .inr z2
      · have := mulT (show 2 ≤ q by omega) (show 0 < W by omega)
        omega
  rcases hq with rfl | rfl
  · exfalso
    have e1 : r.2 + δ = s.1 := by omega
    have := near_between (t := 1) hw (by omega) r1.2.2 (by rw [e1]; exact s0.2.2) (by omega) (by omega) (by omega)
    exact h.1.up r hr ((h.2 _).mpr ⟨by omega, by rw [hW]; omega, this⟩)
  · have e1 : s.1 + (r.2 + W - s.1) = r.2 + 1 * W := by omega
    have nr : Near none w (s.1 + (r.2 + W - s.1)) ps := by
      rw [e1, ← hW]
      exact near_shift.mpr r1.2.2
    have bt := fun t => near_between (t := t) (δ := r.2 + W - s.1) hw (by omega) s0.2.2 nr (by omega)
    have s12 := s1.2.1
    rw [hW] at s12
    refine ⟨?_, ?_, by omega⟩
    · by_cases z : r.1 = 0
      · exact z
      · exfalso
        have r01 := r0.1
        have := bt (r.1 - 1 + W - s.1) (by omega) (by omega)
        rw [show s.1 + (r.1 - 1 + W - s.1) = r.1 - 1 + 1 * W by omega] at this
        exact h.1.down r hr ((h.2 _).mpr ⟨by omega, by rw [hW]; omega, per.mp this⟩)
    · by_cases z : s.2 = W - 1
      · exact z
      · exfalso
        have := bt (s.2 + 1 - s.1) (by omega) (by omega)
        rw [show s.1 + (s.2 + 1 - s.1) = s.2 + 1 by omega] at this
        exact h.1.up s hs ((h.2 _).mpr ⟨by omega, by rw [hW]; omega, this⟩)
theorem one_range {ig : Option Int} {w : Int} {ps : List Int} {fs : List (Int × Int)} {r : Int × Int} (hn : 0 < ps.length) (hw : 0 ≤ w) (hw2 : w ≤ 9) (h : Rng ig w ps fs) (hr : r ∈ fs) (hi : ig ≠ some ((ps.length - 1 : Nat) : Int)) : r.2 - r.1 ≤ 2 * w := by
  have hp : ps[ps.length - 1]? = some ps[ps.length - 1] := List.getElem?_eq_getElem (by omega)
  have e : ps.length - 1 - (ps.length - 1) = 0 := by omega
  have := run_len (p := ps[ps.length - 1]) (u := ten 0) (ten_pos 0) hw hw2 (h.1.le r hr) fun c a b => by
    have := ((h.2 c).mp ⟨r, hr, a, b⟩).2.2 _ _ hp hi
    rw [e] at this
    exact this
  rw [ten_zero] at this
  omega
/-- all in one piece of the circle -/
theorem one_piece {w : Int} {ps : List Int} {fs : List (Int × Int)} (hn : 0 < ps.length) (hw : 0 ≤ w) (hw2 : w ≤ 4) (h : Rng none w ps fs) :
    (fs = [] ∨ (∃ r, fs = [r]) ∨ ∃ r s, fs = [r, s] ∧ r.1 = 0 ∧ s.2 = ten (ps.length + 1) - 1) ∧ size fs ≤ 2 * w + 1 := by
  match fs, h with
  | [], h => exact ⟨.inl rfl, by simp [size]; omega⟩
  | [r], h =>
    have := one_range hn hw (by omega) h (r := r) (by simp) (by simp)
    exact ⟨.inr (.inl ⟨r, rfl⟩), by simp [size]; omega⟩
  | [r, s], h =>
    have := two_ranges (l1 := []) (l2 := []) (l3 := []) hn hw hw2 h rfl
    exact ⟨.inr (.inr ⟨r, s, rfl, this.1, this.2.1⟩), by simp [size]; omega⟩
  | r :: s :: t :: l, h =>
    have a := two_ranges (l1 := []) (l2 := []) hn hw hw2 h rfl
    have b := h.1.2.2.2.1 t (by simp)
    have c := (h.fitL (r := t) (by simp)).2.1
    omega
end Law

set_option Elab.async false
set_option linter.all false
set_option maxRecDepth 100000
set_option maxHeartbeats 1000000
/-! PuW: _law_ranges, _law_counts. -/
namespace Law
open PySem PySem.W Pu

theorem size_app (xs ys : List (Int × Int)) : size (xs ++ ys) = size xs + size ys := by simp [size, List.sum_append]
theorem size_one (r : Int × Int) : size [r] = r.2 - r.1 + 1 := by simp [size]
theorem s_ranges {ns : List Int} {Φ : Ent → Prop} (hl : ns.length ≤ 50000) (hs : ns.Pairwise (· < ·)) (k : ∀ fs, Canon fs → (∀ c, In fs c ↔ c ∈ ns) → size fs = ns.length → fs.length ≤ ns.length → Φ (.d (LR fs))) : p_l_ranges [.d (LI ns)] Φ := by
  unfold p_l_ranges
  rw [shut_eq]
  refine ⟨rfl, ?_⟩
  refine seq ?_
  simp only [pFun, pIxO, pLenO, pPopO, pInsO, pStO, pSlS, qRepT, pStar, qSortT, qInD, pSortSet, pRng3, qMinP, pPar3, pDNew, pDPut, pSortDict, pTupR, pLstR, pRevL, pRet, pRetN, pNext, pAsg, pAsgL, pAsgG, pPar, pAug, pApp, pFz, pFor, pGN, pGNil, pGCons, pGT, pVar, pC, pOp, pUn, pFrz, pNil, pCons, pDs, pTup, pLst, pNotT, pChain, pBl, pBlL, pLc, pYes, pCall, pSeqI, pRng1, pRng2, pEnum, pZip, pEZ, pSl, pNoPart, pPart, pIsa1, pIsa2, pCatL, x_Ite, x_AndT, x_OrT, x_Tst, x_AndV, x_OrV, x_NotV, boolD_d, elD_d, x_IxL, x_IxT, qII, qIC, qAdd, q1C, q2C, qLen, qTuple, qListL, qSum, qAll, qMin2, qMax2, qAbs, qInt, qEq, qNe, qIs, qIsNot, qIn, qNeg, qCatL, qSort, sqD, flatD, dIsN, wipeE, List.getElem?_cons_zero, List.getElem?_cons_succ, List.set_cons_zero, List.set_cons_succ, List.cons_append, List.nil_append, List.replicate_succ, List.replicate_zero, List.length_cons, List.length_nil, List.length_map, decide_eq_true_eq, decide_eq_false_iff_not, Bool.not_eq_true', Bool.not_eq_false', Bool.true_eq_false, Bool.false_eq_true, true_implies, false_implies, implies_true, true_and, and_true, Nat.reduceSub, Nat.reduceAdd, reduceCtorEq, Option.map_some, Option.map_none, if_true, if_false, Option.some.injEq, Int.toNat_natCast]
  refine ⟨by decide, ?_⟩
  refine seq ?_
  simp only [pFun, pIxO, pLenO, pPopO, pInsO, pStO, pSlS, qRepT, pStar, qSortT, qInD, pSortSet, pRng3, qMinP, pPar3, pDNew, pDPut, pSortDict, pTupR, pLstR, pRevL, pRet, pRetN, pNext, pAsg, pAsgL, pAsgG, pPar, pAug, pApp, pFz, pFor, pGN, pGNil, pGCons, pGT, pVar, pC, pOp, pUn, pFrz, pNil, pCons, pDs, pTup, pLst, pNotT, pChain, pBl, pBlL, pLc, pYes, pCall, pSeqI, pRng1, pRng2, pEnum, pZip, pEZ, pSl, pNoPart, pPart, pIsa1, pIsa2, pCatL, x_Ite, x_AndT, x_OrT, x_Tst, x_AndV, x_OrV, x_NotV, boolD_d, elD_d, x_IxL, x_IxT, qII, qIC, qAdd, q1C, q2C, qLen, qTuple, qListL, qSum, qAll, qMin2, qMax2, qAbs, qInt, qEq, qNe, qIs, qIsNot, qIn, qNeg, qCatL, qSort, sqD, flatD, dIsN, wipeE, List.getElem?_cons_zero, List.getElem?_cons_succ, List.set_cons_zero, List.set_cons_succ, List.cons_append, List.nil_append, List.replicate_succ, List.replicate_zero, List.length_cons, List.length_nil, List.length_map, decide_eq_true_eq, decide_eq_false_iff_not, Bool.not_eq_true', Bool.not_eq_false', Bool.true_eq_false, Bool.false_eq_true, true_implies, false_implies, implies_true, true_and, and_true, Nat.reduceSub, Nat.reduceAdd, reduceCtorEq, Option.map_some, Option.map_none, if_true, if_false, Option.some.injEq, Int.toNat_natCast]
  refine for_rule (fun ls _ ρ => ∃ fs x, ρ = [.d (LI ns), .ol (fs.map pairD), x] ∧ Canon fs ∧ (∀ c, In fs c ↔ c ∈ ls) ∧ size fs = ls.length ∧ fs.length ≤ ls.length) ⟨[], _, rfl, trivial, fun c => by simp [In], rfl, Nat.le_refl _⟩ ?_ ?_
  · rintro ρ ⟨fs, x, rfl, h1, h2, h3, h4⟩
    simp only [pFun, pIxO, pLenO, pPopO, pInsO, pStO, pSlS, qRepT, pStar, qSortT, qInD, pSortSet, pRng3, qMinP, pPar3, pDNew, pDPut, pSortDict, pTupR, pLstR, pRevL, pRet, pRetN, pNext, pAsg, pAsgL, pAsgG, pPar, pAug, pApp, pFz, pFor, pGN, pGNil, pGCons, pGT, pVar, pC, pOp, pUn, pFrz, pNil, pCons, pDs, pTup, pLst, pNotT, pChain, pBl, pBlL, pLc, pYes, pCall, pSeqI, pRng1, pRng2, pEnum, pZip, pEZ, pSl, pNoPart, pPart, pIsa1, pIsa2, pCatL, x_Ite, x_AndT, x_OrT, x_Tst, x_AndV, x_OrV, x_NotV, boolD_d, elD_d, x_IxL, x_IxT, qII, qIC, qAdd, q1C, q2C, qLen, qTuple, qListL, qSum, qAll, qMin2, qMax2, qAbs, qInt, qEq, qNe, qIs, qIsNot, qIn, qNeg, qCatL, qSort, sqD, flatD, dIsN, wipeE, List.getElem?_cons_zero, List.getElem?_cons_succ, List.set_cons_zero, List.set_cons_succ, List.cons_append, List.nil_append, List.replicate_succ, List.replicate_zero, List.length_cons, List.length_nil, List.length_map, decide_eq_true_eq, decide_eq_false_iff_not, Bool.not_eq_true', Bool.not_eq_false', Bool.true_eq_false, Bool.false_eq_true, true_implies, false_implies, implies_true, true_and, and_true, Nat.reduceSub, Nat.reduceAdd, reduceCtorEq, Option.map_some, Option.map_none, if_true, if_false, Option.some.injEq, Int.toNat_natCast]
    exact k fs h1 h2 h3 h4
  · rintro ls n rest ρ e ⟨fs, x, rfl, h1, h2, h3, h4⟩ Ψ hΨ
    have hlen : ls.length < ns.length := by rw [e]; simp
    have hlt : ∀ f ∈ fs, f.2 < n := fun f hf => by
      have : f.2 ∈ ls := (h2 _).mp ⟨f, hf, h1.le f hf, Int.le_refl _⟩
      rw [e, List.pairwise_append] at hs
      exact hs.2.2 _ this n List.mem_cons_self
    have sf : Sm 3 (LR fs) := Sm.pairs (by omega)
    have new : ∀ gs : List (Int × Int), Canon gs → (∀ c, In gs c ↔ In fs c ∨ c = n) → size gs = size fs + 1 → gs.length ≤ fs.length + 1 → Ψ [.d (LI ns), .ol (gs.map pairD), .d (.int n)] := fun gs g1 g2 g3 g4 =>
      hΨ _ ⟨gs, _, rfl, g1, fun c => by rw [g2, h2]; simp, by rw [g3, h3]; simp, by simp; omega⟩
    simp only [pFun, pIxO, pLenO, pPopO, pInsO, pStO, pSlS, qRepT, pStar, qSortT, qInD, pSortSet, pRng3, qMinP, pPar3, pDNew, pDPut, pSortDict, pTupR, pLstR, pRevL, pRet, pRetN, pNext, pAsg, pAsgL, pAsgG, pPar, pAug, pApp, pFz, pFor, pGN, pGNil, pGCons, pGT, pVar, pC, pOp, pUn, pFrz, pNil, pCons, pDs, pTup, pLst, pNotT, pChain, pBl, pBlL, pLc, pYes, pCall, pSeqI, pRng1, pRng2, pEnum, pZip, pEZ, pSl, pNoPart, pPart, pIsa1, pIsa2, pCatL, x_Ite, x_AndT, x_OrT, x_Tst, x_AndV, x_OrV, x_NotV, boolD_d, elD_d, x_IxL, x_IxT, qII, qIC, qAdd, q1C, q2C, qLen, qTuple, qListL, qSum, qAll, qMin2, qMax2, qAbs, qInt, qEq, qNe, qIs, qIsNot, qIn, qNeg, qCatL, qSort, sqD, flatD, dIsN, wipeE, List.getElem?_cons_zero, List.getElem?_cons_succ, List.set_cons_zero, List.set_cons_succ, List.cons_append, List.nil_append, List.replicate_succ, List.replicate_zero, List.length_cons, List.length_nil, List.length_map, decide_eq_true_eq, decide_eq_false_iff_not, Bool.not_eq_true', Bool.not_eq_false', Bool.true_eq_false, Bool.false_eq_true, true_implies, false_implies, implies_true, true_and, and_true, Nat.reduceSub, Nat.reduceAdd, reduceCtorEq, Option.map_some, Option.map_none, if_true, if_false, Option.some.injEq, Int.toNat_natCast, x_If, pLendT, List.map_cons, List.map_nil, bare]
    rw [LR_ne]
    have app : (∀ f ∈ fs, f.2 + 1 < n) → 2 ≤ 100000 ∧ fs.length < 100000 ∧ Ψ [.d (LI ns), .ol (fs.map pairD ++ [PyData.tuple [.int n, .int n]]), .d (.int n)] := fun hg => by
      refine ⟨by decide, by omega, ?_⟩
      have := new (fs ++ [(n, n)]) (canon_app.mpr ⟨h1, Canon.one (Int.le_refl n), fun r hr s hs => by
        rw [List.mem_singleton] at hs
        subst hs
        exact hg r hr⟩) (fun c => by rw [in_app, in_one]; exact ⟨fun h => h.imp id fun h => by dsimp only at h; omega, fun h => h.imp id fun h => by dsimp only; omega⟩) (by rw [size_app, size_one]; dsimp only; omega) (by simp)
      rw [List.map_append] at this
      exact this
    refine ⟨by decide, sf.shp (by decide), shp_nil, fun hne => ?_, fun he => ?_⟩
    · have hne := of_decide_eq_false hne
      rcases last_or fs with rfl | ⟨gs, ⟨b, t⟩, rfl⟩
      · exact absurd rfl hne
      · have hb := hlt (b, t) (by simp)
        have hc := canon_app.mp h1
        obtain ⟨c1, c2, c3⟩ := hc
        have hbt : b ≤ t := c2.1
        rw [List.map_append, List.map_cons, List.map_nil, atI_last, cut_init]
        refine ⟨_, rfl, shp_int _, shp_int _, fun he => ?_, fun hne2 => ?_⟩
        · rw [eqv_i] at he
          have he : t + 1 = n := of_decide_eq_true he
          refine ⟨_, rfl, by decide, by decide, by simp at h4 ⊢; omega, ?_⟩
          have := new (gs ++ [(b, n)]) (canon_app.mpr ⟨c1, Canon.one (by show b ≤ n; omega), fun r hr s hs => by
            rw [List.mem_singleton] at hs
            subst hs
            exact c3 r hr (b, t) List.mem_cons_self⟩) (fun c => by
              rw [in_app, in_app, in_one, in_one]
              dsimp only
              constructor
              · rintro (q | ⟨q1, q2⟩)
                · exact .inl (.inl q)
                · by_cases z : c = n
                  · exact .inr z
                  · exact .inl (.inr ⟨q1, by omega⟩)
              · rintro ((q | ⟨q1, q2⟩) | q)
                · exact .inl q
                · exact .inr ⟨q1, by omega⟩
                · exact .inr ⟨by omega, by omega⟩) (by rw [size_app, size_app, size_one, size_one]; dsimp only; omega) (by simp)
          rw [List.map_append] at this
          exact this
        · rw [eqv_i] at hne2
          have hne2 : t + 1 ≠ n := of_decide_eq_false hne2
          have := app fun f hf => by
            rcases List.mem_append.mp hf with hf' | hf'
            · have := c3 f hf' (b, t) List.mem_cons_self
              dsimp only at this hb
              omega
            · rw [List.mem_singleton] at hf'
              subst hf'
              dsimp only at hb ⊢
              omega
          rw [List.map_append] at this
          exact this
    · have he := of_decide_eq_true he
      exact app fun f hf => by rw [he] at hf; simp at hf
noncomputable def dc (p : Prop) : Bool := @decide p (Classical.propDecidable p)
theorem dc_iff {p : Prop} : dc p = true ↔ p := by
  unfold dc
  exact @decide_eq_true_iff p (Classical.propDecidable p)
theorem dc_of {p : Prop} {b : Bool} (h : b = true ↔ p) : b = dc p := Bool.eq_iff_iff.mpr (h.trans dc_iff.symm)
theorem fit_list {W : Int} {p : Int → Prop} (hW : W ≤ 10000) : ((((List.range W.toNat).filter fun (i : Nat) => dc (p (0 + (i : Int)))).map fun (i : Nat) => 0 + (i : Int)).length ≤ 10000) ∧ ((((List.range W.toNat).filter fun (i : Nat) => dc (p (0 + (i : Int)))).map fun (i : Nat) => 0 + (i : Int)).Pairwise (· < ·)) ∧
    ∀ c : Int, c ∈ (((List.range W.toNat).filter fun (i : Nat) => dc (p (0 + (i : Int)))).map fun (i : Nat) => 0 + (i : Int)) ↔ 0 ≤ c ∧ c < W ∧ p c := by
  refine ⟨?_, ?_, fun c => ?_⟩
  · rw [List.length_map]
    refine Nat.le_trans (List.length_filter_le _ _) ?_
    rw [List.length_range]
    omega
  · rw [List.pairwise_map]
    exact (List.pairwise_lt_range.filter _).imp fun {a b} (h : a < b) => by omega
  · rw [List.mem_map]
    constructor
    · rintro ⟨i, hi, rfl⟩
      obtain ⟨h1, h2⟩ := List.mem_filter.mp hi
      have := List.mem_range.mp h1
      exact ⟨by omega, by omega, dc_iff.mp h2⟩
    · rintro ⟨h1, h2, h3⟩
      have e : (0 : Int) + (c.toNat : Int) = c := by omega
      exact ⟨c.toNat, List.mem_filter.mpr ⟨List.mem_range.mpr (by omega), by rw [e]; exact dc_iff.mpr h3⟩, e⟩
/-- all counts that fit, ascending -/
theorem s_l_counts {ps : List Int} {w : Int} {ig : Option Int} {Φ : Ent → Prop} (hn : ps.length ≤ 3) (k : ∀ ns : List Int, ns.length ≤ 10000 → ns.Pairwise (· < ·) → (∀ c, c ∈ ns ↔ Fits ig w ps c) → Φ (.d (LI ns))) : p_l_counts [.d (TI ps), .d (.int w), .d (optD ig)] Φ := by
  have tp := ten_pos (ps.length + 1)
  have t4 : ten (ps.length + 1) ≤ ten 4 := ten_le (b := 4) (by omega)
  have t4' : ten 4 = 10000 := rfl
  rw [t4'] at t4
  obtain ⟨f1, f2, f3⟩ := fit_list (p := fun c => Near ig w c ps) t4
  have k := k _ f1 f2 f3
  unfold p_l_counts
  rw [shut_eq]
  simp only [pFun, pIxO, pLenO, pPopO, pInsO, pStO, pSlS, qRepT, pStar, qSortT, qInD, pSortSet, pRng3, qMinP, pPar3, pDNew, pDPut, pSortDict, pTupR, pLstR, pRevL, pSeq, pRet, pRetN, pNext, pAsg, pAsgL, pAsgG, pPar, pAug, pApp, pFz, pFor, pGN, pGNil, pGCons, pGT, pVar, pC, pOp, pUn, pFrz, pNil, pCons, pDs, pTup, pLst, pNotT, pChain, pBl, pBlL, pLc, pYes, pCall, pSeqI, pRng1, pRng2, pEnum, pZip, pEZ, pSl, pNoPart, pPart, pIsa1, pIsa2, pCatL, x_If, x_Ite, x_AndT, x_OrT, x_Tst, x_AndV, x_OrV, x_NotV, boolD_d, elD_d, x_IxL, x_IxT, qII, qIC, qAdd, q1C, q2C, qLen, qTuple, qListL, qSum, qAll, qMin2, qMax2, qAbs, qInt, qEq, qNe, qIs, qIsNot, qIn, qNeg, qCatL, qSort, sqD, flatD, dIsN, wipeE, List.getElem?_cons_zero, List.getElem?_cons_succ, List.set_cons_zero, List.set_cons_succ, List.cons_append, List.nil_append, List.replicate_succ, List.replicate_zero, List.length_cons, List.length_nil, List.length_map, decide_eq_true_eq, decide_eq_false_iff_not, Bool.not_eq_true', Bool.not_eq_false', Bool.true_eq_false, Bool.false_eq_true, true_implies, false_implies, implies_true, true_and, and_true, Nat.reduceSub, Nat.reduceAdd, reduceCtorEq, Option.map_some, Option.map_none, if_true, if_false, Option.some.injEq, Int.toNat_natCast]
  refine s_size (by omega) ?_
  generalize ten (ps.length + 1) = W at *
  try simp only [pFun, pIxO, pLenO, pPopO, pInsO, pStO, pSlS, qRepT, pStar, qSortT, qInD, pSortSet, pRng3, qMinP, pPar3, pDNew, pDPut, pSortDict, pTupR, pLstR, pRevL, pSeq, pRet, pRetN, pNext, pAsg, pAsgL, pAsgG, pPar, pAug, pApp, pFz, pFor, pGN, pGNil, pGCons, pGT, pVar, pC, pOp, pUn, pFrz, pNil, pCons, pDs, pTup, pLst, pNotT, pChain, pBl, pBlL, pLc, pYes, pCall, pSeqI, pRng1, pRng2, pEnum, pZip, pEZ, pSl, pNoPart, pPart, pIsa1, pIsa2, pCatL, x_If, x_Ite, x_AndT, x_OrT, x_Tst, x_AndV, x_OrV, x_NotV, boolD_d, elD_d, x_IxL, x_IxT, qII, qIC, qAdd, q1C, q2C, qLen, qTuple, qListL, qSum, qAll, qMin2, qMax2, qAbs, qInt, qEq, qNe, qIs, qIsNot, qIn, qNeg, qCatL, qSort, sqD, flatD, dIsN, wipeE, List.getElem?_cons_zero, List.getElem?_cons_succ, List.set_cons_zero, List.set_cons_succ, List.cons_append, List.nil_append, List.replicate_succ, List.replicate_zero, List.length_cons, List.length_nil, List.length_map, decide_eq_true_eq, decide_eq_false_iff_not, Bool.not_eq_true', Bool.not_eq_false', Bool.true_eq_false, Bool.false_eq_true, true_implies, false_implies, implies_true, true_and, and_true, Nat.reduceSub, Nat.reduceAdd, reduceCtorEq, Option.map_some, Option.map_none, if_true, if_false, Option.some.injEq, Int.toNat_natCast]
  refine ⟨by omega, by omega, by rw [rngD_len]; omega, ?_⟩
  rw [rngD_map]
  refine lc_filter (G := fun (i : Nat) => PyData.int (0 + (i : Int))) (fun (i : Nat) => dc (Near ig w (0 + (i : Int)) ps)) (fun i hi Ψ hΨ => ?_) ?_
  · simp only [pFun, pIxO, pLenO, pPopO, pInsO, pStO, pSlS, qRepT, pStar, qSortT, qInD, pSortSet, pRng3, qMinP, pPar3, pDNew, pDPut, pSortDict, pTupR, pLstR, pRevL, pSeq, pRet, pRetN, pNext, pAsg, pAsgL, pAsgG, pPar, pAug, pApp, pFz, pFor, pGN, pGNil, pGCons, pGT, pVar, pC, pOp, pUn, pFrz, pNil, pCons, pDs, pTup, pLst, pNotT, pChain, pBl, pBlL, pLc, pYes, pCall, pSeqI, pRng1, pRng2, pEnum, pZip, pEZ, pSl, pNoPart, pPart, pIsa1, pIsa2, pCatL, x_If, x_Ite, x_AndT, x_OrT, x_Tst, x_AndV, x_OrV, x_NotV, boolD_d, elD_d, x_IxL, x_IxT, qII, qIC, qAdd, q1C, q2C, qLen, qTuple, qListL, qSum, qAll, qMin2, qMax2, qAbs, qInt, qEq, qNe, qIs, qIsNot, qIn, qNeg, qCatL, qSort, sqD, flatD, dIsN, wipeE, List.getElem?_cons_zero, List.getElem?_cons_succ, List.set_cons_zero, List.set_cons_succ, List.cons_append, List.nil_append, List.replicate_succ, List.replicate_zero, List.length_cons, List.length_nil, List.length_map, decide_eq_true_eq, decide_eq_false_iff_not, Bool.not_eq_true', Bool.not_eq_false', Bool.true_eq_false, Bool.false_eq_true, true_implies, false_implies, implies_true, true_and, and_true, Nat.reduceSub, Nat.reduceAdd, reduceCtorEq, Option.map_some, Option.map_none, if_true, if_false, Option.some.injEq, Int.toNat_natCast]
    refine s_near (by omega) fun b hb => ?_
    have e := dc_of hb
    rw [← e] at hΨ
    cases b with
    | true =>
      rw [if_pos rfl] at hΨ
      simp only [pFun, pIxO, pLenO, pPopO, pInsO, pStO, pSlS, qRepT, pStar, qSortT, qInD, pSortSet, pRng3, qMinP, pPar3, pDNew, pDPut, pSortDict, pTupR, pLstR, pRevL, pSeq, pRet, pRetN, pNext, pAsg, pAsgL, pAsgG, pPar, pAug, pApp, pFz, pFor, pGN, pGNil, pGCons, pGT, pVar, pC, pOp, pUn, pFrz, pNil, pCons, pDs, pTup, pLst, pNotT, pChain, pBl, pBlL, pLc, pYes, pCall, pSeqI, pRng1, pRng2, pEnum, pZip, pEZ, pSl, pNoPart, pPart, pIsa1, pIsa2, pCatL, x_If, x_Ite, x_AndT, x_OrT, x_Tst, x_AndV, x_OrV, x_NotV, boolD_d, elD_d, x_IxL, x_IxT, qII, qIC, qAdd, q1C, q2C, qLen, qTuple, qListL, qSum, qAll, qMin2, qMax2, qAbs, qInt, qEq, qNe, qIs, qIsNot, qIn, qNeg, qCatL, qSort, sqD, flatD, dIsN, wipeE, List.getElem?_cons_zero, List.getElem?_cons_succ, List.set_cons_zero, List.set_cons_succ, List.cons_append, List.nil_append, List.replicate_succ, List.replicate_zero, List.length_cons, List.length_nil, List.length_map, decide_eq_true_eq, decide_eq_false_iff_not, Bool.not_eq_true', Bool.not_eq_false', Bool.true_eq_false, Bool.false_eq_true, true_implies, false_implies, implies_true, true_and, and_true, Nat.reduceSub, Nat.reduceAdd, reduceCtorEq, Option.map_some, Option.map_none, if_true, if_false, Option.some.injEq, Int.toNat_natCast]
      exact hΨ
    | false =>
      rw [if_neg (by simp)] at hΨ
      simp only [pFun, pIxO, pLenO, pPopO, pInsO, pStO, pSlS, qRepT, pStar, qSortT, qInD, pSortSet, pRng3, qMinP, pPar3, pDNew, pDPut, pSortDict, pTupR, pLstR, pRevL, pSeq, pRet, pRetN, pNext, pAsg, pAsgL, pAsgG, pPar, pAug, pApp, pFz, pFor, pGN, pGNil, pGCons, pGT, pVar, pC, pOp, pUn, pFrz, pNil, pCons, pDs, pTup, pLst, pNotT, pChain, pBl, pBlL, pLc, pYes, pCall, pSeqI, pRng1, pRng2, pEnum, pZip, pEZ, pSl, pNoPart, pPart, pIsa1, pIsa2, pCatL, x_If, x_Ite, x_AndT, x_OrT, x_Tst, x_AndV, x_OrV, x_NotV, boolD_d, elD_d, x_IxL, x_IxT, qII, qIC, qAdd, q1C, q2C, qLen, qTuple, qListL, qSum, qAll, qMin2, qMax2, qAbs, qInt, qEq, qNe, qIs, qIsNot, qIn, qNeg, qCatL, qSort, sqD, flatD, dIsN, wipeE, List.getElem?_cons_zero, List.getElem?_cons_succ, List.set_cons_zero, List.set_cons_succ, List.cons_append, List.nil_append, List.replicate_succ, List.replicate_zero, List.length_cons, List.length_nil, List.length_map, decide_eq_true_eq, decide_eq_false_iff_not, Bool.not_eq_true', Bool.not_eq_false', Bool.true_eq_false, Bool.false_eq_true, true_implies, false_implies, implies_true, true_and, and_true, Nat.reduceSub, Nat.reduceAdd, reduceCtorEq, Option.map_some, Option.map_none, if_true, if_false, Option.some.injEq, Int.toNat_natCast]
      exact hΨ
  · rw [LI, List.map_map] at k
    exact k
theorem s_ranges_of {ns : List Int} {ig : Option Int} {w : Int} {ps : List Int} {fs : List (Int × Int)} {Φ : Ent → Prop} (hl : ns.length ≤ 50000) (hs : ns.Pairwise (· < ·)) (hm : ∀ c, c ∈ ns ↔ Fits ig w ps c) (hR : Rng ig w ps fs) (k : size fs = ns.length → Φ (.d (LR fs))) : p_l_ranges [.d (LI ns)] Φ :=
  s_ranges hl hs fun gs g1 g2 g3 g4 => by
    have : gs = fs := canon_ext g1 hR.1 fun c => (g2 c).trans ((hm c).trans (hR.2 c).symm)
    subst this
    exact k g3
theorem pos1 {p : Int} (h1 : 0 ≤ p ∧ p < 100) : Pos [p] := fun x hx => by
  rw [List.mem_singleton] at hx
  subst hx
  exact h1
theorem two_dials {p q w c : Int} : Fits none w [p, q] c ↔ 0 ≤ c ∧ c < 1000 ∧ NearD p 10 w c ∧ NearD q 1 w c := by
  unfold Fits Near
  constructor
  · rintro ⟨a, b, h⟩
    exact ⟨a, b, h 0 p rfl (by simp), h 1 q rfl (by simp)⟩
  · rintro ⟨a, b, h1, h2⟩
    refine ⟨a, b, fun i r hr _ => ?_⟩
    match i, hr with
    | 0, hr => cases hr; exact h1
    | 1, hr => cases hr; exact h2
    | i + 2, hr => simp at hr
theorem one_dial {p w c : Int} : Fits none w [p] c ↔ 0 ≤ c ∧ c < 100 ∧ NearD p 1 w c := by
  unfold Fits Near
  constructor
  · rintro ⟨a, b, h⟩
    exact ⟨a, b, h 0 p rfl (by simp)⟩
  · rintro ⟨a, b, h1⟩
    refine ⟨a, b, fun i r hr _ => ?_⟩
    match i, hr with
    | 0, hr => cases hr; exact h1
    | i + 1, hr => simp at hr
theorem pos2 {p q : Int} (h1 : 0 ≤ p ∧ p < 100) (h2 : 0 ≤ q ∧ q < 100) : Pos [p, q] := fun x hx => by
  simp only [List.mem_cons, List.not_mem_nil, or_false] at hx
  rcases hx with rfl | rfl
  · exact h1
  · exact h2
end Law

set_option Elab.async false
set_option linter.all false
set_option maxRecDepth 100000
set_option maxHeartbeats 1000000
/-! PuK: the least error. -/
namespace Law
open PySem PySem.W Pu

def NoFit (e : Int) (ps : List Int) : Prop := ∀ c, ¬ Fits none e ps c
def Least (ps : List Int) : Option Int → Prop
  | some e => 0 ≤ e ∧ e ≤ 9 ∧ (∃ c, Fits none e ps c) ∧ ∀ e', 0 ≤ e' → e' < e → NoFit e' ps
  | none => ∀ e', 0 ≤ e' → e' ≤ 9 → NoFit e' ps
theorem Least.one {ps : List Int} : ∀ {o o' : Option Int}, Least ps o → Least ps o' → o = o'
  | none, none, _, _ => rfl
  | none, some e, h, ⟨a, b, ⟨c, hc⟩, _⟩ => absurd hc (h e a b c)
  | some e, none, ⟨a, b, ⟨c, hc⟩, _⟩, h => absurd hc (h e a b c)
  | some e, some f, ⟨a, b, ⟨c, hc⟩, h⟩, ⟨a', b', ⟨c', hc'⟩, h'⟩ => by
    rcases Int.lt_trichotomy e f with q | q | q
    · exact absurd hc (h' e a q c)
    · rw [q]
    · exact absurd hc' (h f a' q c')
theorem rng_nil {ig : Option Int} {w : Int} {ps : List Int} {fs : List (Int × Int)} (h : Rng ig w ps fs) : fs = [] ↔ ∀ c, ¬ Fits ig w ps c := by
  constructor
  · rintro rfl c hc
    exact in_nil ((h.2 c).mpr hc)
  · intro hn
    cases fs with
    | nil => rfl
    | cons r rs => exact absurd (h.fitL (r := r) (by simp)) (hn _)
theorem Sm.opt (o : Option Int) : Sm 1 (optD o) := by cases o <;> trivial
theorem s_least_error {ps : List Int} {Φ : Ent → Prop} (hn : ps.length ≤ 6) (hp : Pos ps) (k : ∀ o, Least ps o → Φ (.d (optD o))) : p_least_error [.d (TI ps)] Φ := by
  unfold p_least_error
  rw [shut_eq]
  refine ⟨rfl, ?_⟩
  refine seq ?_
  simp only [pFun, pIxO, pLenO, pPopO, pInsO, pStO, pSlS, qRepT, pStar, qSortT, qInD, pSortSet, pRng3, qMinP, pPar3, pDNew, pDPut, pSortDict, pTupR, pLstR, pRevL, pRet, pRetN, pNext, pAsg, pAsgL, pAsgG, pPar, pAug, pApp, pFz, pFor, pGN, pGNil, pGCons, pGT, pVar, pC, pOp, pUn, pFrz, pNil, pCons, pDs, pTup, pLst, pNotT, pChain, pBl, pBlL, pLc, pYes, pCall, pSeqI, pRng1, pRng2, pEnum, pZip, pEZ, pSl, pNoPart, pPart, pIsa1, pIsa2, pCatL, x_Ite, x_AndT, x_OrT, x_Tst, x_AndV, x_OrV, x_NotV, boolD_d, elD_d, x_IxL, x_IxT, qII, qIC, qAdd, q1C, q2C, qLen, qTuple, qListL, qSum, qAll, qMin2, qMax2, qAbs, qInt, qEq, qNe, qIs, qIsNot, qIn, qNeg, qCatL, qSort, sqD, flatD, dIsN, wipeE, List.getElem?_cons_zero, List.getElem?_cons_succ, List.set_cons_zero, List.set_cons_succ, List.cons_append, List.nil_append, List.replicate_succ, List.replicate_zero, List.length_cons, List.length_nil, List.length_map, decide_eq_true_eq, decide_eq_false_iff_not, Bool.not_eq_true', Bool.not_eq_false', Bool.true_eq_false, Bool.false_eq_true, true_implies, false_implies, implies_true, true_and, and_true, Nat.reduceSub, Nat.reduceAdd, reduceCtorEq, Option.map_some, Option.map_none, if_true, if_false, Option.some.injEq, Int.toNat_natCast]
  refine ⟨by decide, by decide, ?_⟩
  rw [rngD_map]
  refine for_rule (fun ls rest ρ => ls.length + rest.length = 10 ∧ ∃ x, ρ = [.d (TI ps), x] ∧ ∀ e', 0 ≤ e' → e' < (ls.length : Int) → NoFit e' ps) ⟨by decide, _, rfl, fun e' a b => by simp at b; omega⟩ ?_ ?_
  · rintro ρ ⟨h, x, rfl, hN⟩
    simp only [pFun, pIxO, pLenO, pPopO, pInsO, pStO, pSlS, qRepT, pStar, qSortT, qInD, pSortSet, pRng3, qMinP, pPar3, pDNew, pDPut, pSortDict, pTupR, pLstR, pRevL, pRet, pRetN, pNext, pAsg, pAsgL, pAsgG, pPar, pAug, pApp, pFz, pFor, pGN, pGNil, pGCons, pGT, pVar, pC, pOp, pUn, pFrz, pNil, pCons, pDs, pTup, pLst, pNotT, pChain, pBl, pBlL, pLc, pYes, pCall, pSeqI, pRng1, pRng2, pEnum, pZip, pEZ, pSl, pNoPart, pPart, pIsa1, pIsa2, pCatL, x_Ite, x_AndT, x_OrT, x_Tst, x_AndV, x_OrV, x_NotV, boolD_d, elD_d, x_IxL, x_IxT, qII, qIC, qAdd, q1C, q2C, qLen, qTuple, qListL, qSum, qAll, qMin2, qMax2, qAbs, qInt, qEq, qNe, qIs, qIsNot, qIn, qNeg, qCatL, qSort, sqD, flatD, dIsN, wipeE, List.getElem?_cons_zero, List.getElem?_cons_succ, List.set_cons_zero, List.set_cons_succ, List.cons_append, List.nil_append, List.replicate_succ, List.replicate_zero, List.length_cons, List.length_nil, List.length_map, decide_eq_true_eq, decide_eq_false_iff_not, Bool.not_eq_true', Bool.not_eq_false', Bool.true_eq_false, Bool.false_eq_true, true_implies, false_implies, implies_true, true_and, and_true, Nat.reduceSub, Nat.reduceAdd, reduceCtorEq, Option.map_some, Option.map_none, if_true, if_false, Option.some.injEq, Int.toNat_natCast]
    refine k none fun e' a b => hN e' a ?_
    rw [show (List.range (Int.toNat (9 + 1))).length = 10 from rfl]
    omega
  · rintro ls i rest ρ e ⟨h, x, rfl, hN⟩ Ψ hΨ
    have hi : i = ls.length := by
      have : (List.range (Int.toNat (9 + 1)))[ls.length]? = some i := by rw [e]; simp
      have h2 := (List.getElem?_eq_some_iff.mp this)
      obtain ⟨h3, h4⟩ := h2
      rw [List.getElem_range] at h4
      omega
    have hlt : ls.length < 10 := by simp at h; omega
    simp only [pFun, pIxO, pLenO, pPopO, pInsO, pStO, pSlS, qRepT, pStar, qSortT, qInD, pSortSet, pRng3, qMinP, pPar3, pDNew, pDPut, pSortDict, pTupR, pLstR, pRevL, pRet, pRetN, pNext, pAsg, pAsgL, pAsgG, pPar, pAug, pApp, pFz, pFor, pGN, pGNil, pGCons, pGT, pVar, pC, pOp, pUn, pFrz, pNil, pCons, pDs, pTup, pLst, pNotT, pChain, pBl, pBlL, pLc, pYes, pCall, pSeqI, pRng1, pRng2, pEnum, pZip, pEZ, pSl, pNoPart, pPart, pIsa1, pIsa2, pCatL, x_Ite, x_AndT, x_OrT, x_Tst, x_AndV, x_OrV, x_NotV, boolD_d, elD_d, x_IxL, x_IxT, qII, qIC, qAdd, q1C, q2C, qLen, qTuple, qListL, qSum, qAll, qMin2, qMax2, qAbs, qInt, qEq, qNe, qIs, qIsNot, qIn, qNeg, qCatL, qSort, sqD, flatD, dIsN, wipeE, List.getElem?_cons_zero, List.getElem?_cons_succ, List.set_cons_zero, List.set_cons_succ, List.cons_append, List.nil_append, List.replicate_succ, List.replicate_zero, List.length_cons, List.length_nil, List.length_map, decide_eq_true_eq, decide_eq_false_iff_not, Bool.not_eq_true', Bool.not_eq_false', Bool.true_eq_false, Bool.false_eq_true, true_implies, false_implies, implies_true, true_and, and_true, Nat.reduceSub, Nat.reduceAdd, reduceCtorEq, Option.map_some, Option.map_none, if_true, if_false, Option.some.injEq, Int.toNat_natCast, x_If]
    refine s_counts hn hp (by omega) (by omega) fun fs hR hL => ?_
    have sf : Sm 3 (LR fs) := Sm.pairs (by omega)
    simp only [pFun, pIxO, pLenO, pPopO, pInsO, pStO, pSlS, qRepT, pStar, qSortT, qInD, pSortSet, pRng3, qMinP, pPar3, pDNew, pDPut, pSortDict, pTupR, pLstR, pRevL, pRet, pRetN, pNext, pAsg, pAsgL, pAsgG, pPar, pAug, pApp, pFz, pFor, pGN, pGNil, pGCons, pGT, pVar, pC, pOp, pUn, pFrz, pNil, pCons, pDs, pTup, pLst, pNotT, pChain, pBl, pBlL, pLc, pYes, pCall, pSeqI, pRng1, pRng2, pEnum, pZip, pEZ, pSl, pNoPart, pPart, pIsa1, pIsa2, pCatL, x_Ite, x_AndT, x_OrT, x_Tst, x_AndV, x_OrV, x_NotV, boolD_d, elD_d, x_IxL, x_IxT, qII, qIC, qAdd, q1C, q2C, qLen, qTuple, qListL, qSum, qAll, qMin2, qMax2, qAbs, qInt, qEq, qNe, qIs, qIsNot, qIn, qNeg, qCatL, qSort, sqD, flatD, dIsN, wipeE, List.getElem?_cons_zero, List.getElem?_cons_succ, List.set_cons_zero, List.set_cons_succ, List.cons_append, List.nil_append, List.replicate_succ, List.replicate_zero, List.length_cons, List.length_nil, List.length_map, decide_eq_true_eq, decide_eq_false_iff_not, Bool.not_eq_true', Bool.not_eq_false', Bool.true_eq_false, Bool.false_eq_true, true_implies, false_implies, implies_true, true_and, and_true, Nat.reduceSub, Nat.reduceAdd, reduceCtorEq, Option.map_some, Option.map_none, if_true, if_false, Option.some.injEq, Int.toNat_natCast]
    rw [LR_ne]
    refine ⟨by decide, sf.shp (by decide), shp_nil, fun hf => ?_, fun he => ?_⟩
    · have hf := of_decide_eq_false hf
      refine k (some (0 + (i : Int))) ⟨by omega, by omega, ?_, fun e' a b => hN e' a (by omega)⟩
      cases fs with
      | nil => exact absurd rfl hf
      | cons r rs => exact ⟨_, hR.fitL (r := r) (by simp)⟩
    · have he := of_decide_eq_true he
      have := (rng_nil hR).mp he
      refine hΨ _ ⟨by simp at h ⊢; omega, _, rfl, fun e' a b => ?_⟩
      rw [List.length_append, List.length_singleton] at b
      by_cases z : e' = 0 + (i : Int)
      · subst z; exact this
      · exact hN e' a (by omega)
end Law

set_option Elab.async false
set_option linter.all false
set_option maxRecDepth 100000
set_option maxHeartbeats 1000000
/-! PuI: one dial more; right figures. -/
namespace Law
open PySem PySem.W Pu

theorem near_cons {p w c : Int} {ps : List Int} : Near none w c (p :: ps) ↔ NearD p (ten ps.length) w c ∧ Near none w c ps := by
  unfold Near
  constructor
  · intro h
    refine ⟨?_, fun i q hq _ => ?_⟩
    · have := h 0 p rfl (by simp)
      exact this
    · have := h (i + 1) q hq (by simp)
      rw [show (p :: ps).length - 1 - (i + 1) = ps.length - 1 - i by simp; omega] at this
      exact this
  · rintro ⟨h1, h2⟩ i q hq _
    cases i with
    | zero => cases hq; exact h1
    | succ i =>
      rw [show (p :: ps).length - 1 - (i + 1) = ps.length - 1 - i by simp; omega]
      exact h2 i q hq (by simp)
theorem near_emod {ig : Option Int} {w c : Int} {ps : List Int} : Near ig w (c % ten (ps.length + 1)) ps ↔ Near ig w c ps := by
  have e := Int.mul_ediv_add_emod c (ten (ps.length + 1))
  have := @near_shift ig w (c % ten (ps.length + 1)) (c / ten (ps.length + 1)) ps
  rw [← this, Int.mul_comm, Int.add_comm, e]
theorem fits_tail {p w c : Int} {ps : List Int} (h : Fits none w (p :: ps) c) : Fits none w ps (c % ten (ps.length + 1)) :=
  ⟨Int.emod_nonneg _ (Int.ne_of_gt (ten_pos _)), Int.emod_lt_of_pos _ (ten_pos _), near_emod.mpr (near_cons.mp h.2.2).2⟩
/-- a run of numbers lies in one range -/
theorem canon_run {fs : List (Int × Int)} (h : Canon fs) {lo hi : Int} (hle : lo ≤ hi) (hi' : ∀ c, lo ≤ c → c ≤ hi → In fs c) : ∃ r ∈ fs, r.1 ≤ lo ∧ hi ≤ r.2 := by
  obtain ⟨r, hr, q1, q2⟩ := hi' lo (Int.le_refl _) hle
  refine ⟨r, hr, q1, ?_⟩
  by_cases z : hi ≤ r.2
  · exact z
  · exact absurd (hi' (r.2 + 1) (by omega) (by omega)) (h.up r hr)
theorem pos_cons {p : Int} {ps : List Int} (h0 : 0 ≤ p) (h1 : p < 100) (h : Pos ps) : Pos (p :: ps) := fun q hq => by
  rcases List.mem_cons.mp hq with rfl | hq
  · exact ⟨h0, h1⟩
  · exact h q hq
def figs (n : Nat) (c : Int) : List Int := (parts n).map fun u => c / (u * 10) % 10
theorem s_right_figures {n : Nat} {c : Int} {Φ : Ent → Prop} (hn : n ≤ 7) (k : Φ (.d (TI (figs n c)))) : p_right_figures [.d (.int n), .d (.int c)] Φ := by
  unfold p_right_figures
  rw [shut_eq]
  simp only [pFun, pIxO, pLenO, pPopO, pInsO, pStO, pSlS, qRepT, pStar, qSortT, qInD, pSortSet, pRng3, qMinP, pPar3, pDNew, pDPut, pSortDict, pTupR, pLstR, pRevL, pSeq, pRet, pRetN, pNext, pAsg, pAsgL, pAsgG, pPar, pAug, pApp, pFz, pFor, pGN, pGNil, pGCons, pGT, pVar, pC, pOp, pUn, pFrz, pNil, pCons, pDs, pTup, pLst, pNotT, pChain, pBl, pBlL, pLc, pYes, pCall, pSeqI, pRng1, pRng2, pEnum, pZip, pEZ, pSl, pNoPart, pPart, pIsa1, pIsa2, pCatL, x_If, x_Ite, x_AndT, x_OrT, x_Tst, x_AndV, x_OrV, x_NotV, boolD_d, elD_d, x_IxL, x_IxT, qII, qIC, qAdd, q1C, q2C, qLen, qTuple, qListL, qSum, qAll, qMin2, qMax2, qAbs, qInt, qEq, qNe, qIs, qIsNot, qIn, qNeg, qCatL, qSort, sqD, flatD, dIsN, wipeE, List.getElem?_cons_zero, List.getElem?_cons_succ, List.set_cons_zero, List.set_cons_succ, List.cons_append, List.nil_append, List.replicate_succ, List.replicate_zero, List.length_cons, List.length_nil, List.length_map, decide_eq_true_eq, decide_eq_false_iff_not, Bool.not_eq_true', Bool.not_eq_false', Bool.true_eq_false, Bool.false_eq_true, true_implies, false_implies, implies_true, true_and, and_true, Nat.reduceSub, Nat.reduceAdd, reduceCtorEq, Option.map_some, Option.map_none, if_true, if_false, Option.some.injEq, Int.toNat_natCast]
  refine s_units hn ?_
  simp only [pFun, pIxO, pLenO, pPopO, pInsO, pStO, pSlS, qRepT, pStar, qSortT, qInD, pSortSet, pRng3, qMinP, pPar3, pDNew, pDPut, pSortDict, pTupR, pLstR, pRevL, pSeq, pRet, pRetN, pNext, pAsg, pAsgL, pAsgG, pPar, pAug, pApp, pFz, pFor, pGN, pGNil, pGCons, pGT, pVar, pC, pOp, pUn, pFrz, pNil, pCons, pDs, pTup, pLst, pNotT, pChain, pBl, pBlL, pLc, pYes, pCall, pSeqI, pRng1, pRng2, pEnum, pZip, pEZ, pSl, pNoPart, pPart, pIsa1, pIsa2, pCatL, x_If, x_Ite, x_AndT, x_OrT, x_Tst, x_AndV, x_OrV, x_NotV, boolD_d, elD_d, x_IxL, x_IxT, qII, qIC, qAdd, q1C, q2C, qLen, qTuple, qListL, qSum, qAll, qMin2, qMax2, qAbs, qInt, qEq, qNe, qIs, qIsNot, qIn, qNeg, qCatL, qSort, sqD, flatD, dIsN, wipeE, List.getElem?_cons_zero, List.getElem?_cons_succ, List.set_cons_zero, List.set_cons_succ, List.cons_append, List.nil_append, List.replicate_succ, List.replicate_zero, List.length_cons, List.length_nil, List.length_map, decide_eq_true_eq, decide_eq_false_iff_not, Bool.not_eq_true', Bool.not_eq_false', Bool.true_eq_false, Bool.false_eq_true, true_implies, false_implies, implies_true, true_and, and_true, Nat.reduceSub, Nat.reduceAdd, reduceCtorEq, Option.map_some, Option.map_none, if_true, if_false, Option.some.injEq, Int.toNat_natCast]
  refine ⟨by rw [parts_len]; omega, ?_⟩
  refine lc_map (G := PyData.int) (fun u => c / (u * 10) % 10) (fun u hu Ψ hΨ => ?_) k
  obtain ⟨j, hj, rfl⟩ := parts_mem hu
  have := ten_le7 (n := j) (by omega)
  have := ten_pos j
  simp only [pFun, pIxO, pLenO, pPopO, pInsO, pStO, pSlS, qRepT, pStar, qSortT, qInD, pSortSet, pRng3, qMinP, pPar3, pDNew, pDPut, pSortDict, pTupR, pLstR, pRevL, pSeq, pRet, pRetN, pNext, pAsg, pAsgL, pAsgG, pPar, pAug, pApp, pFz, pFor, pGN, pGNil, pGCons, pGT, pVar, pC, pOp, pUn, pFrz, pNil, pCons, pDs, pTup, pLst, pNotT, pChain, pBl, pBlL, pLc, pYes, pCall, pSeqI, pRng1, pRng2, pEnum, pZip, pEZ, pSl, pNoPart, pPart, pIsa1, pIsa2, pCatL, x_If, x_Ite, x_AndT, x_OrT, x_Tst, x_AndV, x_OrV, x_NotV, boolD_d, elD_d, x_IxL, x_IxT, qII, qIC, qAdd, q1C, q2C, qLen, qTuple, qListL, qSum, qAll, qMin2, qMax2, qAbs, qInt, qEq, qNe, qIs, qIsNot, qIn, qNeg, qCatL, qSort, sqD, flatD, dIsN, wipeE, List.getElem?_cons_zero, List.getElem?_cons_succ, List.set_cons_zero, List.set_cons_succ, List.cons_append, List.nil_append, List.replicate_succ, List.replicate_zero, List.length_cons, List.length_nil, List.length_map, decide_eq_true_eq, decide_eq_false_iff_not, Bool.not_eq_true', Bool.not_eq_false', Bool.true_eq_false, Bool.false_eq_true, true_implies, false_implies, implies_true, true_and, and_true, Nat.reduceSub, Nat.reduceAdd, reduceCtorEq, Option.map_some, Option.map_none, if_true, if_false, Option.some.injEq, Int.toNat_natCast]
  exact ⟨mulR (by decide) (by decide), divOk (by omega) (by omega), by decide, hΨ⟩
theorem div_mod {c u m k : Int} (hu : 0 < u) (hm : 0 < m) (hd : k ∣ m) : c % (u * m) / u % k = c / u % k := by
  have e : c % (u * m) = c - u * (m * (c / (u * m))) := by
    have := Int.mul_ediv_add_emod c (u * m)
    rw [Int.mul_assoc] at this
    omega
  have e2 : c % (u * m) / u = c / u - m * (c / (u * m)) := by
    rw [e, Int.sub_eq_add_neg, ← Int.mul_neg, Int.add_mul_ediv_left _ _ (Int.ne_of_gt hu)]
    omega
  rw [e2, Int.sub_emod, Int.emod_eq_zero_of_dvd (Int.dvd_trans hd (Int.dvd_mul_right m _)), Int.sub_zero, Int.emod_emod]
theorem shown_tail {n : Nat} {c : Int} : (shownL (n + 1) c).drop 1 = shownL n (c % ten (n + 1)) := by
  unfold shownL
  show (parts n).map _ = _
  refine List.map_congr_left fun u hu => ?_
  rw [parts_eq] at hu
  obtain ⟨i, hi, rfl⟩ := List.mem_map.mp hu
  have hi := List.mem_range.mp hi
  have e : ten (n + 1) = ten (n - 1 - i) * (100 * ten i) := by
    rw [ten_split hi]
    generalize ten i = a
    generalize ten (n - 1 - i) = b
    rw [Int.mul_left_comm b 100 a, Int.mul_left_comm a 100 b, Int.mul_comm a b]
  rw [e, div_mod (ten_pos _) (by have := ten_pos i; omega) (Int.dvd_mul_right 100 _)]
theorem figs_tail {n : Nat} {c : Int} : (figs (n + 1) c).drop 1 = figs n (c % ten (n + 1)) := by
  unfold figs
  show (parts n).map _ = _
  refine List.map_congr_left fun u hu => ?_
  rw [parts_eq] at hu
  obtain ⟨i, hi, rfl⟩ := List.mem_map.mp hu
  have hi := List.mem_range.mp hi
  have e : ten (n + 1) = (ten (n - 1 - i) * 10) * (10 * ten i) := by
    rw [ten_split hi, Int.mul_left_comm (ten i), Int.mul_assoc (ten (n - 1 - i)) 10, show (10 : Int) * (10 * ten i) = 100 * ten i by omega, Int.mul_left_comm (ten (n - 1 - i)) 100, Int.mul_comm (ten i)]
  rw [e, div_mod (by have := ten_pos (n - 1 - i); omega) (by have := ten_pos i; omega) (Int.dvd_mul_right 10 _)]
theorem parts_succ (n : Nat) : parts (n + 1) = (parts n).map (· * 10) ++ [1] := by
  induction n with
  | zero => rfl
  | succ n ih =>
    show ten (n + 1) :: parts (n + 1) = (ten n :: parts n).map (· * 10) ++ [1]
    rw [ih, List.map_cons, List.cons_append, ten_succ]
theorem shown_init {n : Nat} {c : Int} : (shownL (n + 1) c) = shownL n (c / 10) ++ [c % 100] := by
  unfold shownL
  rw [parts_succ, List.map_append, List.map_map]
  congr 1
  · refine List.map_congr_left fun u hu => ?_
    obtain ⟨j, hj, rfl⟩ := parts_mem hu
    show c / (ten j * 10) % 100 = _
    rw [Int.mul_comm, ← Int.ediv_ediv_of_nonneg (by decide)]
  · simp
theorem cut_tail {xs : List D} : cutD xs (some 1) none = xs.drop 1 := by
  unfold cutD
  have e : HT.sIx xs.length 0 (some 1) = min 1 xs.length := rfl
  have e0 : HT.sIx xs.length xs.length none = xs.length := rfl
  rw [e, e0]
  cases xs with
  | nil => rfl
  | cons x xs =>
    rw [show min 1 (x :: xs).length = 1 by simp]
    apply List.take_of_length_le
    simp
theorem cut_init' {xs : List Int} {x : Int} : cutD ((xs ++ [x]).map PyData.int) none (some (-1)) = xs.map PyData.int := by
  rw [List.map_append]
  exact cut_init
theorem atI_zero {α : Type} {x : α} {xs : List α} : L2.atI (x :: xs) 0 = some x := by
  show L2.atI (x :: xs) ((0 : Nat) : Int) = some x
  exact L2.atI_nat rfl
end Law

set_option Elab.async false
set_option linter.all false
set_option maxRecDepth 100000
set_option maxHeartbeats 1000000
/-! PuArc: numbers on a circle that lie near each other. -/
namespace Law
open PySem PySem.W Pu

/-- P lives on a circle of W, and is one short piece of it -/
structure Arc (W D : Int) (P : Int → Prop) : Prop where
  d0 : 0 ≤ D
  dW : 2 * D + 2 < W
  per : ∀ c q, P (c + q * W) ↔ P c
  diff : ∀ c c', P c → P c' → ∃ δ q : Int, -D ≤ δ ∧ δ ≤ D ∧ c' = c + δ + q * W
  btw : ∀ c δ t, P c → P (c + δ) → 0 ≤ t → t ≤ δ → δ ≤ D → P (c + t)
def RngP (W : Int) (P : Int → Prop) (fs : List (Int × Int)) : Prop := Canon fs ∧ ∀ c, In fs c ↔ 0 ≤ c ∧ c < W ∧ P c
theorem RngP.one {W : Int} {P : Int → Prop} {fs gs : List (Int × Int)} (a : RngP W P fs) (b : RngP W P gs) : fs = gs := canon_ext a.1 b.1 fun c => (a.2 c).trans (b.2 c).symm
theorem RngP.L {W : Int} {P : Int → Prop} {fs : List (Int × Int)} (h : RngP W P fs) {r : Int × Int} (hr : r ∈ fs) : 0 ≤ r.1 ∧ r.1 < W ∧ P r.1 := (h.2 _).mp ⟨r, hr, Int.le_refl _, h.1.le r hr⟩
theorem RngP.H {W : Int} {P : Int → Prop} {fs : List (Int × Int)} (h : RngP W P fs) {r : Int × Int} (hr : r ∈ fs) : 0 ≤ r.2 ∧ r.2 < W ∧ P r.2 := (h.2 _).mp ⟨r, hr, h.1.le r hr, Int.le_refl _⟩
theorem arc_two {W D : Int} {P : Int → Prop} (A : Arc W D P) {fs l1 l2 l3 : List (Int × Int)} {r s : Int × Int} (h : RngP W P fs) (e : fs = l1 ++ r :: (l2 ++ s :: l3)) :
    r.1 = 0 ∧ s.2 = W - 1 ∧ r.2 + W - s.1 ≤ D := by
  have hr : r ∈ fs := by rw [e]; simp
  have hs : s ∈ fs := by rw [e]; simp
  have c := h.1
  rw [e, canon_app] at c
  have hrs : r.2 + 1 < s.1 := c.2.1.2.1 s (by simp)
  obtain ⟨r01, r02, r03⟩ := h.L hr
  obtain ⟨r11, r12, r13⟩ := h.H hr
  obtain ⟨s01, s02, s03⟩ := h.L hs
  obtain ⟨s11, s12, s13⟩ := h.H hs
  have rle := h.1.le r hr
  have sle := h.1.le s hs
  obtain ⟨δ, q, d1, d2, d3⟩ := A.diff _ _ r13 s03
  have dW := A.dW
  have d0 := A.d0
  have hq : q = 0 ∨ q = 1 := by
    rcases Int.lt_trichotomy q 0 with z | z | z
    · have := mulT (show q ≤ -1 by omega) (show 0 < W by omega)
      omega
    · exact .inl z
    · rcases Int.lt_trichotomy q 1 with z2 | z2 | z2
      · omega
      · exact .inr z2
      · have := mulT (show 2 ≤ q by omega) (show 0 < W by omega)
        omega
  rcases hq with rfl | rfl
  · exfalso
    have e1 : r.2 + δ = s.1 := by omega
    have := A.btw r.2 δ 1 r13 (by rw [e1]; exact s03) (by omega) (by omega) (by omega)
    exact h.1.up r hr ((h.2 _).mpr ⟨by omega, by omega, this⟩)
  · have e1 : s.1 + (r.2 + W - s.1) = r.2 + 1 * W := by omega
    have nr : P (s.1 + (r.2 + W - s.1)) := by
      rw [e1]
      exact (A.per _ _).mpr r13
    have bt := fun t => A.btw s.1 (r.2 + W - s.1) t s03 nr
    refine ⟨?_, ?_, by omega⟩
    · by_cases z : r.1 = 0
      · exact z
      · exfalso
        have := bt (r.1 - 1 + W - s.1) (by omega) (by omega) (by omega)
        rw [show s.1 + (r.1 - 1 + W - s.1) = r.1 - 1 + 1 * W by omega] at this
        exact h.1.down r hr ((h.2 _).mpr ⟨by omega, by omega, (A.per _ _).mp this⟩)
    · by_cases z : s.2 = W - 1
      · exact z
      · exfalso
        have := bt (s.2 + 1 - s.1) (by omega) (by omega) (by omega)
        rw [show s.1 + (s.2 + 1 - s.1) = s.2 + 1 by omega] at this
        exact h.1.up s hs ((h.2 _).mpr ⟨by omega, by omega, this⟩)
theorem arc_one {W D : Int} {P : Int → Prop} (A : Arc W D P) {fs : List (Int × Int)} {r : Int × Int} (h : RngP W P fs) (hr : r ∈ fs) : r.2 - r.1 ≤ D := by
  have d0 := A.d0
  have dW := A.dW
  by_cases z : r.2 - r.1 ≤ D
  · exact z
  · exfalso
    have a := h.L hr
    have b := (h.2 (r.1 + (D + 1))).mp ⟨r, hr, by omega, by omega⟩
    obtain ⟨δ, q, d1, d2, d3⟩ := A.diff _ _ a.2.2 b.2.2
    rcases Int.lt_trichotomy q 0 with y | y | y
    · have := mulT (show q ≤ -1 by omega) (show 0 < W by omega)
      omega
    · subst y; omega
    · have := mulT (show 1 ≤ q by omega) (show 0 < W by omega)
      omega
theorem arc_piece {W D : Int} {P : Int → Prop} (A : Arc W D P) {fs : List (Int × Int)} (h : RngP W P fs) :
    (fs = [] ∨ (∃ r, fs = [r]) ∨ ∃ r s, fs = [r, s] ∧ r.1 = 0 ∧ s.2 = W - 1) ∧ size fs ≤ D + 1 := by
  have d0 := A.d0
  match fs, h with
  | [], h => exact ⟨.inl rfl, by simp [size]; omega⟩
  | [r], h =>
    have := arc_one A h (r := r) (by simp)
    exact ⟨.inr (.inl ⟨r, rfl⟩), by simp [size]; omega⟩
  | [r, s], h =>
    have := arc_two A (l1 := []) (l2 := []) (l3 := []) h rfl
    exact ⟨.inr (.inr ⟨r, s, rfl, this.1, this.2.1⟩), by simp [size]; omega⟩
  | r :: s :: t :: l, h =>
    have a := arc_two A (l1 := []) (l2 := []) h rfl
    have b := h.1.2.2.2.1 t (by simp)
    have c := (h.L (r := t) (by simp)).2.1
    omega
/-- the counts that fit -/
theorem arc_near {w : Int} {ps : List Int} (hn : 0 < ps.length) (hw : 0 ≤ w) (hw2 : w ≤ 4) : Arc (ten (ps.length + 1)) (2 * w) (fun c => Near none w c ps) := by
  have W100 : 100 ≤ ten (ps.length + 1) := ten_le (a := 2) (by omega)
  exact ⟨by omega, by omega, fun c q => near_shift, fun c c' h h' => near_diff hn hw hw2 h h', fun c δ t h h' t0 t1 hd => near_between hw (by omega) h h' (by omega) t0 t1⟩
/-- differences of two such -/
def Diffs (W : Int) (P Q : Int → Prop) (d : Int) : Prop := ∃ x y q : Int, P x ∧ Q y ∧ d = y - x + q * W
theorem arc_diffs {W D D' : Int} {P Q : Int → Prop} (A : Arc W D P) (B : Arc W D' Q) (hW : 2 * (D + D') + 2 < W) : Arc W (D + D') (Diffs W P Q) := by
  have a0 := A.d0
  have b0 := B.d0
  refine ⟨by omega, hW, fun c q => ?_, fun c c' h h' => ?_, fun c δ t h h' t0 t1 hd => ?_⟩
  · constructor
    · rintro ⟨x, y, k, hx, hy, e⟩
      exact ⟨x, y, k - q, hx, hy, by rw [Int.sub_mul]; omega⟩
    · rintro ⟨x, y, k, hx, hy, e⟩
      exact ⟨x, y, k + q, hx, hy, by rw [Int.add_mul]; omega⟩
  · obtain ⟨x, y, k, hx, hy, e⟩ := h
    obtain ⟨x', y', k', hx', hy', e'⟩ := h'
    obtain ⟨δ, q, d1, d2, d3⟩ := A.diff _ _ hx hx'
    obtain ⟨ε, p, f1, f2, f3⟩ := B.diff _ _ hy hy'
    exact ⟨ε - δ, p - q + k' - k, by omega, by omega, by rw [Int.sub_mul, Int.add_mul, Int.sub_mul]; omega⟩
  · obtain ⟨x, y, k, hx, hy, e⟩ := h
    obtain ⟨x', y', k', hx', hy', e'⟩ := h'
    obtain ⟨dx, q, d1, d2, d3⟩ := A.diff _ _ hx hx'
    obtain ⟨dy, p, f1, f2, f3⟩ := B.diff _ _ hy hy'
    have ex : P (x + dx) := (A.per _ q).mp (by rw [← d3]; exact hx')
    have ey : Q (y + dy) := (B.per _ p).mp (by rw [← f3]; exact hy')
    have e2 : δ - (dy - dx) = (p - q + k' - k) * W := by rw [Int.sub_mul, Int.add_mul, Int.sub_mul]; omega
    have e3 : p - q + k' - k = 0 := by
      rcases Int.lt_trichotomy (p - q + k' - k) 0 with z | z | z
      · have := mulT (show p - q + k' - k ≤ -1 by omega) (show 0 < W by omega)
        rw [← e2] at this
        omega
      · exact z
      · have := mulT (show 1 ≤ p - q + k' - k by omega) (show 0 < W by omega)
        rw [← e2] at this
        omega
    rw [e3, Int.zero_mul] at e2
    -- how far each goes
    have back : ∀ tx, dx ≤ tx → tx ≤ 0 → dx ≤ 0 → P (x + tx) := fun tx h1 h2 h3 => by
      have := A.btw (x + dx) (-dx) (tx - dx) ex (by rw [show x + dx + -dx = x by omega]; exact hx) (by omega) (by omega) (by omega)
      rw [show x + dx + (tx - dx) = x + tx by omega] at this
      exact this
    by_cases g1 : 0 ≤ dy
    · by_cases g2 : t ≤ dy
      · exact ⟨x, y + t, k, hx, B.btw y dy t hy ey t0 g2 (by omega), by omega⟩
      · refine ⟨x + (dy - t), y + dy, k, back _ (by omega) (by omega) (by omega), ey, by omega⟩
    · exact ⟨x + -t, y, k, back _ (by omega) (by omega) (by omega), hy, by omega⟩
end Law

set_option Elab.async false
set_option linter.all false
set_option maxRecDepth 100000
set_option maxHeartbeats 1000000
/-! PuUses: what can have been used. -/
namespace Law
open PySem PySem.W Pu

theorem alike_ints (ns : List Int) : AllAlike (ns.map PyData.int) := fun d hd d' hd' => by
  obtain ⟨a, _, rfl⟩ := List.mem_map.mp hd
  obtain ⟨b, _, rfl⟩ := List.mem_map.mp hd'
  simp [alike]
theorem sortable_ints (ns : List Int) : Sortable (ns.map PyData.int) := .inr fun d hd => by
  obtain ⟨a, _, rfl⟩ := List.mem_map.mp hd
  exact ⟨by simp, by simp⟩
theorem depth_ints (ns : List Int) : ∀ d ∈ ns.map PyData.int, d.depth ≤ 60 := fun d hd => by
  obtain ⟨a, _, rfl⟩ := List.mem_map.mp hd
  simp [PyData.depth]
theorem sorted_ints {ns : List Int} {ys : List D} (h : sortedBy (ns.map PyData.int) ys) : ∃ zs : List Int, ys = zs.map .int ∧ zs.Perm ns ∧ zs.Pairwise (· ≤ ·) := by
  obtain ⟨zs, rfl, p⟩ := perm_map h.1
  refine ⟨zs, rfl, p, (List.pairwise_map.mp h.2).imp fun {a b} q => ?_⟩
  rw [dataLt_int] at q
  have := of_decide_eq_false q
  omega
theorem sorted_lt {zs : List Int} (h : zs.Pairwise (· ≤ ·)) (n : zs.Nodup) : zs.Pairwise (· < ·) := by
  induction zs with
  | nil => exact .nil
  | cons z zs ih =>
    obtain ⟨h1, h2⟩ := List.pairwise_cons.mp h
    obtain ⟨n1, n2⟩ := List.nodup_cons.mp n
    refine List.pairwise_cons.mpr ⟨fun y hy => ?_, ih h2 n2⟩
    have := h1 y hy
    have : z ≠ y := fun e => n1 (e ▸ hy)
    omega

/-! wrapped -/
def Wrap (W lo hi d : Int) : Prop := 0 ≤ d ∧ d < W ∧ ∃ v q : Int, lo ≤ v ∧ v ≤ hi ∧ d = v + q * W
theorem s_wrapped {lo hi W : Int} {Φ : Ent → Prop} (hW : 0 < W) (hle : lo ≤ hi) (k : ∀ rs, (∀ r ∈ rs, r.1 ≤ r.2) → rs.length ≤ 2 → (∀ d, In rs d ↔ Wrap W lo hi d) → Φ (.d (LR rs))) : p_wrapped [.d (.int lo), .d (.int hi), .d (.int W)] Φ := by
  unfold p_wrapped
  rw [shut_eq]
  have m0 := Int.emod_nonneg lo (Int.ne_of_gt hW)
  have m1 := Int.emod_lt_of_pos lo hW
  have e1 := Int.mul_ediv_add_emod lo W
  have eq0 : ∀ q : Int, ∀ a b : Int, 0 ≤ a → a < W → 0 ≤ b → b < W → a = b + q * W → a = b := fun q a b h1 h2 h3 h4 h5 => by
    rcases Int.lt_trichotomy q 0 with z | z | z
    · have := mulT (show q ≤ -1 by omega) hW
      omega
    · subst z; omega
    · have := mulT (show 1 ≤ q by omega) hW
      omega
  simp only [pFun, pIxO, pLenO, pPopO, pInsO, pStO, pSlS, qRepT, pStar, qSortT, qInD, pSortSet, pRng3, qMinP, pPar3, pDNew, pDPut, pSortDict, pTupR, pLstR, pRevL, pSeq, pRet, pRetN, pNext, pAsg, pAsgL, pAsgG, pPar, pAug, pApp, pFz, pFor, pGN, pGNil, pGCons, pGT, pVar, pC, pOp, pUn, pFrz, pNil, pCons, pDs, pTup, pLst, pNotT, pChain, pBl, pBlL, pLc, pYes, pCall, pSeqI, pRng1, pRng2, pEnum, pZip, pEZ, pSl, pNoPart, pPart, pIsa1, pIsa2, pCatL, x_If, x_Ite, x_AndT, x_OrT, x_Tst, x_AndV, x_OrV, x_NotV, boolD_d, elD_d, x_IxL, x_IxT, qII, qIC, qAdd, q1C, q2C, qLen, qTuple, qListL, qSum, qAll, qMin2, qMax2, qAbs, qInt, qEq, qNe, qIs, qIsNot, qIn, qNeg, qCatL, qSort, sqD, flatD, dIsN, wipeE, List.getElem?_cons_zero, List.getElem?_cons_succ, List.set_cons_zero, List.set_cons_succ, List.cons_append, List.nil_append, List.replicate_succ, List.replicate_zero, List.length_cons, List.length_nil, List.length_map, decide_eq_true_eq, decide_eq_false_iff_not, Bool.not_eq_true', Bool.not_eq_false', Bool.true_eq_false, Bool.false_eq_true, true_implies, false_implies, implies_true, true_and, and_true, Nat.reduceSub, Nat.reduceAdd, reduceCtorEq, Option.map_some, Option.map_none, if_true, if_false, Option.some.injEq, Int.toNat_natCast]
  refine ⟨fun h => ⟨by decide, by decide, ?_⟩, fun h => ⟨hW, fun h2 => ⟨by decide, by decide, ?_⟩, fun h2 => ⟨by decide, by decide, by decide, ?_⟩⟩⟩
  · refine k [(0, W - 1)] (fun r hr => by rw [List.mem_singleton] at hr; subst hr; dsimp only; omega) (by simp) fun d => ?_
    rw [in_one]
    unfold Wrap
    dsimp only
    constructor
    · rintro ⟨a, b⟩
      have n0 := Int.emod_nonneg (d - lo) (Int.ne_of_gt hW)
      have n1 := Int.emod_lt_of_pos (d - lo) hW
      have n2 := Int.mul_ediv_add_emod (d - lo) W
      exact ⟨a, by omega, lo + (d - lo) % W, (d - lo) / W, by omega, by omega, by rw [Int.mul_comm ((d - lo) / W)]; omega⟩
    · rintro ⟨a, b, _⟩
      omega
  · refine k [(lo % W, lo % W + (hi - lo))] (fun r hr => by rw [List.mem_singleton] at hr; subst hr; dsimp only; omega) (by simp) fun d => ?_
    rw [in_one]
    unfold Wrap
    dsimp only
    constructor
    · rintro ⟨a, b⟩
      exact ⟨by omega, by omega, lo + (d - lo % W), -(lo / W), by omega, by omega, by rw [Int.neg_mul, Int.mul_comm (lo / W)]; omega⟩
    · rintro ⟨a, b, v, q, v0, v1, hv⟩
      have := eq0 (q + lo / W) d (lo % W + (v - lo)) a b (by omega) (by omega) (by rw [Int.add_mul, Int.mul_comm (lo / W)]; omega)
      omega
  · refine k [(0, lo % W + (hi - lo) - W), (lo % W, W - 1)] (fun r hr => by
      simp only [List.mem_cons, List.not_mem_nil, or_false] at hr
      rcases hr with rfl | rfl <;> dsimp only <;> omega) (by simp) fun d => ?_
    rw [in_cons, in_one]
    unfold Wrap
    dsimp only
    constructor
    · rintro (⟨a, b⟩ | ⟨a, b⟩)
      · exact ⟨by omega, by omega, lo + (d + W - lo % W), -(lo / W) - 1, by omega, by omega, by rw [Int.sub_mul, Int.neg_mul, Int.mul_comm (lo / W)]; omega⟩
      · exact ⟨by omega, by omega, lo + (d - lo % W), -(lo / W), by omega, by omega, by rw [Int.neg_mul, Int.mul_comm (lo / W)]; omega⟩
    · rintro ⟨a, b, v, q, v0, v1, hv⟩
      by_cases z : lo % W + (v - lo) < W
      · have := eq0 (q + lo / W) d (lo % W + (v - lo)) a b (by omega) z (by rw [Int.add_mul, Int.mul_comm (lo / W)]; omega)
        exact .inr (by omega)
      · have := eq0 (q + lo / W + 1) d (lo % W + (v - lo) - W) a b (by omega) (by omega) (by rw [Int.add_mul, Int.add_mul, Int.mul_comm (lo / W)]; omega)
        exact .inl (by omega)

/-! differences of ranges -/
theorem wrap_diff {W : Int} {r s : Int × Int} (hr : r.1 ≤ r.2) (hs : s.1 ≤ s.2) {d : Int} : Wrap W (s.1 - r.2) (s.2 - r.1) d ↔ 0 ≤ d ∧ d < W ∧ ∃ x y q : Int, r.1 ≤ x ∧ x ≤ r.2 ∧ s.1 ≤ y ∧ y ≤ s.2 ∧ d = y - x + q * W := by
  unfold Wrap
  constructor
  · rintro ⟨a, b, v, q, v0, v1, hv⟩
    by_cases z : s.1 ≤ v + r.1
    · exact ⟨a, b, r.1, v + r.1, q, by omega, by omega, by omega, by omega, by omega⟩
    · exact ⟨a, b, s.1 - v, s.1, q, by omega, by omega, by omega, by omega, by omega⟩
  · rintro ⟨a, b, x, y, q, h1, h2, h3, h4, h5⟩
    exact ⟨a, b, y - x, q, by omega, by omega, h5⟩
theorem s_uses_between {es ls : List (Int × Int)} {W : Int} {Φ : Ent → Prop} (hW : 0 < W) (he : ∀ r ∈ es, r.1 ≤ r.2) (hl : ∀ r ∈ ls, r.1 ≤ r.2) (hn : es.length * (2 * ls.length) ≤ 50000)
    (k : ∀ fs, Canon fs → (∀ d, In fs d ↔ 0 ≤ d ∧ d < W ∧ ∃ x y q : Int, In es x ∧ In ls y ∧ d = y - x + q * W) → fs.length ≤ es.length * (2 * ls.length) → Φ (.d (LR fs))) : p_uses_between [.d (LR es), .d (LR ls), .d (.int W)] Φ := by
  unfold p_uses_between
  rw [shut_eq]
  refine ⟨rfl, ?_⟩
  refine seq ?_
  simp only [pFun, pIxO, pLenO, pPopO, pInsO, pStO, pSlS, qRepT, pStar, qSortT, qInD, pSortSet, pRng3, qMinP, pPar3, pDNew, pDPut, pSortDict, pTupR, pLstR, pRevL, pRet, pRetN, pNext, pAsg, pAsgL, pAsgG, pPar, pAug, pApp, pFz, pFor, pGN, pGNil, pGCons, pGT, pVar, pC, pOp, pUn, pFrz, pNil, pCons, pDs, pTup, pLst, pNotT, pChain, pBl, pBlL, pLc, pYes, pCall, pSeqI, pRng1, pRng2, pEnum, pZip, pEZ, pSl, pNoPart, pPart, pIsa1, pIsa2, pCatL, x_Ite, x_AndT, x_OrT, x_Tst, x_AndV, x_OrV, x_NotV, boolD_d, elD_d, x_IxL, x_IxT, qII, qIC, qAdd, q1C, q2C, qLen, qTuple, qListL, qSum, qAll, qMin2, qMax2, qAbs, qInt, qEq, qNe, qIs, qIsNot, qIn, qNeg, qCatL, qSort, sqD, flatD, dIsN, wipeE, List.getElem?_cons_zero, List.getElem?_cons_succ, List.set_cons_zero, List.set_cons_succ, List.cons_append, List.nil_append, List.replicate_succ, List.replicate_zero, List.length_cons, List.length_nil, List.length_map, decide_eq_true_eq, decide_eq_false_iff_not, Bool.not_eq_true', Bool.not_eq_false', Bool.true_eq_false, Bool.false_eq_true, true_implies, false_implies, implies_true, true_and, and_true, Nat.reduceSub, Nat.reduceAdd, reduceCtorEq, Option.map_some, Option.map_none, if_true, if_false, Option.some.injEq, Int.toNat_natCast]
  refine ⟨by decide, ?_⟩
  refine seq ?_
  simp only [pFun, pIxO, pLenO, pPopO, pInsO, pStO, pSlS, qRepT, pStar, qSortT, qInD, pSortSet, pRng3, qMinP, pPar3, pDNew, pDPut, pSortDict, pTupR, pLstR, pRevL, pRet, pRetN, pNext, pAsg, pAsgL, pAsgG, pPar, pAug, pApp, pFz, pFor, pGN, pGNil, pGCons, pGT, pVar, pC, pOp, pUn, pFrz, pNil, pCons, pDs, pTup, pLst, pNotT, pChain, pBl, pBlL, pLc, pYes, pCall, pSeqI, pRng1, pRng2, pEnum, pZip, pEZ, pSl, pNoPart, pPart, pIsa1, pIsa2, pCatL, x_Ite, x_AndT, x_OrT, x_Tst, x_AndV, x_OrV, x_NotV, boolD_d, elD_d, x_IxL, x_IxT, qII, qIC, qAdd, q1C, q2C, qLen, qTuple, qListL, qSum, qAll, qMin2, qMax2, qAbs, qInt, qEq, qNe, qIs, qIsNot, qIn, qNeg, qCatL, qSort, sqD, flatD, dIsN, wipeE, List.getElem?_cons_zero, List.getElem?_cons_succ, List.set_cons_zero, List.set_cons_succ, List.cons_append, List.nil_append, List.replicate_succ, List.replicate_zero, List.length_cons, List.length_nil, List.length_map, decide_eq_true_eq, decide_eq_false_iff_not, Bool.not_eq_true', Bool.not_eq_false', Bool.true_eq_false, Bool.false_eq_true, true_implies, false_implies, implies_true, true_and, and_true, Nat.reduceSub, Nat.reduceAdd, reduceCtorEq, Option.map_some, Option.map_none, if_true, if_false, Option.some.injEq, Int.toNat_natCast]
  refine for_rule (fun l1 _ ρ => ∃ fs a b c d, ρ = [.d (LR es), .d (LR ls), .d (.int W), .d (LR fs), a, b, c, d] ∧ (∀ r ∈ fs, r.1 ≤ r.2) ∧ fs.length ≤ l1.length * (2 * ls.length) ∧ ∀ d, In fs d ↔ ∃ r ∈ l1, ∃ s ∈ ls, Wrap W (s.1 - r.2) (s.2 - r.1) d) ⟨[], _, _, _, _, rfl, fun r h => by simp at h, by simp, fun d => by simp [In]⟩ ?_ ?_
  · rintro ρ ⟨fs, x1, x2, x3, x4, rfl, h1, h2, h3⟩
    simp only [pFun, pIxO, pLenO, pPopO, pInsO, pStO, pSlS, qRepT, pStar, qSortT, qInD, pSortSet, pRng3, qMinP, pPar3, pDNew, pDPut, pSortDict, pTupR, pLstR, pRevL, pRet, pRetN, pNext, pAsg, pAsgL, pAsgG, pPar, pAug, pApp, pFz, pFor, pGN, pGNil, pGCons, pGT, pVar, pC, pOp, pUn, pFrz, pNil, pCons, pDs, pTup, pLst, pNotT, pChain, pBl, pBlL, pLc, pYes, pCall, pSeqI, pRng1, pRng2, pEnum, pZip, pEZ, pSl, pNoPart, pPart, pIsa1, pIsa2, pCatL, x_Ite, x_AndT, x_OrT, x_Tst, x_AndV, x_OrV, x_NotV, boolD_d, elD_d, x_IxL, x_IxT, qII, qIC, qAdd, q1C, q2C, qLen, qTuple, qListL, qSum, qAll, qMin2, qMax2, qAbs, qInt, qEq, qNe, qIs, qIsNot, qIn, qNeg, qCatL, qSort, sqD, flatD, dIsN, wipeE, List.getElem?_cons_zero, List.getElem?_cons_succ, List.set_cons_zero, List.set_cons_succ, List.cons_append, List.nil_append, List.replicate_succ, List.replicate_zero, List.length_cons, List.length_nil, List.length_map, decide_eq_true_eq, decide_eq_false_iff_not, Bool.not_eq_true', Bool.not_eq_false', Bool.true_eq_false, Bool.false_eq_true, true_implies, false_implies, implies_true, true_and, and_true, Nat.reduceSub, Nat.reduceAdd, reduceCtorEq, Option.map_some, Option.map_none, if_true, if_false, Option.some.injEq, Int.toNat_natCast]
    refine s_joined (by omega) h1 fun gs g1 g2 g3 => k gs g1 (fun d => ?_) (by omega)
    rw [g2, h3]
    constructor
    · rintro ⟨r, hr, s, hs, h⟩
      obtain ⟨a, b, x, y, q, q1, q2, q3, q4, q5⟩ := (wrap_diff (he r hr) (hl s hs)).mp h
      exact ⟨a, b, x, y, q, ⟨r, hr, q1, q2⟩, ⟨s, hs, q3, q4⟩, q5⟩
    · rintro ⟨a, b, x, y, q, ⟨r, hr, q1, q2⟩, ⟨s, hs, q3, q4⟩, q5⟩
      exact ⟨r, hr, s, hs, (wrap_diff (he r hr) (hl s hs)).mpr ⟨a, b, x, y, q, q1, q2, q3, q4, q5⟩⟩
  · rintro l1 r rs1 ρ e1 ⟨fs, x1, x2, x3, x4, rfl, h1, h2, h3⟩ Ψ hΨ
    have hr : r ∈ es := by rw [e1]; simp
    have hlen : (l1.length + 1) * (2 * ls.length) ≤ es.length * (2 * ls.length) := Nat.mul_le_mul_right _ (by rw [e1, List.length_append, List.length_cons]; omega)
    rw [Nat.add_mul, Nat.one_mul] at hlen
    simp only [pFun, pIxO, pLenO, pPopO, pInsO, pStO, pSlS, qRepT, pStar, qSortT, qInD, pSortSet, pRng3, qMinP, pPar3, pDNew, pDPut, pSortDict, pTupR, pLstR, pRevL, pRet, pRetN, pNext, pAsg, pAsgL, pAsgG, pPar, pAug, pApp, pFz, pFor, pGN, pGNil, pGCons, pGT, pVar, pC, pOp, pUn, pFrz, pNil, pCons, pDs, pTup, pLst, pNotT, pChain, pBl, pBlL, pLc, pYes, pCall, pSeqI, pRng1, pRng2, pEnum, pZip, pEZ, pSl, pNoPart, pPart, pIsa1, pIsa2, pCatL, x_Ite, x_AndT, x_OrT, x_Tst, x_AndV, x_OrV, x_NotV, boolD_d, elD_d, x_IxL, x_IxT, qII, qIC, qAdd, q1C, q2C, qLen, qTuple, qListL, qSum, qAll, qMin2, qMax2, qAbs, qInt, qEq, qNe, qIs, qIsNot, qIn, qNeg, qCatL, qSort, sqD, flatD, dIsN, wipeE, List.getElem?_cons_zero, List.getElem?_cons_succ, List.set_cons_zero, List.set_cons_succ, List.cons_append, List.nil_append, List.replicate_succ, List.replicate_zero, List.length_cons, List.length_nil, List.length_map, decide_eq_true_eq, decide_eq_false_iff_not, Bool.not_eq_true', Bool.not_eq_false', Bool.true_eq_false, Bool.false_eq_true, true_implies, false_implies, implies_true, true_and, and_true, Nat.reduceSub, Nat.reduceAdd, reduceCtorEq, Option.map_some, Option.map_none, if_true, if_false, Option.some.injEq, Int.toNat_natCast, pairD]
    refine for_rule (fun l2 _ ρ => ∃ gs c d, ρ = [.d (LR es), .d (LR ls), .d (.int W), .d (LR gs), .d (.int r.1), .d (.int r.2), c, d] ∧ (∀ r ∈ gs, r.1 ≤ r.2) ∧ gs.length ≤ fs.length + 2 * l2.length ∧ ∀ d, In gs d ↔ In fs d ∨ ∃ s ∈ l2, Wrap W (s.1 - r.2) (s.2 - r.1) d) ⟨fs, _, _, rfl, h1, by simp, fun d => by simp⟩ ?_ ?_
    · rintro ρ ⟨gs, c, d, rfl, g1, g2, g3⟩
      refine hΨ _ ⟨gs, _, _, _, _, rfl, g1, ?_, fun d => ?_⟩
      · rw [List.length_append, List.length_singleton, Nat.add_mul, Nat.one_mul]
        omega
      · rw [g3, h3]
        simp only [List.mem_append, List.mem_singleton]
        constructor
        · rintro (⟨r', hr', h⟩ | h)
          · exact ⟨r', .inl hr', h⟩
          · exact ⟨r, .inr rfl, h⟩
        · rintro ⟨r', hr' | rfl, h⟩
          · exact .inl ⟨r', hr', h⟩
          · exact .inr h
    · rintro l2 s rs2 ρ e2 ⟨gs, c, d, rfl, g1, g2, g3⟩ Ψ2 hΨ2
      have hs : s ∈ ls := by rw [e2]; simp
      have hlen2 : l2.length < ls.length := by rw [e2, List.length_append, List.length_cons]; omega
      have hrr := he r hr
      have hss := hl s hs
      simp only [pFun, pIxO, pLenO, pPopO, pInsO, pStO, pSlS, qRepT, pStar, qSortT, qInD, pSortSet, pRng3, qMinP, pPar3, pDNew, pDPut, pSortDict, pTupR, pLstR, pRevL, pRet, pRetN, pNext, pAsg, pAsgL, pAsgG, pPar, pAug, pApp, pFz, pFor, pGN, pGNil, pGCons, pGT, pVar, pC, pOp, pUn, pFrz, pNil, pCons, pDs, pTup, pLst, pNotT, pChain, pBl, pBlL, pLc, pYes, pCall, pSeqI, pRng1, pRng2, pEnum, pZip, pEZ, pSl, pNoPart, pPart, pIsa1, pIsa2, pCatL, x_Ite, x_AndT, x_OrT, x_Tst, x_AndV, x_OrV, x_NotV, boolD_d, elD_d, x_IxL, x_IxT, qII, qIC, qAdd, q1C, q2C, qLen, qTuple, qListL, qSum, qAll, qMin2, qMax2, qAbs, qInt, qEq, qNe, qIs, qIsNot, qIn, qNeg, qCatL, qSort, sqD, flatD, dIsN, wipeE, List.getElem?_cons_zero, List.getElem?_cons_succ, List.set_cons_zero, List.set_cons_succ, List.cons_append, List.nil_append, List.replicate_succ, List.replicate_zero, List.length_cons, List.length_nil, List.length_map, decide_eq_true_eq, decide_eq_false_iff_not, Bool.not_eq_true', Bool.not_eq_false', Bool.true_eq_false, Bool.false_eq_true, true_implies, false_implies, implies_true, true_and, and_true, Nat.reduceSub, Nat.reduceAdd, reduceCtorEq, Option.map_some, Option.map_none, if_true, if_false, Option.some.injEq, Int.toNat_natCast, pairD]
      refine s_wrapped hW (by omega) fun ws w1 w2 w3 => ?_
      have := hΨ2 [.d (LR es), .d (LR ls), .d (.int W), .d (LR (gs ++ ws)), .d (.int r.1), .d (.int r.2), .d (.int s.1), .d (.int s.2)] ⟨gs ++ ws, _, _, rfl, fun q hq => ?_, ?_, fun d => ?_⟩
      · simp only [LR, List.map_append] at this
        simp only [pFun, pIxO, pLenO, pPopO, pInsO, pStO, pSlS, qRepT, pStar, qSortT, qInD, pSortSet, pRng3, qMinP, pPar3, pDNew, pDPut, pSortDict, pTupR, pLstR, pRevL, pRet, pRetN, pNext, pAsg, pAsgL, pAsgG, pPar, pAug, pApp, pFz, pFor, pGN, pGNil, pGCons, pGT, pVar, pC, pOp, pUn, pFrz, pNil, pCons, pDs, pTup, pLst, pNotT, pChain, pBl, pBlL, pLc, pYes, pCall, pSeqI, pRng1, pRng2, pEnum, pZip, pEZ, pSl, pNoPart, pPart, pIsa1, pIsa2, pCatL, x_Ite, x_AndT, x_OrT, x_Tst, x_AndV, x_OrV, x_NotV, boolD_d, elD_d, x_IxL, x_IxT, qII, qIC, qAdd, q1C, q2C, qLen, qTuple, qListL, qSum, qAll, qMin2, qMax2, qAbs, qInt, qEq, qNe, qIs, qIsNot, qIn, qNeg, qCatL, qSort, sqD, flatD, dIsN, wipeE, List.getElem?_cons_zero, List.getElem?_cons_succ, List.set_cons_zero, List.set_cons_succ, List.cons_append, List.nil_append, List.replicate_succ, List.replicate_zero, List.length_cons, List.length_nil, List.length_map, decide_eq_true_eq, decide_eq_false_iff_not, Bool.not_eq_true', Bool.not_eq_false', Bool.true_eq_false, Bool.false_eq_true, true_implies, false_implies, implies_true, true_and, and_true, Nat.reduceSub, Nat.reduceAdd, reduceCtorEq, Option.map_some, Option.map_none, if_true, if_false, Option.some.injEq, Int.toNat_natCast]
        exact ⟨by omega, this⟩
      · rcases List.mem_append.mp hq with hq | hq
        · exact g1 q hq
        · exact w1 q hq
      · rw [List.length_append, List.length_append, List.length_singleton]
        omega
      · rw [in_app, g3, w3]
        simp only [List.mem_append, List.mem_singleton]
        constructor
        · rintro ((h | ⟨s', hs', h⟩) | h)
          · exact .inl h
          · exact .inr ⟨s', .inl hs', h⟩
          · exact .inr ⟨s, .inr rfl, h⟩
        · rintro (h | ⟨s', hs' | rfl, h⟩)
          · exact .inl (.inl h)
          · exact .inl (.inr ⟨s', hs', h⟩)
          · exact .inr h
/-- uses: the differences of the counts that fit -/
def Used (w : Int) (a b : List Int) : Int → Prop := Diffs (ten (a.length + 1)) (fun c => Near none w c a) (fun c => Near none w c b)
theorem near_norm {w x : Int} {ps : List Int} (h : Near none w x ps) : Fits none w ps (x % ten (ps.length + 1)) := ⟨Int.emod_nonneg _ (Int.ne_of_gt (ten_pos _)), Int.emod_lt_of_pos _ (ten_pos _), near_emod.mpr h⟩
theorem s_uses {a b : List Int} {w : Int} {Φ : Ent → Prop} {m : Nat} (ha : a.length ≤ 6) (hab : a.length = b.length) (pa : Pos a) (pb : Pos b) (hw : 0 ≤ w) (hw2 : w ≤ 9)
    (hm : ∀ ps fs, ps.length = a.length → Rng none w ps fs → fs.length ≤ 2 ^ ps.length → fs.length ≤ m) (hm2 : m * (2 * m) ≤ 50000)
    (k : ∀ fs, RngP (ten (a.length + 1)) (Used w a b) fs → fs.length ≤ m * (2 * m) → Φ (.d (LR fs))) : p_uses [.d (TI a), .d (TI b), .d (.int w)] Φ := by
  unfold p_uses
  rw [shut_eq]
  simp only [pFun, pIxO, pLenO, pPopO, pInsO, pStO, pSlS, qRepT, pStar, qSortT, qInD, pSortSet, pRng3, qMinP, pPar3, pDNew, pDPut, pSortDict, pTupR, pLstR, pRevL, pRet, pRetN, pNext, pAsg, pAsgL, pAsgG, pPar, pAug, pApp, pFz, pFor, pGN, pGNil, pGCons, pGT, pVar, pC, pOp, pUn, pFrz, pNil, pCons, pDs, pTup, pLst, pNotT, pChain, pBl, pBlL, pLc, pYes, pCall, pSeqI, pRng1, pRng2, pEnum, pZip, pEZ, pSl, pNoPart, pPart, pIsa1, pIsa2, pCatL, x_Ite, x_AndT, x_OrT, x_Tst, x_AndV, x_OrV, x_NotV, boolD_d, elD_d, x_IxL, x_IxT, qII, qIC, qAdd, q1C, q2C, qLen, qTuple, qListL, qSum, qAll, qMin2, qMax2, qAbs, qInt, qEq, qNe, qIs, qIsNot, qIn, qNeg, qCatL, qSort, sqD, flatD, dIsN, wipeE, List.getElem?_cons_zero, List.getElem?_cons_succ, List.set_cons_zero, List.set_cons_succ, List.cons_append, List.nil_append, List.replicate_succ, List.replicate_zero, List.length_cons, List.length_nil, List.length_map, decide_eq_true_eq, decide_eq_false_iff_not, Bool.not_eq_true', Bool.not_eq_false', Bool.true_eq_false, Bool.false_eq_true, true_implies, false_implies, implies_true, true_and, and_true, Nat.reduceSub, Nat.reduceAdd, reduceCtorEq, Option.map_some, Option.map_none, if_true, if_false, Option.some.injEq, Int.toNat_natCast]
  refine s_counts2 ha pa hw hw2 fun es hE lE => ?_
  refine s_counts2 (by omega) pb hw hw2 fun ls hL lL => ?_
  try simp only [pFun, pIxO, pLenO, pPopO, pInsO, pStO, pSlS, qRepT, pStar, qSortT, qInD, pSortSet, pRng3, qMinP, pPar3, pDNew, pDPut, pSortDict, pTupR, pLstR, pRevL, pRet, pRetN, pNext, pAsg, pAsgL, pAsgG, pPar, pAug, pApp, pFz, pFor, pGN, pGNil, pGCons, pGT, pVar, pC, pOp, pUn, pFrz, pNil, pCons, pDs, pTup, pLst, pNotT, pChain, pBl, pBlL, pLc, pYes, pCall, pSeqI, pRng1, pRng2, pEnum, pZip, pEZ, pSl, pNoPart, pPart, pIsa1, pIsa2, pCatL, x_Ite, x_AndT, x_OrT, x_Tst, x_AndV, x_OrV, x_NotV, boolD_d, elD_d, x_IxL, x_IxT, qII, qIC, qAdd, q1C, q2C, qLen, qTuple, qListL, qSum, qAll, qMin2, qMax2, qAbs, qInt, qEq, qNe, qIs, qIsNot, qIn, qNeg, qCatL, qSort, sqD, flatD, dIsN, wipeE, List.getElem?_cons_zero, List.getElem?_cons_succ, List.set_cons_zero, List.set_cons_succ, List.cons_append, List.nil_append, List.replicate_succ, List.replicate_zero, List.length_cons, List.length_nil, List.length_map, decide_eq_true_eq, decide_eq_false_iff_not, Bool.not_eq_true', Bool.not_eq_false', Bool.true_eq_false, Bool.false_eq_true, true_implies, false_implies, implies_true, true_and, and_true, Nat.reduceSub, Nat.reduceAdd, reduceCtorEq, Option.map_some, Option.map_none, if_true, if_false, Option.some.injEq, Int.toNat_natCast]
  refine s_total (by omega) ?_
  have le := hm a es rfl hE lE
  have ll := hm b ls hab.symm hL lL
  have mm : es.length * (2 * ls.length) ≤ m * (2 * m) := Nat.mul_le_mul le (by omega)
  refine s_uses_between (ten_pos _) hE.1.le hL.1.le (by omega) fun fs f1 f2 f3 => k fs ⟨f1, fun d => ?_⟩ (by omega)
  rw [f2]
  unfold Used Diffs
  constructor
  · rintro ⟨h0, h1, x, y, q, hx, hy, e⟩
    exact ⟨h0, h1, x, y, q, ((hE.2 x).mp hx).2.2, ((hL.2 y).mp hy).2.2, e⟩
  · rintro ⟨h0, h1, x, y, q, hx, hy, e⟩
    refine ⟨h0, h1, x % ten (a.length + 1), y % ten (a.length + 1), q + y / ten (a.length + 1) - x / ten (a.length + 1), (hE.2 _).mpr (near_norm hx), (hL.2 _).mpr (by rw [hab]; exact near_norm hy), ?_⟩
    have ex := Int.mul_ediv_add_emod x (ten (a.length + 1))
    have ey := Int.mul_ediv_add_emod y (ten (a.length + 1))
    rw [Int.sub_mul, Int.add_mul, Int.mul_comm (y / _), Int.mul_comm (x / _)]
    omega
/-- whether the end was passed -/
def passedD (es ls : List (Int × Int)) : D := match es.head?, es.getLast?, ls.head?, ls.getLast? with
  | some e0, some e1, some l0, some l1 => if l1.2 < e0.1 then .bool true else if e1.2 ≤ l0.1 then .bool false else .none
  | _, _, _, _ => .none
theorem head_last (xs : List (Int × Int)) : xs = [] ∨ ∃ x y, xs.head? = some x ∧ xs.getLast? = some y ∧ L2.atI (xs.map pairD) 0 = some (pairD x) ∧ L2.atI (xs.map pairD) (-1) = some (pairD y) ∧ x ∈ xs ∧ y ∈ xs := by
  cases xs with
  | nil => exact .inl rfl
  | cons x xs =>
    rcases last_or (x :: xs) with h | ⟨ys, y, h⟩
    · cases h
    · refine .inr ⟨x, y, rfl, by rw [h]; simp, by rw [List.map_cons]; exact atI_zero, by rw [h, List.map_append, List.map_cons, List.map_nil]; exact atI_last, by simp, by rw [h]; simp⟩
theorem s_passed_end {a b : List Int} {w : Int} {Φ : Ent → Prop} (ha : a.length ≤ 6) (hb : b.length ≤ 6) (pa : Pos a) (pb : Pos b) (hw : 0 ≤ w) (hw2 : w ≤ 9)
    (k : ∀ es ls, Rng none w a es → Rng none w b ls → Φ (.d (passedD es ls))) : p_passed_end [.d (TI a), .d (TI b), .d (.int w)] Φ := by
  unfold p_passed_end
  rw [shut_eq]
  refine ⟨rfl, ?_⟩
  refine seq ?_
  simp only [pFun, pIxO, pLenO, pPopO, pInsO, pStO, pSlS, qRepT, pStar, qSortT, qInD, pSortSet, pRng3, qMinP, pPar3, pDNew, pDPut, pSortDict, pTupR, pLstR, pRevL, pRet, pRetN, pNext, pAsg, pAsgL, pAsgG, pPar, pAug, pApp, pFz, pFor, pGN, pGNil, pGCons, pGT, pVar, pC, pOp, pUn, pFrz, pNil, pCons, pDs, pTup, pLst, pNotT, pChain, pBl, pBlL, pLc, pYes, pCall, pSeqI, pRng1, pRng2, pEnum, pZip, pEZ, pSl, pNoPart, pPart, pIsa1, pIsa2, pCatL, x_Ite, x_AndT, x_OrT, x_Tst, x_AndV, x_OrV, x_NotV, boolD_d, elD_d, x_IxL, x_IxT, qII, qIC, qAdd, q1C, q2C, qLen, qTuple, qListL, qSum, qAll, qMin2, qMax2, qAbs, qInt, qEq, qNe, qIs, qIsNot, qIn, qNeg, qCatL, qSort, sqD, flatD, dIsN, wipeE, List.getElem?_cons_zero, List.getElem?_cons_succ, List.set_cons_zero, List.set_cons_succ, List.cons_append, List.nil_append, List.replicate_succ, List.replicate_zero, List.length_cons, List.length_nil, List.length_map, decide_eq_true_eq, decide_eq_false_iff_not, Bool.not_eq_true', Bool.not_eq_false', Bool.true_eq_false, Bool.false_eq_true, true_implies, false_implies, implies_true, true_and, and_true, Nat.reduceSub, Nat.reduceAdd, reduceCtorEq, Option.map_some, Option.map_none, if_true, if_false, Option.some.injEq, Int.toNat_natCast]
  refine s_counts ha pa hw hw2 fun es hE lE => ?_
  refine s_counts hb pb hw hw2 fun ls hL lL => ?_
  have se : Sm 3 (LR es) := Sm.pairs (by omega)
  have sl : Sm 3 (LR ls) := Sm.pairs (by omega)
  have k := k es ls hE hL
  refine seq ?_
  simp only [pFun, pIxO, pLenO, pPopO, pInsO, pStO, pSlS, qRepT, pStar, qSortT, qInD, pSortSet, pRng3, qMinP, pPar3, pDNew, pDPut, pSortDict, pTupR, pLstR, pRevL, pRet, pRetN, pNext, pAsg, pAsgL, pAsgG, pPar, pAug, pApp, pFz, pFor, pGN, pGNil, pGCons, pGT, pVar, pC, pOp, pUn, pFrz, pNil, pCons, pDs, pTup, pLst, pNotT, pChain, pBl, pBlL, pLc, pYes, pCall, pSeqI, pRng1, pRng2, pEnum, pZip, pEZ, pSl, pNoPart, pPart, pIsa1, pIsa2, pCatL, x_Ite, x_AndT, x_OrT, x_Tst, x_AndV, x_OrV, x_NotV, boolD_d, elD_d, x_IxL, x_IxT, qII, qIC, qAdd, q1C, q2C, qLen, qTuple, qListL, qSum, qAll, qMin2, qMax2, qAbs, qInt, qEq, qNe, qIs, qIsNot, qIn, qNeg, qCatL, qSort, sqD, flatD, dIsN, wipeE, List.getElem?_cons_zero, List.getElem?_cons_succ, List.set_cons_zero, List.set_cons_succ, List.cons_append, List.nil_append, List.replicate_succ, List.replicate_zero, List.length_cons, List.length_nil, List.length_map, decide_eq_true_eq, decide_eq_false_iff_not, Bool.not_eq_true', Bool.not_eq_false', Bool.true_eq_false, Bool.false_eq_true, true_implies, false_implies, implies_true, true_and, and_true, Nat.reduceSub, Nat.reduceAdd, reduceCtorEq, Option.map_some, Option.map_none, if_true, if_false, Option.some.injEq, Int.toNat_natCast, x_If]
  rw [LR_ne, LR_ne]
  rcases head_last es with rfl | ⟨e0, e1, a1, a2, a3, a4, _, _⟩
  · refine ⟨by decide, se.shp (by decide), shp_nil, fun _ => k, fun h => absurd h (by decide)⟩
  · have ne : es ≠ [] := fun h => by rw [h] at a1; cases a1
    refine ⟨by decide, se.shp (by decide), shp_nil, fun h => absurd (of_decide_eq_true h) ne, fun _ => ⟨by decide, sl.shp (by decide), shp_nil, ?_⟩⟩
    rcases head_last ls with rfl | ⟨l0, l1, b1, b2, b3, b4, _, _⟩
    · refine ⟨fun _ => ?_, fun h => absurd h (by decide)⟩
      unfold passedD at k
      rw [a1, a2] at k
      exact k
    · have nl : ls ≠ [] := fun h => by rw [h] at b1; cases b1
      refine ⟨fun h => absurd (of_decide_eq_true h) nl, fun _ => ?_⟩
      unfold passedD at k
      rw [a1, a2, b1, b2] at k
      refine seq ?_
      simp only [pFun, pIxO, pLenO, pPopO, pInsO, pStO, pSlS, qRepT, pStar, qSortT, qInD, pSortSet, pRng3, qMinP, pPar3, pDNew, pDPut, pSortDict, pTupR, pLstR, pRevL, pRet, pRetN, pNext, pAsg, pAsgL, pAsgG, pPar, pAug, pApp, pFz, pFor, pGN, pGNil, pGCons, pGT, pVar, pC, pOp, pUn, pFrz, pNil, pCons, pDs, pTup, pLst, pNotT, pChain, pBl, pBlL, pLc, pYes, pCall, pSeqI, pRng1, pRng2, pEnum, pZip, pEZ, pSl, pNoPart, pPart, pIsa1, pIsa2, pCatL, x_Ite, x_AndT, x_OrT, x_Tst, x_AndV, x_OrV, x_NotV, boolD_d, elD_d, x_IxL, x_IxT, qII, qIC, qAdd, q1C, q2C, qLen, qTuple, qListL, qSum, qAll, qMin2, qMax2, qAbs, qInt, qEq, qNe, qIs, qIsNot, qIn, qNeg, qCatL, qSort, sqD, flatD, dIsN, wipeE, List.getElem?_cons_zero, List.getElem?_cons_succ, List.set_cons_zero, List.set_cons_succ, List.cons_append, List.nil_append, List.replicate_succ, List.replicate_zero, List.length_cons, List.length_nil, List.length_map, decide_eq_true_eq, decide_eq_false_iff_not, Bool.not_eq_true', Bool.not_eq_false', Bool.true_eq_false, Bool.false_eq_true, true_implies, false_implies, implies_true, true_and, and_true, Nat.reduceSub, Nat.reduceAdd, reduceCtorEq, Option.map_some, Option.map_none, if_true, if_false, Option.some.injEq, Int.toNat_natCast, x_If, a3, b4]
      refine ⟨_, rfl, _, rfl, fun h => ?_, fun h => ?_⟩
      · dsimp only at k
        rw [if_pos (of_decide_eq_true h)] at k
        exact k
      · dsimp only at k
        rw [if_neg (of_decide_eq_false h)] at k
        simp only [pFun, pIxO, pLenO, pPopO, pInsO, pStO, pSlS, qRepT, pStar, qSortT, qInD, pSortSet, pRng3, qMinP, pPar3, pDNew, pDPut, pSortDict, pTupR, pLstR, pRevL, pRet, pRetN, pNext, pAsg, pAsgL, pAsgG, pPar, pAug, pApp, pFz, pFor, pGN, pGNil, pGCons, pGT, pVar, pC, pOp, pUn, pFrz, pNil, pCons, pDs, pTup, pLst, pNotT, pChain, pBl, pBlL, pLc, pYes, pCall, pSeqI, pRng1, pRng2, pEnum, pZip, pEZ, pSl, pNoPart, pPart, pIsa1, pIsa2, pCatL, x_Ite, x_AndT, x_OrT, x_Tst, x_AndV, x_OrV, x_NotV, boolD_d, elD_d, x_IxL, x_IxT, qII, qIC, qAdd, q1C, q2C, qLen, qTuple, qListL, qSum, qAll, qMin2, qMax2, qAbs, qInt, qEq, qNe, qIs, qIsNot, qIn, qNeg, qCatL, qSort, sqD, flatD, dIsN, wipeE, List.getElem?_cons_zero, List.getElem?_cons_succ, List.set_cons_zero, List.set_cons_succ, List.cons_append, List.nil_append, List.replicate_succ, List.replicate_zero, List.length_cons, List.length_nil, List.length_map, decide_eq_true_eq, decide_eq_false_iff_not, Bool.not_eq_true', Bool.not_eq_false', Bool.true_eq_false, Bool.false_eq_true, true_implies, false_implies, implies_true, true_and, and_true, Nat.reduceSub, Nat.reduceAdd, reduceCtorEq, Option.map_some, Option.map_none, if_true, if_false, Option.some.injEq, Int.toNat_natCast, a4, b3]
        refine ⟨_, rfl, _, rfl, fun h2 => ?_, fun h2 => ?_⟩
        · rw [if_pos (by have := of_decide_eq_true h2; omega)] at k
          exact k
        · rw [if_neg (by have := of_decide_eq_false h2; omega)] at k
          exact k
theorem nth_split {α : Type} {l ls rs : List α} {a : α} (e : l = ls ++ a :: rs) : l[ls.length]? = some a := by rw [e]; simp
/-- positions near a count -/
theorem s_near_count {n : Nat} {c w : Int} {Φ : Ent → Prop} (hn : n ≤ 7) (hw : 1 ≤ w) (hw2 : w ≤ 9) (k : ∀ ps, ps.length = n → Pos ps → Near none w c ps → Φ (.d (TI ps))) : p_l_near_count [.tp, .d (.int n), .d (.int c), .d (.int w)] Φ := by
  unfold p_l_near_count
  rw [shut_eq]
  refine ⟨rfl, ?_⟩
  refine seq ?_
  simp only [pFun, pIxO, pLenO, pPopO, pInsO, pStO, pSlS, qRepT, pStar, qSortT, qInD, pSortSet, pRng3, qMinP, pPar3, pDNew, pDPut, pSortDict, pTupR, pLstR, pRevL, pRet, pRetN, pNext, pAsg, pAsgL, pAsgG, pPar, pAug, pApp, pFz, pFor, pGN, pGNil, pGCons, pGT, pVar, pC, pOp, pUn, pFrz, pNil, pCons, pDs, pTup, pLst, pNotT, pChain, pBl, pBlL, pLc, pYes, pCall, pSeqI, pRng1, pRng2, pEnum, pZip, pEZ, pSl, pNoPart, pPart, pIsa1, pIsa2, pCatL, x_Ite, x_AndT, x_OrT, x_Tst, x_AndV, x_OrV, x_NotV, boolD_d, elD_d, x_IxL, x_IxT, qII, qIC, qAdd, q1C, q2C, qLen, qTuple, qListL, qSum, qAll, qMin2, qMax2, qAbs, qInt, qEq, qNe, qIs, qIsNot, qIn, qNeg, qCatL, qSort, sqD, flatD, dIsN, wipeE, List.getElem?_cons_zero, List.getElem?_cons_succ, List.set_cons_zero, List.set_cons_succ, List.cons_append, List.nil_append, List.replicate_succ, List.replicate_zero, List.length_cons, List.length_nil, List.length_map, decide_eq_true_eq, decide_eq_false_iff_not, Bool.not_eq_true', Bool.not_eq_false', Bool.true_eq_false, Bool.false_eq_true, true_implies, false_implies, implies_true, true_and, and_true, Nat.reduceSub, Nat.reduceAdd, reduceCtorEq, Option.map_some, Option.map_none, if_true, if_false, Option.some.injEq, Int.toNat_natCast]
  refine ⟨by decide, ?_⟩
  refine seq ?_
  simp only [pFun, pIxO, pLenO, pPopO, pInsO, pStO, pSlS, qRepT, pStar, qSortT, qInD, pSortSet, pRng3, qMinP, pPar3, pDNew, pDPut, pSortDict, pTupR, pLstR, pRevL, pRet, pRetN, pNext, pAsg, pAsgL, pAsgG, pPar, pAug, pApp, pFz, pFor, pGN, pGNil, pGCons, pGT, pVar, pC, pOp, pUn, pFrz, pNil, pCons, pDs, pTup, pLst, pNotT, pChain, pBl, pBlL, pLc, pYes, pCall, pSeqI, pRng1, pRng2, pEnum, pZip, pEZ, pSl, pNoPart, pPart, pIsa1, pIsa2, pCatL, x_Ite, x_AndT, x_OrT, x_Tst, x_AndV, x_OrV, x_NotV, boolD_d, elD_d, x_IxL, x_IxT, qII, qIC, qAdd, q1C, q2C, qLen, qTuple, qListL, qSum, qAll, qMin2, qMax2, qAbs, qInt, qEq, qNe, qIs, qIsNot, qIn, qNeg, qCatL, qSort, sqD, flatD, dIsN, wipeE, List.getElem?_cons_zero, List.getElem?_cons_succ, List.set_cons_zero, List.set_cons_succ, List.cons_append, List.nil_append, List.replicate_succ, List.replicate_zero, List.length_cons, List.length_nil, List.length_map, decide_eq_true_eq, decide_eq_false_iff_not, Bool.not_eq_true', Bool.not_eq_false', Bool.true_eq_false, Bool.false_eq_true, true_implies, false_implies, implies_true, true_and, and_true, Nat.reduceSub, Nat.reduceAdd, reduceCtorEq, Option.map_some, Option.map_none, if_true, if_false, Option.some.injEq, Int.toNat_natCast]
  refine s_parts (by omega) ?_
  simp only [pFun, pIxO, pLenO, pPopO, pInsO, pStO, pSlS, qRepT, pStar, qSortT, qInD, pSortSet, pRng3, qMinP, pPar3, pDNew, pDPut, pSortDict, pTupR, pLstR, pRevL, pRet, pRetN, pNext, pAsg, pAsgL, pAsgG, pPar, pAug, pApp, pFz, pFor, pGN, pGNil, pGCons, pGT, pVar, pC, pOp, pUn, pFrz, pNil, pCons, pDs, pTup, pLst, pNotT, pChain, pBl, pBlL, pLc, pYes, pCall, pSeqI, pRng1, pRng2, pEnum, pZip, pEZ, pSl, pNoPart, pPart, pIsa1, pIsa2, pCatL, x_Ite, x_AndT, x_OrT, x_Tst, x_AndV, x_OrV, x_NotV, boolD_d, elD_d, x_IxL, x_IxT, qII, qIC, qAdd, q1C, q2C, qLen, qTuple, qListL, qSum, qAll, qMin2, qMax2, qAbs, qInt, qEq, qNe, qIs, qIsNot, qIn, qNeg, qCatL, qSort, sqD, flatD, dIsN, wipeE, List.getElem?_cons_zero, List.getElem?_cons_succ, List.set_cons_zero, List.set_cons_succ, List.cons_append, List.nil_append, List.replicate_succ, List.replicate_zero, List.length_cons, List.length_nil, List.length_map, decide_eq_true_eq, decide_eq_false_iff_not, Bool.not_eq_true', Bool.not_eq_false', Bool.true_eq_false, Bool.false_eq_true, true_implies, false_implies, implies_true, true_and, and_true, Nat.reduceSub, Nat.reduceAdd, reduceCtorEq, Option.map_some, Option.map_none, if_true, if_false, Option.some.injEq, Int.toNat_natCast]
  refine for_rule (fun ls rs ρ => ∃ ps x y z, ps.length = ls.length ∧ ρ = [.tp, .d (.int n), .d (.int c), .d (.int w), .d (TI ps), x, y, z] ∧ Pos ps ∧ ∀ i p, ps[i]? = some p → NearD p (ten (n - 1 - i)) w c) ⟨[], _, _, _, rfl, rfl, fun p h => by simp at h, fun i p h => by simp at h⟩ ?_ ?_
  · rintro ρ ⟨ps, x, y, z, hl, rfl, h1, h2⟩
    rw [parts_len] at hl
    simp only [pFun, pIxO, pLenO, pPopO, pInsO, pStO, pSlS, qRepT, pStar, qSortT, qInD, pSortSet, pRng3, qMinP, pPar3, pDNew, pDPut, pSortDict, pTupR, pLstR, pRevL, pRet, pRetN, pNext, pAsg, pAsgL, pAsgG, pPar, pAug, pApp, pFz, pFor, pGN, pGNil, pGCons, pGT, pVar, pC, pOp, pUn, pFrz, pNil, pCons, pDs, pTup, pLst, pNotT, pChain, pBl, pBlL, pLc, pYes, pCall, pSeqI, pRng1, pRng2, pEnum, pZip, pEZ, pSl, pNoPart, pPart, pIsa1, pIsa2, pCatL, x_Ite, x_AndT, x_OrT, x_Tst, x_AndV, x_OrV, x_NotV, boolD_d, elD_d, x_IxL, x_IxT, qII, qIC, qAdd, q1C, q2C, qLen, qTuple, qListL, qSum, qAll, qMin2, qMax2, qAbs, qInt, qEq, qNe, qIs, qIsNot, qIn, qNeg, qCatL, qSort, sqD, flatD, dIsN, wipeE, List.getElem?_cons_zero, List.getElem?_cons_succ, List.set_cons_zero, List.set_cons_succ, List.cons_append, List.nil_append, List.replicate_succ, List.replicate_zero, List.length_cons, List.length_nil, List.length_map, decide_eq_true_eq, decide_eq_false_iff_not, Bool.not_eq_true', Bool.not_eq_false', Bool.true_eq_false, Bool.false_eq_true, true_implies, false_implies, implies_true, true_and, and_true, Nat.reduceSub, Nat.reduceAdd, reduceCtorEq, Option.map_some, Option.map_none, if_true, if_false, Option.some.injEq, Int.toNat_natCast]
    exact k ps hl h1 fun i p hp _ => by rw [hl]; exact h2 i p hp
  · rintro ls u rs ρ e ⟨ps, x, y, z, hl, rfl, h1, h2⟩ Ψ hΨ
    have hu := nth_split e
    have hlt : ls.length < n := by have := (List.getElem?_eq_some_iff.mp hu).1; rwa [parts_len] at this
    rw [parts_get hlt] at hu
    have hu := Option.some.inj hu
    have tp := ten_pos (n - 1 - ls.length)
    have t7 := ten_le7 (n := n - 1 - ls.length) (by omega)
    rw [hu] at tp t7
    refine seq ?_
    simp only [pFun, pIxO, pLenO, pPopO, pInsO, pStO, pSlS, qRepT, pStar, qSortT, qInD, pSortSet, pRng3, qMinP, pPar3, pDNew, pDPut, pSortDict, pTupR, pLstR, pRevL, pRet, pRetN, pNext, pAsg, pAsgL, pAsgG, pPar, pAug, pApp, pFz, pFor, pGN, pGNil, pGCons, pGT, pVar, pC, pOp, pUn, pFrz, pNil, pCons, pDs, pTup, pLst, pNotT, pChain, pBl, pBlL, pLc, pYes, pCall, pSeqI, pRng1, pRng2, pEnum, pZip, pEZ, pSl, pNoPart, pPart, pIsa1, pIsa2, pCatL, x_Ite, x_AndT, x_OrT, x_Tst, x_AndV, x_OrV, x_NotV, boolD_d, elD_d, x_IxL, x_IxT, qII, qIC, qAdd, q1C, q2C, qLen, qTuple, qListL, qSum, qAll, qMin2, qMax2, qAbs, qInt, qEq, qNe, qIs, qIsNot, qIn, qNeg, qCatL, qSort, sqD, flatD, dIsN, wipeE, List.getElem?_cons_zero, List.getElem?_cons_succ, List.set_cons_zero, List.set_cons_succ, List.cons_append, List.nil_append, List.replicate_succ, List.replicate_zero, List.length_cons, List.length_nil, List.length_map, decide_eq_true_eq, decide_eq_false_iff_not, Bool.not_eq_true', Bool.not_eq_false', Bool.true_eq_false, Bool.false_eq_true, true_implies, false_implies, implies_true, true_and, and_true, Nat.reduceSub, Nat.reduceAdd, reduceCtorEq, Option.map_some, Option.map_none, if_true, if_false, Option.some.injEq, Int.toNat_natCast]
    refine ⟨by decide, by decide, by rw [rngD_len]; decide, ?_⟩
    rw [rngD_map]
    refine lc_filter (G := fun (i : Nat) => PyData.int (0 + (i : Int))) (fun (i : Nat) => dc (NearD (0 + (i : Int)) u w c)) (fun i hi Ψ hΨ => ?_) ?_
    · simp only [pFun, pIxO, pLenO, pPopO, pInsO, pStO, pSlS, qRepT, pStar, qSortT, qInD, pSortSet, pRng3, qMinP, pPar3, pDNew, pDPut, pSortDict, pTupR, pLstR, pRevL, pRet, pRetN, pNext, pAsg, pAsgL, pAsgG, pPar, pAug, pApp, pFz, pFor, pGN, pGNil, pGCons, pGT, pVar, pC, pOp, pUn, pFrz, pNil, pCons, pDs, pTup, pLst, pNotT, pChain, pBl, pBlL, pLc, pYes, pCall, pSeqI, pRng1, pRng2, pEnum, pZip, pEZ, pSl, pNoPart, pPart, pIsa1, pIsa2, pCatL, x_Ite, x_AndT, x_OrT, x_Tst, x_AndV, x_OrV, x_NotV, boolD_d, elD_d, x_IxL, x_IxT, qII, qIC, qAdd, q1C, q2C, qLen, qTuple, qListL, qSum, qAll, qMin2, qMax2, qAbs, qInt, qEq, qNe, qIs, qIsNot, qIn, qNeg, qCatL, qSort, sqD, flatD, dIsN, wipeE, List.getElem?_cons_zero, List.getElem?_cons_succ, List.set_cons_zero, List.set_cons_succ, List.cons_append, List.nil_append, List.replicate_succ, List.replicate_zero, List.length_cons, List.length_nil, List.length_map, decide_eq_true_eq, decide_eq_false_iff_not, Bool.not_eq_true', Bool.not_eq_false', Bool.true_eq_false, Bool.false_eq_true, true_implies, false_implies, implies_true, true_and, and_true, Nat.reduceSub, Nat.reduceAdd, reduceCtorEq, Option.map_some, Option.map_none, if_true, if_false, Option.some.injEq, Int.toNat_natCast]
      refine ⟨mulR (by omega) (by omega), .inl ⟨by decide, by decide⟩, ?_⟩
      refine s_gap (by omega) ?_
      simp only [pFun, pIxO, pLenO, pPopO, pInsO, pStO, pSlS, qRepT, pStar, qSortT, qInD, pSortSet, pRng3, qMinP, pPar3, pDNew, pDPut, pSortDict, pTupR, pLstR, pRevL, pRet, pRetN, pNext, pAsg, pAsgL, pAsgG, pPar, pAug, pApp, pFz, pFor, pGN, pGNil, pGCons, pGT, pVar, pC, pOp, pUn, pFrz, pNil, pCons, pDs, pTup, pLst, pNotT, pChain, pBl, pBlL, pLc, pYes, pCall, pSeqI, pRng1, pRng2, pEnum, pZip, pEZ, pSl, pNoPart, pPart, pIsa1, pIsa2, pCatL, x_Ite, x_AndT, x_OrT, x_Tst, x_AndV, x_OrV, x_NotV, boolD_d, elD_d, x_IxL, x_IxT, qII, qIC, qAdd, q1C, q2C, qLen, qTuple, qListL, qSum, qAll, qMin2, qMax2, qAbs, qInt, qEq, qNe, qIs, qIsNot, qIn, qNeg, qCatL, qSort, sqD, flatD, dIsN, wipeE, List.getElem?_cons_zero, List.getElem?_cons_succ, List.set_cons_zero, List.set_cons_succ, List.cons_append, List.nil_append, List.replicate_succ, List.replicate_zero, List.length_cons, List.length_nil, List.length_map, decide_eq_true_eq, decide_eq_false_iff_not, Bool.not_eq_true', Bool.not_eq_false', Bool.true_eq_false, Bool.false_eq_true, true_implies, false_implies, implies_true, true_and, and_true, Nat.reduceSub, Nat.reduceAdd, reduceCtorEq, Option.map_some, Option.map_none, if_true, if_false, Option.some.injEq, Int.toNat_natCast]
      refine ⟨mulR (by omega) (by omega), fun h => ?_, fun h => ?_⟩
      · rw [if_pos (dc_iff.mpr (show NearD (0 + (i : Int)) u w c from h))] at hΨ; exact hΨ
      · rw [if_neg (show ¬ dc (NearD (0 + (i : Int)) u w c) = true from fun h2 => h (dc_iff.mp h2))] at hΨ; exact hΨ
    obtain ⟨near, hnear⟩ : ∃ near, near = (List.range (Int.toNat 100)).filter fun (i : Nat) => dc (NearD (0 + (i : Int)) u w c) := ⟨_, rfl⟩
    rw [← hnear]
    have m0 := Int.emod_nonneg (c / u) (show (100 : Int) ≠ 0 by decide)
    have m1 := Int.emod_lt_of_pos (c / u) (show (0 : Int) < 100 by decide)
    have hmem : (c / u % 100).toNat ∈ near := by
      rw [hnear]
      refine List.mem_filter.mpr ⟨List.mem_range.mpr (by omega), dc_iff.mpr ?_⟩
      rw [show (0 : Int) + ((c / u % 100).toNat : Int) = c / u % 100 by omega]
      have := near_shown (u := u) (c := c) tp
      unfold NearD at this ⊢
      have := Int.mul_le_mul_of_nonneg_right hw (Int.le_of_lt tp)
      omega
    have hpos : 0 < near.length := List.length_pos_of_mem hmem
    have hle : near.length ≤ 100 := by
      rw [hnear]
      refine Nat.le_trans (List.length_filter_le _ _) ?_
      simp
    simp only [pFun, pIxO, pLenO, pPopO, pInsO, pStO, pSlS, qRepT, pStar, qSortT, qInD, pSortSet, pRng3, qMinP, pPar3, pDNew, pDPut, pSortDict, pTupR, pLstR, pRevL, pRet, pRetN, pNext, pAsg, pAsgL, pAsgG, pPar, pAug, pApp, pFz, pFor, pGN, pGNil, pGCons, pGT, pVar, pC, pOp, pUn, pFrz, pNil, pCons, pDs, pTup, pLst, pNotT, pChain, pBl, pBlL, pLc, pYes, pCall, pSeqI, pRng1, pRng2, pEnum, pZip, pEZ, pSl, pNoPart, pPart, pIsa1, pIsa2, pCatL, x_Ite, x_AndT, x_OrT, x_Tst, x_AndV, x_OrV, x_NotV, boolD_d, elD_d, x_IxL, x_IxT, qII, qIC, qAdd, q1C, q2C, qLen, qTuple, qListL, qSum, qAll, qMin2, qMax2, qAbs, qInt, qEq, qNe, qIs, qIsNot, qIn, qNeg, qCatL, qSort, sqD, flatD, dIsN, wipeE, List.getElem?_cons_zero, List.getElem?_cons_succ, List.set_cons_zero, List.set_cons_succ, List.cons_append, List.nil_append, List.replicate_succ, List.replicate_zero, List.length_cons, List.length_nil, List.length_map, decide_eq_true_eq, decide_eq_false_iff_not, Bool.not_eq_true', Bool.not_eq_false', Bool.true_eq_false, Bool.false_eq_true, true_implies, false_implies, implies_true, true_and, and_true, Nat.reduceSub, Nat.reduceAdd, reduceCtorEq, Option.map_some, Option.map_none, if_true, if_false, Option.some.injEq, Int.toNat_natCast]
    refine s_draw (by omega) (by omega) fun d a b => ?_
    obtain ⟨j, rfl⟩ : ∃ j : Nat, d = (j : Int) := ⟨d.toNat, by omega⟩
    have hd : j < near.length := by omega
    have hall : ∀ x ∈ near, x < 100 ∧ NearD (0 + (x : Int)) u w c := by
      intro x hx
      rw [hnear] at hx
      obtain ⟨q1, q2⟩ := List.mem_filter.mp hx
      have q1 := List.mem_range.mp q1
      exact ⟨by omega, dc_iff.mp q2⟩
    obtain ⟨q1, q2⟩ := hall _ (List.getElem_mem hd)
    have hat : L2.atI (near.map fun (i : Nat) => PyData.int (0 + (i : Int))) (j : Int) = some (.int (0 + (near[j] : Int))) := by
      exact L2.atI_nat (by rw [List.getElem?_map, List.getElem?_eq_getElem hd]; rfl)
    generalize near[j] = v at q1 q2 hat
    clear hall
    simp only [pFun, pIxO, pLenO, pPopO, pInsO, pStO, pSlS, qRepT, pStar, qSortT, qInD, pSortSet, pRng3, qMinP, pPar3, pDNew, pDPut, pSortDict, pTupR, pLstR, pRevL, pRet, pRetN, pNext, pAsg, pAsgL, pAsgG, pPar, pAug, pApp, pFz, pFor, pGN, pGNil, pGCons, pGT, pVar, pC, pOp, pUn, pFrz, pNil, pCons, pDs, pTup, pLst, pNotT, pChain, pBl, pBlL, pLc, pYes, pCall, pSeqI, pRng1, pRng2, pEnum, pZip, pEZ, pSl, pNoPart, pPart, pIsa1, pIsa2, pCatL, x_Ite, x_AndT, x_OrT, x_Tst, x_AndV, x_OrV, x_NotV, boolD_d, elD_d, x_IxL, x_IxT, qII, qIC, qAdd, q1C, q2C, qLen, qTuple, qListL, qSum, qAll, qMin2, qMax2, qAbs, qInt, qEq, qNe, qIs, qIsNot, qIn, qNeg, qCatL, qSort, sqD, flatD, dIsN, wipeE, List.getElem?_cons_zero, List.getElem?_cons_succ, List.set_cons_zero, List.set_cons_succ, List.cons_append, List.nil_append, List.replicate_succ, List.replicate_zero, List.length_cons, List.length_nil, List.length_map, decide_eq_true_eq, decide_eq_false_iff_not, Bool.not_eq_true', Bool.not_eq_false', Bool.true_eq_false, Bool.false_eq_true, true_implies, false_implies, implies_true, true_and, and_true, Nat.reduceSub, Nat.reduceAdd, reduceCtorEq, Option.map_some, Option.map_none, if_true, if_false, Option.some.injEq, Int.toNat_natCast]
    refine ⟨_, hat, by decide, by omega, ?_⟩
    have := hΨ [.tp, .d (.int n), .d (.int c), .d (.int w), .d (TI (ps ++ [0 + (v : Int)])), .d (.int u), .d (.list (near.map fun (i : Nat) => PyData.int (0 + (i : Int)))), z] ⟨ps ++ [0 + (v : Int)], _, _, _, by simp [hl], rfl, fun p hp => ?_, fun i p hp => ?_⟩
    · simp only [TI, List.map_append] at this
      exact this
    · rcases List.mem_append.mp hp with hp | hp
      · exact h1 p hp
      · rw [List.mem_singleton] at hp
        subst hp
        omega
    · by_cases hi : i < ps.length
      · rw [List.getElem?_append_left hi] at hp
        exact h2 i p hp
      · have hi2 : i = ps.length := by
          have := (List.getElem?_eq_some_iff.mp hp).1
          simp at this
          omega
        subst hi2
        simp at hp
        subst hp
        rw [hl, hu]
        simpa using q2
theorem s_inside {fs : List (Int × Int)} {c : Int} {Φ : Ent → Prop} (hl : fs.length ≤ 100000) (k : ∀ b : Bool, (b = true ↔ In fs c) → Φ (.d (.bool b))) : p_l_inside [.d (LR fs), .d (.int c)] Φ := by
  unfold p_l_inside
  rw [shut_eq]
  simp only [pFun, pIxO, pLenO, pPopO, pInsO, pStO, pSlS, qRepT, pStar, qSortT, qInD, pSortSet, pRng3, qMinP, pPar3, pDNew, pDPut, pSortDict, pTupR, pLstR, pRevL, pRet, pRetN, pNext, pAsg, pAsgL, pAsgG, pPar, pAug, pApp, pFz, pFor, pGN, pGNil, pGCons, pGT, pVar, pC, pOp, pUn, pFrz, pNil, pCons, pDs, pTup, pLst, pNotT, pChain, pBl, pBlL, pLc, pYes, pCall, pSeqI, pRng1, pRng2, pEnum, pZip, pEZ, pSl, pNoPart, pPart, pIsa1, pIsa2, pCatL, x_Ite, x_AndT, x_OrT, x_Tst, x_AndV, x_OrV, x_NotV, boolD_d, elD_d, x_IxL, x_IxT, qII, qIC, qAdd, q1C, q2C, qLen, qTuple, qListL, qSum, qAll, qMin2, qMax2, qAbs, qInt, qEq, qNe, qIs, qIsNot, qIn, qNeg, qCatL, qSort, sqD, flatD, dIsN, wipeE, List.getElem?_cons_zero, List.getElem?_cons_succ, List.set_cons_zero, List.set_cons_succ, List.cons_append, List.nil_append, List.replicate_succ, List.replicate_zero, List.length_cons, List.length_nil, List.length_map, decide_eq_true_eq, decide_eq_false_iff_not, Bool.not_eq_true', Bool.not_eq_false', Bool.true_eq_false, Bool.false_eq_true, true_implies, false_implies, implies_true, true_and, and_true, Nat.reduceSub, Nat.reduceAdd, reduceCtorEq, Option.map_some, Option.map_none, if_true, if_false, Option.some.injEq, Int.toNat_natCast]
  refine ⟨by omega, ?_⟩
  refine lc_filter (G := fun _ => PyData.int 1) (fun r : Int × Int => decide (r.1 ≤ c ∧ c ≤ r.2)) (fun r hr Ψ hΨ => ?_) ?_
  · simp only [pFun, pIxO, pLenO, pPopO, pInsO, pStO, pSlS, qRepT, pStar, qSortT, qInD, pSortSet, pRng3, qMinP, pPar3, pDNew, pDPut, pSortDict, pTupR, pLstR, pRevL, pRet, pRetN, pNext, pAsg, pAsgL, pAsgG, pPar, pAug, pApp, pFz, pFor, pGN, pGNil, pGCons, pGT, pVar, pC, pOp, pUn, pFrz, pNil, pCons, pDs, pTup, pLst, pNotT, pChain, pBl, pBlL, pLc, pYes, pCall, pSeqI, pRng1, pRng2, pEnum, pZip, pEZ, pSl, pNoPart, pPart, pIsa1, pIsa2, pCatL, x_Ite, x_AndT, x_OrT, x_Tst, x_AndV, x_OrV, x_NotV, boolD_d, elD_d, x_IxL, x_IxT, qII, qIC, qAdd, q1C, q2C, qLen, qTuple, qListL, qSum, qAll, qMin2, qMax2, qAbs, qInt, qEq, qNe, qIs, qIsNot, qIn, qNeg, qCatL, qSort, sqD, flatD, dIsN, wipeE, List.getElem?_cons_zero, List.getElem?_cons_succ, List.set_cons_zero, List.set_cons_succ, List.cons_append, List.nil_append, List.replicate_succ, List.replicate_zero, List.length_cons, List.length_nil, List.length_map, decide_eq_true_eq, decide_eq_false_iff_not, Bool.not_eq_true', Bool.not_eq_false', Bool.true_eq_false, Bool.false_eq_true, true_implies, false_implies, implies_true, true_and, and_true, Nat.reduceSub, Nat.reduceAdd, reduceCtorEq, Option.map_some, Option.map_none, if_true, if_false, Option.some.injEq, Int.toNat_natCast, pairD]
    by_cases h1 : r.1 ≤ c
    · by_cases h2 : c ≤ r.2
      · simp [h1, h2] at hΨ ⊢; exact hΨ
      · simp [h1, h2] at hΨ ⊢; exact hΨ
    · simp [h1] at hΨ ⊢; exact hΨ
  have fl : (fs.filter fun r => decide (r.1 ≤ c ∧ c ≤ r.2)).length ≤ fs.length := List.length_filter_le _ _
  refine ⟨by decide, Sm.shp (n := 2) (Sm.ones (by omega)) (by decide), shp_nil, k _ ?_⟩
  rw [eqv_nil, Bool.not_eq_true', decide_eq_false_iff_not, List.map_eq_nil_iff, List.filter_eq_nil_iff]
  unfold In
  constructor
  · intro h
    apply Classical.byContradiction
    intro hno
    exact h fun r hr q => hno ⟨r, hr, of_decide_eq_true q⟩
  · rintro ⟨r, hr, q⟩ h
    exact h r hr (decide_eq_true q)
end Law

set_option Elab.async false
set_option linter.all false
set_option maxRecDepth 100000
set_option maxHeartbeats 1000000
/-! PuNeg: ranges taken from the whole; the ends of ranges. -/
namespace Law
open PySem PySem.W Pu

theorem neg_eq {W c : Int} (h0 : 0 ≤ c) (h1 : c < W) : (W - c) % W = if c = 0 then 0 else W - c := by
  by_cases z : c = 0
  · subst z
    rw [if_pos rfl, Int.sub_zero, Int.emod_self]
  · rw [if_neg z]
    exact Int.emod_eq_of_lt (by omega) (by omega)
/-- the numbers taken from the whole -/
structure NegOf (W : Int) (ls : List (Int × Int)) (ns : List Int) : Prop where
  nd : ns.Nodup
  mem : ∀ d, d ∈ ns ↔ ∃ c, In ls c ∧ d = (W - c) % W
  len : (ns.length : Int) = size ls
theorem negOf_nil {W : Int} : NegOf W [] [] := ⟨.nil, fun d => by simp [In], rfl⟩
theorem negOf_snoc {W : Int} {ls : List (Int × Int)} {r : Int × Int} {ns : List Int} (hC : Canon (ls ++ [r])) (hW : ∀ c, In (ls ++ [r]) c → 0 ≤ c ∧ c < W) (h : NegOf W ls ns) :
    NegOf W (ls ++ [r]) (ns ++ (List.range (r.2 + 1 - r.1).toNat).map fun (i : Nat) => (W - (r.1 + (i : Int))) % W) := by
  obtain ⟨c1, c2, c3⟩ := canon_app.mp hC
  have rle : r.1 ≤ r.2 := c2.1
  have hr : ∀ c, r.1 ≤ c → c ≤ r.2 → 0 ≤ c ∧ c < W := fun c a b => hW c (in_app.mpr (.inr (in_one.mpr ⟨a, b⟩)))
  refine ⟨List.nodup_append.mpr ⟨h.nd, ?_, ?_⟩, fun d => ?_, ?_⟩
  · refine List.pairwise_map.mpr ?_
    refine List.Pairwise.imp_of_mem (R := fun a b => a < b) (fun {a b} ha hb hab => ?_) List.pairwise_lt_range
    have ha := List.mem_range.mp ha
    have hb := List.mem_range.mp hb
    obtain ⟨p0, p1⟩ := hr (r.1 + (a : Int)) (by omega) (by omega)
    obtain ⟨q0, q1⟩ := hr (r.1 + (b : Int)) (by omega) (by omega)
    rw [neg_eq p0 p1, neg_eq q0 q1]
    split <;> split <;> omega
  · intro d hd e he
    obtain ⟨c, ⟨s, hs, s1, s2⟩, rfl⟩ := (h.mem d).mp hd
    obtain ⟨i, hi, rfl⟩ := List.mem_map.mp he
    have hi := List.mem_range.mp hi
    obtain ⟨p0, p1⟩ := hW c (in_app.mpr (.inl ⟨s, hs, s1, s2⟩))
    obtain ⟨q0, q1⟩ := hr (r.1 + (i : Int)) (by omega) (by omega)
    have := c3 s hs r (by simp)
    rw [neg_eq p0 p1, neg_eq q0 q1]
    split <;> split <;> omega
  · rw [List.mem_append, h.mem]
    constructor
    · rintro (⟨c, hc, e⟩ | hd)
      · exact ⟨c, in_app.mpr (.inl hc), e⟩
      · obtain ⟨i, hi, rfl⟩ := List.mem_map.mp hd
        have hi := List.mem_range.mp hi
        exact ⟨r.1 + (i : Int), in_app.mpr (.inr (in_one.mpr (by omega))), rfl⟩
    · rintro ⟨c, hc, e⟩
      rcases in_app.mp hc with hc | hc
      · exact .inl ⟨c, hc, e⟩
      · obtain ⟨a, b⟩ := in_one.mp hc
        refine .inr (List.mem_map.mpr ⟨(c - r.1).toNat, List.mem_range.mpr (by omega), ?_⟩)
        rw [e, show r.1 + ((c - r.1).toNat : Int) = c by omega]
  · rw [List.length_append, List.length_map, List.length_range, size_app, size_one]
    have := h.len
    omega
theorem NegOf.sorted {W : Int} {ls : List (Int × Int)} {ns zs : List Int} (h : NegOf W ls ns) (hp : zs.Perm ns) (hz : zs.Pairwise (· ≤ ·)) : zs.Pairwise (· < ·) ∧ ∀ d, d ∈ zs ↔ ∃ c, In ls c ∧ d = (W - c) % W :=
  ⟨sorted_lt hz (hp.nodup_iff.mpr h.nd), fun d => (hp.mem_iff).trans (h.mem d)⟩

/-! the ends -/
theorem canon_head {fs : List (Int × Int)} {r : Int × Int} {c : Int} (h : Canon fs) (e : fs.head? = some r) (hc : In fs c) : r.1 ≤ c := by
  cases fs with
  | nil => cases e
  | cons x xs =>
    cases e
    rcases in_cons.mp hc with ⟨a, _⟩ | ⟨s, hs, a, _⟩
    · exact a
    · have := h.2.1 s hs
      have := h.1
      omega
theorem canon_last {fs : List (Int × Int)} {r : Int × Int} {c : Int} (h : Canon fs) (e : fs.getLast? = some r) (hc : In fs c) : c ≤ r.2 := by
  rcases last_or fs with rfl | ⟨ys, y, rfl⟩
  · cases e
  · rw [List.getLast?_append, List.getLast?_singleton, Option.some_or] at e
    cases e
    obtain ⟨c1, c2, c3⟩ := canon_app.mp h
    rcases in_app.mp hc with ⟨s, hs, _, a⟩ | hc
    · have := c3 s hs r (by simp)
      have := c2.1
      omega
    · exact (in_one.mp hc).2
theorem passed_cases (es ls : List (Int × Int)) : passedD es ls = .bool true ∨ passedD es ls = .bool false ∨ passedD es ls = .none := by
  unfold passedD
  split
  · split
    · exact .inl rfl
    · split
      · exact .inr (.inl rfl)
      · exact .inr (.inr rfl)
  · exact .inr (.inr rfl)
theorem passed_true {es ls : List (Int × Int)} {x y : Int} (h1 : Canon es) (h2 : Canon ls) (hx : In es x) (hy : In ls y) (h : passedD es ls = .bool true) : y < x := by
  unfold passedD at h
  split at h
  · rename_i e0 e1 l0 l1 a1 a2 a3 a4
    have := canon_head h1 a1 hx
    have := canon_last h2 a4 hy
    split at h
    · omega
    · split at h <;> cases h
  · cases h
theorem passed_false {es ls : List (Int × Int)} {x y : Int} (h1 : Canon es) (h2 : Canon ls) (hx : In es x) (hy : In ls y) (h : passedD es ls = .bool false) : x ≤ y := by
  unfold passedD at h
  split at h
  · rename_i e0 e1 l0 l1 a1 a2 a3 a4
    have := canon_last h1 a2 hx
    have := canon_head h2 a3 hy
    split at h
    · cases h
    · split at h
      · omega
      · cases h
  · cases h
end Law

set_option Elab.async false
set_option linter.all false
set_option maxRecDepth 100000
set_option maxHeartbeats 1000000
/-! PuMir: mirrored dials, ranges taken from the whole. -/
namespace Law
open PySem PySem.W Pu

def mir1 (p : Int) : Int := (100 - p) % 100
def mirL (s : Nat → Bool) (ps : List Int) : List Int := ps.zipIdx.map fun x => if s x.2 then mir1 x.1 else x.1
theorem mirL_len (s : Nat → Bool) (ps : List Int) : (mirL s ps).length = ps.length := by simp [mirL]
theorem mirL_get (s : Nat → Bool) (ps : List Int) (i : Nat) : (mirL s ps)[i]? = ps[i]?.map fun p => if s i then mir1 p else p := by
  unfold mirL
  rw [List.getElem?_map, List.getElem?_zipIdx, Option.map_map]
  cases ps[i]? <;> simp
theorem mir1_pos {p : Int} : 0 ≤ mir1 p ∧ mir1 p < 100 := ⟨Int.emod_nonneg _ (by decide), Int.emod_lt_of_pos _ (by decide)⟩
theorem mir1_mir1 {p : Int} (h0 : 0 ≤ p) (h1 : p < 100) : mir1 (mir1 p) = p := by unfold mir1; omega
theorem mirL_pos {s : Nat → Bool} {ps : List Int} (h : Pos ps) : Pos (mirL s ps) := fun p hp => by
  obtain ⟨i, hi⟩ := List.getElem?_of_mem hp
  rw [mirL_get] at hi
  obtain ⟨q, hq, e⟩ := Option.map_eq_some_iff.mp hi
  subst e
  split
  · exact mir1_pos
  · exact h q (List.mem_of_getElem? hq)
theorem mirL_mirL {s : Nat → Bool} {ps : List Int} (h : Pos ps) : mirL s (mirL s ps) = ps := by
  apply List.ext_getElem?
  intro i
  rw [mirL_get, mirL_get]
  cases e : ps[i]? with
  | none => rfl
  | some p =>
    have := h p (List.mem_of_getElem? e)
    simp only [Option.map_some]
    split
    · rw [mir1_mir1 this.1 this.2]
    · rfl
theorem nearD_mir {p u w c : Int} (hu : 0 < u) : NearD (mir1 p) u w (-c) ↔ NearD p u w c := by
  have e : mir1 p = -p + 100 * (1 - (100 - p) / 100) := by unfold mir1; omega
  rw [nearD_iff hu, nearD_iff hu, e]
  generalize 1 - (100 - p) / 100 = m
  have a1 : ∀ k : Int, (-p + 100 * m - w) * u + k * (100 * u) = -((p + w) * u) + (m + k) * (100 * u) := fun k => by
    rw [Int.add_mul m, ← Int.neg_mul, ← Int.mul_assoc m, ← Int.mul_assoc k, ← Int.add_mul, ← Int.add_mul, ← Int.add_mul]
    congr 1
    omega
  have a2 : ∀ k : Int, (-p + 100 * m + w) * u + k * (100 * u) = -((p - w) * u) + (m + k) * (100 * u) := fun k => by
    rw [Int.add_mul m, ← Int.neg_mul, ← Int.mul_assoc m, ← Int.mul_assoc k, ← Int.add_mul, ← Int.add_mul, ← Int.add_mul]
    congr 1
    omega
  constructor
  · rintro ⟨k, h1, h2⟩
    rw [a1] at h1
    rw [a2] at h2
    exact ⟨-(m + k), by rw [Int.neg_mul]; omega, by rw [Int.neg_mul]; omega⟩
  · rintro ⟨k, h1, h2⟩
    refine ⟨-k - m, ?_, ?_⟩
    · rw [a1, show m + (-k - m) = -k by omega, Int.neg_mul]; omega
    · rw [a2, show m + (-k - m) = -k by omega, Int.neg_mul]; omega
theorem near_mir {ig : Option Int} {w c : Int} {ps : List Int} : Near ig w (-c) (mirL (fun _ => true) ps) ↔ Near ig w c ps := by
  unfold Near
  rw [mirL_len]
  constructor
  · intro h i p hp hi
    have := h i (mir1 p) (by rw [mirL_get, hp]; rfl) hi
    exact (nearD_mir (ten_pos _)).mp this
  · intro h i p hp hi
    rw [mirL_get] at hp
    obtain ⟨q, hq, e⟩ := Option.map_eq_some_iff.mp hp
    have e : mir1 q = p := e
    subst e
    exact (nearD_mir (ten_pos _)).mpr (h i q hq hi)
theorem near_turn {ig : Option Int} {w c : Int} {ps : List Int} : Near ig w ((ten (ps.length + 1) - c) % ten (ps.length + 1)) (mirL (fun _ => true) ps) ↔ Near ig w c ps := by
  have h1 := @near_emod ig w (ten (ps.length + 1) - c) (mirL (fun _ => true) ps)
  rw [mirL_len] at h1
  have h2 := @near_shift ig w (-c) 1 (mirL (fun _ => true) ps)
  rw [mirL_len, show -c + 1 * ten (ps.length + 1) = ten (ps.length + 1) - c by omega] at h2
  rw [h1, h2, near_mir]
theorem flat_ints (is : List Int) : (is.map PyData.int).all flatD = true := by
  rw [List.all_map, List.all_eq_true]
  intro x _
  rfl
theorem any_ints (is : List Int) (x : Int) : ((is.map PyData.int).any fun y => PyData.eqv y (.int x)) = decide (x ∈ is) := by
  rw [Bool.eq_iff_iff, decide_eq_true_eq, List.any_map, List.any_eq_true]
  constructor
  · rintro ⟨y, hy, h⟩
    have h : PyData.eqv (.int y) (.int x) = true := h
    rw [eqv_i] at h
    exact of_decide_eq_true h ▸ hy
  · intro h
    exact ⟨x, h, by show PyData.eqv (.int x) (.int x) = true; rw [eqv_i]; exact decide_eq_true rfl⟩
def inS (is : List Int) (i : Nat) : Bool := decide ((i : Int) ∈ is)
theorem mir_lc {is ps : List Int} {ρ : En} {Φ : List D → Prop} {g : PGt} {t : PXT} {e : PX} (hl : ps.length ≤ 100000) (hk : ∀ (a : Int × Nat), a ∈ ps.zipIdx → ∀ Ψ : Option D → Prop, Ψ (some (.int (if inS is a.2 then mir1 a.1 else a.1))) → g (.tuple [.int (a.2 : Nat), .int a.1]) ρ fun ρ1 => t ρ1 fun z => (z = true → e ρ1 (elD Ψ)) ∧ (z = false → Ψ none))
    (k : Φ ((mirL (inS is) ps).map .int)) : (enumD (ps.map PyData.int)).length ≤ 100000 ∧ lcL g t e ρ (enumD (ps.map PyData.int)) Φ := by
  rw [enum_map]
  refine ⟨by simp; omega, ?_⟩
  refine lc_map (G := PyData.int) (fun a : Int × Nat => if inS is a.2 then mir1 a.1 else a.1) hk ?_
  rw [mirL, List.map_map] at k
  rw [List.map_map]
  exact k
theorem s_mirrored {ps is : List Int} {Φ : Ent → Prop} (hl : ps.length ≤ 1000) (k : Φ (.d (TI (mirL (inS is) ps)))) : p_mirrored [.d (TI ps), .d (TI is)] Φ := by
  unfold p_mirrored
  rw [shut_eq]
  simp only [pFun, pIxO, pLenO, pPopO, pInsO, pStO, pSlS, qRepT, pStar, qSortT, qInD, pSortSet, pRng3, qMinP, pPar3, pDNew, pDPut, pSortDict, pTupR, pLstR, pRevL, pRet, pRetN, pNext, pAsg, pAsgL, pAsgG, pPar, pAug, pApp, pFz, pFor, pGN, pGNil, pGCons, pGT, pVar, pC, pOp, pUn, pFrz, pNil, pCons, pDs, pTup, pLst, pNotT, pChain, pBl, pBlL, pLc, pYes, pCall, pSeqI, pRng1, pRng2, pEnum, pZip, pEZ, pSl, pNoPart, pPart, pIsa1, pIsa2, pCatL, x_Ite, x_AndT, x_OrT, x_Tst, x_AndV, x_OrV, x_NotV, boolD_d, elD_d, x_IxL, x_IxT, qII, qIC, qAdd, q1C, q2C, qLen, qTuple, qListL, qSum, qAll, qMin2, qMax2, qAbs, qInt, qEq, qNe, qIs, qIsNot, qIn, qNeg, qCatL, qSort, sqD, flatD, dIsN, wipeE, List.getElem?_cons_zero, List.getElem?_cons_succ, List.set_cons_zero, List.set_cons_succ, List.cons_append, List.nil_append, List.replicate_succ, List.replicate_zero, List.length_cons, List.length_nil, List.length_map, decide_eq_true_eq, decide_eq_false_iff_not, Bool.not_eq_true', Bool.not_eq_false', Bool.true_eq_false, Bool.false_eq_true, true_implies, false_implies, implies_true, true_and, and_true, Nat.reduceSub, Nat.reduceAdd, reduceCtorEq, Option.map_some, Option.map_none, if_true, if_false, Option.some.injEq, Int.toNat_natCast]
  refine mir_lc (is := is) (ps := ps) (by omega) (fun a ha Ψ hΨ => ?_) ?_
  · simp only [pFun, pIxO, pLenO, pPopO, pInsO, pStO, pSlS, qRepT, pStar, qSortT, qInD, pSortSet, pRng3, qMinP, pPar3, pDNew, pDPut, pSortDict, pTupR, pLstR, pRevL, pRet, pRetN, pNext, pAsg, pAsgL, pAsgG, pPar, pAug, pApp, pFz, pFor, pGN, pGNil, pGCons, pGT, pVar, pC, pOp, pUn, pFrz, pNil, pCons, pDs, pTup, pLst, pNotT, pChain, pBl, pBlL, pLc, pYes, pCall, pSeqI, pRng1, pRng2, pEnum, pZip, pEZ, pSl, pNoPart, pPart, pIsa1, pIsa2, pCatL, x_Ite, x_AndT, x_OrT, x_Tst, x_AndV, x_OrV, x_NotV, boolD_d, elD_d, x_IxL, x_IxT, qII, qIC, qAdd, q1C, q2C, qLen, qTuple, qListL, qSum, qAll, qMin2, qMax2, qAbs, qInt, qEq, qNe, qIs, qIsNot, qIn, qNeg, qCatL, qSort, sqD, flatD, dIsN, wipeE, List.getElem?_cons_zero, List.getElem?_cons_succ, List.set_cons_zero, List.set_cons_succ, List.cons_append, List.nil_append, List.replicate_succ, List.replicate_zero, List.length_cons, List.length_nil, List.length_map, decide_eq_true_eq, decide_eq_false_iff_not, Bool.not_eq_true', Bool.not_eq_false', Bool.true_eq_false, Bool.false_eq_true, true_implies, false_implies, implies_true, true_and, and_true, Nat.reduceSub, Nat.reduceAdd, reduceCtorEq, Option.map_some, Option.map_none, if_true, if_false, Option.some.injEq, Int.toNat_natCast]
    refine ⟨flat_ints is, ?_⟩
    rw [any_ints]
    refine ⟨fun h => ⟨by decide, ?_⟩, fun h => ?_⟩
    · rw [if_pos (show inS is a.2 = true from h)] at hΨ; exact hΨ
    · rw [if_neg (show ¬ inS is a.2 = true from fun z => by have := h; unfold inS at z; simp_all)] at hΨ; exact hΨ
  · exact k
theorem s_l_turned {fs : List (Int × Int)} {W : Int} {Φ : Ent → Prop} (tpW : 0 < W) (hC : Canon fs) (hW : ∀ c, In fs c → 0 ≤ c ∧ c < W) (hW2 : W ≤ 1000000000) (hs : size fs ≤ 50000) (hl : fs.length ≤ 50000)
    (k : ∀ gs, Canon gs → (∀ d, In gs d ↔ ∃ c, In fs c ∧ d = (W - c) % W) → gs.length ≤ 50000 → Φ (.d (LR gs))) : p_l_turned [.d (LR fs), .d (.int W)] Φ := by
  unfold p_l_turned
  rw [shut_eq]
  refine ⟨rfl, ?_⟩
  refine seq ?_
  simp only [pFun, pIxO, pLenO, pPopO, pInsO, pStO, pSlS, qRepT, pStar, qSortT, qInD, pSortSet, pRng3, qMinP, pPar3, pDNew, pDPut, pSortDict, pTupR, pLstR, pRevL, pRet, pRetN, pNext, pAsg, pAsgL, pAsgG, pPar, pAug, pApp, pFz, pFor, pGN, pGNil, pGCons, pGT, pVar, pC, pOp, pUn, pFrz, pNil, pCons, pDs, pTup, pLst, pNotT, pChain, pBl, pBlL, pLc, pYes, pCall, pSeqI, pRng1, pRng2, pEnum, pZip, pEZ, pSl, pNoPart, pPart, pIsa1, pIsa2, pCatL, x_Ite, x_AndT, x_OrT, x_Tst, x_AndV, x_OrV, x_NotV, boolD_d, elD_d, x_IxL, x_IxT, qII, qIC, qAdd, q1C, q2C, qLen, qTuple, qListL, qSum, qAll, qMin2, qMax2, qAbs, qInt, qEq, qNe, qIs, qIsNot, qIn, qNeg, qCatL, qSort, sqD, flatD, dIsN, wipeE, List.getElem?_cons_zero, List.getElem?_cons_succ, List.set_cons_zero, List.set_cons_succ, List.cons_append, List.nil_append, List.replicate_succ, List.replicate_zero, List.length_cons, List.length_nil, List.length_map, decide_eq_true_eq, decide_eq_false_iff_not, Bool.not_eq_true', Bool.not_eq_false', Bool.true_eq_false, Bool.false_eq_true, true_implies, false_implies, implies_true, true_and, and_true, Nat.reduceSub, Nat.reduceAdd, reduceCtorEq, Option.map_some, Option.map_none, if_true, if_false, Option.some.injEq, Int.toNat_natCast]
  refine ⟨by decide, ?_⟩
  refine seq ?_
  simp only [pFun, pIxO, pLenO, pPopO, pInsO, pStO, pSlS, qRepT, pStar, qSortT, qInD, pSortSet, pRng3, qMinP, pPar3, pDNew, pDPut, pSortDict, pTupR, pLstR, pRevL, pRet, pRetN, pNext, pAsg, pAsgL, pAsgG, pPar, pAug, pApp, pFz, pFor, pGN, pGNil, pGCons, pGT, pVar, pC, pOp, pUn, pFrz, pNil, pCons, pDs, pTup, pLst, pNotT, pChain, pBl, pBlL, pLc, pYes, pCall, pSeqI, pRng1, pRng2, pEnum, pZip, pEZ, pSl, pNoPart, pPart, pIsa1, pIsa2, pCatL, x_Ite, x_AndT, x_OrT, x_Tst, x_AndV, x_OrV, x_NotV, boolD_d, elD_d, x_IxL, x_IxT, qII, qIC, qAdd, q1C, q2C, qLen, qTuple, qListL, qSum, qAll, qMin2, qMax2, qAbs, qInt, qEq, qNe, qIs, qIsNot, qIn, qNeg, qCatL, qSort, sqD, flatD, dIsN, wipeE, List.getElem?_cons_zero, List.getElem?_cons_succ, List.set_cons_zero, List.set_cons_succ, List.cons_append, List.nil_append, List.replicate_succ, List.replicate_zero, List.length_cons, List.length_nil, List.length_map, decide_eq_true_eq, decide_eq_false_iff_not, Bool.not_eq_true', Bool.not_eq_false', Bool.true_eq_false, Bool.false_eq_true, true_implies, false_implies, implies_true, true_and, and_true, Nat.reduceSub, Nat.reduceAdd, reduceCtorEq, Option.map_some, Option.map_none, if_true, if_false, Option.some.injEq, Int.toNat_natCast]
  refine for_rule (fun ls _ ρ => ∃ ns e f g, ρ = [.d (LR fs), .d (.int W), .d (LI ns), e, f, g] ∧ NegOf W ls ns) ⟨[], _, _, _, rfl, negOf_nil⟩ ?_ ?_
  · rintro ρ ⟨ns, v1, v2, v3, rfl, hns⟩
    have hlen : ns.length ≤ 50000 := by have := hns.len; omega
    simp only [pFun, pIxO, pLenO, pPopO, pInsO, pStO, pSlS, qRepT, pStar, qSortT, qInD, pSortSet, pRng3, qMinP, pPar3, pDNew, pDPut, pSortDict, pTupR, pLstR, pRevL, pRet, pRetN, pNext, pAsg, pAsgL, pAsgG, pPar, pAug, pApp, pFz, pFor, pGN, pGNil, pGCons, pGT, pVar, pC, pOp, pUn, pFrz, pNil, pCons, pDs, pTup, pLst, pNotT, pChain, pBl, pBlL, pLc, pYes, pCall, pSeqI, pRng1, pRng2, pEnum, pZip, pEZ, pSl, pNoPart, pPart, pIsa1, pIsa2, pCatL, x_Ite, x_AndT, x_OrT, x_Tst, x_AndV, x_OrV, x_NotV, boolD_d, elD_d, x_IxL, x_IxT, qII, qIC, qAdd, q1C, q2C, qLen, qTuple, qListL, qSum, qAll, qMin2, qMax2, qAbs, qInt, qEq, qNe, qIs, qIsNot, qIn, qNeg, qCatL, qSort, sqD, flatD, dIsN, wipeE, List.getElem?_cons_zero, List.getElem?_cons_succ, List.set_cons_zero, List.set_cons_succ, List.cons_append, List.nil_append, List.replicate_succ, List.replicate_zero, List.length_cons, List.length_nil, List.length_map, decide_eq_true_eq, decide_eq_false_iff_not, Bool.not_eq_true', Bool.not_eq_false', Bool.true_eq_false, Bool.false_eq_true, true_implies, false_implies, implies_true, true_and, and_true, Nat.reduceSub, Nat.reduceAdd, reduceCtorEq, Option.map_some, Option.map_none, if_true, if_false, Option.some.injEq, Int.toNat_natCast]
    refine ⟨alike_ints ns, sortable_ints ns, depth_ints ns, fun ys hys => ?_⟩
    obtain ⟨zs, rfl, hp, hpw⟩ := sorted_ints hys
    obtain ⟨q1, q2⟩ := hns.sorted hp hpw
    have zl : zs.length ≤ 50000 := by rw [hp.length_eq]; exact hlen
    refine s_ranges (by omega) q1 fun gs f1 f2 f3 f4 => k gs f1 (fun d => (f2 d).trans (q2 d)) (by omega)
  · rintro ls r rs ρ e ⟨ns, v1, v2, v3, rfl, hns⟩ Ψ1 hΨ1
    simp only [pFun, pIxO, pLenO, pPopO, pInsO, pStO, pSlS, qRepT, pStar, qSortT, qInD, pSortSet, pRng3, qMinP, pPar3, pDNew, pDPut, pSortDict, pTupR, pLstR, pRevL, pRet, pRetN, pNext, pAsg, pAsgL, pAsgG, pPar, pAug, pApp, pFz, pFor, pGN, pGNil, pGCons, pGT, pVar, pC, pOp, pUn, pFrz, pNil, pCons, pDs, pTup, pLst, pNotT, pChain, pBl, pBlL, pLc, pYes, pCall, pSeqI, pRng1, pRng2, pEnum, pZip, pEZ, pSl, pNoPart, pPart, pIsa1, pIsa2, pCatL, x_Ite, x_AndT, x_OrT, x_Tst, x_AndV, x_OrV, x_NotV, boolD_d, elD_d, x_IxL, x_IxT, qII, qIC, qAdd, q1C, q2C, qLen, qTuple, qListL, qSum, qAll, qMin2, qMax2, qAbs, qInt, qEq, qNe, qIs, qIsNot, qIn, qNeg, qCatL, qSort, sqD, flatD, dIsN, wipeE, List.getElem?_cons_zero, List.getElem?_cons_succ, List.set_cons_zero, List.set_cons_succ, List.cons_append, List.nil_append, List.replicate_succ, List.replicate_zero, List.length_cons, List.length_nil, List.length_map, decide_eq_true_eq, decide_eq_false_iff_not, Bool.not_eq_true', Bool.not_eq_false', Bool.true_eq_false, Bool.false_eq_true, true_implies, false_implies, implies_true, true_and, and_true, Nat.reduceSub, Nat.reduceAdd, reduceCtorEq, Option.map_some, Option.map_none, if_true, if_false, Option.some.injEq, Int.toNat_natCast, pairD]
    have hr : r ∈ fs := by rw [e]; simp
    have rle := hC.le r hr
    have rL := hW r.1 ⟨r, hr, Int.le_refl _, rle⟩
    have rH := hW r.2 ⟨r, hr, rle, Int.le_refl _⟩
    have cC : Canon (ls ++ [r]) := by
      have := hC
      rw [e, show ls ++ r :: rs = (ls ++ [r]) ++ rs by simp, canon_app] at this
      exact this.1
    have cW : ∀ c, In (ls ++ [r]) c → 0 ≤ c ∧ c < W := fun c hc => hW c (by
      rw [e, show ls ++ r :: rs = (ls ++ [r]) ++ rs by simp]
      exact in_app.mpr (.inl hc))
    have N := negOf_snoc cC cW hns
    have N' := N.len
    have sz : ∀ l1 l2 : List (Int × Int), size (l1 ++ l2) = size l1 + size l2 := size_app
    have szp : ∀ l : List (Int × Int), (∀ r ∈ l, r.1 ≤ r.2) → 0 ≤ size l := fun l h => by
      induction l with
      | nil => simp [size]
      | cons a l ih =>
        have := ih fun r hr => h r (List.mem_cons_of_mem _ hr)
        have := h a List.mem_cons_self
        have e : size (a :: l) = a.2 - a.1 + 1 + size l := by simp [size]
        omega
    have : size (ls ++ [r]) ≤ size fs := by
      rw [e, show ls ++ r :: rs = (ls ++ [r]) ++ rs by simp, sz (ls ++ [r]) rs]
      have := szp rs fun q hq => hC.le q (by rw [e]; simp [hq])
      omega
    have key := hΨ1 [.d (LR fs), .d (.int W), .d (LI (ns ++ (List.range (r.2 + 1 - r.1).toNat).map fun (i : Nat) => (W - (r.1 + (i : Int))) % W)), .d (.int r.1), .d (.int r.2), v3] ⟨_, _, _, _, rfl, N⟩
    rw [List.length_append] at N'
    simp only [List.length_map, List.length_range] at N'
    refine ⟨by omega, ?_⟩
    rw [rngD_len, rngD_map]
    refine ⟨by omega, ?_⟩
    refine lc_map (G := PyData.int) (fun (i : Nat) => (W - (r.1 + (i : Int))) % W) (fun i hi Ψ hΨ => ?_) ?_
    · simp only [pFun, pIxO, pLenO, pPopO, pInsO, pStO, pSlS, qRepT, pStar, qSortT, qInD, pSortSet, pRng3, qMinP, pPar3, pDNew, pDPut, pSortDict, pTupR, pLstR, pRevL, pRet, pRetN, pNext, pAsg, pAsgL, pAsgG, pPar, pAug, pApp, pFz, pFor, pGN, pGNil, pGCons, pGT, pVar, pC, pOp, pUn, pFrz, pNil, pCons, pDs, pTup, pLst, pNotT, pChain, pBl, pBlL, pLc, pYes, pCall, pSeqI, pRng1, pRng2, pEnum, pZip, pEZ, pSl, pNoPart, pPart, pIsa1, pIsa2, pCatL, x_Ite, x_AndT, x_OrT, x_Tst, x_AndV, x_OrV, x_NotV, boolD_d, elD_d, x_IxL, x_IxT, qII, qIC, qAdd, q1C, q2C, qLen, qTuple, qListL, qSum, qAll, qMin2, qMax2, qAbs, qInt, qEq, qNe, qIs, qIsNot, qIn, qNeg, qCatL, qSort, sqD, flatD, dIsN, wipeE, List.getElem?_cons_zero, List.getElem?_cons_succ, List.set_cons_zero, List.set_cons_succ, List.cons_append, List.nil_append, List.replicate_succ, List.replicate_zero, List.length_cons, List.length_nil, List.length_map, decide_eq_true_eq, decide_eq_false_iff_not, Bool.not_eq_true', Bool.not_eq_false', Bool.true_eq_false, Bool.false_eq_true, true_implies, false_implies, implies_true, true_and, and_true, Nat.reduceSub, Nat.reduceAdd, reduceCtorEq, Option.map_some, Option.map_none, if_true, if_false, Option.some.injEq, Int.toNat_natCast]
      exact ⟨tpW, hΨ⟩
    refine ⟨by simp only [List.length_map, List.length_range]; omega, ?_⟩
    simp only [LI, List.map_append] at key ⊢
    exact key
/-- how many counts fit -/
theorem size_le {m : Int} : ∀ {fs : List (Int × Int)}, (∀ r ∈ fs, r.2 - r.1 ≤ m) → size fs ≤ (m + 1) * fs.length
  | [], _ => by simp [size]
  | r :: fs, h => by
    have := size_le (fs := fs) fun q hq => h q (List.mem_cons_of_mem _ hq)
    have h1 := h r List.mem_cons_self
    have e : size (r :: fs) = r.2 - r.1 + 1 + size fs := by simp [size]
    rw [e, List.length_cons, Int.natCast_add, Int.mul_add]
    omega
end Law

set_option Elab.async false
set_option linter.all false
set_option maxRecDepth 100000
set_option maxHeartbeats 1000000
/-! PuFig: figures. -/
namespace Law
open PySem PySem.W Pu

theorem nodup_len : ∀ (W : Nat) (ks : List Int), ks.Nodup → (∀ k ∈ ks, 0 ≤ k ∧ k < (W : Int)) → ks.length ≤ W
  | 0, ks, _, h => by
    cases ks with
    | nil => simp
    | cons k ks => have := h k List.mem_cons_self; omega
  | W + 1, ks, nd, h => by
    have := nodup_len W (ks.erase (W : Int)) (nd.erase _) fun k hk => by
      have h1 := h k (List.mem_of_mem_erase hk)
      have : k ≠ (W : Int) := fun e => by subst e; exact (List.Nodup.not_mem_erase nd) hk
      omega
    rw [List.length_erase] at this
    split at this <;> omega
theorem putI_nodup {ks : List Int} {k : Int} (h : ks.Nodup) : (putI ks k).Nodup := by
  unfold putI
  split
  · exact h
  · next hk => exact List.nodup_append.mpr ⟨h, by simp, fun a ha b hb => by rw [List.mem_singleton] at hb; subst hb; exact fun e => hk (e ▸ ha)⟩
theorem putI_mem {ks : List Int} {k j : Int} : j ∈ putI ks k ↔ j ∈ ks ∨ j = k := by
  unfold putI
  split
  · next hk => exact ⟨.inl, fun h => h.elim id fun e => e ▸ hk⟩
  · simp
/-- sorted lists of the same numbers are the same -/
theorem sorted_one : ∀ {xs ys : List Int}, xs.Pairwise (· < ·) → ys.Pairwise (· < ·) → (∀ c, c ∈ xs ↔ c ∈ ys) → xs = ys
  | [], [], _, _, _ => rfl
  | [], y :: ys, _, _, h => absurd ((h y).mpr (by simp)) (by simp)
  | x :: xs, [], _, _, h => absurd ((h x).mp (by simp)) (by simp)
  | x :: xs, y :: ys, hx, hy, h => by
    obtain ⟨x1, x2⟩ := List.pairwise_cons.mp hx
    obtain ⟨y1, y2⟩ := List.pairwise_cons.mp hy
    have e : x = y := by
      rcases List.mem_cons.mp ((h x).mp (by simp)) with a | a
      · exact a
      · rcases List.mem_cons.mp ((h y).mpr (by simp)) with b | b
        · exact b.symm
        · have := x1 _ b
          have := y1 _ a
          omega
    subst e
    rw [sorted_one x2 y2 fun c => ?_]
    constructor
    · intro hc
      rcases List.mem_cons.mp ((h c).mp (List.mem_cons_of_mem _ hc)) with a | a
      · have := x1 _ hc; omega
      · exact a
    · intro hc
      rcases List.mem_cons.mp ((h c).mpr (List.mem_cons_of_mem _ hc)) with a | a
      · have := y1 _ hc; omega
      · exact a
theorem div_mono {a b u : Int} (hu : 0 < u) (h : a ≤ b) : a / u ≤ b / u := Int.ediv_le_ediv hu h
/-- the numbers from first on, at most m of them, taken modulo m, are those of first .. last -/
theorem mod_run {m first last k : Int} (hm : 0 < m) : (∃ i : Int, first ≤ i ∧ i ≤ last ∧ i ≤ first + m - 1 ∧ k = i % m) ↔ ∃ i : Int, first ≤ i ∧ i ≤ last ∧ k = i % m := by
  constructor
  · rintro ⟨i, h1, h2, _, h3⟩
    exact ⟨i, h1, h2, h3⟩
  · rintro ⟨i, h1, h2, h3⟩
    have a1 := Int.emod_nonneg (i - first) (Int.ne_of_gt hm)
    have a2 := Int.emod_lt_of_pos (i - first) hm
    have a3 := Int.mul_ediv_add_emod (i - first) m
    have a4 : 0 ≤ m * ((i - first) / m) := Int.mul_nonneg (by omega) (Int.ediv_nonneg (by omega) (by omega))
    refine ⟨first + (i - first) % m, by omega, by omega, by omega, ?_⟩
    rw [h3, show first + (i - first) % m = i + m * (-((i - first) / m)) by rw [Int.mul_neg]; omega, Int.add_mul_emod_self_left]
/-- the marks of a circle that some numbers hit -/
def Hits (m : Int) (f g : Int → Int) (fs : List (Int × Int)) (k : Int) : Prop := ∃ r ∈ fs, ∃ i : Int, f r.1 ≤ i ∧ i ≤ g r.2 ∧ k = i % m
def FigOf (u : Int) (fs : List (Int × Int)) (k : Int) : Prop := ∃ c, In fs c ∧ k = c / (u * 10) % 10
theorem hits_fig {u k : Int} {fs : List (Int × Int)} (hu : 0 < u) (hC : ∀ r ∈ fs, r.1 ≤ r.2) : Hits 10 (fun x => x / (u * 10)) (fun x => x / (u * 10)) fs k ↔ FigOf u fs k := by
  have u10 : 0 < u * 10 := by omega
  constructor
  · rintro ⟨r, hr, i, h1, h2, h3⟩
    dsimp only at h1 h2
    have rle := hC r hr
    have a1 := Int.mul_ediv_add_emod r.1 (u * 10)
    have a2 := Int.emod_lt_of_pos r.1 u10
    have b1 := Int.mul_ediv_add_emod r.2 (u * 10)
    have b2 := Int.emod_nonneg r.2 (Int.ne_of_gt u10)
    by_cases z : r.1 / (u * 10) = i
    · exact ⟨r.1, ⟨r, hr, Int.le_refl _, rle⟩, by rw [z]; exact h3⟩
    · refine ⟨u * 10 * i, ⟨r, hr, ?_, ?_⟩, ?_⟩
      · have := Int.mul_le_mul_of_nonneg_left (show r.1 / (u * 10) + 1 ≤ i by omega) (Int.le_of_lt u10)
        rw [Int.mul_add] at this
        omega
      · have := Int.mul_le_mul_of_nonneg_left h2 (Int.le_of_lt u10)
        omega
      · rw [Int.mul_ediv_cancel_left _ (Int.ne_of_gt u10)]
        exact h3
  · rintro ⟨c, ⟨r, hr, h1, h2⟩, h3⟩
    exact ⟨r, hr, c / (u * 10), div_mono u10 h1, div_mono u10 h2, h3⟩
theorem run_cnt {first last m : Int} : ((if first + m - 1 < last then first + m - 1 else last) + 1 - first).toNat = (min last (first + m - 1) + 1 - first).toNat := by
  by_cases h : first + m - 1 < last
  · rw [if_pos h, show min last (first + m - 1) = first + m - 1 by omega]
  · rw [if_neg h, show min last (first + m - 1) = last by omega]
theorem run_mem {first last m k : Int} (hm : 0 < m) : (∃ t ∈ List.range ((if first + m - 1 < last then first + m - 1 else last) + 1 - first).toNat, k = (first + (t : Int)) % m) ↔ ∃ i : Int, first ≤ i ∧ i ≤ last ∧ k = i % m := by
  rw [run_cnt, ← mod_run hm]
  constructor
  · rintro ⟨t, ht, e⟩
    have ht := List.mem_range.mp ht
    exact ⟨first + (t : Int), by omega, by omega, by omega, e⟩
  · rintro ⟨i, h1, h2, h3, e⟩
    exact ⟨(i - first).toNat, List.mem_range.mpr (by omega), by rw [e]; congr 1; omega⟩
theorem s_figures_in {fs : List (Int × Int)} {u : Int} {Φ : Ent → Prop} (hu : 0 < u) (hu2 : u ≤ 1000000) (hC : ∀ r ∈ fs, r.1 ≤ r.2) (h0 : ∀ r ∈ fs, 0 ≤ r.1) (h1 : ∀ r ∈ fs, r.2 < 1000000000)
    (k : ∀ ks : List Int, ks.Pairwise (· < ·) → (∀ j, j ∈ ks ↔ FigOf u fs j) → ks.length ≤ 10 → Φ (.d (LI ks))) : p_figures_in [.d (LR fs), .d (.int u)] Φ := by
  unfold p_figures_in
  rw [shut_eq]
  refine ⟨rfl, ?_⟩
  refine seq ?_
  simp only [pFun, pIxO, pLenO, pPopO, pInsO, pStO, pSlS, qRepT, pStar, qSortT, qInD, pSortSet, pRng3, qMinP, pPar3, pDNew, pDPut, pSortDict, pTupR, pLstR, pRevL, pRet, pRetN, pNext, pAsg, pAsgL, pAsgG, pPar, pAug, pApp, pFz, pFor, pGN, pGNil, pGCons, pGT, pVar, pC, pOp, pUn, pFrz, pNil, pCons, pDs, pTup, pLst, pNotT, pChain, pBl, pBlL, pLc, pYes, pCall, pSeqI, pRng1, pRng2, pEnum, pZip, pEZ, pSl, pNoPart, pPart, pIsa1, pIsa2, pCatL, x_Ite, x_AndT, x_OrT, x_Tst, x_AndV, x_OrV, x_NotV, boolD_d, elD_d, x_IxL, x_IxT, qII, qIC, qAdd, q1C, q2C, qLen, qTuple, qListL, qSum, qAll, qMin2, qMax2, qAbs, qInt, qEq, qNe, qIs, qIsNot, qIn, qNeg, qCatL, qSort, sqD, flatD, dIsN, wipeE, List.getElem?_cons_zero, List.getElem?_cons_succ, List.set_cons_zero, List.set_cons_succ, List.cons_append, List.nil_append, List.replicate_succ, List.replicate_zero, List.length_cons, List.length_nil, List.length_map, decide_eq_true_eq, decide_eq_false_iff_not, Bool.not_eq_true', Bool.not_eq_false', Bool.true_eq_false, Bool.false_eq_true, true_implies, false_implies, implies_true, true_and, and_true, Nat.reduceSub, Nat.reduceAdd, reduceCtorEq, Option.map_some, Option.map_none, if_true, if_false, Option.some.injEq, Int.toNat_natCast]
  refine seq ?_
  simp only [pFun, pIxO, pLenO, pPopO, pInsO, pStO, pSlS, qRepT, pStar, qSortT, qInD, pSortSet, pRng3, qMinP, pPar3, pDNew, pDPut, pSortDict, pTupR, pLstR, pRevL, pRet, pRetN, pNext, pAsg, pAsgL, pAsgG, pPar, pAug, pApp, pFz, pFor, pGN, pGNil, pGCons, pGT, pVar, pC, pOp, pUn, pFrz, pNil, pCons, pDs, pTup, pLst, pNotT, pChain, pBl, pBlL, pLc, pYes, pCall, pSeqI, pRng1, pRng2, pEnum, pZip, pEZ, pSl, pNoPart, pPart, pIsa1, pIsa2, pCatL, x_Ite, x_AndT, x_OrT, x_Tst, x_AndV, x_OrV, x_NotV, boolD_d, elD_d, x_IxL, x_IxT, qII, qIC, qAdd, q1C, q2C, qLen, qTuple, qListL, qSum, qAll, qMin2, qMax2, qAbs, qInt, qEq, qNe, qIs, qIsNot, qIn, qNeg, qCatL, qSort, sqD, flatD, dIsN, wipeE, List.getElem?_cons_zero, List.getElem?_cons_succ, List.set_cons_zero, List.set_cons_succ, List.cons_append, List.nil_append, List.replicate_succ, List.replicate_zero, List.length_cons, List.length_nil, List.length_map, decide_eq_true_eq, decide_eq_false_iff_not, Bool.not_eq_true', Bool.not_eq_false', Bool.true_eq_false, Bool.false_eq_true, true_implies, false_implies, implies_true, true_and, and_true, Nat.reduceSub, Nat.reduceAdd, reduceCtorEq, Option.map_some, Option.map_none, if_true, if_false, Option.some.injEq, Int.toNat_natCast]
  have bnd : ∀ (ls : List (Int × Int)) (ks : List Int), ks.Nodup → (∀ j, j ∈ ks ↔ FigOf u ls j) → ks.length ≤ 10 := fun ls ks nd hk => nodup_len 10 ks nd fun j hj => by
    obtain ⟨c, _, rfl⟩ := (hk j).mp hj
    have := Int.emod_nonneg (c / (u * 10)) (show (10 : Int) ≠ 0 by decide)
    have := Int.emod_lt_of_pos (c / (u * 10)) (show (0 : Int) < 10 by decide)
    omega
  refine for_rule (fun ls _ ρ => ∃ ks a b c d e, ρ = [.d (LR fs), .d (.int u), .oi ks, a, b, c, d, e] ∧ ks.Nodup ∧ ∀ j, j ∈ ks ↔ FigOf u ls j) ⟨[], _, _, _, _, _, rfl, .nil, fun j => by simp [FigOf, In]⟩ ?_ ?_
  · rintro ρ ⟨ks, a, b, c, d, e, rfl, nd, hk⟩
    simp only [pFun, pIxO, pLenO, pPopO, pInsO, pStO, pSlS, qRepT, pStar, qSortT, qInD, pSortSet, pRng3, qMinP, pPar3, pDNew, pDPut, pSortDict, pTupR, pLstR, pRevL, pRet, pRetN, pNext, pAsg, pAsgL, pAsgG, pPar, pAug, pApp, pFz, pFor, pGN, pGNil, pGCons, pGT, pVar, pC, pOp, pUn, pFrz, pNil, pCons, pDs, pTup, pLst, pNotT, pChain, pBl, pBlL, pLc, pYes, pCall, pSeqI, pRng1, pRng2, pEnum, pZip, pEZ, pSl, pNoPart, pPart, pIsa1, pIsa2, pCatL, x_Ite, x_AndT, x_OrT, x_Tst, x_AndV, x_OrV, x_NotV, boolD_d, elD_d, x_IxL, x_IxT, qII, qIC, qAdd, q1C, q2C, qLen, qTuple, qListL, qSum, qAll, qMin2, qMax2, qAbs, qInt, qEq, qNe, qIs, qIsNot, qIn, qNeg, qCatL, qSort, sqD, flatD, dIsN, wipeE, List.getElem?_cons_zero, List.getElem?_cons_succ, List.set_cons_zero, List.set_cons_succ, List.cons_append, List.nil_append, List.replicate_succ, List.replicate_zero, List.length_cons, List.length_nil, List.length_map, decide_eq_true_eq, decide_eq_false_iff_not, Bool.not_eq_true', Bool.not_eq_false', Bool.true_eq_false, Bool.false_eq_true, true_implies, false_implies, implies_true, true_and, and_true, Nat.reduceSub, Nat.reduceAdd, reduceCtorEq, Option.map_some, Option.map_none, if_true, if_false, Option.some.injEq, Int.toNat_natCast]
    intro ys hp hw
    refine k ys (sorted_lt hw (hp.nodup_iff.mpr nd)) (fun j => hp.mem_iff.trans (hk j)) ?_
    rw [hp.length_eq]
    exact bnd _ _ nd hk
  · rintro ls r rs ρ e ⟨ks, a, b, c, d, e', rfl, nd, hk⟩ Ψ hΨ
    have hr : r ∈ fs := by rw [e]; simp
    have r0 := h0 r hr
    have r1 := h1 r hr
    have rle := hC r hr
    have u10 : 0 < u * 10 := by omega
    simp only [pFun, pIxO, pLenO, pPopO, pInsO, pStO, pSlS, qRepT, pStar, qSortT, qInD, pSortSet, pRng3, qMinP, pPar3, pDNew, pDPut, pSortDict, pTupR, pLstR, pRevL, pRet, pRetN, pNext, pAsg, pAsgL, pAsgG, pPar, pAug, pApp, pFz, pFor, pGN, pGNil, pGCons, pGT, pVar, pC, pOp, pUn, pFrz, pNil, pCons, pDs, pTup, pLst, pNotT, pChain, pBl, pBlL, pLc, pYes, pCall, pSeqI, pRng1, pRng2, pEnum, pZip, pEZ, pSl, pNoPart, pPart, pIsa1, pIsa2, pCatL, x_Ite, x_AndT, x_OrT, x_Tst, x_AndV, x_OrV, x_NotV, boolD_d, elD_d, x_IxL, x_IxT, qII, qIC, qAdd, q1C, q2C, qLen, qTuple, qListL, qSum, qAll, qMin2, qMax2, qAbs, qInt, qEq, qNe, qIs, qIsNot, qIn, qNeg, qCatL, qSort, sqD, flatD, dIsN, wipeE, List.getElem?_cons_zero, List.getElem?_cons_succ, List.set_cons_zero, List.set_cons_succ, List.cons_append, List.nil_append, List.replicate_succ, List.replicate_zero, List.length_cons, List.length_nil, List.length_map, decide_eq_true_eq, decide_eq_false_iff_not, Bool.not_eq_true', Bool.not_eq_false', Bool.true_eq_false, Bool.false_eq_true, true_implies, false_implies, implies_true, true_and, and_true, Nat.reduceSub, Nat.reduceAdd, reduceCtorEq, Option.map_some, Option.map_none, if_true, if_false, Option.some.injEq, Int.toNat_natCast, pairD]
    refine seq ?_
    simp only [pFun, pIxO, pLenO, pPopO, pInsO, pStO, pSlS, qRepT, pStar, qSortT, qInD, pSortSet, pRng3, qMinP, pPar3, pDNew, pDPut, pSortDict, pTupR, pLstR, pRevL, pRet, pRetN, pNext, pAsg, pAsgL, pAsgG, pPar, pAug, pApp, pFz, pFor, pGN, pGNil, pGCons, pGT, pVar, pC, pOp, pUn, pFrz, pNil, pCons, pDs, pTup, pLst, pNotT, pChain, pBl, pBlL, pLc, pYes, pCall, pSeqI, pRng1, pRng2, pEnum, pZip, pEZ, pSl, pNoPart, pPart, pIsa1, pIsa2, pCatL, x_Ite, x_AndT, x_OrT, x_Tst, x_AndV, x_OrV, x_NotV, boolD_d, elD_d, x_IxL, x_IxT, qII, qIC, qAdd, q1C, q2C, qLen, qTuple, qListL, qSum, qAll, qMin2, qMax2, qAbs, qInt, qEq, qNe, qIs, qIsNot, qIn, qNeg, qCatL, qSort, sqD, flatD, dIsN, wipeE, List.getElem?_cons_zero, List.getElem?_cons_succ, List.set_cons_zero, List.set_cons_succ, List.cons_append, List.nil_append, List.replicate_succ, List.replicate_zero, List.length_cons, List.length_nil, List.length_map, decide_eq_true_eq, decide_eq_false_iff_not, Bool.not_eq_true', Bool.not_eq_false', Bool.true_eq_false, Bool.false_eq_true, true_implies, false_implies, implies_true, true_and, and_true, Nat.reduceSub, Nat.reduceAdd, reduceCtorEq, Option.map_some, Option.map_none, if_true, if_false, Option.some.injEq, Int.toNat_natCast]
    have f0 := Int.ediv_nonneg r0 (Int.le_of_lt u10)
    have l0 := Int.ediv_nonneg (show 0 ≤ r.2 by omega) (Int.le_of_lt u10)
    have f1 : r.1 / (u * 10) ≤ r.1 := Int.ediv_le_self _ r0
    have l1 : r.2 / (u * 10) ≤ r.2 := Int.ediv_le_self _ (by omega)
    refine ⟨mulR (by decide) (by decide), divOk u10 (by omega), mulR (by decide) (by decide), divOk u10 (by omega), ?_, ?_⟩
    · split <;> omega
    rw [rngD_map]
    refine for_rule (fun (ls2 : List Nat) _ ρ => ∃ ks2 e2, ρ = [.d (LR fs), .d (.int u), .oi ks2, .d (.int r.1), .d (.int r.2), .d (.int (r.1 / (u * 10))), .d (.int (r.2 / (u * 10))), e2] ∧ ks2.Nodup ∧ ∀ j, j ∈ ks2 ↔ j ∈ ks ∨ ∃ t ∈ ls2, j = (r.1 / (u * 10) + (t : Int)) % 10) ⟨ks, _, rfl, nd, fun j => by simp⟩ ?_ ?_
    · rintro ρ ⟨ks2, e2, rfl, nd2, hk2⟩
      refine hΨ _ ⟨ks2, _, _, _, _, _, rfl, nd2, fun j => ?_⟩
      rw [hk2, run_mem (by decide), hk]
      have hf := fun l (hl : ∀ r ∈ l, r.1 ≤ r.2) => hits_fig (u := u) (k := j) (fs := l) hu hl
      rw [← hf ls (fun q hq => hC q (by rw [e]; simp [hq])), ← hf (ls ++ [r]) (fun q hq => hC q (by rw [e]; simp at hq ⊢; rcases hq with hq | hq <;> simp [hq]))]
      unfold Hits
      simp only [List.mem_append, List.mem_singleton]
      constructor
      · rintro (⟨q, hq, h⟩ | h)
        · exact ⟨q, .inl hq, h⟩
        · exact ⟨r, .inr rfl, h⟩
      · rintro ⟨q, hq | rfl, h⟩
        · exact .inl ⟨q, hq, h⟩
        · exact .inr h
    · rintro ls2 t rs2 ρ e2 ⟨ks2, e3, rfl, nd2, hk2⟩ Ψ2 hΨ2
      have kl : ks2.length ≤ 10 := nodup_len 10 ks2 nd2 fun v hv => by
        have : ∃ x : Int, v = x % 10 := by
          rcases (hk2 v).mp hv with h | ⟨t, _, h⟩
          · obtain ⟨c, _, h⟩ := (hk v).mp h
            exact ⟨_, h⟩
          · exact ⟨_, h⟩
        obtain ⟨x, rfl⟩ := this
        omega
      simp only [pFun, pIxO, pLenO, pPopO, pInsO, pStO, pSlS, qRepT, pStar, qSortT, qInD, pSortSet, pRng3, qMinP, pPar3, pDNew, pDPut, pSortDict, pTupR, pLstR, pRevL, pRet, pRetN, pNext, pAsg, pAsgL, pAsgG, pPar, pAug, pApp, pFz, pFor, pGN, pGNil, pGCons, pGT, pVar, pC, pOp, pUn, pFrz, pNil, pCons, pDs, pTup, pLst, pNotT, pChain, pBl, pBlL, pLc, pYes, pCall, pSeqI, pRng1, pRng2, pEnum, pZip, pEZ, pSl, pNoPart, pPart, pIsa1, pIsa2, pCatL, x_Ite, x_AndT, x_OrT, x_Tst, x_AndV, x_OrV, x_NotV, boolD_d, elD_d, x_IxL, x_IxT, qII, qIC, qAdd, q1C, q2C, qLen, qTuple, qListL, qSum, qAll, qMin2, qMax2, qAbs, qInt, qEq, qNe, qIs, qIsNot, qIn, qNeg, qCatL, qSort, sqD, flatD, dIsN, wipeE, List.getElem?_cons_zero, List.getElem?_cons_succ, List.set_cons_zero, List.set_cons_succ, List.cons_append, List.nil_append, List.replicate_succ, List.replicate_zero, List.length_cons, List.length_nil, List.length_map, decide_eq_true_eq, decide_eq_false_iff_not, Bool.not_eq_true', Bool.not_eq_false', Bool.true_eq_false, Bool.false_eq_true, true_implies, false_implies, implies_true, true_and, and_true, Nat.reduceSub, Nat.reduceAdd, reduceCtorEq, Option.map_some, Option.map_none, if_true, if_false, Option.some.injEq, Int.toNat_natCast]
      refine ⟨by decide, by omega, ?_⟩
      refine hΨ2 _ ⟨_, _, rfl, putI_nodup nd2, fun v => ?_⟩
      rw [putI_mem, hk2]
      simp only [List.mem_append, List.mem_singleton]
      constructor
      · rintro ((h | ⟨j', hj', h⟩) | h)
        · exact .inl h
        · exact .inr ⟨j', .inl hj', h⟩
        · exact .inr ⟨t, .inr rfl, h⟩
      · rintro (h | ⟨j', hj' | rfl, h⟩)
        · exact .inl (.inl h)
        · exact .inl (.inr ⟨j', hj', h⟩)
        · exact .inr h
/-! sure figures -/
def SureAt (ps : List Int) (w : Int) (i : Nat) (o : Option Int) : Prop := ∀ f, o = some f ↔ ∀ c, Fits none w ps c → c / (ten (ps.length - 1 - i) * 10) % 10 = f
def SureL (ps : List Int) (w : Int) (os : List (Option Int)) : Prop := os.length = ps.length ∧ ∀ (i : Nat) o, os[i]? = some o → SureAt ps w i o
theorem len_one {ks : List Int} (h : ks.Pairwise (· < ·)) {f : Int} (hf : f ∈ ks) (h1 : ∀ j ∈ ks, j = f) : ks = [f] := sorted_one h (by simp) fun c => ⟨fun hc => by rw [h1 c hc]; simp, fun hc => by rw [List.mem_singleton] at hc; rw [hc]; exact hf⟩
theorem s_sure_figures {ps : List Int} {w : Int} {Φ : Ent → Prop} (hn : ps.length ≤ 6) (hp : Pos ps) (hw : 0 ≤ w) (hw2 : w ≤ 9) (k0 : (∀ c, ¬ Fits none w ps c) → Φ (.d .none)) (k1 : ∀ os, (∃ c, Fits none w ps c) → SureL ps w os → Φ (.d (.tuple (os.map optD)))) : p_sure_figures [.d (TI ps), .d (.int w)] Φ := by
  unfold p_sure_figures
  rw [shut_eq]
  refine ⟨rfl, ?_⟩
  refine seq ?_
  simp only [pFun, pIxO, pLenO, pPopO, pInsO, pStO, pSlS, qRepT, pStar, qSortT, qInD, pSortSet, pRng3, qMinP, pPar3, pDNew, pDPut, pSortDict, pTupR, pLstR, pRevL, pRet, pRetN, pNext, pAsg, pAsgL, pAsgG, pPar, pAug, pApp, pFz, pFor, pGN, pGNil, pGCons, pGT, pVar, pC, pOp, pUn, pFrz, pNil, pCons, pDs, pTup, pLst, pNotT, pChain, pBl, pBlL, pLc, pYes, pCall, pSeqI, pRng1, pRng2, pEnum, pZip, pEZ, pSl, pNoPart, pPart, pIsa1, pIsa2, pCatL, x_Ite, x_AndT, x_OrT, x_Tst, x_AndV, x_OrV, x_NotV, boolD_d, elD_d, x_IxL, x_IxT, qII, qIC, qAdd, q1C, q2C, qLen, qTuple, qListL, qSum, qAll, qMin2, qMax2, qAbs, qInt, qEq, qNe, qIs, qIsNot, qIn, qNeg, qCatL, qSort, sqD, flatD, dIsN, wipeE, List.getElem?_cons_zero, List.getElem?_cons_succ, List.set_cons_zero, List.set_cons_succ, List.cons_append, List.nil_append, List.replicate_succ, List.replicate_zero, List.length_cons, List.length_nil, List.length_map, decide_eq_true_eq, decide_eq_false_iff_not, Bool.not_eq_true', Bool.not_eq_false', Bool.true_eq_false, Bool.false_eq_true, true_implies, false_implies, implies_true, true_and, and_true, Nat.reduceSub, Nat.reduceAdd, reduceCtorEq, Option.map_some, Option.map_none, if_true, if_false, Option.some.injEq, Int.toNat_natCast]
  refine s_counts hn hp hw hw2 fun fs hR hL => ?_
  try simp only [pFun, pIxO, pLenO, pPopO, pInsO, pStO, pSlS, qRepT, pStar, qSortT, qInD, pSortSet, pRng3, qMinP, pPar3, pDNew, pDPut, pSortDict, pTupR, pLstR, pRevL, pRet, pRetN, pNext, pAsg, pAsgL, pAsgG, pPar, pAug, pApp, pFz, pFor, pGN, pGNil, pGCons, pGT, pVar, pC, pOp, pUn, pFrz, pNil, pCons, pDs, pTup, pLst, pNotT, pChain, pBl, pBlL, pLc, pYes, pCall, pSeqI, pRng1, pRng2, pEnum, pZip, pEZ, pSl, pNoPart, pPart, pIsa1, pIsa2, pCatL, x_Ite, x_AndT, x_OrT, x_Tst, x_AndV, x_OrV, x_NotV, boolD_d, elD_d, x_IxL, x_IxT, qII, qIC, qAdd, q1C, q2C, qLen, qTuple, qListL, qSum, qAll, qMin2, qMax2, qAbs, qInt, qEq, qNe, qIs, qIsNot, qIn, qNeg, qCatL, qSort, sqD, flatD, dIsN, wipeE, List.getElem?_cons_zero, List.getElem?_cons_succ, List.set_cons_zero, List.set_cons_succ, List.cons_append, List.nil_append, List.replicate_succ, List.replicate_zero, List.length_cons, List.length_nil, List.length_map, decide_eq_true_eq, decide_eq_false_iff_not, Bool.not_eq_true', Bool.not_eq_false', Bool.true_eq_false, Bool.false_eq_true, true_implies, false_implies, implies_true, true_and, and_true, Nat.reduceSub, Nat.reduceAdd, reduceCtorEq, Option.map_some, Option.map_none, if_true, if_false, Option.some.injEq, Int.toNat_natCast]
  refine seq ?_
  simp only [pFun, pIxO, pLenO, pPopO, pInsO, pStO, pSlS, qRepT, pStar, qSortT, qInD, pSortSet, pRng3, qMinP, pPar3, pDNew, pDPut, pSortDict, pTupR, pLstR, pRevL, pRet, pRetN, pNext, pAsg, pAsgL, pAsgG, pPar, pAug, pApp, pFz, pFor, pGN, pGNil, pGCons, pGT, pVar, pC, pOp, pUn, pFrz, pNil, pCons, pDs, pTup, pLst, pNotT, pChain, pBl, pBlL, pLc, pYes, pCall, pSeqI, pRng1, pRng2, pEnum, pZip, pEZ, pSl, pNoPart, pPart, pIsa1, pIsa2, pCatL, x_Ite, x_AndT, x_OrT, x_Tst, x_AndV, x_OrV, x_NotV, boolD_d, elD_d, x_IxL, x_IxT, qII, qIC, qAdd, q1C, q2C, qLen, qTuple, qListL, qSum, qAll, qMin2, qMax2, qAbs, qInt, qEq, qNe, qIs, qIsNot, qIn, qNeg, qCatL, qSort, sqD, flatD, dIsN, wipeE, List.getElem?_cons_zero, List.getElem?_cons_succ, List.set_cons_zero, List.set_cons_succ, List.cons_append, List.nil_append, List.replicate_succ, List.replicate_zero, List.length_cons, List.length_nil, List.length_map, decide_eq_true_eq, decide_eq_false_iff_not, Bool.not_eq_true', Bool.not_eq_false', Bool.true_eq_false, Bool.false_eq_true, true_implies, false_implies, implies_true, true_and, and_true, Nat.reduceSub, Nat.reduceAdd, reduceCtorEq, Option.map_some, Option.map_none, if_true, if_false, Option.some.injEq, Int.toNat_natCast, x_If]
  have sf : SeqAt.shaped (LR fs) = true := (Sm.pairs (by omega)).shp (by decide)
  have ne : PyData.eqv (LR fs) (.list []) = decide (fs = []) := by
    rw [LR, eqv_nil]
    simp
  refine ⟨by decide, sf, shp_nil, ?_⟩
  rw [ne]
  refine ⟨fun h => k0 ((rng_nil hR).mp (of_decide_eq_true h)), fun h => ?_⟩
  have hne := of_decide_eq_false h
  obtain ⟨c0, hc0⟩ : ∃ c, Fits none w ps c := Classical.byContradiction fun hno => hne ((rng_nil hR).mpr fun c hc => hno ⟨c, hc⟩)
  refine seq ?_
  simp only [pFun, pIxO, pLenO, pPopO, pInsO, pStO, pSlS, qRepT, pStar, qSortT, qInD, pSortSet, pRng3, qMinP, pPar3, pDNew, pDPut, pSortDict, pTupR, pLstR, pRevL, pRet, pRetN, pNext, pAsg, pAsgL, pAsgG, pPar, pAug, pApp, pFz, pFor, pGN, pGNil, pGCons, pGT, pVar, pC, pOp, pUn, pFrz, pNil, pCons, pDs, pTup, pLst, pNotT, pChain, pBl, pBlL, pLc, pYes, pCall, pSeqI, pRng1, pRng2, pEnum, pZip, pEZ, pSl, pNoPart, pPart, pIsa1, pIsa2, pCatL, x_Ite, x_AndT, x_OrT, x_Tst, x_AndV, x_OrV, x_NotV, boolD_d, elD_d, x_IxL, x_IxT, qII, qIC, qAdd, q1C, q2C, qLen, qTuple, qListL, qSum, qAll, qMin2, qMax2, qAbs, qInt, qEq, qNe, qIs, qIsNot, qIn, qNeg, qCatL, qSort, sqD, flatD, dIsN, wipeE, List.getElem?_cons_zero, List.getElem?_cons_succ, List.set_cons_zero, List.set_cons_succ, List.cons_append, List.nil_append, List.replicate_succ, List.replicate_zero, List.length_cons, List.length_nil, List.length_map, decide_eq_true_eq, decide_eq_false_iff_not, Bool.not_eq_true', Bool.not_eq_false', Bool.true_eq_false, Bool.false_eq_true, true_implies, false_implies, implies_true, true_and, and_true, Nat.reduceSub, Nat.reduceAdd, reduceCtorEq, Option.map_some, Option.map_none, if_true, if_false, Option.some.injEq, Int.toNat_natCast]
  refine ⟨by decide, ?_⟩
  refine seq ?_
  simp only [pFun, pIxO, pLenO, pPopO, pInsO, pStO, pSlS, qRepT, pStar, qSortT, qInD, pSortSet, pRng3, qMinP, pPar3, pDNew, pDPut, pSortDict, pTupR, pLstR, pRevL, pRet, pRetN, pNext, pAsg, pAsgL, pAsgG, pPar, pAug, pApp, pFz, pFor, pGN, pGNil, pGCons, pGT, pVar, pC, pOp, pUn, pFrz, pNil, pCons, pDs, pTup, pLst, pNotT, pChain, pBl, pBlL, pLc, pYes, pCall, pSeqI, pRng1, pRng2, pEnum, pZip, pEZ, pSl, pNoPart, pPart, pIsa1, pIsa2, pCatL, x_Ite, x_AndT, x_OrT, x_Tst, x_AndV, x_OrV, x_NotV, boolD_d, elD_d, x_IxL, x_IxT, qII, qIC, qAdd, q1C, q2C, qLen, qTuple, qListL, qSum, qAll, qMin2, qMax2, qAbs, qInt, qEq, qNe, qIs, qIsNot, qIn, qNeg, qCatL, qSort, sqD, flatD, dIsN, wipeE, List.getElem?_cons_zero, List.getElem?_cons_succ, List.set_cons_zero, List.set_cons_succ, List.cons_append, List.nil_append, List.replicate_succ, List.replicate_zero, List.length_cons, List.length_nil, List.length_map, decide_eq_true_eq, decide_eq_false_iff_not, Bool.not_eq_true', Bool.not_eq_false', Bool.true_eq_false, Bool.false_eq_true, true_implies, false_implies, implies_true, true_and, and_true, Nat.reduceSub, Nat.reduceAdd, reduceCtorEq, Option.map_some, Option.map_none, if_true, if_false, Option.some.injEq, Int.toNat_natCast]
  refine s_units (by omega) ?_
  simp only [pFun, pIxO, pLenO, pPopO, pInsO, pStO, pSlS, qRepT, pStar, qSortT, qInD, pSortSet, pRng3, qMinP, pPar3, pDNew, pDPut, pSortDict, pTupR, pLstR, pRevL, pRet, pRetN, pNext, pAsg, pAsgL, pAsgG, pPar, pAug, pApp, pFz, pFor, pGN, pGNil, pGCons, pGT, pVar, pC, pOp, pUn, pFrz, pNil, pCons, pDs, pTup, pLst, pNotT, pChain, pBl, pBlL, pLc, pYes, pCall, pSeqI, pRng1, pRng2, pEnum, pZip, pEZ, pSl, pNoPart, pPart, pIsa1, pIsa2, pCatL, x_Ite, x_AndT, x_OrT, x_Tst, x_AndV, x_OrV, x_NotV, boolD_d, elD_d, x_IxL, x_IxT, qII, qIC, qAdd, q1C, q2C, qLen, qTuple, qListL, qSum, qAll, qMin2, qMax2, qAbs, qInt, qEq, qNe, qIs, qIsNot, qIn, qNeg, qCatL, qSort, sqD, flatD, dIsN, wipeE, List.getElem?_cons_zero, List.getElem?_cons_succ, List.set_cons_zero, List.set_cons_succ, List.cons_append, List.nil_append, List.replicate_succ, List.replicate_zero, List.length_cons, List.length_nil, List.length_map, decide_eq_true_eq, decide_eq_false_iff_not, Bool.not_eq_true', Bool.not_eq_false', Bool.true_eq_false, Bool.false_eq_true, true_implies, false_implies, implies_true, true_and, and_true, Nat.reduceSub, Nat.reduceAdd, reduceCtorEq, Option.map_some, Option.map_none, if_true, if_false, Option.some.injEq, Int.toNat_natCast]
  refine for_rule (fun ls _ ρ => ∃ (os : List (Option Int)) (x y : Ent), ρ = [.d (TI ps), .d (.int w), .d (LR fs), .ol (os.map optD), x, y] ∧ os.length = ls.length ∧ ∀ (i : Nat) o, os[i]? = some o → SureAt ps w i o) ⟨[], _, _, rfl, rfl, fun i o h => by simp at h⟩ ?_ ?_
  · rintro ρ ⟨os, x, y, rfl, h1, h2⟩
    rw [parts_len] at h1
    simp only [pFun, pIxO, pLenO, pPopO, pInsO, pStO, pSlS, qRepT, pStar, qSortT, qInD, pSortSet, pRng3, qMinP, pPar3, pDNew, pDPut, pSortDict, pTupR, pLstR, pRevL, pRet, pRetN, pNext, pAsg, pAsgL, pAsgG, pPar, pAug, pApp, pFz, pFor, pGN, pGNil, pGCons, pGT, pVar, pC, pOp, pUn, pFrz, pNil, pCons, pDs, pTup, pLst, pNotT, pChain, pBl, pBlL, pLc, pYes, pCall, pSeqI, pRng1, pRng2, pEnum, pZip, pEZ, pSl, pNoPart, pPart, pIsa1, pIsa2, pCatL, x_Ite, x_AndT, x_OrT, x_Tst, x_AndV, x_OrV, x_NotV, boolD_d, elD_d, x_IxL, x_IxT, qII, qIC, qAdd, q1C, q2C, qLen, qTuple, qListL, qSum, qAll, qMin2, qMax2, qAbs, qInt, qEq, qNe, qIs, qIsNot, qIn, qNeg, qCatL, qSort, sqD, flatD, dIsN, wipeE, List.getElem?_cons_zero, List.getElem?_cons_succ, List.set_cons_zero, List.set_cons_succ, List.cons_append, List.nil_append, List.replicate_succ, List.replicate_zero, List.length_cons, List.length_nil, List.length_map, decide_eq_true_eq, decide_eq_false_iff_not, Bool.not_eq_true', Bool.not_eq_false', Bool.true_eq_false, Bool.false_eq_true, true_implies, false_implies, implies_true, true_and, and_true, Nat.reduceSub, Nat.reduceAdd, reduceCtorEq, Option.map_some, Option.map_none, if_true, if_false, Option.some.injEq, Int.toNat_natCast]
    exact k1 os ⟨c0, hc0⟩ ⟨h1, h2⟩
  · rintro ls u rs ρ e ⟨os, x, y, rfl, h1, h2⟩ Ψ hΨ
    have hu := nth_split e
    have hlt : ls.length < ps.length := by have := (List.getElem?_eq_some_iff.mp hu).1; rwa [parts_len] at this
    rw [parts_get hlt] at hu
    have hu := Option.some.inj hu
    have tp := ten_pos (ps.length - 1 - ls.length)
    have t7 : ten (ps.length - 1 - ls.length) ≤ 100000 := ten_le (b := 5) (by omega)
    rw [hu] at tp t7
    have t8 := ten_le7 (n := ps.length + 1) (by omega)
    refine seq ?_
    simp only [pFun, pIxO, pLenO, pPopO, pInsO, pStO, pSlS, qRepT, pStar, qSortT, qInD, pSortSet, pRng3, qMinP, pPar3, pDNew, pDPut, pSortDict, pTupR, pLstR, pRevL, pRet, pRetN, pNext, pAsg, pAsgL, pAsgG, pPar, pAug, pApp, pFz, pFor, pGN, pGNil, pGCons, pGT, pVar, pC, pOp, pUn, pFrz, pNil, pCons, pDs, pTup, pLst, pNotT, pChain, pBl, pBlL, pLc, pYes, pCall, pSeqI, pRng1, pRng2, pEnum, pZip, pEZ, pSl, pNoPart, pPart, pIsa1, pIsa2, pCatL, x_Ite, x_AndT, x_OrT, x_Tst, x_AndV, x_OrV, x_NotV, boolD_d, elD_d, x_IxL, x_IxT, qII, qIC, qAdd, q1C, q2C, qLen, qTuple, qListL, qSum, qAll, qMin2, qMax2, qAbs, qInt, qEq, qNe, qIs, qIsNot, qIn, qNeg, qCatL, qSort, sqD, flatD, dIsN, wipeE, List.getElem?_cons_zero, List.getElem?_cons_succ, List.set_cons_zero, List.set_cons_succ, List.cons_append, List.nil_append, List.replicate_succ, List.replicate_zero, List.length_cons, List.length_nil, List.length_map, decide_eq_true_eq, decide_eq_false_iff_not, Bool.not_eq_true', Bool.not_eq_false', Bool.true_eq_false, Bool.false_eq_true, true_implies, false_implies, implies_true, true_and, and_true, Nat.reduceSub, Nat.reduceAdd, reduceCtorEq, Option.map_some, Option.map_none, if_true, if_false, Option.some.injEq, Int.toNat_natCast]
    refine s_figures_in tp (by omega) hR.1.le (fun r hr => (hR.fitL hr).1) (fun r hr => by have := (hR.fitH hr).2.1; omega) fun ks s1 s2 s3 => ?_
    simp only [pFun, pIxO, pLenO, pPopO, pInsO, pStO, pSlS, qRepT, pStar, qSortT, qInD, pSortSet, pRng3, qMinP, pPar3, pDNew, pDPut, pSortDict, pTupR, pLstR, pRevL, pRet, pRetN, pNext, pAsg, pAsgL, pAsgG, pPar, pAug, pApp, pFz, pFor, pGN, pGNil, pGCons, pGT, pVar, pC, pOp, pUn, pFrz, pNil, pCons, pDs, pTup, pLst, pNotT, pChain, pBl, pBlL, pLc, pYes, pCall, pSeqI, pRng1, pRng2, pEnum, pZip, pEZ, pSl, pNoPart, pPart, pIsa1, pIsa2, pCatL, x_Ite, x_AndT, x_OrT, x_Tst, x_AndV, x_OrV, x_NotV, boolD_d, elD_d, x_IxL, x_IxT, qII, qIC, qAdd, q1C, q2C, qLen, qTuple, qListL, qSum, qAll, qMin2, qMax2, qAbs, qInt, qEq, qNe, qIs, qIsNot, qIn, qNeg, qCatL, qSort, sqD, flatD, dIsN, wipeE, List.getElem?_cons_zero, List.getElem?_cons_succ, List.set_cons_zero, List.set_cons_succ, List.cons_append, List.nil_append, List.replicate_succ, List.replicate_zero, List.length_cons, List.length_nil, List.length_map, decide_eq_true_eq, decide_eq_false_iff_not, Bool.not_eq_true', Bool.not_eq_false', Bool.true_eq_false, Bool.false_eq_true, true_implies, false_implies, implies_true, true_and, and_true, Nat.reduceSub, Nat.reduceAdd, reduceCtorEq, Option.map_some, Option.map_none, if_true, if_false, Option.some.injEq, Int.toNat_natCast]
    have step : ∀ o : Option Int, SureAt ps w ls.length o → Ψ [.d (TI ps), .d (.int w), .d (LR fs), .ol (os.map optD ++ [optD o]), .d (.int u), .d (LI ks)] := fun o ho => by
      have := hΨ [.d (TI ps), .d (.int w), .d (LR fs), .ol ((os ++ [o]).map optD), .d (.int u), .d (LI ks)] ⟨os ++ [o], _, _, rfl, by simp [h1], fun i o' hi => ?_⟩
      · rw [List.map_append] at this
        exact this
      · by_cases hlt : i < os.length
        · rw [List.getElem?_append_left hlt] at hi
          exact h2 i o' hi
        · have hi2 : i = os.length := by
            have := (List.getElem?_eq_some_iff.mp hi).1
            simp at this
            omega
          subst hi2
          simp at hi
          subst hi
          rw [h1]
          exact ho
    have mem : ∀ c, Fits none w ps c → c / (u * 10) % 10 ∈ ks := fun c hc => (s2 _).mpr ⟨c, (hR.2 c).mpr hc, rfl⟩
    refine ⟨shp_int _, shp_int _, ?_⟩
    rw [eqv_i]
    have ol : os.length < 100000 := by omega
    have none_of : (∀ f, ¬ ∀ c, Fits none w ps c → c / (u * 10) % 10 = f) → SureAt ps w ls.length none := fun h f => by
      rw [hu]
      exact ⟨fun h => (by cases h), fun h2 => absurd h2 (h f)⟩
    have some_of : ∀ f, (∀ c, Fits none w ps c → c / (u * 10) % 10 = f) → SureAt ps w ls.length (some f) := fun f h f' => by
      rw [hu]
      constructor
      · intro e
        cases e
        exact h
      · intro h2
        rw [← h c0 hc0, ← h2 c0 hc0]
    refine ⟨fun h1 => ?_, fun h1 => ⟨ol, ?_⟩⟩
    · have h1 := of_decide_eq_true h1
      obtain ⟨f, rfl⟩ : ∃ f, ks = [f] := by
        match ks, h1 with
        | [f], _ => exact ⟨f, rfl⟩
        | [], h => simp at h
        | _ :: _ :: _, h => simp at h; omega
      exact ⟨_, rfl, ol, step (some f) (some_of f fun c hc => List.mem_singleton.mp (mem c hc))⟩
    · have h1 := of_decide_eq_false h1
      refine step none (none_of fun f h => h1 ?_)
      have := len_one s1 (f := f) (by rw [← h c0 hc0]; exact mem c0 hc0) fun j hj => by
        obtain ⟨c, hc, e⟩ := (s2 j).mp hj
        rw [e]
        exact h c ((hR.2 c).mp hc)
      rw [this]
      rfl
end Law

set_option Elab.async false
set_option linter.all false
set_option maxRecDepth 100000
set_option maxHeartbeats 1000000
/-! PuIgn: ignored dials. -/
namespace Law
open PySem PySem.W Pu

theorem cut_to {xs : List D} {i : Nat} : cutD xs none (some (i : Int)) = xs.take i := by
  unfold cutD
  rw [HT.sIx_nat, HT.sIx_none, List.drop_zero, Nat.sub_zero]
  by_cases h : i ≤ xs.length
  · rw [Nat.min_eq_left h]
  · rw [Nat.min_eq_right (by omega), List.take_of_length_le (Nat.le_refl _), List.take_of_length_le (by omega)]
theorem cut_from {xs : List D} {i : Nat} : cutD xs (some ((i : Int) + 1)) none = xs.drop (i + 1) := by
  unfold cutD
  rw [show ((i : Int) + 1) = ((i + 1 : Nat) : Int) from rfl, HT.sIx_nat, HT.sIx_none]
  by_cases h : i + 1 ≤ xs.length
  · rw [Nat.min_eq_left h]
    exact List.take_of_length_le (by simp)
  · rw [Nat.min_eq_right (by omega), List.drop_length, List.drop_eq_nil_of_le (by omega), List.take_nil]
theorem set_cut {α : Type} {xs : List α} {i : Nat} {v : α} (h : i < xs.length) : xs.take i ++ [v] ++ xs.drop (i + 1) = xs.set i v := by
  rw [List.set_eq_take_append_cons_drop, if_pos h, List.append_assoc]
  rfl
theorem set_pos {ps : List Int} {i : Nat} {v : Int} (h : Pos ps) (h0 : 0 ≤ v) (h1 : v < 100) : Pos (ps.set i v) := fun p hp => by
  rcases List.mem_or_eq_of_mem_set hp with a | rfl
  · exact h p a
  · exact ⟨h0, h1⟩
theorem near_set_ign {ps : List Int} {i : Nat} {v w c : Int} : Near (some (i : Int)) w c (ps.set i v) ↔ Near (some (i : Int)) w c ps := by
  unfold Near
  rw [List.length_set]
  constructor
  · intro h j p hp hj
    have : i ≠ j := fun e => hj (by rw [e])
    exact h j p (by rw [List.getElem?_set_ne this]; exact hp) hj
  · intro h j p hp hj
    have : i ≠ j := fun e => hj (by rw [e])
    rw [List.getElem?_set_ne this] at hp
    exact h j p hp hj
theorem near_set {ps : List Int} {i : Nat} {v w c : Int} (hi : i < ps.length) : Near none w c (ps.set i v) ↔ Near (some (i : Int)) w c ps ∧ NearD v (ten (ps.length - 1 - i)) w c := by
  rw [← near_set_ign (v := v)]
  unfold Near
  rw [List.length_set]
  constructor
  · intro h
    exact ⟨fun j p hp _ => h j p hp (by simp), h i v (List.getElem?_set_self hi) (by simp)⟩
  · rintro ⟨h1, h2⟩ j p hp _
    by_cases e : i = j
    · subst e
      rw [List.getElem?_set_self hi] at hp
      cases hp
      exact h2
    · exact h1 j p hp fun h => e (by have := Option.some.inj h; omega)
theorem near_ign {ps : List Int} {i : Nat} {w c : Int} (h : Near none w c ps) : Near (some (i : Int)) w c ps := fun j p hp _ => h j p hp (by simp)
theorem fits_set {ps : List Int} {i : Nat} {v w c : Int} (hi : i < ps.length) : Fits none w (ps.set i v) c ↔ Fits (some (i : Int)) w ps c ∧ NearD v (ten (ps.length - 1 - i)) w c := by
  unfold Fits
  rw [near_set hi, List.length_set]
  exact ⟨fun h => ⟨⟨h.1, h.2.1, h.2.2.1⟩, h.2.2.2⟩, fun h => ⟨h.1.1, h.1.2.1, h.1.2.2, h.2⟩⟩
theorem fits_set_ign {ps : List Int} {i : Nat} {v w c : Int} : Fits (some (i : Int)) w (ps.set i v) c ↔ Fits (some (i : Int)) w ps c := by
  unfold Fits
  rw [near_set_ign, List.length_set]

/-! possible figures -/
theorem rng_bounds {ig : Option Int} {w : Int} {ps : List Int} {fs : List (Int × Int)} (h : Rng ig w ps fs) (hn : ps.length ≤ 6) : (∀ r ∈ fs, r.1 ≤ r.2) ∧ (∀ r ∈ fs, 0 ≤ r.1) ∧ ∀ r ∈ fs, r.2 < 100000000 := by
  have t8 := ten_le7 (n := ps.length + 1) (by omega)
  exact ⟨h.1.le, fun r hr => (h.fitL hr).1, fun r hr => by have := (h.fitH hr).2.1; omega⟩
theorem s_possible_figures {ps : List Int} {w : Int} {i : Nat} {Φ : Ent → Prop} (hn : ps.length ≤ 6) (hp : Pos ps) (hw : 0 ≤ w) (hw2 : w ≤ 9) (hi : i < ps.length)
    (k : ∀ ks : List Int, ks.Pairwise (· < ·) → ks.length ≤ 10 → (∀ j, j ∈ ks ↔ ∃ c, Fits (some (i : Int)) w ps c ∧ j = c / (ten (ps.length - 1 - i) * 10) % 10) → Φ (.d (LI ks))) : p_possible_figures [.d (TI ps), .d (.int w), .d (.int (i : Int))] Φ := by
  unfold p_possible_figures
  rw [shut_eq]
  simp only [pFun, pIxO, pLenO, pPopO, pInsO, pStO, pSlS, qRepT, pStar, qSortT, qInD, pSortSet, pRng3, qMinP, pPar3, pDNew, pDPut, pSortDict, pTupR, pLstR, pRevL, pRet, pRetN, pNext, pAsg, pAsgL, pAsgG, pPar, pAug, pApp, pFz, pFor, pGN, pGNil, pGCons, pGT, pVar, pC, pOp, pUn, pFrz, pNil, pCons, pDs, pTup, pLst, pNotT, pChain, pBl, pBlL, pLc, pYes, pCall, pSeqI, pRng1, pRng2, pEnum, pZip, pEZ, pSl, pNoPart, pPart, pIsa1, pIsa2, pCatL, x_Ite, x_AndT, x_OrT, x_Tst, x_AndV, x_OrV, x_NotV, boolD_d, elD_d, x_IxL, x_IxT, qII, qIC, qAdd, q1C, q2C, qLen, qTuple, qListL, qSum, qAll, qMin2, qMax2, qAbs, qInt, qEq, qNe, qIs, qIsNot, qIn, qNeg, qCatL, qSort, sqD, flatD, dIsN, wipeE, List.getElem?_cons_zero, List.getElem?_cons_succ, List.set_cons_zero, List.set_cons_succ, List.cons_append, List.nil_append, List.replicate_succ, List.replicate_zero, List.length_cons, List.length_nil, List.length_map, decide_eq_true_eq, decide_eq_false_iff_not, Bool.not_eq_true', Bool.not_eq_false', Bool.true_eq_false, Bool.false_eq_true, true_implies, false_implies, implies_true, true_and, and_true, Nat.reduceSub, Nat.reduceAdd, reduceCtorEq, Option.map_some, Option.map_none, if_true, if_false, Option.some.injEq, Int.toNat_natCast]
  refine s_counts_without (ig := some (i : Int)) hn hp hw hw2 fun fs hR hL => ?_
  try simp only [pFun, pIxO, pLenO, pPopO, pInsO, pStO, pSlS, qRepT, pStar, qSortT, qInD, pSortSet, pRng3, qMinP, pPar3, pDNew, pDPut, pSortDict, pTupR, pLstR, pRevL, pRet, pRetN, pNext, pAsg, pAsgL, pAsgG, pPar, pAug, pApp, pFz, pFor, pGN, pGNil, pGCons, pGT, pVar, pC, pOp, pUn, pFrz, pNil, pCons, pDs, pTup, pLst, pNotT, pChain, pBl, pBlL, pLc, pYes, pCall, pSeqI, pRng1, pRng2, pEnum, pZip, pEZ, pSl, pNoPart, pPart, pIsa1, pIsa2, pCatL, x_Ite, x_AndT, x_OrT, x_Tst, x_AndV, x_OrV, x_NotV, boolD_d, elD_d, x_IxL, x_IxT, qII, qIC, qAdd, q1C, q2C, qLen, qTuple, qListL, qSum, qAll, qMin2, qMax2, qAbs, qInt, qEq, qNe, qIs, qIsNot, qIn, qNeg, qCatL, qSort, sqD, flatD, dIsN, wipeE, List.getElem?_cons_zero, List.getElem?_cons_succ, List.set_cons_zero, List.set_cons_succ, List.cons_append, List.nil_append, List.replicate_succ, List.replicate_zero, List.length_cons, List.length_nil, List.length_map, decide_eq_true_eq, decide_eq_false_iff_not, Bool.not_eq_true', Bool.not_eq_false', Bool.true_eq_false, Bool.false_eq_true, true_implies, false_implies, implies_true, true_and, and_true, Nat.reduceSub, Nat.reduceAdd, reduceCtorEq, Option.map_some, Option.map_none, if_true, if_false, Option.some.injEq, Int.toNat_natCast]
  refine s_units (by omega) ?_
  simp only [pFun, pIxO, pLenO, pPopO, pInsO, pStO, pSlS, qRepT, pStar, qSortT, qInD, pSortSet, pRng3, qMinP, pPar3, pDNew, pDPut, pSortDict, pTupR, pLstR, pRevL, pRet, pRetN, pNext, pAsg, pAsgL, pAsgG, pPar, pAug, pApp, pFz, pFor, pGN, pGNil, pGCons, pGT, pVar, pC, pOp, pUn, pFrz, pNil, pCons, pDs, pTup, pLst, pNotT, pChain, pBl, pBlL, pLc, pYes, pCall, pSeqI, pRng1, pRng2, pEnum, pZip, pEZ, pSl, pNoPart, pPart, pIsa1, pIsa2, pCatL, x_Ite, x_AndT, x_OrT, x_Tst, x_AndV, x_OrV, x_NotV, boolD_d, elD_d, x_IxL, x_IxT, qII, qIC, qAdd, q1C, q2C, qLen, qTuple, qListL, qSum, qAll, qMin2, qMax2, qAbs, qInt, qEq, qNe, qIs, qIsNot, qIn, qNeg, qCatL, qSort, sqD, flatD, dIsN, wipeE, List.getElem?_cons_zero, List.getElem?_cons_succ, List.set_cons_zero, List.set_cons_succ, List.cons_append, List.nil_append, List.replicate_succ, List.replicate_zero, List.length_cons, List.length_nil, List.length_map, decide_eq_true_eq, decide_eq_false_iff_not, Bool.not_eq_true', Bool.not_eq_false', Bool.true_eq_false, Bool.false_eq_true, true_implies, false_implies, implies_true, true_and, and_true, Nat.reduceSub, Nat.reduceAdd, reduceCtorEq, Option.map_some, Option.map_none, if_true, if_false, Option.some.injEq, Int.toNat_natCast]
  refine ⟨.int (ten (ps.length - 1 - i)), L2.atI_nat (by rw [List.getElem?_map, parts_get hi]; rfl), ?_⟩
  try simp only [pFun, pIxO, pLenO, pPopO, pInsO, pStO, pSlS, qRepT, pStar, qSortT, qInD, pSortSet, pRng3, qMinP, pPar3, pDNew, pDPut, pSortDict, pTupR, pLstR, pRevL, pRet, pRetN, pNext, pAsg, pAsgL, pAsgG, pPar, pAug, pApp, pFz, pFor, pGN, pGNil, pGCons, pGT, pVar, pC, pOp, pUn, pFrz, pNil, pCons, pDs, pTup, pLst, pNotT, pChain, pBl, pBlL, pLc, pYes, pCall, pSeqI, pRng1, pRng2, pEnum, pZip, pEZ, pSl, pNoPart, pPart, pIsa1, pIsa2, pCatL, x_Ite, x_AndT, x_OrT, x_Tst, x_AndV, x_OrV, x_NotV, boolD_d, elD_d, x_IxL, x_IxT, qII, qIC, qAdd, q1C, q2C, qLen, qTuple, qListL, qSum, qAll, qMin2, qMax2, qAbs, qInt, qEq, qNe, qIs, qIsNot, qIn, qNeg, qCatL, qSort, sqD, flatD, dIsN, wipeE, List.getElem?_cons_zero, List.getElem?_cons_succ, List.set_cons_zero, List.set_cons_succ, List.cons_append, List.nil_append, List.replicate_succ, List.replicate_zero, List.length_cons, List.length_nil, List.length_map, decide_eq_true_eq, decide_eq_false_iff_not, Bool.not_eq_true', Bool.not_eq_false', Bool.true_eq_false, Bool.false_eq_true, true_implies, false_implies, implies_true, true_and, and_true, Nat.reduceSub, Nat.reduceAdd, reduceCtorEq, Option.map_some, Option.map_none, if_true, if_false, Option.some.injEq, Int.toNat_natCast]
  obtain ⟨b1, b2, b3⟩ := rng_bounds hR hn
  have tp := ten_pos (ps.length - 1 - i)
  have t7 : ten (ps.length - 1 - i) ≤ 100000 := ten_le (b := 5) (by omega)
  refine s_figures_in tp (by omega) b1 b2 (fun r hr => by have := b3 r hr; omega) fun ks s1 s2 s3 => k ks s1 s3 fun j => ?_
  rw [s2]
  unfold FigOf
  constructor
  · rintro ⟨c, hc, e⟩
    exact ⟨c, (hR.2 c).mp hc, e⟩
  · rintro ⟨c, hc, e⟩
    exact ⟨c, (hR.2 c).mpr hc, e⟩

/-! missing positions -/
theorem ediv_bound {x u M : Int} (hu : 0 < u) (hM : 0 ≤ M) (h0 : -M ≤ x) (h1 : x ≤ M) : -M ≤ x / u ∧ x / u ≤ M := by
  have m1 := Int.mul_le_mul_of_nonneg_left (show (1 : Int) ≤ u by omega) hM
  constructor
  · rw [Int.le_ediv_iff_mul_le hu, Int.neg_mul]
    omega
  · have : x / u < M + 1 := by
      rw [Int.ediv_lt_iff_lt_mul hu, Int.add_mul]
      omega
    omega
def PosOf (u w : Int) (fs : List (Int × Int)) (j : Int) : Prop := 0 ≤ j ∧ j < 100 ∧ ∃ c, In fs c ∧ NearD j u w c
theorem hits_pos {u w k : Int} {fs : List (Int × Int)} (hu : 0 < u) (hw : 0 ≤ w) (hC : ∀ r ∈ fs, r.1 ≤ r.2) : Hits 100 (fun x => -((w * u - x) / u)) (fun x => (x + w * u) / u) fs k ↔ PosOf u w fs k := by
  have wu : 0 ≤ w * u := Int.mul_nonneg hw (Int.le_of_lt hu)
  constructor
  · rintro ⟨r, hr, m, h1, h2, h3⟩
    dsimp only at h1 h2
    have rle := hC r hr
    have q1 : -m ≤ (w * u - r.1) / u := by omega
    rw [Int.le_ediv_iff_mul_le hu, Int.neg_mul] at q1
    rw [Int.le_ediv_iff_mul_le hu] at h2
    have e := Int.mul_ediv_add_emod m 100
    have a1 := Int.emod_nonneg m (show (100 : Int) ≠ 0 by decide)
    have a2 := Int.emod_lt_of_pos m (show (0 : Int) < 100 by decide)
    refine ⟨by omega, by omega, ?_⟩
    have near : ∀ c, m * u - w * u ≤ c → c ≤ m * u + w * u → NearD k u w c := fun c c1 c2 => by
      rw [nearD_iff hu]
      refine ⟨m / 100, ?_, ?_⟩
      · have : (k - w) * u + m / 100 * (100 * u) = m * u - w * u := by
          rw [Int.sub_mul, ← Int.mul_assoc, show m / 100 * 100 = m - m % 100 by omega, Int.sub_mul, h3]
          omega
        omega
      · have : (k + w) * u + m / 100 * (100 * u) = m * u + w * u := by
          rw [Int.add_mul, ← Int.mul_assoc, show m / 100 * 100 = m - m % 100 by omega, Int.sub_mul, h3]
          omega
        omega
    by_cases z1 : m * u < r.1
    · exact ⟨r.1, ⟨r, hr, Int.le_refl _, rle⟩, near _ (by omega) (by omega)⟩
    · by_cases z2 : r.2 < m * u
      · exact ⟨r.2, ⟨r, hr, rle, Int.le_refl _⟩, near _ (by omega) (by omega)⟩
      · exact ⟨m * u, ⟨r, hr, by omega, by omega⟩, near _ (by omega) (by omega)⟩
  · rintro ⟨k0, k1, c, ⟨r, hr, c1, c2⟩, hn⟩
    obtain ⟨q, q1, q2⟩ := (nearD_iff hu).mp hn
    have e1 : (k - w) * u + q * (100 * u) = (k + 100 * q) * u - w * u := by
      rw [Int.sub_mul, Int.add_mul, ← Int.mul_assoc, Int.mul_comm q 100]
      omega
    have e2 : (k + w) * u + q * (100 * u) = (k + 100 * q) * u + w * u := by
      rw [Int.add_mul, Int.add_mul, ← Int.mul_assoc, Int.mul_comm q 100]
      omega
    rw [e1] at q1
    rw [e2] at q2
    refine ⟨r, hr, k + 100 * q, ?_, ?_, by rw [Int.add_mul_emod_self_left, Int.emod_eq_of_lt k0 k1]⟩
    · dsimp only
      have : -(k + 100 * q) ≤ (w * u - r.1) / u := by
        rw [Int.le_ediv_iff_mul_le hu, Int.neg_mul]
        omega
      omega
    · dsimp only
      rw [Int.le_ediv_iff_mul_le hu]
      omega
theorem s_missing_positions {ps : List Int} {w : Int} {i : Nat} {Φ : Ent → Prop} (hn : ps.length ≤ 6) (hp : Pos ps) (hw : 0 ≤ w) (hw2 : w ≤ 9) (hi : i < ps.length)
    (k : ∀ ks : List Int, ks.Pairwise (· < ·) → ks.length ≤ 100 → (∀ j, j ∈ ks ↔ 0 ≤ j ∧ j < 100 ∧ ∃ c, Fits (some (i : Int)) w ps c ∧ NearD j (ten (ps.length - 1 - i)) w c) → Φ (.d (LI ks))) : p_missing_positions [.d (TI ps), .d (.int w), .d (.int (i : Int))] Φ := by
  unfold p_missing_positions
  rw [shut_eq]
  refine ⟨rfl, ?_⟩
  refine seq ?_
  simp only [pFun, pIxO, pLenO, pPopO, pInsO, pStO, pSlS, qRepT, pStar, qSortT, qInD, pSortSet, pRng3, qMinP, pPar3, pDNew, pDPut, pSortDict, pTupR, pLstR, pRevL, pRet, pRetN, pNext, pAsg, pAsgL, pAsgG, pPar, pAug, pApp, pFz, pFor, pGN, pGNil, pGCons, pGT, pVar, pC, pOp, pUn, pFrz, pNil, pCons, pDs, pTup, pLst, pNotT, pChain, pBl, pBlL, pLc, pYes, pCall, pSeqI, pRng1, pRng2, pEnum, pZip, pEZ, pSl, pNoPart, pPart, pIsa1, pIsa2, pCatL, x_Ite, x_AndT, x_OrT, x_Tst, x_AndV, x_OrV, x_NotV, boolD_d, elD_d, x_IxL, x_IxT, qII, qIC, qAdd, q1C, q2C, qLen, qTuple, qListL, qSum, qAll, qMin2, qMax2, qAbs, qInt, qEq, qNe, qIs, qIsNot, qIn, qNeg, qCatL, qSort, sqD, flatD, dIsN, wipeE, List.getElem?_cons_zero, List.getElem?_cons_succ, List.set_cons_zero, List.set_cons_succ, List.cons_append, List.nil_append, List.replicate_succ, List.replicate_zero, List.length_cons, List.length_nil, List.length_map, decide_eq_true_eq, decide_eq_false_iff_not, Bool.not_eq_true', Bool.not_eq_false', Bool.true_eq_false, Bool.false_eq_true, true_implies, false_implies, implies_true, true_and, and_true, Nat.reduceSub, Nat.reduceAdd, reduceCtorEq, Option.map_some, Option.map_none, if_true, if_false, Option.some.injEq, Int.toNat_natCast]
  refine s_units (by omega) ?_
  simp only [pFun, pIxO, pLenO, pPopO, pInsO, pStO, pSlS, qRepT, pStar, qSortT, qInD, pSortSet, pRng3, qMinP, pPar3, pDNew, pDPut, pSortDict, pTupR, pLstR, pRevL, pRet, pRetN, pNext, pAsg, pAsgL, pAsgG, pPar, pAug, pApp, pFz, pFor, pGN, pGNil, pGCons, pGT, pVar, pC, pOp, pUn, pFrz, pNil, pCons, pDs, pTup, pLst, pNotT, pChain, pBl, pBlL, pLc, pYes, pCall, pSeqI, pRng1, pRng2, pEnum, pZip, pEZ, pSl, pNoPart, pPart, pIsa1, pIsa2, pCatL, x_Ite, x_AndT, x_OrT, x_Tst, x_AndV, x_OrV, x_NotV, boolD_d, elD_d, x_IxL, x_IxT, qII, qIC, qAdd, q1C, q2C, qLen, qTuple, qListL, qSum, qAll, qMin2, qMax2, qAbs, qInt, qEq, qNe, qIs, qIsNot, qIn, qNeg, qCatL, qSort, sqD, flatD, dIsN, wipeE, List.getElem?_cons_zero, List.getElem?_cons_succ, List.set_cons_zero, List.set_cons_succ, List.cons_append, List.nil_append, List.replicate_succ, List.replicate_zero, List.length_cons, List.length_nil, List.length_map, decide_eq_true_eq, decide_eq_false_iff_not, Bool.not_eq_true', Bool.not_eq_false', Bool.true_eq_false, Bool.false_eq_true, true_implies, false_implies, implies_true, true_and, and_true, Nat.reduceSub, Nat.reduceAdd, reduceCtorEq, Option.map_some, Option.map_none, if_true, if_false, Option.some.injEq, Int.toNat_natCast]
  refine ⟨.int (ten (ps.length - 1 - i)), L2.atI_nat (by rw [List.getElem?_map, parts_get hi]; rfl), ?_⟩
  have u0 := ten_pos (ps.length - 1 - i)
  have u7 : ten (ps.length - 1 - i) ≤ 100000 := ten_le (b := 5) (by omega)
  generalize hu : ten (ps.length - 1 - i) = u at u0 u7 k
  refine seq ?_
  simp only [pFun, pIxO, pLenO, pPopO, pInsO, pStO, pSlS, qRepT, pStar, qSortT, qInD, pSortSet, pRng3, qMinP, pPar3, pDNew, pDPut, pSortDict, pTupR, pLstR, pRevL, pRet, pRetN, pNext, pAsg, pAsgL, pAsgG, pPar, pAug, pApp, pFz, pFor, pGN, pGNil, pGCons, pGT, pVar, pC, pOp, pUn, pFrz, pNil, pCons, pDs, pTup, pLst, pNotT, pChain, pBl, pBlL, pLc, pYes, pCall, pSeqI, pRng1, pRng2, pEnum, pZip, pEZ, pSl, pNoPart, pPart, pIsa1, pIsa2, pCatL, x_Ite, x_AndT, x_OrT, x_Tst, x_AndV, x_OrV, x_NotV, boolD_d, elD_d, x_IxL, x_IxT, qII, qIC, qAdd, q1C, q2C, qLen, qTuple, qListL, qSum, qAll, qMin2, qMax2, qAbs, qInt, qEq, qNe, qIs, qIsNot, qIn, qNeg, qCatL, qSort, sqD, flatD, dIsN, wipeE, List.getElem?_cons_zero, List.getElem?_cons_succ, List.set_cons_zero, List.set_cons_succ, List.cons_append, List.nil_append, List.replicate_succ, List.replicate_zero, List.length_cons, List.length_nil, List.length_map, decide_eq_true_eq, decide_eq_false_iff_not, Bool.not_eq_true', Bool.not_eq_false', Bool.true_eq_false, Bool.false_eq_true, true_implies, false_implies, implies_true, true_and, and_true, Nat.reduceSub, Nat.reduceAdd, reduceCtorEq, Option.map_some, Option.map_none, if_true, if_false, Option.some.injEq, Int.toNat_natCast]
  refine seq ?_
  simp only [pFun, pIxO, pLenO, pPopO, pInsO, pStO, pSlS, qRepT, pStar, qSortT, qInD, pSortSet, pRng3, qMinP, pPar3, pDNew, pDPut, pSortDict, pTupR, pLstR, pRevL, pRet, pRetN, pNext, pAsg, pAsgL, pAsgG, pPar, pAug, pApp, pFz, pFor, pGN, pGNil, pGCons, pGT, pVar, pC, pOp, pUn, pFrz, pNil, pCons, pDs, pTup, pLst, pNotT, pChain, pBl, pBlL, pLc, pYes, pCall, pSeqI, pRng1, pRng2, pEnum, pZip, pEZ, pSl, pNoPart, pPart, pIsa1, pIsa2, pCatL, x_Ite, x_AndT, x_OrT, x_Tst, x_AndV, x_OrV, x_NotV, boolD_d, elD_d, x_IxL, x_IxT, qII, qIC, qAdd, q1C, q2C, qLen, qTuple, qListL, qSum, qAll, qMin2, qMax2, qAbs, qInt, qEq, qNe, qIs, qIsNot, qIn, qNeg, qCatL, qSort, sqD, flatD, dIsN, wipeE, List.getElem?_cons_zero, List.getElem?_cons_succ, List.set_cons_zero, List.set_cons_succ, List.cons_append, List.nil_append, List.replicate_succ, List.replicate_zero, List.length_cons, List.length_nil, List.length_map, decide_eq_true_eq, decide_eq_false_iff_not, Bool.not_eq_true', Bool.not_eq_false', Bool.true_eq_false, Bool.false_eq_true, true_implies, false_implies, implies_true, true_and, and_true, Nat.reduceSub, Nat.reduceAdd, reduceCtorEq, Option.map_some, Option.map_none, if_true, if_false, Option.some.injEq, Int.toNat_natCast]
  refine s_counts_without (ig := some (i : Int)) hn hp hw hw2 fun fs hR hL => ?_
  try simp only [pFun, pIxO, pLenO, pPopO, pInsO, pStO, pSlS, qRepT, pStar, qSortT, qInD, pSortSet, pRng3, qMinP, pPar3, pDNew, pDPut, pSortDict, pTupR, pLstR, pRevL, pRet, pRetN, pNext, pAsg, pAsgL, pAsgG, pPar, pAug, pApp, pFz, pFor, pGN, pGNil, pGCons, pGT, pVar, pC, pOp, pUn, pFrz, pNil, pCons, pDs, pTup, pLst, pNotT, pChain, pBl, pBlL, pLc, pYes, pCall, pSeqI, pRng1, pRng2, pEnum, pZip, pEZ, pSl, pNoPart, pPart, pIsa1, pIsa2, pCatL, x_Ite, x_AndT, x_OrT, x_Tst, x_AndV, x_OrV, x_NotV, boolD_d, elD_d, x_IxL, x_IxT, qII, qIC, qAdd, q1C, q2C, qLen, qTuple, qListL, qSum, qAll, qMin2, qMax2, qAbs, qInt, qEq, qNe, qIs, qIsNot, qIn, qNeg, qCatL, qSort, sqD, flatD, dIsN, wipeE, List.getElem?_cons_zero, List.getElem?_cons_succ, List.set_cons_zero, List.set_cons_succ, List.cons_append, List.nil_append, List.replicate_succ, List.replicate_zero, List.length_cons, List.length_nil, List.length_map, decide_eq_true_eq, decide_eq_false_iff_not, Bool.not_eq_true', Bool.not_eq_false', Bool.true_eq_false, Bool.false_eq_true, true_implies, false_implies, implies_true, true_and, and_true, Nat.reduceSub, Nat.reduceAdd, reduceCtorEq, Option.map_some, Option.map_none, if_true, if_false, Option.some.injEq, Int.toNat_natCast]
  obtain ⟨b1, b2, b3⟩ := rng_bounds hR hn
  have kmem : ∀ (ls : List (Int × Int)) (ks : List Int), ks.Nodup → (∀ j, j ∈ ks ↔ PosOf u w ls j) → ks.length ≤ 100 := fun ls ks nd hk => nodup_len 100 ks nd fun j hj => ⟨((hk j).mp hj).1, ((hk j).mp hj).2.1⟩
  have wu := Int.mul_le_mul hw2 u7 (Int.le_of_lt u0) (by decide)
  have wu0 := Int.mul_nonneg hw (Int.le_of_lt u0)
  refine for_rule (fun ls _ ρ => ∃ ks a b c d e, ρ = [.d (TI ps), .d (.int w), .d (.int (i : Int)), .d (.int u), .oi ks, a, b, c, d, e] ∧ ks.Nodup ∧ ∀ j, j ∈ ks ↔ PosOf u w ls j) ⟨[], _, _, _, _, _, rfl, .nil, fun j => by simp [PosOf, In]⟩ ?_ ?_
  · rintro ρ ⟨ks, a, b, c, d, e, rfl, nd, hk⟩
    simp only [pFun, pIxO, pLenO, pPopO, pInsO, pStO, pSlS, qRepT, pStar, qSortT, qInD, pSortSet, pRng3, qMinP, pPar3, pDNew, pDPut, pSortDict, pTupR, pLstR, pRevL, pRet, pRetN, pNext, pAsg, pAsgL, pAsgG, pPar, pAug, pApp, pFz, pFor, pGN, pGNil, pGCons, pGT, pVar, pC, pOp, pUn, pFrz, pNil, pCons, pDs, pTup, pLst, pNotT, pChain, pBl, pBlL, pLc, pYes, pCall, pSeqI, pRng1, pRng2, pEnum, pZip, pEZ, pSl, pNoPart, pPart, pIsa1, pIsa2, pCatL, x_Ite, x_AndT, x_OrT, x_Tst, x_AndV, x_OrV, x_NotV, boolD_d, elD_d, x_IxL, x_IxT, qII, qIC, qAdd, q1C, q2C, qLen, qTuple, qListL, qSum, qAll, qMin2, qMax2, qAbs, qInt, qEq, qNe, qIs, qIsNot, qIn, qNeg, qCatL, qSort, sqD, flatD, dIsN, wipeE, List.getElem?_cons_zero, List.getElem?_cons_succ, List.set_cons_zero, List.set_cons_succ, List.cons_append, List.nil_append, List.replicate_succ, List.replicate_zero, List.length_cons, List.length_nil, List.length_map, decide_eq_true_eq, decide_eq_false_iff_not, Bool.not_eq_true', Bool.not_eq_false', Bool.true_eq_false, Bool.false_eq_true, true_implies, false_implies, implies_true, true_and, and_true, Nat.reduceSub, Nat.reduceAdd, reduceCtorEq, Option.map_some, Option.map_none, if_true, if_false, Option.some.injEq, Int.toNat_natCast]
    intro ys hp2 hw3
    refine k ys (sorted_lt hw3 (hp2.nodup_iff.mpr nd)) (by rw [hp2.length_eq]; exact kmem _ _ nd hk) fun j => ?_
    rw [hp2.mem_iff, hk]
    unfold PosOf
    constructor
    · rintro ⟨j0, j1, c, hc, h⟩
      exact ⟨j0, j1, c, (hR.2 c).mp hc, h⟩
    · rintro ⟨j0, j1, c, hc, h⟩
      exact ⟨j0, j1, c, (hR.2 c).mpr hc, h⟩
  · rintro ls r rs ρ e ⟨ks, a, b, c, d, e', rfl, nd, hk⟩ Ψ hΨ
    have hr : r ∈ fs := by rw [e]; simp
    have r0 := b2 r hr
    have r1 := b3 r hr
    have rle := b1 r hr
    obtain ⟨f0, f1⟩ := ediv_bound (x := w * u - r.1) (M := 1000000000) u0 (by decide) (by omega) (by omega)
    obtain ⟨g0, g1⟩ := ediv_bound (x := r.2 + w * u) (M := 1000000000) u0 (by decide) (by omega) (by omega)
    simp only [pFun, pIxO, pLenO, pPopO, pInsO, pStO, pSlS, qRepT, pStar, qSortT, qInD, pSortSet, pRng3, qMinP, pPar3, pDNew, pDPut, pSortDict, pTupR, pLstR, pRevL, pRet, pRetN, pNext, pAsg, pAsgL, pAsgG, pPar, pAug, pApp, pFz, pFor, pGN, pGNil, pGCons, pGT, pVar, pC, pOp, pUn, pFrz, pNil, pCons, pDs, pTup, pLst, pNotT, pChain, pBl, pBlL, pLc, pYes, pCall, pSeqI, pRng1, pRng2, pEnum, pZip, pEZ, pSl, pNoPart, pPart, pIsa1, pIsa2, pCatL, x_Ite, x_AndT, x_OrT, x_Tst, x_AndV, x_OrV, x_NotV, boolD_d, elD_d, x_IxL, x_IxT, qII, qIC, qAdd, q1C, q2C, qLen, qTuple, qListL, qSum, qAll, qMin2, qMax2, qAbs, qInt, qEq, qNe, qIs, qIsNot, qIn, qNeg, qCatL, qSort, sqD, flatD, dIsN, wipeE, List.getElem?_cons_zero, List.getElem?_cons_succ, List.set_cons_zero, List.set_cons_succ, List.cons_append, List.nil_append, List.replicate_succ, List.replicate_zero, List.length_cons, List.length_nil, List.length_map, decide_eq_true_eq, decide_eq_false_iff_not, Bool.not_eq_true', Bool.not_eq_false', Bool.true_eq_false, Bool.false_eq_true, true_implies, false_implies, implies_true, true_and, and_true, Nat.reduceSub, Nat.reduceAdd, reduceCtorEq, Option.map_some, Option.map_none, if_true, if_false, Option.some.injEq, Int.toNat_natCast, pairD]
    refine seq ?_
    simp only [pFun, pIxO, pLenO, pPopO, pInsO, pStO, pSlS, qRepT, pStar, qSortT, qInD, pSortSet, pRng3, qMinP, pPar3, pDNew, pDPut, pSortDict, pTupR, pLstR, pRevL, pRet, pRetN, pNext, pAsg, pAsgL, pAsgG, pPar, pAug, pApp, pFz, pFor, pGN, pGNil, pGCons, pGT, pVar, pC, pOp, pUn, pFrz, pNil, pCons, pDs, pTup, pLst, pNotT, pChain, pBl, pBlL, pLc, pYes, pCall, pSeqI, pRng1, pRng2, pEnum, pZip, pEZ, pSl, pNoPart, pPart, pIsa1, pIsa2, pCatL, x_Ite, x_AndT, x_OrT, x_Tst, x_AndV, x_OrV, x_NotV, boolD_d, elD_d, x_IxL, x_IxT, qII, qIC, qAdd, q1C, q2C, qLen, qTuple, qListL, qSum, qAll, qMin2, qMax2, qAbs, qInt, qEq, qNe, qIs, qIsNot, qIn, qNeg, qCatL, qSort, sqD, flatD, dIsN, wipeE, List.getElem?_cons_zero, List.getElem?_cons_succ, List.set_cons_zero, List.set_cons_succ, List.cons_append, List.nil_append, List.replicate_succ, List.replicate_zero, List.length_cons, List.length_nil, List.length_map, decide_eq_true_eq, decide_eq_false_iff_not, Bool.not_eq_true', Bool.not_eq_false', Bool.true_eq_false, Bool.false_eq_true, true_implies, false_implies, implies_true, true_and, and_true, Nat.reduceSub, Nat.reduceAdd, reduceCtorEq, Option.map_some, Option.map_none, if_true, if_false, Option.some.injEq, Int.toNat_natCast]
    refine ⟨mulR (by omega) (by omega), divOk u0 (by omega), mulR (by omega) (by omega), divOk u0 (by omega), ?_, ?_⟩
    · split <;> omega
    rw [rngD_map]
    generalize hf : -((w * u - r.1) / u) = first at f0 f1 ⊢
    generalize hg : (r.2 + w * u) / u = last at g0 g1 ⊢
    refine for_rule (fun (ls2 : List Nat) _ ρ => ∃ ks2 e2, ρ = [.d (TI ps), .d (.int w), .d (.int (i : Int)), .d (.int u), .oi ks2, .d (.int r.1), .d (.int r.2), .d (.int first), .d (.int last), e2] ∧ ks2.Nodup ∧ ∀ j, j ∈ ks2 ↔ j ∈ ks ∨ ∃ t ∈ ls2, j = (first + (t : Int)) % 100) ⟨ks, _, rfl, nd, fun j => by simp⟩ ?_ ?_
    · rintro ρ ⟨ks2, e2, rfl, nd2, hk2⟩
      refine hΨ _ ⟨ks2, _, _, _, _, _, rfl, nd2, fun j => ?_⟩
      rw [hk2, run_mem (by decide), hk]
      have hh := fun l (hl : ∀ r ∈ l, r.1 ≤ r.2) => hits_pos (u := u) (w := w) (k := j) (fs := l) u0 hw hl
      rw [← hh ls (fun q hq => b1 q (by rw [e]; simp [hq])), ← hh (ls ++ [r]) (fun q hq => b1 q (by rw [e]; simp at hq ⊢; rcases hq with hq | hq <;> simp [hq]))]
      unfold Hits
      simp only [List.mem_append, List.mem_singleton]
      constructor
      · rintro (⟨q, hq, h⟩ | h)
        · exact ⟨q, .inl hq, h⟩
        · exact ⟨r, .inr rfl, by rw [hf, hg]; exact h⟩
      · rintro ⟨q, hq | rfl, h⟩
        · exact .inl ⟨q, hq, h⟩
        · rw [hf, hg] at h; exact .inr h
    · rintro ls2 t rs2 ρ e2 ⟨ks2, e3, rfl, nd2, hk2⟩ Ψ2 hΨ2
      have kl : ks2.length ≤ 100 := nodup_len 100 ks2 nd2 fun v hv => by
        rcases (hk2 v).mp hv with h | ⟨t, _, h⟩
        · have := (hk v).mp h
          exact ⟨this.1, this.2.1⟩
        · omega
      simp only [pFun, pIxO, pLenO, pPopO, pInsO, pStO, pSlS, qRepT, pStar, qSortT, qInD, pSortSet, pRng3, qMinP, pPar3, pDNew, pDPut, pSortDict, pTupR, pLstR, pRevL, pRet, pRetN, pNext, pAsg, pAsgL, pAsgG, pPar, pAug, pApp, pFz, pFor, pGN, pGNil, pGCons, pGT, pVar, pC, pOp, pUn, pFrz, pNil, pCons, pDs, pTup, pLst, pNotT, pChain, pBl, pBlL, pLc, pYes, pCall, pSeqI, pRng1, pRng2, pEnum, pZip, pEZ, pSl, pNoPart, pPart, pIsa1, pIsa2, pCatL, x_Ite, x_AndT, x_OrT, x_Tst, x_AndV, x_OrV, x_NotV, boolD_d, elD_d, x_IxL, x_IxT, qII, qIC, qAdd, q1C, q2C, qLen, qTuple, qListL, qSum, qAll, qMin2, qMax2, qAbs, qInt, qEq, qNe, qIs, qIsNot, qIn, qNeg, qCatL, qSort, sqD, flatD, dIsN, wipeE, List.getElem?_cons_zero, List.getElem?_cons_succ, List.set_cons_zero, List.set_cons_succ, List.cons_append, List.nil_append, List.replicate_succ, List.replicate_zero, List.length_cons, List.length_nil, List.length_map, decide_eq_true_eq, decide_eq_false_iff_not, Bool.not_eq_true', Bool.not_eq_false', Bool.true_eq_false, Bool.false_eq_true, true_implies, false_implies, implies_true, true_and, and_true, Nat.reduceSub, Nat.reduceAdd, reduceCtorEq, Option.map_some, Option.map_none, if_true, if_false, Option.some.injEq, Int.toNat_natCast]
      refine ⟨by decide, by omega, ?_⟩
      refine hΨ2 _ ⟨_, _, rfl, putI_nodup nd2, fun v => ?_⟩
      rw [putI_mem, hk2]
      simp only [List.mem_append, List.mem_singleton]
      constructor
      · rintro ((h | ⟨j', hj', h⟩) | h)
        · exact .inl h
        · exact .inr ⟨j', .inl hj', h⟩
        · exact .inr ⟨t, .inr rfl, h⟩
      · rintro (h | ⟨j', hj' | rfl, h⟩)
        · exact .inl (.inl h)
        · exact .inl (.inr ⟨j', hj', h⟩)
        · exact .inr h
/-! wrong dials -/
theorem s_wrong_dials {ps : List Int} {w : Int} {Φ : Ent → Prop} (hn : ps.length ≤ 6) (hp : Pos ps) (hw : 0 ≤ w) (hw2 : w ≤ 9)
    (k : ∀ is : List Int, is.Pairwise (· < ·) → is.length ≤ 6 → (∀ j, j ∈ is ↔ (∀ c, ¬ Fits none w ps c) ∧ ∃ i : Nat, i < ps.length ∧ j = (i : Int) ∧ ∃ c, Fits (some (i : Int)) w ps c) → Φ (.d (LI is))) : p_wrong_dials [.d (TI ps), .d (.int w)] Φ := by
  unfold p_wrong_dials
  rw [shut_eq]
  have ne : ∀ f : List (Int × Int), PyData.eqv (LR f) (.list []) = decide (f = []) := fun f => by
    rw [LR, eqv_nil]
    simp
  have sl : ∀ f : List (Int × Int), f.length ≤ 1344 → SeqAt.shaped (LR f) = true := fun f h => (Sm.pairs (by omega)).shp (by decide)
  refine ⟨rfl, ?_⟩
  refine seq ?_
  simp only [pFun, pIxO, pLenO, pPopO, pInsO, pStO, pSlS, qRepT, pStar, qSortT, qInD, pSortSet, pRng3, qMinP, pPar3, pDNew, pDPut, pSortDict, pTupR, pLstR, pRevL, pRet, pRetN, pNext, pAsg, pAsgL, pAsgG, pPar, pAug, pApp, pFz, pFor, pGN, pGNil, pGCons, pGT, pVar, pC, pOp, pUn, pFrz, pNil, pCons, pDs, pTup, pLst, pNotT, pChain, pBl, pBlL, pLc, pYes, pCall, pSeqI, pRng1, pRng2, pEnum, pZip, pEZ, pSl, pNoPart, pPart, pIsa1, pIsa2, pCatL, x_Ite, x_AndT, x_OrT, x_Tst, x_AndV, x_OrV, x_NotV, boolD_d, elD_d, x_IxL, x_IxT, qII, qIC, qAdd, q1C, q2C, qLen, qTuple, qListL, qSum, qAll, qMin2, qMax2, qAbs, qInt, qEq, qNe, qIs, qIsNot, qIn, qNeg, qCatL, qSort, sqD, flatD, dIsN, wipeE, List.getElem?_cons_zero, List.getElem?_cons_succ, List.set_cons_zero, List.set_cons_succ, List.cons_append, List.nil_append, List.replicate_succ, List.replicate_zero, List.length_cons, List.length_nil, List.length_map, decide_eq_true_eq, decide_eq_false_iff_not, Bool.not_eq_true', Bool.not_eq_false', Bool.true_eq_false, Bool.false_eq_true, true_implies, false_implies, implies_true, true_and, and_true, Nat.reduceSub, Nat.reduceAdd, reduceCtorEq, Option.map_some, Option.map_none, if_true, if_false, Option.some.injEq, Int.toNat_natCast, x_If]
  refine s_counts hn hp hw hw2 fun fs hR hL => ?_
  simp only [pFun, pIxO, pLenO, pPopO, pInsO, pStO, pSlS, qRepT, pStar, qSortT, qInD, pSortSet, pRng3, qMinP, pPar3, pDNew, pDPut, pSortDict, pTupR, pLstR, pRevL, pRet, pRetN, pNext, pAsg, pAsgL, pAsgG, pPar, pAug, pApp, pFz, pFor, pGN, pGNil, pGCons, pGT, pVar, pC, pOp, pUn, pFrz, pNil, pCons, pDs, pTup, pLst, pNotT, pChain, pBl, pBlL, pLc, pYes, pCall, pSeqI, pRng1, pRng2, pEnum, pZip, pEZ, pSl, pNoPart, pPart, pIsa1, pIsa2, pCatL, x_Ite, x_AndT, x_OrT, x_Tst, x_AndV, x_OrV, x_NotV, boolD_d, elD_d, x_IxL, x_IxT, qII, qIC, qAdd, q1C, q2C, qLen, qTuple, qListL, qSum, qAll, qMin2, qMax2, qAbs, qInt, qEq, qNe, qIs, qIsNot, qIn, qNeg, qCatL, qSort, sqD, flatD, dIsN, wipeE, List.getElem?_cons_zero, List.getElem?_cons_succ, List.set_cons_zero, List.set_cons_succ, List.cons_append, List.nil_append, List.replicate_succ, List.replicate_zero, List.length_cons, List.length_nil, List.length_map, decide_eq_true_eq, decide_eq_false_iff_not, Bool.not_eq_true', Bool.not_eq_false', Bool.true_eq_false, Bool.false_eq_true, true_implies, false_implies, implies_true, true_and, and_true, Nat.reduceSub, Nat.reduceAdd, reduceCtorEq, Option.map_some, Option.map_none, if_true, if_false, Option.some.injEq, Int.toNat_natCast]
  refine ⟨by decide, sl _ hL, shp_nil, ?_⟩
  rw [ne]
  refine ⟨fun h => ⟨by decide, ?_⟩, fun h => ?_⟩
  · have h := of_decide_eq_false h
    refine k [] .nil (by simp) fun j => ⟨fun hj => by simp at hj, fun ⟨hno, _⟩ => absurd ((rng_nil hR).mpr hno) h⟩
  · have h := (rng_nil hR).mp (of_decide_eq_true h)
    refine ⟨by omega, by omega, ?_⟩
    rw [rngD_map]
    refine ⟨by simp; omega, ?_⟩
    refine lc_filter (G := fun (i : Nat) => PyData.int (0 + (i : Int))) (fun (i : Nat) => dc (∃ c, Fits (some (i : Int)) w ps c)) (fun i hi Ψ hΨ => ?_) ?_
    · simp only [pFun, pIxO, pLenO, pPopO, pInsO, pStO, pSlS, qRepT, pStar, qSortT, qInD, pSortSet, pRng3, qMinP, pPar3, pDNew, pDPut, pSortDict, pTupR, pLstR, pRevL, pRet, pRetN, pNext, pAsg, pAsgL, pAsgG, pPar, pAug, pApp, pFz, pFor, pGN, pGNil, pGCons, pGT, pVar, pC, pOp, pUn, pFrz, pNil, pCons, pDs, pTup, pLst, pNotT, pChain, pBl, pBlL, pLc, pYes, pCall, pSeqI, pRng1, pRng2, pEnum, pZip, pEZ, pSl, pNoPart, pPart, pIsa1, pIsa2, pCatL, x_Ite, x_AndT, x_OrT, x_Tst, x_AndV, x_OrV, x_NotV, boolD_d, elD_d, x_IxL, x_IxT, qII, qIC, qAdd, q1C, q2C, qLen, qTuple, qListL, qSum, qAll, qMin2, qMax2, qAbs, qInt, qEq, qNe, qIs, qIsNot, qIn, qNeg, qCatL, qSort, sqD, flatD, dIsN, wipeE, List.getElem?_cons_zero, List.getElem?_cons_succ, List.set_cons_zero, List.set_cons_succ, List.cons_append, List.nil_append, List.replicate_succ, List.replicate_zero, List.length_cons, List.length_nil, List.length_map, decide_eq_true_eq, decide_eq_false_iff_not, Bool.not_eq_true', Bool.not_eq_false', Bool.true_eq_false, Bool.false_eq_true, true_implies, false_implies, implies_true, true_and, and_true, Nat.reduceSub, Nat.reduceAdd, reduceCtorEq, Option.map_some, Option.map_none, if_true, if_false, Option.some.injEq, Int.toNat_natCast]
      rw [show (0 : Int) + (i : Int) = (i : Int) by omega] at hΨ ⊢
      refine s_counts_without (ig := some (i : Int)) hn hp hw hw2 fun gs gR gL => ?_
      simp only [pFun, pIxO, pLenO, pPopO, pInsO, pStO, pSlS, qRepT, pStar, qSortT, qInD, pSortSet, pRng3, qMinP, pPar3, pDNew, pDPut, pSortDict, pTupR, pLstR, pRevL, pRet, pRetN, pNext, pAsg, pAsgL, pAsgG, pPar, pAug, pApp, pFz, pFor, pGN, pGNil, pGCons, pGT, pVar, pC, pOp, pUn, pFrz, pNil, pCons, pDs, pTup, pLst, pNotT, pChain, pBl, pBlL, pLc, pYes, pCall, pSeqI, pRng1, pRng2, pEnum, pZip, pEZ, pSl, pNoPart, pPart, pIsa1, pIsa2, pCatL, x_Ite, x_AndT, x_OrT, x_Tst, x_AndV, x_OrV, x_NotV, boolD_d, elD_d, x_IxL, x_IxT, qII, qIC, qAdd, q1C, q2C, qLen, qTuple, qListL, qSum, qAll, qMin2, qMax2, qAbs, qInt, qEq, qNe, qIs, qIsNot, qIn, qNeg, qCatL, qSort, sqD, flatD, dIsN, wipeE, List.getElem?_cons_zero, List.getElem?_cons_succ, List.set_cons_zero, List.set_cons_succ, List.cons_append, List.nil_append, List.replicate_succ, List.replicate_zero, List.length_cons, List.length_nil, List.length_map, decide_eq_true_eq, decide_eq_false_iff_not, Bool.not_eq_true', Bool.not_eq_false', Bool.true_eq_false, Bool.false_eq_true, true_implies, false_implies, implies_true, true_and, and_true, Nat.reduceSub, Nat.reduceAdd, reduceCtorEq, Option.map_some, Option.map_none, if_true, if_false, Option.some.injEq, Int.toNat_natCast]
      refine ⟨by decide, sl _ gL.1, shp_nil, ?_⟩
      rw [ne]
      have e : (∃ c, Fits (some (i : Int)) w ps c) ↔ ¬ gs = [] := by
        rw [rng_nil gR]
        exact ⟨fun ⟨c, hc⟩ h => h c hc, fun h => Classical.byContradiction fun hno => h fun c hc => hno ⟨c, hc⟩⟩
      refine ⟨fun h2 => ?_, fun h2 => ?_⟩
      · rw [if_pos (dc_iff.mpr (e.mpr (of_decide_eq_false h2)))] at hΨ; exact hΨ
      · rw [if_neg (fun z => (e.mp (dc_iff.mp z)) (of_decide_eq_true h2))] at hΨ; exact hΨ
    have key := k (((List.range ps.length).filter fun (i : Nat) => dc (∃ c, Fits (some (i : Int)) w ps c)).map fun (i : Nat) => (0 : Int) + (i : Int)) (List.pairwise_map.mpr ((List.Pairwise.filter _ List.pairwise_lt_range).imp fun {a b} h => by omega)) (by
      rw [List.length_map]
      exact Nat.le_trans (List.length_filter_le _ _) (by simp; omega)) fun j => ?_
    · rw [LI, List.map_map] at key
      exact key
    · rw [List.mem_map]
      constructor
      · rintro ⟨i, hi, rfl⟩
        obtain ⟨h1, h2⟩ := List.mem_filter.mp hi
        exact ⟨h, i, List.mem_range.mp h1, by omega, dc_iff.mp h2⟩
      · rintro ⟨_, i, hi, rfl, hc⟩
        exact ⟨i, List.mem_filter.mpr ⟨List.mem_range.mpr hi, dc_iff.mpr hc⟩, by omega⟩
theorem s_l_figures {n : Nat} {c : Int} {Φ : Ent → Prop} (hn : n ≤ 7) (k : Φ (.d (TI (figs n c)))) : p_l_figures [.d (.int n), .d (.int c)] Φ := by
  unfold p_l_figures
  rw [shut_eq]
  simp only [pFun, pIxO, pLenO, pPopO, pInsO, pStO, pSlS, qRepT, pStar, qSortT, qInD, pSortSet, pRng3, qMinP, pPar3, pDNew, pDPut, pSortDict, pTupR, pLstR, pRevL, pRet, pRetN, pNext, pAsg, pAsgL, pAsgG, pPar, pAug, pApp, pFz, pFor, pGN, pGNil, pGCons, pGT, pVar, pC, pOp, pUn, pFrz, pNil, pCons, pDs, pTup, pLst, pNotT, pChain, pBl, pBlL, pLc, pYes, pCall, pSeqI, pRng1, pRng2, pEnum, pZip, pEZ, pSl, pNoPart, pPart, pIsa1, pIsa2, pCatL, x_Ite, x_AndT, x_OrT, x_Tst, x_AndV, x_OrV, x_NotV, boolD_d, elD_d, x_IxL, x_IxT, qII, qIC, qAdd, q1C, q2C, qLen, qTuple, qListL, qSum, qAll, qMin2, qMax2, qAbs, qInt, qEq, qNe, qIs, qIsNot, qIn, qNeg, qCatL, qSort, sqD, flatD, dIsN, wipeE, List.getElem?_cons_zero, List.getElem?_cons_succ, List.set_cons_zero, List.set_cons_succ, List.cons_append, List.nil_append, List.replicate_succ, List.replicate_zero, List.length_cons, List.length_nil, List.length_map, decide_eq_true_eq, decide_eq_false_iff_not, Bool.not_eq_true', Bool.not_eq_false', Bool.true_eq_false, Bool.false_eq_true, true_implies, false_implies, implies_true, true_and, and_true, Nat.reduceSub, Nat.reduceAdd, reduceCtorEq, Option.map_some, Option.map_none, if_true, if_false, Option.some.injEq, Int.toNat_natCast]
  refine s_parts (by omega) ?_
  simp only [pFun, pIxO, pLenO, pPopO, pInsO, pStO, pSlS, qRepT, pStar, qSortT, qInD, pSortSet, pRng3, qMinP, pPar3, pDNew, pDPut, pSortDict, pTupR, pLstR, pRevL, pRet, pRetN, pNext, pAsg, pAsgL, pAsgG, pPar, pAug, pApp, pFz, pFor, pGN, pGNil, pGCons, pGT, pVar, pC, pOp, pUn, pFrz, pNil, pCons, pDs, pTup, pLst, pNotT, pChain, pBl, pBlL, pLc, pYes, pCall, pSeqI, pRng1, pRng2, pEnum, pZip, pEZ, pSl, pNoPart, pPart, pIsa1, pIsa2, pCatL, x_Ite, x_AndT, x_OrT, x_Tst, x_AndV, x_OrV, x_NotV, boolD_d, elD_d, x_IxL, x_IxT, qII, qIC, qAdd, q1C, q2C, qLen, qTuple, qListL, qSum, qAll, qMin2, qMax2, qAbs, qInt, qEq, qNe, qIs, qIsNot, qIn, qNeg, qCatL, qSort, sqD, flatD, dIsN, wipeE, List.getElem?_cons_zero, List.getElem?_cons_succ, List.set_cons_zero, List.set_cons_succ, List.cons_append, List.nil_append, List.replicate_succ, List.replicate_zero, List.length_cons, List.length_nil, List.length_map, decide_eq_true_eq, decide_eq_false_iff_not, Bool.not_eq_true', Bool.not_eq_false', Bool.true_eq_false, Bool.false_eq_true, true_implies, false_implies, implies_true, true_and, and_true, Nat.reduceSub, Nat.reduceAdd, reduceCtorEq, Option.map_some, Option.map_none, if_true, if_false, Option.some.injEq, Int.toNat_natCast]
  refine ⟨by rw [parts_len]; omega, ?_⟩
  refine lc_map (G := PyData.int) (fun u => c / (u * 10) % 10) (fun u hu Ψ hΨ => ?_) k
  obtain ⟨j, hj, rfl⟩ := parts_mem hu
  have := ten_le7 (n := j) (by omega)
  have := ten_pos j
  rw [Int.mul_comm] at hΨ
  simp only [pFun, pIxO, pLenO, pPopO, pInsO, pStO, pSlS, qRepT, pStar, qSortT, qInD, pSortSet, pRng3, qMinP, pPar3, pDNew, pDPut, pSortDict, pTupR, pLstR, pRevL, pRet, pRetN, pNext, pAsg, pAsgL, pAsgG, pPar, pAug, pApp, pFz, pFor, pGN, pGNil, pGCons, pGT, pVar, pC, pOp, pUn, pFrz, pNil, pCons, pDs, pTup, pLst, pNotT, pChain, pBl, pBlL, pLc, pYes, pCall, pSeqI, pRng1, pRng2, pEnum, pZip, pEZ, pSl, pNoPart, pPart, pIsa1, pIsa2, pCatL, x_Ite, x_AndT, x_OrT, x_Tst, x_AndV, x_OrV, x_NotV, boolD_d, elD_d, x_IxL, x_IxT, qII, qIC, qAdd, q1C, q2C, qLen, qTuple, qListL, qSum, qAll, qMin2, qMax2, qAbs, qInt, qEq, qNe, qIs, qIsNot, qIn, qNeg, qCatL, qSort, sqD, flatD, dIsN, wipeE, List.getElem?_cons_zero, List.getElem?_cons_succ, List.set_cons_zero, List.set_cons_succ, List.cons_append, List.nil_append, List.replicate_succ, List.replicate_zero, List.length_cons, List.length_nil, List.length_map, decide_eq_true_eq, decide_eq_false_iff_not, Bool.not_eq_true', Bool.not_eq_false', Bool.true_eq_false, Bool.false_eq_true, true_implies, false_implies, implies_true, true_and, and_true, Nat.reduceSub, Nat.reduceAdd, reduceCtorEq, Option.map_some, Option.map_none, if_true, if_false, Option.some.injEq, Int.toNat_natCast]
  exact ⟨mulL (by decide) (by decide), divOk (by omega) (by omega), by decide, hΨ⟩
theorem figs_get {n i : Nat} {c : Int} (h : i < n) : (figs n c)[i]? = some (c / (ten (n - 1 - i) * 10) % 10) := by
  unfold figs
  rw [List.getElem?_map, parts_get h]
  rfl
theorem figs_len (n : Nat) (c : Int) : (figs n c).length = n := by unfold figs; rw [List.length_map, parts_len]
/-- places[0], places[-1] of a list that is not empty -/
theorem ends_ints {xs : List Int} {x : Int} (h : x ∈ xs) : ∃ a b, L2.atI (xs.map PyData.int) 0 = some (.int a) ∧ L2.atI (xs.map PyData.int) (-1) = some (.int b) ∧ a ∈ xs ∧ b ∈ xs := by
  cases xs with
  | nil => cases h
  | cons y ys =>
    rcases last_or (y :: ys) with e | ⟨zs, z, e⟩
    · cases e
    · exact ⟨y, z, by rw [List.map_cons]; exact atI_zero, by rw [e, List.map_append, List.map_cons, List.map_nil]; exact atI_last, by simp, by rw [e]; simp⟩
end Law

set_option Elab.async false
set_option linter.all false
set_option maxRecDepth 100000
set_option maxHeartbeats 1000000
/-! PuCorr: the corrected count. -/
namespace Law
open PySem PySem.W Pu

/-- the first of the least, by the first part -/
def bestO (l : List (Int × Int)) : Option (Int × Int) := l.foldl (fun o y => match o with
  | none => some y
  | some a => if y.1 < a.1 then some y else some a) none
theorem best_snoc (l : List (Int × Int)) (y : Int × Int) : bestO (l ++ [y]) = match bestO l with
    | none => some y
    | some a => if y.1 < a.1 then some y else some a := by
  unfold bestO
  rw [List.foldl_append]
  rfl
theorem best_mem : ∀ {l : List (Int × Int)} {a : Int × Int}, bestO l = some a → a ∈ l ∧ ∀ y ∈ l, a.1 ≤ y.1 := by
  intro l
  rcases last_or l with rfl | ⟨l', y, rfl⟩
  · intro a h; cases h
  · intro a h
    have hlen : l'.length < (l' ++ [y]).length := by simp
    rw [best_snoc] at h
    cases hb : bestO l' with
    | none =>
      rw [hb] at h
      cases h
      have : l' = [] := by
        rcases last_or l' with h | ⟨l'', z, rfl⟩
        · exact h
        · rw [best_snoc] at hb
          split at hb
          · cases hb
          · split at hb <;> cases hb
      subst this
      simp
    | some b =>
      have ih := @best_mem l' b hb
      rw [hb] at h
      dsimp only at h
      split at h
      · next hlt =>
        cases h
        refine ⟨by simp, fun z hz => ?_⟩
        rcases List.mem_append.mp hz with hz | hz
        · have := ih.2 z hz; omega
        · rw [List.mem_singleton] at hz; rw [hz]; omega
      · next hlt =>
        cases h
        refine ⟨List.mem_append_left _ ih.1, fun z hz => ?_⟩
        rcases List.mem_append.mp hz with hz | hz
        · exact ih.2 z hz
        · rw [List.mem_singleton] at hz; rw [hz]; omega
termination_by l => l.length
theorem best_some {l : List (Int × Int)} (h : l ≠ []) : ∃ a, bestO l = some a := by
  rcases last_or l with rfl | ⟨l', y, rfl⟩
  · exact absurd rfl h
  · rw [best_snoc]
    split
    · exact ⟨_, rfl⟩
    · split <;> exact ⟨_, rfl⟩
/-- min of pairs whose second parts ascend -/
theorem min_pairs : ∀ (l : List (Int × Int)) (x : Int × Int), (∀ y ∈ l, x.2 < y.2) → l.Pairwise (fun a b => a.2 < b.2) → ∃ a, bestO (x :: l) = some a ∧ minD (pairD x) (l.map pairD) = pairD a := by
  have key : ∀ (l : List (Int × Int)) (x : Int × Int), (∀ y ∈ l, x.2 < y.2) → l.Pairwise (fun a b => a.2 < b.2) → ∃ a, l.foldl (fun o y => match o with
      | none => some y
      | some a => if y.1 < a.1 then some y else some a) (some x) = some a ∧ (l.map pairD).foldl (fun a y => if dataLt y a then y else a) (pairD x) = pairD a := by
    intro l
    induction l with
    | nil => intro x _ _; exact ⟨x, rfl, rfl⟩
    | cons y l ih =>
      intro x hx hp
      obtain ⟨p1, p2⟩ := List.pairwise_cons.mp hp
      have hxy := hx y List.mem_cons_self
      have e : dataLt (pairD y) (pairD x) = decide (y.1 < x.1) := by
        show dataLt (.tuple [.int y.1, .int y.2]) (.tuple [.int x.1, .int x.2]) = _
        rw [dataLt_ii]
        by_cases h : y.1 < x.1
        · simp [h]
        · simp [h]; omega
      rw [List.map_cons, List.foldl_cons, List.foldl_cons, e]
      by_cases h : y.1 < x.1
      · rw [decide_eq_true h]
        simp only [h, if_true]
        exact ih y p1 p2
      · rw [decide_eq_false h]
        simp only [h, if_false]
        exact ih x (fun z hz => hx z (List.mem_cons_of_mem _ hz)) p2
  intro l x h1 h2
  exact key l x h1 h2
/-- one dial more -/
def cand (found p u : Int) (f : Nat) : Int × Int := (gap (found + (f : Int) * u * 10) (p * u) (100 * u), found + (f : Int) * u * 10)
def pick (found p u : Int) : Int := match bestO ((List.range 10).map (cand found p u)) with
  | some a => a.2
  | none => 0
theorem pick_spec {found p u : Int} : ∃ f : Nat, f < 10 ∧ pick found p u = found + (f : Int) * u * 10 ∧ ∀ g : Nat, g < 10 → gap (found + (f : Int) * u * 10) (p * u) (100 * u) ≤ gap (found + (g : Int) * u * 10) (p * u) (100 * u) := by
  obtain ⟨a, ha⟩ := best_some (l := (List.range 10).map (cand found p u)) (by simp)
  obtain ⟨h1, h2⟩ := best_mem ha
  obtain ⟨f, hf, rfl⟩ := List.mem_map.mp h1
  refine ⟨f, List.mem_range.mp hf, by unfold pick; rw [ha]; rfl, fun g hg => h2 _ (List.mem_map.mpr ⟨g, List.mem_range.mpr hg, rfl⟩)⟩
theorem pick_one {found p u : Int} (hu : 0 < u) {f : Nat} (hf : f < 10) (h : gap (found + (f : Int) * u * 10) (p * u) (100 * u) ≤ 5 * u - 1) : pick found p u = found + (f : Int) * u * 10 := by
  obtain ⟨g, hg, e, hmin⟩ := @pick_spec found p u
  have h2 := Int.le_trans (hmin f hf) h
  obtain ⟨k1, a1, a2⟩ := (gap_iff (by omega)).mp h
  obtain ⟨k2, b1, b2⟩ := (gap_iff (by omega)).mp h2
  have eq : g = f := by
    have c1 : ((f : Int) - (g : Int) + 10 * (k1 - k2)) * (10 * u) = (f : Int) * u * 10 - (g : Int) * u * 10 + (k1 * (100 * u) - k2 * (100 * u)) := by
      have q1 : (f : Int) * u * 10 = (f : Int) * (10 * u) := by rw [Int.mul_assoc, Int.mul_comm u]
      have q2 : (g : Int) * u * 10 = (g : Int) * (10 * u) := by rw [Int.mul_assoc, Int.mul_comm u]
      have q3 : (k1 - k2) * (10 * (10 * u)) = k1 * (100 * u) - k2 * (100 * u) := by
        rw [Int.sub_mul, ← Int.mul_assoc 10 10 u]
        rfl
      rw [q1, q2, ← q3, Int.add_mul, Int.sub_mul, Int.mul_comm 10 (k1 - k2), Int.mul_assoc (k1 - k2)]
    have z : (f : Int) - (g : Int) + 10 * (k1 - k2) = 0 := by
      rcases Int.lt_trichotomy ((f : Int) - (g : Int) + 10 * (k1 - k2)) 0 with z | z | z
      · have := mulT (show (f : Int) - (g : Int) + 10 * (k1 - k2) ≤ -1 by omega) (show 0 < 10 * u by omega)
        omega
      · exact z
      · have := mulT (show 1 ≤ (f : Int) - (g : Int) + 10 * (k1 - k2) by omega) (show 0 < 10 * u by omega)
        omega
    omega
  rw [e, eq]
/-- the count after k more dials -/
def corrAt (ps : List Int) : Nat → Int
  | 0 => ps.getD (ps.length - 1) 0
  | k + 1 => pick (corrAt ps k) (ps.getD (ps.length - 2 - k) 0) (ten (k + 1))
def corr (ps : List Int) : Int := corrAt ps (ps.length - 1)
theorem ten1 (k : Nat) : ten (k + 1) = 10 * ten k := by rw [ten_succ]; omega
/-- a count that is near: the corrected one is as near -/
theorem corr_near {ps : List Int} {w c : Int} (hn : 0 < ps.length) (hw : 0 ≤ w) (hw2 : w ≤ 4) (h : Near none w c ps) : ∃ δ : Int, -w ≤ δ ∧ δ ≤ w ∧ ∀ k : Nat, k < ps.length → ∃ q : Int, corrAt ps k = c + δ + q * (100 * ten k) := by
  have at_ : ∀ i : Nat, i < ps.length → ps[i]? = some (ps.getD i 0) := fun i hi => by rw [List.getD_eq_getElem?_getD, List.getElem?_eq_getElem hi]; rfl
  have h0 := h (ps.length - 1) _ (at_ _ (by omega)) (by simp)
  rw [show ps.length - 1 - (ps.length - 1) = 0 by omega, show ten 0 = 1 from rfl] at h0
  obtain ⟨k0, a1, a2⟩ := (nearD_iff (by decide)).mp h0
  refine ⟨ps.getD (ps.length - 1) 0 + k0 * 100 - c, by omega, by omega, fun k => ?_⟩
  have d1 : -w ≤ ps.getD (ps.length - 1) 0 + k0 * 100 - c := by omega
  have d2 : ps.getD (ps.length - 1) 0 + k0 * 100 - c ≤ w := by omega
  generalize hδ : ps.getD (ps.length - 1) 0 + k0 * 100 - c = δ at d1 d2
  induction k with
  | zero => intro _; exact ⟨-k0, by show ps.getD (ps.length - 1) 0 = _; rw [show ten 0 = 1 from rfl]; omega⟩
  | succ k ih =>
    intro hk
    obtain ⟨q, hq⟩ := ih (by omega)
    have tp := ten_pos k
    have hu : 10 ≤ ten (k + 1) := by rw [ten1]; omega
    -- the right one
    obtain ⟨f, hf, q', e⟩ : ∃ f : Nat, f < 10 ∧ ∃ q', corrAt ps k + (f : Int) * ten (k + 1) * 10 = c + δ + q' * (100 * ten (k + 1)) := by
      have m0 := Int.emod_nonneg (-q) (show (10 : Int) ≠ 0 by decide)
      have m1 := Int.emod_lt_of_pos (-q) (show (0 : Int) < 10 by decide)
      refine ⟨((-q) % 10).toNat, by omega, -((-q) / 10), ?_⟩
      rw [hq, show (((-q) % 10).toNat : Int) = -q - 10 * ((-q) / 10) by omega, ten1, Int.sub_mul, Int.sub_mul, Int.neg_mul, Int.neg_mul, Int.neg_mul]
      have e1 : q * (100 * ten k) = q * (10 * ten k) * 10 := by rw [Int.mul_assoc, Int.mul_comm (10 * ten k) 10, ← Int.mul_assoc 10 10]; rfl
      have e2 : -q / 10 * (100 * (10 * ten k)) = 10 * (-q / 10) * (10 * ten k) * 10 := by
        rw [Int.mul_comm 10 (-q / 10), Int.mul_assoc (-q / 10), Int.mul_assoc (-q / 10), Int.mul_comm (10 * (10 * ten k)) 10, ← Int.mul_assoc 10 10 (10 * ten k)]
        rfl
      rw [e1, e2]
      omega
    have hN := h (ps.length - 2 - k) _ (at_ _ (by omega)) (by simp)
    rw [show ps.length - 1 - (ps.length - 2 - k) = k + 1 by omega] at hN
    have tk : 0 < ten (k + 1) := ten_pos _
    show ∃ q, pick (corrAt ps k) (ps.getD (ps.length - 2 - k) 0) (ten (k + 1)) = _
    generalize ten (k + 1) = u at hu e hN tk ⊢
    have wu := Int.mul_le_mul_of_nonneg_right hw2 (show 0 ≤ u by omega)
    obtain ⟨r, b1, b2⟩ := (nearD_iff (by omega)).mp hN
    rw [Int.sub_mul] at b1
    rw [Int.add_mul] at b2
    have hp : gap (corrAt ps k + (f : Int) * u * 10) (ps.getD (ps.length - 2 - k) 0 * u) (100 * u) ≤ 5 * u - 1 := by
      rw [gap_iff (by omega)]
      refine ⟨-q' - r, ?_, ?_⟩
      · rw [e, Int.sub_mul, Int.neg_mul]; omega
      · rw [e, Int.sub_mul, Int.neg_mul]; omega
    refine ⟨q', ?_⟩
    rw [pick_one (by omega) hf hp]
    exact e
/-- the exact positions -/
theorem corr_shown {n : Nat} {c : Int} (hn : 0 < n) : ∀ k : Nat, k < n → corrAt (shownL n c) k = c % (100 * ten k) := by
  intro k
  induction k with
  | zero =>
    intro _
    show (shownL n c).getD ((shownL n c).length - 1) 0 = _
    rw [shown_len, List.getD_eq_getElem?_getD, shown_get (by omega), show n - 1 - (n - 1) = 0 by omega, show ten 0 = 1 from rfl, Int.ediv_one]
    rfl
  | succ k ih =>
    intro hk
    have ih := ih (by omega)
    show pick (corrAt (shownL n c) k) ((shownL n c).getD ((shownL n c).length - 2 - k) 0) (ten (k + 1)) = _
    have e0 : (shownL n c).getD ((shownL n c).length - 2 - k) 0 = c / ten (k + 1) % 100 := by
      rw [shown_len, List.getD_eq_getElem?_getD, shown_get (by omega), show n - 1 - (n - 2 - k) = k + 1 by omega]
      rfl
    rw [e0, ih]
    have tk : 0 < ten k := ten_pos k
    have e10 := ten1 k
    generalize ten (k + 1) = u at e10 ⊢
    have hu : 10 ≤ u := by omega
    have W1 : 100 * ten k = 10 * u := by omega
    rw [W1]
    have m0 := Int.emod_nonneg (c / (10 * u)) (show (10 : Int) ≠ 0 by decide)
    have m1 := Int.emod_lt_of_pos (c / (10 * u)) (show (0 : Int) < 10 by decide)
    have e1 := Int.mul_ediv_add_emod c (10 * u)
    have e2 := Int.mul_ediv_add_emod (c / (10 * u)) 10
    have own : c % (10 * u) + ((c / (10 * u) % 10).toNat : Int) * u * 10 = c % (100 * u) := by
      rw [show ((c / (10 * u) % 10).toNat : Int) = c / (10 * u) % 10 by omega]
      have l0 := Int.emod_nonneg c (show 10 * u ≠ 0 by omega)
      have l1 := Int.emod_lt_of_pos c (show 0 < 10 * u by omega)
      have f9 := Int.mul_le_mul_of_nonneg_right (show c / (10 * u) % 10 ≤ 9 by omega) (show 0 ≤ u by omega)
      have f0 := Int.mul_nonneg m0 (show 0 ≤ u by omega)
      have : c = (c % (10 * u) + c / (10 * u) % 10 * u * 10) + 100 * u * (c / (10 * u) / 10) := by
        have a1 : 10 * u * (c / (10 * u)) = (c / (10 * u) % 10) * u * 10 + 100 * u * (c / (10 * u) / 10) := by
          have : c / (10 * u) = c / (10 * u) % 10 + 10 * (c / (10 * u) / 10) := by omega
          rw [show 10 * u * (c / (10 * u)) = 10 * u * (c / (10 * u) % 10 + 10 * (c / (10 * u) / 10)) by rw [← this], Int.mul_add, Int.mul_comm (10 * u) (c / (10 * u) % 10), ← Int.mul_assoc (c / (10 * u) % 10), Int.mul_comm (c / (10 * u) % 10) 10, Int.mul_assoc 10 (c / (10 * u) % 10), Int.mul_comm 10 (c / (10 * u) % 10 * u), ← Int.mul_assoc (10 * u) 10, Int.mul_comm (10 * u) 10, ← Int.mul_assoc 10 10 u]
          rfl
        omega
      obtain ⟨X, hX⟩ : ∃ X, X = c % (10 * u) + c / (10 * u) % 10 * u * 10 := ⟨_, rfl⟩
      rw [← hX] at this ⊢
      have X0 : 0 ≤ X := by omega
      have X1 : X < 100 * u := by omega
      generalize c / (10 * u) / 10 = y at this
      rw [this, Int.add_mul_emod_self_left, Int.emod_eq_of_lt X0 X1]
    have hp : gap (c % (10 * u) + ((c / (10 * u) % 10).toNat : Int) * u * 10) (c / u % 100 * u) (100 * u) ≤ 5 * u - 1 := by
      rw [own, gap_iff (by omega)]
      refine ⟨0, ?_⟩
      have b1 := Int.mul_ediv_add_emod (c % (100 * u)) u
      have b2 : c % (100 * u) / u = c / u % 100 := by
        have d1 := Int.mul_ediv_add_emod c (100 * u)
        have d2 : c / (100 * u) = c / u / 100 := by rw [Int.mul_comm, Int.ediv_ediv_of_nonneg (by omega)]
        have d3 : c % (100 * u) = c + u * (-(100 * (c / u / 100))) := by
          rw [← d2, Int.mul_neg, ← Int.mul_assoc, Int.mul_comm u 100]
          omega
        rw [d3, Int.add_mul_ediv_left _ _ (by omega)]
        omega
      have b3 := Int.emod_nonneg (c % (100 * u)) (show u ≠ 0 by omega)
      have b4 := Int.emod_lt_of_pos (c % (100 * u)) (show 0 < u by omega)
      rw [b2, Int.mul_comm u] at b1
      omega
    rw [pick_one (by omega) (by omega) hp, own]
/-! the two programs -/
theorem parts_at {n i : Nat} (h : i < n) : (parts n)[i]? = some (ten (n - 1 - i)) := parts_get h
theorem rows_split {ps : List Int} (hn : 0 < ps.length) : ∃ X y, ps.zip (parts ps.length) = X ++ [y] ∧ X.length = ps.length - 1 ∧ ∀ k, k < ps.length - 1 → X.reverse[k]? = some (ps.getD (ps.length - 2 - k) 0, ten (k + 1)) := by
  rcases last_or (ps.zip (parts ps.length)) with h | ⟨X, y, h⟩
  · have := congrArg List.length h
    simp [parts_len] at this
    subst this
    simp at hn
  · have hl : X.length = ps.length - 1 := by
      have := congrArg List.length h
      simp [parts_len] at this
      omega
    refine ⟨X, y, h, hl, fun k hk => ?_⟩
    rw [List.getElem?_reverse (by omega), hl]
    have h1 : (ps.zip (parts ps.length))[ps.length - 1 - 1 - k]? = some (ps.getD (ps.length - 2 - k) 0, ten (k + 1)) := by
      refine List.getElem?_zip_eq_some.mpr ⟨?_, ?_⟩
      · rw [List.getD_eq_getElem?_getD, show ps.length - 1 - 1 - k = ps.length - 2 - k by omega, List.getElem?_eq_getElem (by omega)]
        rfl
      · rw [parts_get (by omega), show ps.length - 1 - (ps.length - 1 - 1 - k) = k + 1 by omega]
    rw [h, List.getElem?_append_left (by omega)] at h1
    exact h1
theorem last_at {ps : List Int} (hn : 0 < ps.length) : L2.atI (ps.map PyData.int) (-1) = some (.int (ps.getD (ps.length - 1) 0)) := by
  rcases last_or ps with rfl | ⟨qs, q, rfl⟩
  · simp at hn
  · rw [List.map_append, List.map_cons, List.map_nil, atI_last, List.getD_eq_getElem?_getD]
    simp
theorem cands_ne (found p u : Int) : bestO ((List.range 10).map (cand found p u)) = some ((bestO ((List.range 10).map (cand found p u))).getD (0, 0)) := by
  obtain ⟨a, ha⟩ := best_some (l := (List.range 10).map (cand found p u)) (by simp)
  rw [ha]
  rfl
def bestD : Option (Int × Int) → D
  | none => .none
  | some a => pairD a
theorem depthAll_le {m : Nat} : ∀ {ds : List D}, (∀ d ∈ ds, d.depth ≤ m) → PyData.depthAll ds ≤ m
  | [], _ => by simp [PyData.depthAll]
  | d :: ds, h => by
    have h1 := h d List.mem_cons_self
    have h2 := depthAll_le (ds := ds) fun x hx => h x (List.mem_cons_of_mem _ hx)
    simp only [PyData.depthAll]
    omega
theorem alikeAll_pairs (l : List (Int × Int)) : AlikeAll (l.map pairD) := ⟨fun x hx y hy => alike_pairs l x hx y hy, fun x hx => by
  obtain ⟨r, _, rfl⟩ := List.mem_map.mp hx
  exact fun h => (by cases h)⟩
theorem s_corrected {ps : List Int} {Φ : Ent → Prop} (hn : 0 < ps.length) (hn2 : ps.length ≤ 6) (k : Φ (.d (.int (corr ps)))) : p_corrected [.d (TI ps)] Φ := by
  unfold p_corrected
  rw [shut_eq]
  refine ⟨rfl, ?_⟩
  refine seq ?_
  simp only [pFun, pIxO, pLenO, pPopO, pInsO, pStO, pSlS, qRepT, pStar, qSortT, qInD, pSortSet, pRng3, qMinP, pPar3, pDNew, pDPut, pSortDict, pTupR, pLstR, pRevL, pRet, pRetN, pNext, pAsg, pAsgL, pAsgG, pPar, pAug, pApp, pFz, pFor, pGN, pGNil, pGCons, pGT, pVar, pC, pOp, pUn, pFrz, pNil, pCons, pDs, pTup, pLst, pNotT, pChain, pBl, pBlL, pLc, pYes, pCall, pSeqI, pRng1, pRng2, pEnum, pZip, pEZ, pSl, pNoPart, pPart, pIsa1, pIsa2, pCatL, x_Ite, x_AndT, x_OrT, x_Tst, x_AndV, x_OrV, x_NotV, boolD_d, elD_d, x_IxL, x_IxT, qII, qIC, qAdd, q1C, q2C, qLen, qTuple, qListL, qSum, qAll, qMin2, qMax2, qAbs, qInt, qEq, qNe, qIs, qIsNot, qIn, qNeg, qCatL, qSort, sqD, flatD, dIsN, wipeE, List.getElem?_cons_zero, List.getElem?_cons_succ, List.set_cons_zero, List.set_cons_succ, List.cons_append, List.nil_append, List.replicate_succ, List.replicate_zero, List.length_cons, List.length_nil, List.length_map, decide_eq_true_eq, decide_eq_false_iff_not, Bool.not_eq_true', Bool.not_eq_false', Bool.true_eq_false, Bool.false_eq_true, true_implies, false_implies, implies_true, true_and, and_true, Nat.reduceSub, Nat.reduceAdd, reduceCtorEq, Option.map_some, Option.map_none, if_true, if_false, Option.some.injEq, Int.toNat_natCast]
  refine s_units (by omega) ?_
  simp only [pFun, pIxO, pLenO, pPopO, pInsO, pStO, pSlS, qRepT, pStar, qSortT, qInD, pSortSet, pRng3, qMinP, pPar3, pDNew, pDPut, pSortDict, pTupR, pLstR, pRevL, pRet, pRetN, pNext, pAsg, pAsgL, pAsgG, pPar, pAug, pApp, pFz, pFor, pGN, pGNil, pGCons, pGT, pVar, pC, pOp, pUn, pFrz, pNil, pCons, pDs, pTup, pLst, pNotT, pChain, pBl, pBlL, pLc, pYes, pCall, pSeqI, pRng1, pRng2, pEnum, pZip, pEZ, pSl, pNoPart, pPart, pIsa1, pIsa2, pCatL, x_Ite, x_AndT, x_OrT, x_Tst, x_AndV, x_OrV, x_NotV, boolD_d, elD_d, x_IxL, x_IxT, qII, qIC, qAdd, q1C, q2C, qLen, qTuple, qListL, qSum, qAll, qMin2, qMax2, qAbs, qInt, qEq, qNe, qIs, qIsNot, qIn, qNeg, qCatL, qSort, sqD, flatD, dIsN, wipeE, List.getElem?_cons_zero, List.getElem?_cons_succ, List.set_cons_zero, List.set_cons_succ, List.cons_append, List.nil_append, List.replicate_succ, List.replicate_zero, List.length_cons, List.length_nil, List.length_map, decide_eq_true_eq, decide_eq_false_iff_not, Bool.not_eq_true', Bool.not_eq_false', Bool.true_eq_false, Bool.false_eq_true, true_implies, false_implies, implies_true, true_and, and_true, Nat.reduceSub, Nat.reduceAdd, reduceCtorEq, Option.map_some, Option.map_none, if_true, if_false, Option.some.injEq, Int.toNat_natCast]
  rw [zip_map]
  refine ⟨by simp [parts_len]; omega, ?_⟩
  refine lc_map (G := pairD) (fun r : Int × Int => r) (fun r hr Ψ hΨ => ?_) ?_
  · simp only [pFun, pIxO, pLenO, pPopO, pInsO, pStO, pSlS, qRepT, pStar, qSortT, qInD, pSortSet, pRng3, qMinP, pPar3, pDNew, pDPut, pSortDict, pTupR, pLstR, pRevL, pRet, pRetN, pNext, pAsg, pAsgL, pAsgG, pPar, pAug, pApp, pFz, pFor, pGN, pGNil, pGCons, pGT, pVar, pC, pOp, pUn, pFrz, pNil, pCons, pDs, pTup, pLst, pNotT, pChain, pBl, pBlL, pLc, pYes, pCall, pSeqI, pRng1, pRng2, pEnum, pZip, pEZ, pSl, pNoPart, pPart, pIsa1, pIsa2, pCatL, x_Ite, x_AndT, x_OrT, x_Tst, x_AndV, x_OrV, x_NotV, boolD_d, elD_d, x_IxL, x_IxT, qII, qIC, qAdd, q1C, q2C, qLen, qTuple, qListL, qSum, qAll, qMin2, qMax2, qAbs, qInt, qEq, qNe, qIs, qIsNot, qIn, qNeg, qCatL, qSort, sqD, flatD, dIsN, wipeE, List.getElem?_cons_zero, List.getElem?_cons_succ, List.set_cons_zero, List.set_cons_succ, List.cons_append, List.nil_append, List.replicate_succ, List.replicate_zero, List.length_cons, List.length_nil, List.length_map, decide_eq_true_eq, decide_eq_false_iff_not, Bool.not_eq_true', Bool.not_eq_false', Bool.true_eq_false, Bool.false_eq_true, true_implies, false_implies, implies_true, true_and, and_true, Nat.reduceSub, Nat.reduceAdd, reduceCtorEq, Option.map_some, Option.map_none, if_true, if_false, Option.some.injEq, Int.toNat_natCast, pairD]
    exact ⟨by decide, hΨ⟩
  obtain ⟨X, y, hX, hl, hget⟩ := rows_split hn
  rw [hX]
  refine seq ?_
  simp only [pFun, pIxO, pLenO, pPopO, pInsO, pStO, pSlS, qRepT, pStar, qSortT, qInD, pSortSet, pRng3, qMinP, pPar3, pDNew, pDPut, pSortDict, pTupR, pLstR, pRevL, pRet, pRetN, pNext, pAsg, pAsgL, pAsgG, pPar, pAug, pApp, pFz, pFor, pGN, pGNil, pGCons, pGT, pVar, pC, pOp, pUn, pFrz, pNil, pCons, pDs, pTup, pLst, pNotT, pChain, pBl, pBlL, pLc, pYes, pCall, pSeqI, pRng1, pRng2, pEnum, pZip, pEZ, pSl, pNoPart, pPart, pIsa1, pIsa2, pCatL, x_Ite, x_AndT, x_OrT, x_Tst, x_AndV, x_OrV, x_NotV, boolD_d, elD_d, x_IxL, x_IxT, qII, qIC, qAdd, q1C, q2C, qLen, qTuple, qListL, qSum, qAll, qMin2, qMax2, qAbs, qInt, qEq, qNe, qIs, qIsNot, qIn, qNeg, qCatL, qSort, sqD, flatD, dIsN, wipeE, List.getElem?_cons_zero, List.getElem?_cons_succ, List.set_cons_zero, List.set_cons_succ, List.cons_append, List.nil_append, List.replicate_succ, List.replicate_zero, List.length_cons, List.length_nil, List.length_map, decide_eq_true_eq, decide_eq_false_iff_not, Bool.not_eq_true', Bool.not_eq_false', Bool.true_eq_false, Bool.false_eq_true, true_implies, false_implies, implies_true, true_and, and_true, Nat.reduceSub, Nat.reduceAdd, reduceCtorEq, Option.map_some, Option.map_none, if_true, if_false, Option.some.injEq, Int.toNat_natCast]
  refine ⟨_, last_at hn, ?_⟩
  refine seq ?_
  simp only [pFun, pIxO, pLenO, pPopO, pInsO, pStO, pSlS, qRepT, pStar, qSortT, qInD, pSortSet, pRng3, qMinP, pPar3, pDNew, pDPut, pSortDict, pTupR, pLstR, pRevL, pRet, pRetN, pNext, pAsg, pAsgL, pAsgG, pPar, pAug, pApp, pFz, pFor, pGN, pGNil, pGCons, pGT, pVar, pC, pOp, pUn, pFrz, pNil, pCons, pDs, pTup, pLst, pNotT, pChain, pBl, pBlL, pLc, pYes, pCall, pSeqI, pRng1, pRng2, pEnum, pZip, pEZ, pSl, pNoPart, pPart, pIsa1, pIsa2, pCatL, x_Ite, x_AndT, x_OrT, x_Tst, x_AndV, x_OrV, x_NotV, boolD_d, elD_d, x_IxL, x_IxT, qII, qIC, qAdd, q1C, q2C, qLen, qTuple, qListL, qSum, qAll, qMin2, qMax2, qAbs, qInt, qEq, qNe, qIs, qIsNot, qIn, qNeg, qCatL, qSort, sqD, flatD, dIsN, wipeE, List.getElem?_cons_zero, List.getElem?_cons_succ, List.set_cons_zero, List.set_cons_succ, List.cons_append, List.nil_append, List.replicate_succ, List.replicate_zero, List.length_cons, List.length_nil, List.length_map, decide_eq_true_eq, decide_eq_false_iff_not, Bool.not_eq_true', Bool.not_eq_false', Bool.true_eq_false, Bool.false_eq_true, true_implies, false_implies, implies_true, true_and, and_true, Nat.reduceSub, Nat.reduceAdd, reduceCtorEq, Option.map_some, Option.map_none, if_true, if_false, Option.some.injEq, Int.toNat_natCast, List.map_id']
  rw [List.map_append, List.map_cons, List.map_nil, cut_init, ← List.map_reverse]
  have hu : ∀ r ∈ X, 0 < r.2 ∧ r.2 ≤ 100000 := fun r hr => by
    have : r ∈ ps.zip (parts ps.length) := by rw [hX]; exact List.mem_append_left _ hr
    have h2 := (List.of_mem_zip this).2
    obtain ⟨j, hj, e⟩ := parts_mem h2
    rw [e]
    exact ⟨ten_pos j, ten_le (b := 5) (by omega)⟩
  refine for_rule (fun ls _ ρ => ∃ a b c d e f, ρ = [.d (TI ps), .d (.list (X.map pairD ++ [pairD y])), .d (.int (corrAt ps ls.length)), a, b, c, d, e, f]) ⟨_, _, _, _, _, _, rfl⟩ ?_ ?_
  · rintro ρ ⟨a, b, c, d, e, f, rfl⟩
    simp only [pFun, pIxO, pLenO, pPopO, pInsO, pStO, pSlS, qRepT, pStar, qSortT, qInD, pSortSet, pRng3, qMinP, pPar3, pDNew, pDPut, pSortDict, pTupR, pLstR, pRevL, pRet, pRetN, pNext, pAsg, pAsgL, pAsgG, pPar, pAug, pApp, pFz, pFor, pGN, pGNil, pGCons, pGT, pVar, pC, pOp, pUn, pFrz, pNil, pCons, pDs, pTup, pLst, pNotT, pChain, pBl, pBlL, pLc, pYes, pCall, pSeqI, pRng1, pRng2, pEnum, pZip, pEZ, pSl, pNoPart, pPart, pIsa1, pIsa2, pCatL, x_Ite, x_AndT, x_OrT, x_Tst, x_AndV, x_OrV, x_NotV, boolD_d, elD_d, x_IxL, x_IxT, qII, qIC, qAdd, q1C, q2C, qLen, qTuple, qListL, qSum, qAll, qMin2, qMax2, qAbs, qInt, qEq, qNe, qIs, qIsNot, qIn, qNeg, qCatL, qSort, sqD, flatD, dIsN, wipeE, List.getElem?_cons_zero, List.getElem?_cons_succ, List.set_cons_zero, List.set_cons_succ, List.cons_append, List.nil_append, List.replicate_succ, List.replicate_zero, List.length_cons, List.length_nil, List.length_map, decide_eq_true_eq, decide_eq_false_iff_not, Bool.not_eq_true', Bool.not_eq_false', Bool.true_eq_false, Bool.false_eq_true, true_implies, false_implies, implies_true, true_and, and_true, Nat.reduceSub, Nat.reduceAdd, reduceCtorEq, Option.map_some, Option.map_none, if_true, if_false, Option.some.injEq, Int.toNat_natCast]
    rw [List.length_reverse, hl]
    exact k
  · rintro ls r rs ρ e ⟨z3, z4, z5, z6, z7, z8, rfl⟩ Ψ hΨ
    have hr : r ∈ X := by rw [← List.mem_reverse, e]; simp
    obtain ⟨u0, u7⟩ := hu r hr
    have hk := nth_split e
    have hlt : ls.length < ps.length - 1 := by
      have := (List.getElem?_eq_some_iff.mp hk).1
      rw [List.length_reverse, hl] at this
      exact this
    rw [hget _ hlt] at hk
    have hk := Option.some.inj hk
    have step : corrAt ps (ls.length + 1) = pick (corrAt ps ls.length) r.1 r.2 := by
      rw [← hk]
      rfl
    simp only [pFun, pIxO, pLenO, pPopO, pInsO, pStO, pSlS, qRepT, pStar, qSortT, qInD, pSortSet, pRng3, qMinP, pPar3, pDNew, pDPut, pSortDict, pTupR, pLstR, pRevL, pRet, pRetN, pNext, pAsg, pAsgL, pAsgG, pPar, pAug, pApp, pFz, pFor, pGN, pGNil, pGCons, pGT, pVar, pC, pOp, pUn, pFrz, pNil, pCons, pDs, pTup, pLst, pNotT, pChain, pBl, pBlL, pLc, pYes, pCall, pSeqI, pRng1, pRng2, pEnum, pZip, pEZ, pSl, pNoPart, pPart, pIsa1, pIsa2, pCatL, x_Ite, x_AndT, x_OrT, x_Tst, x_AndV, x_OrV, x_NotV, boolD_d, elD_d, x_IxL, x_IxT, qII, qIC, qAdd, q1C, q2C, qLen, qTuple, qListL, qSum, qAll, qMin2, qMax2, qAbs, qInt, qEq, qNe, qIs, qIsNot, qIn, qNeg, qCatL, qSort, sqD, flatD, dIsN, wipeE, List.getElem?_cons_zero, List.getElem?_cons_succ, List.set_cons_zero, List.set_cons_succ, List.cons_append, List.nil_append, List.replicate_succ, List.replicate_zero, List.length_cons, List.length_nil, List.length_map, decide_eq_true_eq, decide_eq_false_iff_not, Bool.not_eq_true', Bool.not_eq_false', Bool.true_eq_false, Bool.false_eq_true, true_implies, false_implies, implies_true, true_and, and_true, Nat.reduceSub, Nat.reduceAdd, reduceCtorEq, Option.map_some, Option.map_none, if_true, if_false, Option.some.injEq, Int.toNat_natCast, pairD]
    refine seq ?_
    simp only [pFun, pIxO, pLenO, pPopO, pInsO, pStO, pSlS, qRepT, pStar, qSortT, qInD, pSortSet, pRng3, qMinP, pPar3, pDNew, pDPut, pSortDict, pTupR, pLstR, pRevL, pRet, pRetN, pNext, pAsg, pAsgL, pAsgG, pPar, pAug, pApp, pFz, pFor, pGN, pGNil, pGCons, pGT, pVar, pC, pOp, pUn, pFrz, pNil, pCons, pDs, pTup, pLst, pNotT, pChain, pBl, pBlL, pLc, pYes, pCall, pSeqI, pRng1, pRng2, pEnum, pZip, pEZ, pSl, pNoPart, pPart, pIsa1, pIsa2, pCatL, x_Ite, x_AndT, x_OrT, x_Tst, x_AndV, x_OrV, x_NotV, boolD_d, elD_d, x_IxL, x_IxT, qII, qIC, qAdd, q1C, q2C, qLen, qTuple, qListL, qSum, qAll, qMin2, qMax2, qAbs, qInt, qEq, qNe, qIs, qIsNot, qIn, qNeg, qCatL, qSort, sqD, flatD, dIsN, wipeE, List.getElem?_cons_zero, List.getElem?_cons_succ, List.set_cons_zero, List.set_cons_succ, List.cons_append, List.nil_append, List.replicate_succ, List.replicate_zero, List.length_cons, List.length_nil, List.length_map, decide_eq_true_eq, decide_eq_false_iff_not, Bool.not_eq_true', Bool.not_eq_false', Bool.true_eq_false, Bool.false_eq_true, true_implies, false_implies, implies_true, true_and, and_true, Nat.reduceSub, Nat.reduceAdd, reduceCtorEq, Option.map_some, Option.map_none, if_true, if_false, Option.some.injEq, Int.toNat_natCast]
    refine seq ?_
    simp only [pFun, pIxO, pLenO, pPopO, pInsO, pStO, pSlS, qRepT, pStar, qSortT, qInD, pSortSet, pRng3, qMinP, pPar3, pDNew, pDPut, pSortDict, pTupR, pLstR, pRevL, pRet, pRetN, pNext, pAsg, pAsgL, pAsgG, pPar, pAug, pApp, pFz, pFor, pGN, pGNil, pGCons, pGT, pVar, pC, pOp, pUn, pFrz, pNil, pCons, pDs, pTup, pLst, pNotT, pChain, pBl, pBlL, pLc, pYes, pCall, pSeqI, pRng1, pRng2, pEnum, pZip, pEZ, pSl, pNoPart, pPart, pIsa1, pIsa2, pCatL, x_Ite, x_AndT, x_OrT, x_Tst, x_AndV, x_OrV, x_NotV, boolD_d, elD_d, x_IxL, x_IxT, qII, qIC, qAdd, q1C, q2C, qLen, qTuple, qListL, qSum, qAll, qMin2, qMax2, qAbs, qInt, qEq, qNe, qIs, qIsNot, qIn, qNeg, qCatL, qSort, sqD, flatD, dIsN, wipeE, List.getElem?_cons_zero, List.getElem?_cons_succ, List.set_cons_zero, List.set_cons_succ, List.cons_append, List.nil_append, List.replicate_succ, List.replicate_zero, List.length_cons, List.length_nil, List.length_map, decide_eq_true_eq, decide_eq_false_iff_not, Bool.not_eq_true', Bool.not_eq_false', Bool.true_eq_false, Bool.false_eq_true, true_implies, false_implies, implies_true, true_and, and_true, Nat.reduceSub, Nat.reduceAdd, reduceCtorEq, Option.map_some, Option.map_none, if_true, if_false, Option.some.injEq, Int.toNat_natCast]
    refine ⟨by decide, by decide, ?_⟩
    rw [rngD_map]
    refine for_rule (fun ls2 rs2 ρ => ls2 ++ rs2 = List.range 10 ∧ ∃ d e f, ρ = [.d (TI ps), .d (.list (X.map pairD ++ [pairD y])), .d (.int (corrAt ps ls.length)), .d (.int r.1), .d (.int r.2), .d (bestD (bestO (ls2.map (cand (corrAt ps ls.length) r.1 r.2)))), d, e, f]) ⟨rfl, _, _, _, rfl⟩ ?_ ?_
    · rintro ρ ⟨hh, d, e', f, rfl⟩
      try dsimp only
      have e10 : List.range (Int.toNat 10) = List.range 10 := rfl
      rw [e10]
      have hb := cands_ne (corrAt ps ls.length) r.1 r.2
      generalize hbo : (bestO ((List.range 10).map (cand (corrAt ps ls.length) r.1 r.2))).getD (0, 0) = a at hb
      rw [hb]
      have hp : pick (corrAt ps ls.length) r.1 r.2 = a.2 := by unfold pick; rw [hb]
      simp only [pFun, pIxO, pLenO, pPopO, pInsO, pStO, pSlS, qRepT, pStar, qSortT, qInD, pSortSet, pRng3, qMinP, pPar3, pDNew, pDPut, pSortDict, pTupR, pLstR, pRevL, pRet, pRetN, pNext, pAsg, pAsgL, pAsgG, pPar, pAug, pApp, pFz, pFor, pGN, pGNil, pGCons, pGT, pVar, pC, pOp, pUn, pFrz, pNil, pCons, pDs, pTup, pLst, pNotT, pChain, pBl, pBlL, pLc, pYes, pCall, pSeqI, pRng1, pRng2, pEnum, pZip, pEZ, pSl, pNoPart, pPart, pIsa1, pIsa2, pCatL, x_Ite, x_AndT, x_OrT, x_Tst, x_AndV, x_OrV, x_NotV, boolD_d, elD_d, x_IxL, x_IxT, qII, qIC, qAdd, q1C, q2C, qLen, qTuple, qListL, qSum, qAll, qMin2, qMax2, qAbs, qInt, qEq, qNe, qIs, qIsNot, qIn, qNeg, qCatL, qSort, sqD, flatD, dIsN, wipeE, List.getElem?_cons_zero, List.getElem?_cons_succ, List.set_cons_zero, List.set_cons_succ, List.cons_append, List.nil_append, List.replicate_succ, List.replicate_zero, List.length_cons, List.length_nil, List.length_map, decide_eq_true_eq, decide_eq_false_iff_not, Bool.not_eq_true', Bool.not_eq_false', Bool.true_eq_false, Bool.false_eq_true, true_implies, false_implies, implies_true, true_and, and_true, Nat.reduceSub, Nat.reduceAdd, reduceCtorEq, Option.map_some, Option.map_none, if_true, if_false, Option.some.injEq, Int.toNat_natCast, bestD, pairD]
      refine ⟨.int a.2, rfl, ?_⟩
      have := hΨ [.d (TI ps), .d (.list (X.map pairD ++ [pairD y])), .d (.int (corrAt ps (ls.length + 1))), .d (.int r.1), .d (.int r.2), .d (pairD a), d, e', f] ⟨_, _, _, _, _, _, by rw [List.length_append, List.length_singleton]⟩
      rw [step, hp] at this
      exact this
    · rintro ls2 f rs2 ρ e2 ⟨hh, z6, z7, z8, rfl⟩ Ψ2 hΨ2
      refine seq ?_
      simp only [pFun, pIxO, pLenO, pPopO, pInsO, pStO, pSlS, qRepT, pStar, qSortT, qInD, pSortSet, pRng3, qMinP, pPar3, pDNew, pDPut, pSortDict, pTupR, pLstR, pRevL, pRet, pRetN, pNext, pAsg, pAsgL, pAsgG, pPar, pAug, pApp, pFz, pFor, pGN, pGNil, pGCons, pGT, pVar, pC, pOp, pUn, pFrz, pNil, pCons, pDs, pTup, pLst, pNotT, pChain, pBl, pBlL, pLc, pYes, pCall, pSeqI, pRng1, pRng2, pEnum, pZip, pEZ, pSl, pNoPart, pPart, pIsa1, pIsa2, pCatL, x_Ite, x_AndT, x_OrT, x_Tst, x_AndV, x_OrV, x_NotV, boolD_d, elD_d, x_IxL, x_IxT, qII, qIC, qAdd, q1C, q2C, qLen, qTuple, qListL, qSum, qAll, qMin2, qMax2, qAbs, qInt, qEq, qNe, qIs, qIsNot, qIn, qNeg, qCatL, qSort, sqD, flatD, dIsN, wipeE, List.getElem?_cons_zero, List.getElem?_cons_succ, List.set_cons_zero, List.set_cons_succ, List.cons_append, List.nil_append, List.replicate_succ, List.replicate_zero, List.length_cons, List.length_nil, List.length_map, decide_eq_true_eq, decide_eq_false_iff_not, Bool.not_eq_true', Bool.not_eq_false', Bool.true_eq_false, Bool.false_eq_true, true_implies, false_implies, implies_true, true_and, and_true, Nat.reduceSub, Nat.reduceAdd, reduceCtorEq, Option.map_some, Option.map_none, if_true, if_false, Option.some.injEq, Int.toNat_natCast]
      refine ⟨mulR (by omega) (by omega), mulR (by decide) (by decide), ?_⟩
      refine seq ?_
      simp only [pFun, pIxO, pLenO, pPopO, pInsO, pStO, pSlS, qRepT, pStar, qSortT, qInD, pSortSet, pRng3, qMinP, pPar3, pDNew, pDPut, pSortDict, pTupR, pLstR, pRevL, pRet, pRetN, pNext, pAsg, pAsgL, pAsgG, pPar, pAug, pApp, pFz, pFor, pGN, pGNil, pGCons, pGT, pVar, pC, pOp, pUn, pFrz, pNil, pCons, pDs, pTup, pLst, pNotT, pChain, pBl, pBlL, pLc, pYes, pCall, pSeqI, pRng1, pRng2, pEnum, pZip, pEZ, pSl, pNoPart, pPart, pIsa1, pIsa2, pCatL, x_Ite, x_AndT, x_OrT, x_Tst, x_AndV, x_OrV, x_NotV, boolD_d, elD_d, x_IxL, x_IxT, qII, qIC, qAdd, q1C, q2C, qLen, qTuple, qListL, qSum, qAll, qMin2, qMax2, qAbs, qInt, qEq, qNe, qIs, qIsNot, qIn, qNeg, qCatL, qSort, sqD, flatD, dIsN, wipeE, List.getElem?_cons_zero, List.getElem?_cons_succ, List.set_cons_zero, List.set_cons_succ, List.cons_append, List.nil_append, List.replicate_succ, List.replicate_zero, List.length_cons, List.length_nil, List.length_map, decide_eq_true_eq, decide_eq_false_iff_not, Bool.not_eq_true', Bool.not_eq_false', Bool.true_eq_false, Bool.false_eq_true, true_implies, false_implies, implies_true, true_and, and_true, Nat.reduceSub, Nat.reduceAdd, reduceCtorEq, Option.map_some, Option.map_none, if_true, if_false, Option.some.injEq, Int.toNat_natCast]
      refine ⟨mulR (by omega) (by omega), mulL (by decide) (by decide), ?_⟩
      refine s_apart (by omega) ?_
      rw [show (0 : Int) + (f : Int) = (f : Int) by omega]
      have nx := hΨ2 [.d (TI ps), .d (.list (X.map pairD ++ [pairD y])), .d (.int (corrAt ps ls.length)), .d (.int r.1), .d (.int r.2), .d (bestD (bestO ((ls2 ++ [f]).map (cand (corrAt ps ls.length) r.1 r.2)))), .d (.int (f : Int)), .d (.int (corrAt ps ls.length + (f : Int) * r.2 * 10)), .d (.int (gap (corrAt ps ls.length + (f : Int) * r.2 * 10) (r.1 * r.2) (100 * r.2)))] ⟨by simpa using hh, _, _, _, rfl⟩
      rw [List.map_append, List.map_cons, List.map_nil, best_snoc] at nx
      simp only [pFun, pIxO, pLenO, pPopO, pInsO, pStO, pSlS, qRepT, pStar, qSortT, qInD, pSortSet, pRng3, qMinP, pPar3, pDNew, pDPut, pSortDict, pTupR, pLstR, pRevL, pRet, pRetN, pNext, pAsg, pAsgL, pAsgG, pPar, pAug, pApp, pFz, pFor, pGN, pGNil, pGCons, pGT, pVar, pC, pOp, pUn, pFrz, pNil, pCons, pDs, pTup, pLst, pNotT, pChain, pBl, pBlL, pLc, pYes, pCall, pSeqI, pRng1, pRng2, pEnum, pZip, pEZ, pSl, pNoPart, pPart, pIsa1, pIsa2, pCatL, x_Ite, x_AndT, x_OrT, x_Tst, x_AndV, x_OrV, x_NotV, boolD_d, elD_d, x_IxL, x_IxT, qII, qIC, qAdd, q1C, q2C, qLen, qTuple, qListL, qSum, qAll, qMin2, qMax2, qAbs, qInt, qEq, qNe, qIs, qIsNot, qIn, qNeg, qCatL, qSort, sqD, flatD, dIsN, wipeE, List.getElem?_cons_zero, List.getElem?_cons_succ, List.set_cons_zero, List.set_cons_succ, List.cons_append, List.nil_append, List.replicate_succ, List.replicate_zero, List.length_cons, List.length_nil, List.length_map, decide_eq_true_eq, decide_eq_false_iff_not, Bool.not_eq_true', Bool.not_eq_false', Bool.true_eq_false, Bool.false_eq_true, true_implies, false_implies, implies_true, true_and, and_true, Nat.reduceSub, Nat.reduceAdd, reduceCtorEq, Option.map_some, Option.map_none, if_true, if_false, Option.some.injEq, Int.toNat_natCast, x_If]
      generalize bestO (ls2.map (cand (corrAt ps ls.length) r.1 r.2)) = o at nx ⊢
      cases o with
      | none => exact ⟨fun _ => ⟨by decide, nx⟩, fun h => (by cases h)⟩
      | some a =>
        refine ⟨fun h => (by cases h), fun _ => ⟨fun z => ⟨by decide, ?_⟩, fun z => ?_⟩⟩
        · have e : (match some a with | none => some (cand (corrAt ps ls.length) r.1 r.2 f) | some a => if (cand (corrAt ps ls.length) r.1 r.2 f).1 < a.1 then some (cand (corrAt ps ls.length) r.1 r.2 f) else some a) = some (cand (corrAt ps ls.length) r.1 r.2 f) := if_pos (of_decide_eq_true z)
          rw [e] at nx
          exact nx
        · have e : (match some a with | none => some (cand (corrAt ps ls.length) r.1 r.2 f) | some a => if (cand (corrAt ps ls.length) r.1 r.2 f).1 < a.1 then some (cand (corrAt ps ls.length) r.1 r.2 f) else some a) = some a := if_neg (of_decide_eq_false z)
          rw [e] at nx
          exact nx
theorem s_l_corrected {ps : List Int} {Φ : Ent → Prop} (hn : 0 < ps.length) (hn2 : ps.length ≤ 6) (k : Φ (.d (.int (corr ps)))) : p_l_corrected [.d (TI ps)] Φ := by
  unfold p_l_corrected
  rw [shut_eq]
  refine ⟨rfl, ?_⟩
  refine seq ?_
  simp only [pFun, pIxO, pLenO, pPopO, pInsO, pStO, pSlS, qRepT, pStar, qSortT, qInD, pSortSet, pRng3, qMinP, pPar3, pDNew, pDPut, pSortDict, pTupR, pLstR, pRevL, pRet, pRetN, pNext, pAsg, pAsgL, pAsgG, pPar, pAug, pApp, pFz, pFor, pGN, pGNil, pGCons, pGT, pVar, pC, pOp, pUn, pFrz, pNil, pCons, pDs, pTup, pLst, pNotT, pChain, pBl, pBlL, pLc, pYes, pCall, pSeqI, pRng1, pRng2, pEnum, pZip, pEZ, pSl, pNoPart, pPart, pIsa1, pIsa2, pCatL, x_Ite, x_AndT, x_OrT, x_Tst, x_AndV, x_OrV, x_NotV, boolD_d, elD_d, x_IxL, x_IxT, qII, qIC, qAdd, q1C, q2C, qLen, qTuple, qListL, qSum, qAll, qMin2, qMax2, qAbs, qInt, qEq, qNe, qIs, qIsNot, qIn, qNeg, qCatL, qSort, sqD, flatD, dIsN, wipeE, List.getElem?_cons_zero, List.getElem?_cons_succ, List.set_cons_zero, List.set_cons_succ, List.cons_append, List.nil_append, List.replicate_succ, List.replicate_zero, List.length_cons, List.length_nil, List.length_map, decide_eq_true_eq, decide_eq_false_iff_not, Bool.not_eq_true', Bool.not_eq_false', Bool.true_eq_false, Bool.false_eq_true, true_implies, false_implies, implies_true, true_and, and_true, Nat.reduceSub, Nat.reduceAdd, reduceCtorEq, Option.map_some, Option.map_none, if_true, if_false, Option.some.injEq, Int.toNat_natCast]
  refine s_parts (by omega) ?_
  try simp only [pFun, pIxO, pLenO, pPopO, pInsO, pStO, pSlS, qRepT, pStar, qSortT, qInD, pSortSet, pRng3, qMinP, pPar3, pDNew, pDPut, pSortDict, pTupR, pLstR, pRevL, pRet, pRetN, pNext, pAsg, pAsgL, pAsgG, pPar, pAug, pApp, pFz, pFor, pGN, pGNil, pGCons, pGT, pVar, pC, pOp, pUn, pFrz, pNil, pCons, pDs, pTup, pLst, pNotT, pChain, pBl, pBlL, pLc, pYes, pCall, pSeqI, pRng1, pRng2, pEnum, pZip, pEZ, pSl, pNoPart, pPart, pIsa1, pIsa2, pCatL, x_Ite, x_AndT, x_OrT, x_Tst, x_AndV, x_OrV, x_NotV, boolD_d, elD_d, x_IxL, x_IxT, qII, qIC, qAdd, q1C, q2C, qLen, qTuple, qListL, qSum, qAll, qMin2, qMax2, qAbs, qInt, qEq, qNe, qIs, qIsNot, qIn, qNeg, qCatL, qSort, sqD, flatD, dIsN, wipeE, List.getElem?_cons_zero, List.getElem?_cons_succ, List.set_cons_zero, List.set_cons_succ, List.cons_append, List.nil_append, List.replicate_succ, List.replicate_zero, List.length_cons, List.length_nil, List.length_map, decide_eq_true_eq, decide_eq_false_iff_not, Bool.not_eq_true', Bool.not_eq_false', Bool.true_eq_false, Bool.false_eq_true, true_implies, false_implies, implies_true, true_and, and_true, Nat.reduceSub, Nat.reduceAdd, reduceCtorEq, Option.map_some, Option.map_none, if_true, if_false, Option.some.injEq, Int.toNat_natCast]
  refine seq ?_
  simp only [pFun, pIxO, pLenO, pPopO, pInsO, pStO, pSlS, qRepT, pStar, qSortT, qInD, pSortSet, pRng3, qMinP, pPar3, pDNew, pDPut, pSortDict, pTupR, pLstR, pRevL, pRet, pRetN, pNext, pAsg, pAsgL, pAsgG, pPar, pAug, pApp, pFz, pFor, pGN, pGNil, pGCons, pGT, pVar, pC, pOp, pUn, pFrz, pNil, pCons, pDs, pTup, pLst, pNotT, pChain, pBl, pBlL, pLc, pYes, pCall, pSeqI, pRng1, pRng2, pEnum, pZip, pEZ, pSl, pNoPart, pPart, pIsa1, pIsa2, pCatL, x_Ite, x_AndT, x_OrT, x_Tst, x_AndV, x_OrV, x_NotV, boolD_d, elD_d, x_IxL, x_IxT, qII, qIC, qAdd, q1C, q2C, qLen, qTuple, qListL, qSum, qAll, qMin2, qMax2, qAbs, qInt, qEq, qNe, qIs, qIsNot, qIn, qNeg, qCatL, qSort, sqD, flatD, dIsN, wipeE, List.getElem?_cons_zero, List.getElem?_cons_succ, List.set_cons_zero, List.set_cons_succ, List.cons_append, List.nil_append, List.replicate_succ, List.replicate_zero, List.length_cons, List.length_nil, List.length_map, decide_eq_true_eq, decide_eq_false_iff_not, Bool.not_eq_true', Bool.not_eq_false', Bool.true_eq_false, Bool.false_eq_true, true_implies, false_implies, implies_true, true_and, and_true, Nat.reduceSub, Nat.reduceAdd, reduceCtorEq, Option.map_some, Option.map_none, if_true, if_false, Option.some.injEq, Int.toNat_natCast]
  refine ⟨_, last_at hn, ?_⟩
  refine seq ?_
  try simp only [pFun, pIxO, pLenO, pPopO, pInsO, pStO, pSlS, qRepT, pStar, qSortT, qInD, pSortSet, pRng3, qMinP, pPar3, pDNew, pDPut, pSortDict, pTupR, pLstR, pRevL, pRet, pRetN, pNext, pAsg, pAsgL, pAsgG, pPar, pAug, pApp, pFz, pFor, pGN, pGNil, pGCons, pGT, pVar, pC, pOp, pUn, pFrz, pNil, pCons, pDs, pTup, pLst, pNotT, pChain, pBl, pBlL, pLc, pYes, pCall, pSeqI, pRng1, pRng2, pEnum, pZip, pEZ, pSl, pNoPart, pPart, pIsa1, pIsa2, pCatL, x_Ite, x_AndT, x_OrT, x_Tst, x_AndV, x_OrV, x_NotV, boolD_d, elD_d, x_IxL, x_IxT, qII, qIC, qAdd, q1C, q2C, qLen, qTuple, qListL, qSum, qAll, qMin2, qMax2, qAbs, qInt, qEq, qNe, qIs, qIsNot, qIn, qNeg, qCatL, qSort, sqD, flatD, dIsN, wipeE, List.getElem?_cons_zero, List.getElem?_cons_succ, List.set_cons_zero, List.set_cons_succ, List.cons_append, List.nil_append, List.replicate_succ, List.replicate_zero, List.length_cons, List.length_nil, List.length_map, decide_eq_true_eq, decide_eq_false_iff_not, Bool.not_eq_true', Bool.not_eq_false', Bool.true_eq_false, Bool.false_eq_true, true_implies, false_implies, implies_true, true_and, and_true, Nat.reduceSub, Nat.reduceAdd, reduceCtorEq, Option.map_some, Option.map_none, if_true, if_false, Option.some.injEq, Int.toNat_natCast]
  refine ⟨⟨by omega, by omega, by decide, by decide⟩, ?_⟩
  have e0 : ((ps.length : Int) - 2 - -1).toNat = ps.length - 1 := by omega
  rw [e0]
  have e1 : rngDown ((ps.length : Int) - 2) (ps.length - 1) = (List.range (ps.length - 1)).map fun (k : Nat) => PyData.int ((ps.length : Int) - 2 + (k : Int) * (-1)) := rfl
  rw [e1]
  refine for_rule (fun ls _ ρ => ∃ a b c d, ρ = [.d (TI ps), .d (LI (parts ps.length)), .d (.int (corrAt ps ls.length)), a, b, c, d]) ⟨_, _, _, _, rfl⟩ ?_ ?_
  · rintro ρ ⟨a, b, c, d, rfl⟩
    simp only [pFun, pIxO, pLenO, pPopO, pInsO, pStO, pSlS, qRepT, pStar, qSortT, qInD, pSortSet, pRng3, qMinP, pPar3, pDNew, pDPut, pSortDict, pTupR, pLstR, pRevL, pRet, pRetN, pNext, pAsg, pAsgL, pAsgG, pPar, pAug, pApp, pFz, pFor, pGN, pGNil, pGCons, pGT, pVar, pC, pOp, pUn, pFrz, pNil, pCons, pDs, pTup, pLst, pNotT, pChain, pBl, pBlL, pLc, pYes, pCall, pSeqI, pRng1, pRng2, pEnum, pZip, pEZ, pSl, pNoPart, pPart, pIsa1, pIsa2, pCatL, x_Ite, x_AndT, x_OrT, x_Tst, x_AndV, x_OrV, x_NotV, boolD_d, elD_d, x_IxL, x_IxT, qII, qIC, qAdd, q1C, q2C, qLen, qTuple, qListL, qSum, qAll, qMin2, qMax2, qAbs, qInt, qEq, qNe, qIs, qIsNot, qIn, qNeg, qCatL, qSort, sqD, flatD, dIsN, wipeE, List.getElem?_cons_zero, List.getElem?_cons_succ, List.set_cons_zero, List.set_cons_succ, List.cons_append, List.nil_append, List.replicate_succ, List.replicate_zero, List.length_cons, List.length_nil, List.length_map, decide_eq_true_eq, decide_eq_false_iff_not, Bool.not_eq_true', Bool.not_eq_false', Bool.true_eq_false, Bool.false_eq_true, true_implies, false_implies, implies_true, true_and, and_true, Nat.reduceSub, Nat.reduceAdd, reduceCtorEq, Option.map_some, Option.map_none, if_true, if_false, Option.some.injEq, Int.toNat_natCast]
    rw [List.length_range]
    exact k
  · rintro ls j rs ρ e ⟨z3, z4, z5, z6, rfl⟩ Ψ hΨ
    have hk := nth_split e
    have hlt : ls.length < ps.length - 1 := by
      have := (List.getElem?_eq_some_iff.mp hk).1
      simpa using this
    rw [List.getElem?_range hlt] at hk
    have hk := Option.some.inj hk
    subst hk
    have ei : (ps.length : Int) - 2 + (ls.length : Int) * (-1) = ((ps.length - 2 - ls.length : Nat) : Int) := by omega
    rw [ei]
    have gp : L2.atI (ps.map PyData.int) ((ps.length - 2 - ls.length : Nat) : Int) = some (.int (ps.getD (ps.length - 2 - ls.length) 0)) := L2.atI_nat (by
      rw [List.getElem?_map, List.getD_eq_getElem?_getD, List.getElem?_eq_getElem (by omega)]
      rfl)
    have gu : L2.atI ((parts ps.length).map PyData.int) ((ps.length - 2 - ls.length : Nat) : Int) = some (.int (ten (ls.length + 1))) := L2.atI_nat (by
      rw [List.getElem?_map, parts_get (by omega), show ps.length - 1 - (ps.length - 2 - ls.length) = ls.length + 1 by omega]
      rfl)
    have step : corrAt ps (ls.length + 1) = pick (corrAt ps ls.length) (ps.getD (ps.length - 2 - ls.length) 0) (ten (ls.length + 1)) := rfl
    have u0 := ten_pos (ls.length + 1)
    have u7 : ten (ls.length + 1) ≤ 1000000 := ten_le (b := 6) (by omega)
    generalize ten (ls.length + 1) = u at gu step u0 u7
    generalize ps.getD (ps.length - 2 - ls.length) 0 = p at gp step
    generalize ((ps.length - 2 - ls.length : Nat) : Int) = at_ at gp gu
    refine seq ?_
    simp only [pFun, pIxO, pLenO, pPopO, pInsO, pStO, pSlS, qRepT, pStar, qSortT, qInD, pSortSet, pRng3, qMinP, pPar3, pDNew, pDPut, pSortDict, pTupR, pLstR, pRevL, pRet, pRetN, pNext, pAsg, pAsgL, pAsgG, pPar, pAug, pApp, pFz, pFor, pGN, pGNil, pGCons, pGT, pVar, pC, pOp, pUn, pFrz, pNil, pCons, pDs, pTup, pLst, pNotT, pChain, pBl, pBlL, pLc, pYes, pCall, pSeqI, pRng1, pRng2, pEnum, pZip, pEZ, pSl, pNoPart, pPart, pIsa1, pIsa2, pCatL, x_Ite, x_AndT, x_OrT, x_Tst, x_AndV, x_OrV, x_NotV, boolD_d, elD_d, x_IxL, x_IxT, qII, qIC, qAdd, q1C, q2C, qLen, qTuple, qListL, qSum, qAll, qMin2, qMax2, qAbs, qInt, qEq, qNe, qIs, qIsNot, qIn, qNeg, qCatL, qSort, sqD, flatD, dIsN, wipeE, List.getElem?_cons_zero, List.getElem?_cons_succ, List.set_cons_zero, List.set_cons_succ, List.cons_append, List.nil_append, List.replicate_succ, List.replicate_zero, List.length_cons, List.length_nil, List.length_map, decide_eq_true_eq, decide_eq_false_iff_not, Bool.not_eq_true', Bool.not_eq_false', Bool.true_eq_false, Bool.false_eq_true, true_implies, false_implies, implies_true, true_and, and_true, Nat.reduceSub, Nat.reduceAdd, reduceCtorEq, Option.map_some, Option.map_none, if_true, if_false, Option.some.injEq, Int.toNat_natCast]
    refine ⟨by decide, ?_⟩
    refine seq ?_
    simp only [pFun, pIxO, pLenO, pPopO, pInsO, pStO, pSlS, qRepT, pStar, qSortT, qInD, pSortSet, pRng3, qMinP, pPar3, pDNew, pDPut, pSortDict, pTupR, pLstR, pRevL, pRet, pRetN, pNext, pAsg, pAsgL, pAsgG, pPar, pAug, pApp, pFz, pFor, pGN, pGNil, pGCons, pGT, pVar, pC, pOp, pUn, pFrz, pNil, pCons, pDs, pTup, pLst, pNotT, pChain, pBl, pBlL, pLc, pYes, pCall, pSeqI, pRng1, pRng2, pEnum, pZip, pEZ, pSl, pNoPart, pPart, pIsa1, pIsa2, pCatL, x_Ite, x_AndT, x_OrT, x_Tst, x_AndV, x_OrV, x_NotV, boolD_d, elD_d, x_IxL, x_IxT, qII, qIC, qAdd, q1C, q2C, qLen, qTuple, qListL, qSum, qAll, qMin2, qMax2, qAbs, qInt, qEq, qNe, qIs, qIsNot, qIn, qNeg, qCatL, qSort, sqD, flatD, dIsN, wipeE, List.getElem?_cons_zero, List.getElem?_cons_succ, List.set_cons_zero, List.set_cons_succ, List.cons_append, List.nil_append, List.replicate_succ, List.replicate_zero, List.length_cons, List.length_nil, List.length_map, decide_eq_true_eq, decide_eq_false_iff_not, Bool.not_eq_true', Bool.not_eq_false', Bool.true_eq_false, Bool.false_eq_true, true_implies, false_implies, implies_true, true_and, and_true, Nat.reduceSub, Nat.reduceAdd, reduceCtorEq, Option.map_some, Option.map_none, if_true, if_false, Option.some.injEq, Int.toNat_natCast]
    refine ⟨by decide, by decide, ?_⟩
    rw [rngD_map]
    refine for_rule (fun ls2 rs2 ρ => ls2 ++ rs2 = List.range 10 ∧ ∃ d e, ρ = [.d (TI ps), .d (LI (parts ps.length)), .d (.int (corrAt ps ls.length)), .d (.int at_), .ol ((ls2.map (cand (corrAt ps ls.length) p u)).map pairD), d, e]) ⟨rfl, _, _, rfl⟩ ?_ ?_
    · rintro ρ ⟨hh, d, e', rfl⟩
      dsimp only
      have e10 : List.range (Int.toNat 10) = List.range 10 := rfl
      rw [e10]
      have el : (List.range 10).map (cand (corrAt ps ls.length) p u) = cand (corrAt ps ls.length) p u 0 :: ((List.range 9).map fun i => cand (corrAt ps ls.length) p u (i + 1)) := by rfl
      have asc : ∀ i j : Nat, i < j → (cand (corrAt ps ls.length) p u i).2 < (cand (corrAt ps ls.length) p u j).2 := fun i j h => by
        have : ((i : Int) + 1) * u ≤ (j : Int) * u := Int.mul_le_mul_of_nonneg_right (by omega) (Int.le_of_lt u0)
        rw [Int.add_mul] at this
        show corrAt ps ls.length + (i : Int) * u * 10 < corrAt ps ls.length + (j : Int) * u * 10
        omega
      obtain ⟨a, ha, hm⟩ := min_pairs ((List.range 9).map fun i => cand (corrAt ps ls.length) p u (i + 1)) (cand (corrAt ps ls.length) p u 0) (fun y hy => by
        obtain ⟨i, _, rfl⟩ := List.mem_map.mp hy
        exact asc 0 (i + 1) (by omega)) (List.pairwise_map.mpr (List.pairwise_lt_range.imp fun {i j} h => asc (i + 1) (j + 1) (by omega)))
      rw [el]
      have hp : pick (corrAt ps ls.length) p u = a.2 := by unfold pick; rw [el, ha]
      simp only [pFun, pIxO, pLenO, pPopO, pInsO, pStO, pSlS, qRepT, pStar, qSortT, qInD, pSortSet, pRng3, qMinP, pPar3, pDNew, pDPut, pSortDict, pTupR, pLstR, pRevL, pRet, pRetN, pNext, pAsg, pAsgL, pAsgG, pPar, pAug, pApp, pFz, pFor, pGN, pGNil, pGCons, pGT, pVar, pC, pOp, pUn, pFrz, pNil, pCons, pDs, pTup, pLst, pNotT, pChain, pBl, pBlL, pLc, pYes, pCall, pSeqI, pRng1, pRng2, pEnum, pZip, pEZ, pSl, pNoPart, pPart, pIsa1, pIsa2, pCatL, x_Ite, x_AndT, x_OrT, x_Tst, x_AndV, x_OrV, x_NotV, boolD_d, elD_d, x_IxL, x_IxT, qII, qIC, qAdd, q1C, q2C, qLen, qTuple, qListL, qSum, qAll, qMin2, qMax2, qAbs, qInt, qEq, qNe, qIs, qIsNot, qIn, qNeg, qCatL, qSort, sqD, flatD, dIsN, wipeE, List.getElem?_cons_zero, List.getElem?_cons_succ, List.set_cons_zero, List.set_cons_succ, List.cons_append, List.nil_append, List.replicate_succ, List.replicate_zero, List.length_cons, List.length_nil, List.length_map, decide_eq_true_eq, decide_eq_false_iff_not, Bool.not_eq_true', Bool.not_eq_false', Bool.true_eq_false, Bool.false_eq_true, true_implies, false_implies, implies_true, true_and, and_true, Nat.reduceSub, Nat.reduceAdd, reduceCtorEq, Option.map_some, Option.map_none, if_true, if_false, Option.some.injEq, Int.toNat_natCast, List.map_cons]
      refine ⟨alikeAll_pairs (cand (corrAt ps ls.length) p u 0 :: (List.range 9).map fun i => cand (corrAt ps ls.length) p u (i + 1)), depthAll_le (depth_pairs (cand (corrAt ps ls.length) p u 0 :: (List.range 9).map fun i => cand (corrAt ps ls.length) p u (i + 1))), ?_⟩
      rw [hm]
      show Ψ _
      rw [← hp, ← step]
      exact hΨ _ ⟨_, _, _, _, by rw [List.length_append, List.length_singleton]⟩
    · rintro ls2 f rs2 ρ e2 ⟨hh, z5, z6, rfl⟩ Ψ2 hΨ2
      refine seq ?_
      simp only [pFun, pIxO, pLenO, pPopO, pInsO, pStO, pSlS, qRepT, pStar, qSortT, qInD, pSortSet, pRng3, qMinP, pPar3, pDNew, pDPut, pSortDict, pTupR, pLstR, pRevL, pRet, pRetN, pNext, pAsg, pAsgL, pAsgG, pPar, pAug, pApp, pFz, pFor, pGN, pGNil, pGCons, pGT, pVar, pC, pOp, pUn, pFrz, pNil, pCons, pDs, pTup, pLst, pNotT, pChain, pBl, pBlL, pLc, pYes, pCall, pSeqI, pRng1, pRng2, pEnum, pZip, pEZ, pSl, pNoPart, pPart, pIsa1, pIsa2, pCatL, x_Ite, x_AndT, x_OrT, x_Tst, x_AndV, x_OrV, x_NotV, boolD_d, elD_d, x_IxL, x_IxT, qII, qIC, qAdd, q1C, q2C, qLen, qTuple, qListL, qSum, qAll, qMin2, qMax2, qAbs, qInt, qEq, qNe, qIs, qIsNot, qIn, qNeg, qCatL, qSort, sqD, flatD, dIsN, wipeE, List.getElem?_cons_zero, List.getElem?_cons_succ, List.set_cons_zero, List.set_cons_succ, List.cons_append, List.nil_append, List.replicate_succ, List.replicate_zero, List.length_cons, List.length_nil, List.length_map, decide_eq_true_eq, decide_eq_false_iff_not, Bool.not_eq_true', Bool.not_eq_false', Bool.true_eq_false, Bool.false_eq_true, true_implies, false_implies, implies_true, true_and, and_true, Nat.reduceSub, Nat.reduceAdd, reduceCtorEq, Option.map_some, Option.map_none, if_true, if_false, Option.some.injEq, Int.toNat_natCast]
      refine ⟨mulR (by decide) (by decide), _, gu, ?_⟩
      simp only [pFun, pIxO, pLenO, pPopO, pInsO, pStO, pSlS, qRepT, pStar, qSortT, qInD, pSortSet, pRng3, qMinP, pPar3, pDNew, pDPut, pSortDict, pTupR, pLstR, pRevL, pRet, pRetN, pNext, pAsg, pAsgL, pAsgG, pPar, pAug, pApp, pFz, pFor, pGN, pGNil, pGCons, pGT, pVar, pC, pOp, pUn, pFrz, pNil, pCons, pDs, pTup, pLst, pNotT, pChain, pBl, pBlL, pLc, pYes, pCall, pSeqI, pRng1, pRng2, pEnum, pZip, pEZ, pSl, pNoPart, pPart, pIsa1, pIsa2, pCatL, x_Ite, x_AndT, x_OrT, x_Tst, x_AndV, x_OrV, x_NotV, boolD_d, elD_d, x_IxL, x_IxT, qII, qIC, qAdd, q1C, q2C, qLen, qTuple, qListL, qSum, qAll, qMin2, qMax2, qAbs, qInt, qEq, qNe, qIs, qIsNot, qIn, qNeg, qCatL, qSort, sqD, flatD, dIsN, wipeE, List.getElem?_cons_zero, List.getElem?_cons_succ, List.set_cons_zero, List.set_cons_succ, List.cons_append, List.nil_append, List.replicate_succ, List.replicate_zero, List.length_cons, List.length_nil, List.length_map, decide_eq_true_eq, decide_eq_false_iff_not, Bool.not_eq_true', Bool.not_eq_false', Bool.true_eq_false, Bool.false_eq_true, true_implies, false_implies, implies_true, true_and, and_true, Nat.reduceSub, Nat.reduceAdd, reduceCtorEq, Option.map_some, Option.map_none, if_true, if_false, Option.some.injEq, Int.toNat_natCast]
      refine ⟨mulR (by omega) (by omega), _, gp, _, gu, ?_⟩
      simp only [pFun, pIxO, pLenO, pPopO, pInsO, pStO, pSlS, qRepT, pStar, qSortT, qInD, pSortSet, pRng3, qMinP, pPar3, pDNew, pDPut, pSortDict, pTupR, pLstR, pRevL, pRet, pRetN, pNext, pAsg, pAsgL, pAsgG, pPar, pAug, pApp, pFz, pFor, pGN, pGNil, pGCons, pGT, pVar, pC, pOp, pUn, pFrz, pNil, pCons, pDs, pTup, pLst, pNotT, pChain, pBl, pBlL, pLc, pYes, pCall, pSeqI, pRng1, pRng2, pEnum, pZip, pEZ, pSl, pNoPart, pPart, pIsa1, pIsa2, pCatL, x_Ite, x_AndT, x_OrT, x_Tst, x_AndV, x_OrV, x_NotV, boolD_d, elD_d, x_IxL, x_IxT, qII, qIC, qAdd, q1C, q2C, qLen, qTuple, qListL, qSum, qAll, qMin2, qMax2, qAbs, qInt, qEq, qNe, qIs, qIsNot, qIn, qNeg, qCatL, qSort, sqD, flatD, dIsN, wipeE, List.getElem?_cons_zero, List.getElem?_cons_succ, List.set_cons_zero, List.set_cons_succ, List.cons_append, List.nil_append, List.replicate_succ, List.replicate_zero, List.length_cons, List.length_nil, List.length_map, decide_eq_true_eq, decide_eq_false_iff_not, Bool.not_eq_true', Bool.not_eq_false', Bool.true_eq_false, Bool.false_eq_true, true_implies, false_implies, implies_true, true_and, and_true, Nat.reduceSub, Nat.reduceAdd, reduceCtorEq, Option.map_some, Option.map_none, if_true, if_false, Option.some.injEq, Int.toNat_natCast]
      refine ⟨mulR (by omega) (by omega), _, gu, ?_⟩
      simp only [pFun, pIxO, pLenO, pPopO, pInsO, pStO, pSlS, qRepT, pStar, qSortT, qInD, pSortSet, pRng3, qMinP, pPar3, pDNew, pDPut, pSortDict, pTupR, pLstR, pRevL, pRet, pRetN, pNext, pAsg, pAsgL, pAsgG, pPar, pAug, pApp, pFz, pFor, pGN, pGNil, pGCons, pGT, pVar, pC, pOp, pUn, pFrz, pNil, pCons, pDs, pTup, pLst, pNotT, pChain, pBl, pBlL, pLc, pYes, pCall, pSeqI, pRng1, pRng2, pEnum, pZip, pEZ, pSl, pNoPart, pPart, pIsa1, pIsa2, pCatL, x_Ite, x_AndT, x_OrT, x_Tst, x_AndV, x_OrV, x_NotV, boolD_d, elD_d, x_IxL, x_IxT, qII, qIC, qAdd, q1C, q2C, qLen, qTuple, qListL, qSum, qAll, qMin2, qMax2, qAbs, qInt, qEq, qNe, qIs, qIsNot, qIn, qNeg, qCatL, qSort, sqD, flatD, dIsN, wipeE, List.getElem?_cons_zero, List.getElem?_cons_succ, List.set_cons_zero, List.set_cons_succ, List.cons_append, List.nil_append, List.replicate_succ, List.replicate_zero, List.length_cons, List.length_nil, List.length_map, decide_eq_true_eq, decide_eq_false_iff_not, Bool.not_eq_true', Bool.not_eq_false', Bool.true_eq_false, Bool.false_eq_true, true_implies, false_implies, implies_true, true_and, and_true, Nat.reduceSub, Nat.reduceAdd, reduceCtorEq, Option.map_some, Option.map_none, if_true, if_false, Option.some.injEq, Int.toNat_natCast]
      refine ⟨mulL (by decide) (by decide), ?_⟩
      refine s_gap (by omega) ?_
      have l10 : ls2.length ≤ 10 := by
        have := congrArg List.length hh
        simp at this
        omega
      simp only [pFun, pIxO, pLenO, pPopO, pInsO, pStO, pSlS, qRepT, pStar, qSortT, qInD, pSortSet, pRng3, qMinP, pPar3, pDNew, pDPut, pSortDict, pTupR, pLstR, pRevL, pRet, pRetN, pNext, pAsg, pAsgL, pAsgG, pPar, pAug, pApp, pFz, pFor, pGN, pGNil, pGCons, pGT, pVar, pC, pOp, pUn, pFrz, pNil, pCons, pDs, pTup, pLst, pNotT, pChain, pBl, pBlL, pLc, pYes, pCall, pSeqI, pRng1, pRng2, pEnum, pZip, pEZ, pSl, pNoPart, pPart, pIsa1, pIsa2, pCatL, x_Ite, x_AndT, x_OrT, x_Tst, x_AndV, x_OrV, x_NotV, boolD_d, elD_d, x_IxL, x_IxT, qII, qIC, qAdd, q1C, q2C, qLen, qTuple, qListL, qSum, qAll, qMin2, qMax2, qAbs, qInt, qEq, qNe, qIs, qIsNot, qIn, qNeg, qCatL, qSort, sqD, flatD, dIsN, wipeE, List.getElem?_cons_zero, List.getElem?_cons_succ, List.set_cons_zero, List.set_cons_succ, List.cons_append, List.nil_append, List.replicate_succ, List.replicate_zero, List.length_cons, List.length_nil, List.length_map, decide_eq_true_eq, decide_eq_false_iff_not, Bool.not_eq_true', Bool.not_eq_false', Bool.true_eq_false, Bool.false_eq_true, true_implies, false_implies, implies_true, true_and, and_true, Nat.reduceSub, Nat.reduceAdd, reduceCtorEq, Option.map_some, Option.map_none, if_true, if_false, Option.some.injEq, Int.toNat_natCast]
      refine ⟨by decide, by omega, ?_⟩
      have nx := hΨ2 [.d (TI ps), .d (LI (parts ps.length)), .d (.int (corrAt ps ls.length)), .d (.int at_), .ol (((ls2 ++ [f]).map (cand (corrAt ps ls.length) p u)).map pairD), .d (.int (0 + (f : Int))), .d (.int (corrAt ps ls.length + (0 + (f : Int)) * 10 * u))] ⟨by simpa using hh, _, _, rfl⟩
      have ec : cand (corrAt ps ls.length) p u f = (gap (corrAt ps ls.length + (0 + (f : Int)) * 10 * u) (p * u) (100 * u), corrAt ps ls.length + (0 + (f : Int)) * 10 * u) := by
        unfold cand
        rw [Int.zero_add, Int.mul_right_comm]
      rw [List.map_append, List.map_append, List.map_cons, List.map_nil, ec] at nx
      exact nx
end Law

set_option Elab.async false
set_option linter.all false
set_option maxRecDepth 100000
set_option maxHeartbeats 1000000
/-! PuSets: sets of dials in ascending order. -/
namespace Law
open PySem PySem.W Pu

abbrev LT_ (gs : List (List Int)) : D := .list (gs.map TI)
/-- an ascending set of the first n indexes -/
def Asc (n : Nat) (g : List Int) : Prop := g.Pairwise (· < ·) ∧ ∀ x ∈ g, 0 ≤ x ∧ x < (n : Int)
def gsets : Nat → List (List Int)
  | 0 => [[]]
  | k + 1 => gsets k ++ (gsets k).map fun g => g ++ [(k : Int)]
theorem gsets_len : ∀ k, (gsets k).length = 2 ^ k
  | 0 => rfl
  | k + 1 => by
    show (gsets k ++ _).length = _
    rw [List.length_append, List.length_map, gsets_len k, Nat.pow_succ]
    omega
theorem gsets_mem : ∀ {k : Nat} {g : List Int}, g ∈ gsets k ↔ Asc k g
  | 0, g => by
    show g ∈ [[]] ↔ _
    rw [List.mem_singleton]
    constructor
    · rintro rfl
      exact ⟨.nil, fun x hx => by simp at hx⟩
    · rintro ⟨_, h⟩
      cases g with
      | nil => rfl
      | cons x xs => have := h x (by simp); omega
  | k + 1, g => by
    show g ∈ gsets k ++ _ ↔ _
    rw [List.mem_append, gsets_mem, List.mem_map]
    constructor
    · rintro (⟨h1, h2⟩ | ⟨g', hg', rfl⟩)
      · exact ⟨h1, fun x hx => by have := h2 x hx; omega⟩
      · obtain ⟨h1, h2⟩ := gsets_mem.mp hg'
        refine ⟨List.pairwise_append.mpr ⟨h1, by simp, fun a ha b hb => ?_⟩, fun x hx => ?_⟩
        · rw [List.mem_singleton] at hb
          have := h2 a ha
          omega
        · rcases List.mem_append.mp hx with hx | hx
          · have := h2 x hx; omega
          · rw [List.mem_singleton] at hx; omega
    · rintro ⟨h1, h2⟩
      by_cases hk : (k : Int) ∈ g
      · refine .inr ?_
        rcases last_or g with rfl | ⟨g', y, rfl⟩
        · simp at hk
        · obtain ⟨p1, p2, p3⟩ := List.pairwise_append.mp h1
          have hy : y = (k : Int) := by
            rcases List.mem_append.mp hk with h | h
            · have := p3 _ h y (by simp)
              have := h2 y (by simp)
              omega
            · exact (List.mem_singleton.mp h).symm
          subst hy
          refine ⟨g', gsets_mem.mpr ⟨p1, fun x hx => ?_⟩, rfl⟩
          have := p3 x hx (k : Int) (by simp)
          have := h2 x (by simp [hx])
          omega
      · refine .inl ⟨h1, fun x hx => ?_⟩
        have := h2 x hx
        have : x ≠ (k : Int) := fun e => hk (e ▸ hx)
        omega
theorem gsets_nodup : ∀ k, (gsets k).Nodup
  | 0 => by simp [gsets]
  | k + 1 => by
    show (gsets k ++ (gsets k).map fun g => g ++ [(k : Int)]).Nodup
    refine List.nodup_append.mpr ⟨gsets_nodup k, ?_, fun a ha b hb e => ?_⟩
    · refine List.pairwise_map.mpr ((gsets_nodup k).imp fun {a b} h e => h ?_)
      exact List.append_cancel_right e
    · obtain ⟨g', _, rfl⟩ := List.mem_map.mp hb
      have := (gsets_mem.mp ha).2 (k : Int) (by rw [e]; simp)
      omega
theorem lex_tri (a b : List Int) : a < b ∨ a = b ∨ b < a := by
  induction a generalizing b with
  | nil => cases b with
    | nil => exact .inr (.inl rfl)
    | cons y ys => exact .inl (by simp)
  | cons x xs ih =>
    cases b with
    | nil => exact .inr (.inr (by simp))
    | cons y ys =>
      rw [List.cons_lt_cons_iff, List.cons_lt_cons_iff]
      rcases Int.lt_trichotomy x y with h | h | h
      · exact .inl (.inl h)
      · subst h
        rcases ih ys with h | h | h
        · exact .inl (.inr ⟨rfl, h⟩)
        · exact .inr (.inl (by rw [h]))
        · exact .inr (.inr (.inr ⟨rfl, h⟩))
      · exact .inr (.inr (.inl h))
theorem lex_asymm {a b : List Int} (h : a < b) (h' : b < a) : False := by
  induction a generalizing b with
  | nil => simp at h'
  | cons x xs ih =>
    cases b with
    | nil => simp at h
    | cons y ys =>
      rw [List.cons_lt_cons_iff] at h h'
      rcases h with h | ⟨rfl, h⟩
      · rcases h' with h' | ⟨rfl, h'⟩ <;> omega
      · rcases h' with h' | ⟨_, h'⟩
        · omega
        · exact ih h h'
theorem lex_one : ∀ {xs ys : List (List Int)}, xs.Pairwise (· < ·) → ys.Pairwise (· < ·) → (∀ c, c ∈ xs ↔ c ∈ ys) → xs = ys
  | [], [], _, _, _ => rfl
  | [], y :: ys, _, _, h => absurd ((h y).mpr (by simp)) (by simp)
  | x :: xs, [], _, _, h => absurd ((h x).mp (by simp)) (by simp)
  | x :: xs, y :: ys, hx, hy, h => by
    obtain ⟨x1, x2⟩ := List.pairwise_cons.mp hx
    obtain ⟨y1, y2⟩ := List.pairwise_cons.mp hy
    have e : x = y := by
      rcases List.mem_cons.mp ((h x).mp (by simp)) with a | a
      · exact a
      · rcases List.mem_cons.mp ((h y).mpr (by simp)) with b | b
        · exact b.symm
        · exact (lex_asymm (x1 _ b) (y1 _ a)).elim
    subst e
    rw [lex_one x2 y2 fun c => ?_]
    constructor
    · intro hc
      rcases List.mem_cons.mp ((h c).mp (List.mem_cons_of_mem _ hc)) with a | a
      · have := x1 _ hc
        rw [a] at this
        exact (lex_asymm this this).elim
      · exact a
    · intro hc
      rcases List.mem_cons.mp ((h c).mpr (List.mem_cons_of_mem _ hc)) with a | a
      · have := y1 _ hc
        rw [a] at this
        exact (lex_asymm this this).elim
      · exact a
theorem dataLt_TI (a b : List Int) : dataLt (TI a) (TI b) = decide (a < b) := by
  show dataLt (.tuple (a.map .int)) (.tuple (b.map .int)) = _
  rw [dataLt_tuple]
  exact dataLt_ints a b
theorem alike_TIs (gs : List (List Int)) : AllAlike (gs.map TI) := fun d hd d' hd' => by
  obtain ⟨a, _, rfl⟩ := List.mem_map.mp hd
  obtain ⟨b, _, rfl⟩ := List.mem_map.mp hd'
  show alike (.tuple (a.map .int)) (.tuple (b.map .int)) = true
  rw [alike]
  exact PySem.W.alike_ints a b
theorem tup_TIs (gs : List (List Int)) : ∀ d ∈ gs.map TI, ∃ r, d = PyData.tuple r := fun d hd => by
  obtain ⟨a, _, rfl⟩ := List.mem_map.mp hd
  exact ⟨_, rfl⟩
theorem depth_TIs (gs : List (List Int)) : ∀ d ∈ gs.map TI, d.depth ≤ 60 := fun d hd => by
  obtain ⟨a, _, rfl⟩ := List.mem_map.mp hd
  show PyData.depth (.tuple (a.map .int)) ≤ 60
  simp only [PyData.depth]
  rw [PySem.W.depth_ints]
  decide
theorem sorted_TIs {gs : List (List Int)} {ys : List D} (nd : gs.Nodup) (h : sortedBy (gs.map TI) ys) : ∃ zs : List (List Int), ys = zs.map TI ∧ zs.Perm gs ∧ zs.Pairwise (· < ·) := by
  obtain ⟨zs, rfl, p⟩ := perm_map h.1
  refine ⟨zs, rfl, p, ?_⟩
  have h1 := List.pairwise_map.mp h.2
  have h2 : zs.Nodup := p.nodup_iff.mpr nd
  refine List.Pairwise.imp₂ (fun {a b} q n => ?_) h1 h2
  rw [dataLt_TI] at q
  have q := of_decide_eq_false q
  rcases lex_tri a b with h | h | h
  · exact h
  · exact absurd h n
  · exact absurd h q
theorem Sm.sets {n : Nat} {gs : List (List Int)} (h : gs.length ≤ 1000) (hg : ∀ g ∈ gs, g.length ≤ 1000) : Sm 3 (LT_ gs) := ⟨by rw [List.length_map]; omega, fun x hx => by
  obtain ⟨g, hm, rfl⟩ := List.mem_map.mp hx
  exact Sm.tints (by have := hg g hm; omega)⟩
theorem asc_len {n : Nat} {g : List Int} (h : Asc n g) : g.length ≤ n := nodup_len n g (h.1.imp fun h => by omega) h.2
theorem eqv_LT (xs ys : List (List Int)) : PyData.eqv (LT_ xs) (LT_ ys) = decide (xs = ys) := by
  show PyData.eqv (.list (xs.map TI)) (.list (ys.map TI)) = _
  rw [PyData.eqv]
  exact eqvAll_map (fun x y => eqv_TI x y) xs ys
/-- the loop that makes the sets -/
theorem s_l_sets {n : Nat} {Φ : Ent → Prop} (hn : n ≤ 6) (k : ∀ gs, gs.Pairwise (· < ·) → (∀ g, g ∈ gs ↔ Asc n g) → gs.length ≤ 64 → 0 < gs.length → Φ (.d (LT_ gs))) : p_l_sets [.d (.int n)] Φ := by
  unfold p_l_sets
  rw [shut_eq]
  refine ⟨rfl, ?_⟩
  refine seq ?_
  simp only [pFun, pIxO, pLenO, pPopO, pInsO, pStO, pSlS, qRepT, pStar, qSortT, qInD, pSortSet, pRng3, qMinP, pPar3, pDNew, pDPut, pSortDict, pTupR, pLstR, pRevL, pRet, pRetN, pNext, pAsg, pAsgL, pAsgG, pPar, pAug, pApp, pFz, pFor, pGN, pGNil, pGCons, pGT, pVar, pC, pOp, pUn, pFrz, pNil, pCons, pDs, pTup, pLst, pNotT, pChain, pBl, pBlL, pLc, pYes, pCall, pSeqI, pRng1, pRng2, pEnum, pZip, pEZ, pSl, pNoPart, pPart, pIsa1, pIsa2, pCatL, x_Ite, x_AndT, x_OrT, x_Tst, x_AndV, x_OrV, x_NotV, boolD_d, elD_d, x_IxL, x_IxT, qII, qIC, qAdd, q1C, q2C, qLen, qTuple, qListL, qSum, qAll, qMin2, qMax2, qAbs, qInt, qEq, qNe, qIs, qIsNot, qIn, qNeg, qCatL, qSort, sqD, flatD, dIsN, wipeE, List.getElem?_cons_zero, List.getElem?_cons_succ, List.set_cons_zero, List.set_cons_succ, List.cons_append, List.nil_append, List.replicate_succ, List.replicate_zero, List.length_cons, List.length_nil, List.length_map, decide_eq_true_eq, decide_eq_false_iff_not, Bool.not_eq_true', Bool.not_eq_false', Bool.true_eq_false, Bool.false_eq_true, true_implies, false_implies, implies_true, true_and, and_true, Nat.reduceSub, Nat.reduceAdd, reduceCtorEq, Option.map_some, Option.map_none, if_true, if_false, Option.some.injEq, Int.toNat_natCast]
  refine ⟨by decide, by decide, ?_⟩
  refine seq ?_
  simp only [pFun, pIxO, pLenO, pPopO, pInsO, pStO, pSlS, qRepT, pStar, qSortT, qInD, pSortSet, pRng3, qMinP, pPar3, pDNew, pDPut, pSortDict, pTupR, pLstR, pRevL, pRet, pRetN, pNext, pAsg, pAsgL, pAsgG, pPar, pAug, pApp, pFz, pFor, pGN, pGNil, pGCons, pGT, pVar, pC, pOp, pUn, pFrz, pNil, pCons, pDs, pTup, pLst, pNotT, pChain, pBl, pBlL, pLc, pYes, pCall, pSeqI, pRng1, pRng2, pEnum, pZip, pEZ, pSl, pNoPart, pPart, pIsa1, pIsa2, pCatL, x_Ite, x_AndT, x_OrT, x_Tst, x_AndV, x_OrV, x_NotV, boolD_d, elD_d, x_IxL, x_IxT, qII, qIC, qAdd, q1C, q2C, qLen, qTuple, qListL, qSum, qAll, qMin2, qMax2, qAbs, qInt, qEq, qNe, qIs, qIsNot, qIn, qNeg, qCatL, qSort, sqD, flatD, dIsN, wipeE, List.getElem?_cons_zero, List.getElem?_cons_succ, List.set_cons_zero, List.set_cons_succ, List.cons_append, List.nil_append, List.replicate_succ, List.replicate_zero, List.length_cons, List.length_nil, List.length_map, decide_eq_true_eq, decide_eq_false_iff_not, Bool.not_eq_true', Bool.not_eq_false', Bool.true_eq_false, Bool.false_eq_true, true_implies, false_implies, implies_true, true_and, and_true, Nat.reduceSub, Nat.reduceAdd, reduceCtorEq, Option.map_some, Option.map_none, if_true, if_false, Option.some.injEq, Int.toNat_natCast]
  refine ⟨by omega, by omega, ?_⟩
  rw [rngD_map]
  refine for_rule (fun ls _ ρ => ∃ a b, ρ = [.d (.int n), .d (LT_ (gsets ls.length)), a, b]) ⟨_, _, rfl⟩ ?_ ?_
  · rintro ρ ⟨a, b, rfl⟩
    simp only [pFun, pIxO, pLenO, pPopO, pInsO, pStO, pSlS, qRepT, pStar, qSortT, qInD, pSortSet, pRng3, qMinP, pPar3, pDNew, pDPut, pSortDict, pTupR, pLstR, pRevL, pRet, pRetN, pNext, pAsg, pAsgL, pAsgG, pPar, pAug, pApp, pFz, pFor, pGN, pGNil, pGCons, pGT, pVar, pC, pOp, pUn, pFrz, pNil, pCons, pDs, pTup, pLst, pNotT, pChain, pBl, pBlL, pLc, pYes, pCall, pSeqI, pRng1, pRng2, pEnum, pZip, pEZ, pSl, pNoPart, pPart, pIsa1, pIsa2, pCatL, x_Ite, x_AndT, x_OrT, x_Tst, x_AndV, x_OrV, x_NotV, boolD_d, elD_d, x_IxL, x_IxT, qII, qIC, qAdd, q1C, q2C, qLen, qTuple, qListL, qSum, qAll, qMin2, qMax2, qAbs, qInt, qEq, qNe, qIs, qIsNot, qIn, qNeg, qCatL, qSort, sqD, flatD, dIsN, wipeE, List.getElem?_cons_zero, List.getElem?_cons_succ, List.set_cons_zero, List.set_cons_succ, List.cons_append, List.nil_append, List.replicate_succ, List.replicate_zero, List.length_cons, List.length_nil, List.length_map, decide_eq_true_eq, decide_eq_false_iff_not, Bool.not_eq_true', Bool.not_eq_false', Bool.true_eq_false, Bool.false_eq_true, true_implies, false_implies, implies_true, true_and, and_true, Nat.reduceSub, Nat.reduceAdd, reduceCtorEq, Option.map_some, Option.map_none, if_true, if_false, Option.some.injEq, Int.toNat_natCast]
    rw [List.length_range]
    refine ⟨alike_TIs _, tup_TIs _, depth_TIs _, fun ys hys => ?_⟩
    obtain ⟨zs, rfl, hp, hw⟩ := sorted_TIs (gsets_nodup _) hys
    have l2 : (gsets n).length ≤ 64 := by rw [gsets_len]; exact Nat.le_trans (Nat.pow_le_pow_right (by decide) hn) (by decide)
    have l0 : 0 < (gsets n).length := by rw [gsets_len]; exact Nat.pow_pos (by decide)
    exact k zs hw (fun g => hp.mem_iff.trans gsets_mem) (by rw [hp.length_eq]; exact l2) (by rw [hp.length_eq]; exact l0)
  · rintro ls i rs ρ e ⟨a, b, rfl⟩ Ψ hΨ
    have hi := nth_split e
    have hlt : ls.length < n := by
      have := (List.getElem?_eq_some_iff.mp hi).1
      simpa using this
    rw [List.getElem?_range (by simpa using hlt)] at hi
    have hi := Option.some.inj hi
    subst hi
    have l2 : (gsets ls.length).length ≤ 64 := by rw [gsets_len]; exact Nat.le_trans (Nat.pow_le_pow_right (by decide) (show ls.length ≤ 6 by omega)) (by decide)
    simp only [pFun, pIxO, pLenO, pPopO, pInsO, pStO, pSlS, qRepT, pStar, qSortT, qInD, pSortSet, pRng3, qMinP, pPar3, pDNew, pDPut, pSortDict, pTupR, pLstR, pRevL, pRet, pRetN, pNext, pAsg, pAsgL, pAsgG, pPar, pAug, pApp, pFz, pFor, pGN, pGNil, pGCons, pGT, pVar, pC, pOp, pUn, pFrz, pNil, pCons, pDs, pTup, pLst, pNotT, pChain, pBl, pBlL, pLc, pYes, pCall, pSeqI, pRng1, pRng2, pEnum, pZip, pEZ, pSl, pNoPart, pPart, pIsa1, pIsa2, pCatL, x_Ite, x_AndT, x_OrT, x_Tst, x_AndV, x_OrV, x_NotV, boolD_d, elD_d, x_IxL, x_IxT, qII, qIC, qAdd, q1C, q2C, qLen, qTuple, qListL, qSum, qAll, qMin2, qMax2, qAbs, qInt, qEq, qNe, qIs, qIsNot, qIn, qNeg, qCatL, qSort, sqD, flatD, dIsN, wipeE, List.getElem?_cons_zero, List.getElem?_cons_succ, List.set_cons_zero, List.set_cons_succ, List.cons_append, List.nil_append, List.replicate_succ, List.replicate_zero, List.length_cons, List.length_nil, List.length_map, decide_eq_true_eq, decide_eq_false_iff_not, Bool.not_eq_true', Bool.not_eq_false', Bool.true_eq_false, Bool.false_eq_true, true_implies, false_implies, implies_true, true_and, and_true, Nat.reduceSub, Nat.reduceAdd, reduceCtorEq, Option.map_some, Option.map_none, if_true, if_false, Option.some.injEq, Int.toNat_natCast]
    refine ⟨by omega, ?_⟩
    refine lc_map (F := TI) (G := TI) (fun g => g ++ [(ls.length : Int)]) (fun g hg Ψ hΨ => ?_) ?_
    · have := asc_len (gsets_mem.mp hg)
      simp only [pFun, pIxO, pLenO, pPopO, pInsO, pStO, pSlS, qRepT, pStar, qSortT, qInD, pSortSet, pRng3, qMinP, pPar3, pDNew, pDPut, pSortDict, pTupR, pLstR, pRevL, pRet, pRetN, pNext, pAsg, pAsgL, pAsgG, pPar, pAug, pApp, pFz, pFor, pGN, pGNil, pGCons, pGT, pVar, pC, pOp, pUn, pFrz, pNil, pCons, pDs, pTup, pLst, pNotT, pChain, pBl, pBlL, pLc, pYes, pCall, pSeqI, pRng1, pRng2, pEnum, pZip, pEZ, pSl, pNoPart, pPart, pIsa1, pIsa2, pCatL, x_Ite, x_AndT, x_OrT, x_Tst, x_AndV, x_OrV, x_NotV, boolD_d, elD_d, x_IxL, x_IxT, qII, qIC, qAdd, q1C, q2C, qLen, qTuple, qListL, qSum, qAll, qMin2, qMax2, qAbs, qInt, qEq, qNe, qIs, qIsNot, qIn, qNeg, qCatL, qSort, sqD, flatD, dIsN, wipeE, List.getElem?_cons_zero, List.getElem?_cons_succ, List.set_cons_zero, List.set_cons_succ, List.cons_append, List.nil_append, List.replicate_succ, List.replicate_zero, List.length_cons, List.length_nil, List.length_map, decide_eq_true_eq, decide_eq_false_iff_not, Bool.not_eq_true', Bool.not_eq_false', Bool.true_eq_false, Bool.false_eq_true, true_implies, false_implies, implies_true, true_and, and_true, Nat.reduceSub, Nat.reduceAdd, reduceCtorEq, Option.map_some, Option.map_none, if_true, if_false, Option.some.injEq, Int.toNat_natCast]
      refine ⟨by decide, by omega, ?_⟩
      simp only [TI, List.map_append] at hΨ
      rw [show (0 : Int) + (ls.length : Int) = (ls.length : Int) by omega]
      exact hΨ
    refine ⟨by simp only [List.length_map]; omega, ?_⟩
    have := hΨ [.d (.int n), .d (LT_ (gsets (ls.length + 1))), .d (.int (0 + (ls.length : Int))), b] ⟨_, _, by rw [List.length_append]; rfl⟩
    simp only [LT_, gsets, List.map_append] at this
    exact this
theorem pDs_map : ∀ (xs : List D) (Φ : List D → Prop), pDs (xs.map Ent.d) Φ = Φ xs
  | [], _ => rfl
  | x :: xs, Φ => pDs_map xs fun ys => Φ (x :: ys)
theorem s_wrong_directions {ps : List Int} {w : Int} {Φ : Ent → Prop} (hn : ps.length ≤ 6) (hp : Pos ps) (hw : 0 ≤ w) (hw2 : w ≤ 9)
    (k : ∀ gs, gs.Pairwise (· < ·) → (∀ g, g ∈ gs ↔ Asc ps.length g ∧ ∃ c, Fits none w (mirL (inS g) ps) c) → gs.length ≤ 64 → Φ (.d (LT_ gs))) : p_wrong_directions [.d (TI ps), .d (.int w)] Φ := by
  unfold p_wrong_directions
  rw [shut_eq]
  refine ⟨rfl, ?_⟩
  refine seq ?_
  simp only [pFun, pIxO, pLenO, pPopO, pInsO, pStO, pSlS, qRepT, pStar, qSortT, qInD, pSortSet, pRng3, qMinP, pPar3, pDNew, pDPut, pSortDict, pTupR, pLstR, pRevL, pRet, pRetN, pNext, pAsg, pAsgL, pAsgG, pPar, pAug, pApp, pFz, pFor, pGN, pGNil, pGCons, pGT, pVar, pC, pOp, pUn, pFrz, pNil, pCons, pDs, pTup, pLst, pNotT, pChain, pBl, pBlL, pLc, pYes, pCall, pSeqI, pRng1, pRng2, pEnum, pZip, pEZ, pSl, pNoPart, pPart, pIsa1, pIsa2, pCatL, x_Ite, x_AndT, x_OrT, x_Tst, x_AndV, x_OrV, x_NotV, boolD_d, elD_d, x_IxL, x_IxT, qII, qIC, qAdd, q1C, q2C, qLen, qTuple, qListL, qSum, qAll, qMin2, qMax2, qAbs, qInt, qEq, qNe, qIs, qIsNot, qIn, qNeg, qCatL, qSort, sqD, flatD, dIsN, wipeE, List.getElem?_cons_zero, List.getElem?_cons_succ, List.set_cons_zero, List.set_cons_succ, List.cons_append, List.nil_append, List.replicate_succ, List.replicate_zero, List.length_cons, List.length_nil, List.length_map, decide_eq_true_eq, decide_eq_false_iff_not, Bool.not_eq_true', Bool.not_eq_false', Bool.true_eq_false, Bool.false_eq_true, true_implies, false_implies, implies_true, true_and, and_true, Nat.reduceSub, Nat.reduceAdd, reduceCtorEq, Option.map_some, Option.map_none, if_true, if_false, Option.some.injEq, Int.toNat_natCast]
  refine ⟨by decide, by decide, ?_⟩
  refine seq ?_
  simp only [pFun, pIxO, pLenO, pPopO, pInsO, pStO, pSlS, qRepT, pStar, qSortT, qInD, pSortSet, pRng3, qMinP, pPar3, pDNew, pDPut, pSortDict, pTupR, pLstR, pRevL, pRet, pRetN, pNext, pAsg, pAsgL, pAsgG, pPar, pAug, pApp, pFz, pFor, pGN, pGNil, pGCons, pGT, pVar, pC, pOp, pUn, pFrz, pNil, pCons, pDs, pTup, pLst, pNotT, pChain, pBl, pBlL, pLc, pYes, pCall, pSeqI, pRng1, pRng2, pEnum, pZip, pEZ, pSl, pNoPart, pPart, pIsa1, pIsa2, pCatL, x_Ite, x_AndT, x_OrT, x_Tst, x_AndV, x_OrV, x_NotV, boolD_d, elD_d, x_IxL, x_IxT, qII, qIC, qAdd, q1C, q2C, qLen, qTuple, qListL, qSum, qAll, qMin2, qMax2, qAbs, qInt, qEq, qNe, qIs, qIsNot, qIn, qNeg, qCatL, qSort, sqD, flatD, dIsN, wipeE, List.getElem?_cons_zero, List.getElem?_cons_succ, List.set_cons_zero, List.set_cons_succ, List.cons_append, List.nil_append, List.replicate_succ, List.replicate_zero, List.length_cons, List.length_nil, List.length_map, decide_eq_true_eq, decide_eq_false_iff_not, Bool.not_eq_true', Bool.not_eq_false', Bool.true_eq_false, Bool.false_eq_true, true_implies, false_implies, implies_true, true_and, and_true, Nat.reduceSub, Nat.reduceAdd, reduceCtorEq, Option.map_some, Option.map_none, if_true, if_false, Option.some.injEq, Int.toNat_natCast]
  refine ⟨by omega, by omega, ?_⟩
  rw [rngD_map]
  refine for_rule (fun ls _ ρ => ∃ a b, ρ = [.d (TI ps), .d (.int w), .d (LT_ (gsets ls.length)), a, b]) ⟨_, _, rfl⟩ ?_ ?_
  · rintro ρ ⟨a, b, rfl⟩
    simp only [pFun, pIxO, pLenO, pPopO, pInsO, pStO, pSlS, qRepT, pStar, qSortT, qInD, pSortSet, pRng3, qMinP, pPar3, pDNew, pDPut, pSortDict, pTupR, pLstR, pRevL, pRet, pRetN, pNext, pAsg, pAsgL, pAsgG, pPar, pAug, pApp, pFz, pFor, pGN, pGNil, pGCons, pGT, pVar, pC, pOp, pUn, pFrz, pNil, pCons, pDs, pTup, pLst, pNotT, pChain, pBl, pBlL, pLc, pYes, pCall, pSeqI, pRng1, pRng2, pEnum, pZip, pEZ, pSl, pNoPart, pPart, pIsa1, pIsa2, pCatL, x_Ite, x_AndT, x_OrT, x_Tst, x_AndV, x_OrV, x_NotV, boolD_d, elD_d, x_IxL, x_IxT, qII, qIC, qAdd, q1C, q2C, qLen, qTuple, qListL, qSum, qAll, qMin2, qMax2, qAbs, qInt, qEq, qNe, qIs, qIsNot, qIn, qNeg, qCatL, qSort, sqD, flatD, dIsN, wipeE, List.getElem?_cons_zero, List.getElem?_cons_succ, List.set_cons_zero, List.set_cons_succ, List.cons_append, List.nil_append, List.replicate_succ, List.replicate_zero, List.length_cons, List.length_nil, List.length_map, decide_eq_true_eq, decide_eq_false_iff_not, Bool.not_eq_true', Bool.not_eq_false', Bool.true_eq_false, Bool.false_eq_true, true_implies, false_implies, implies_true, true_and, and_true, Nat.reduceSub, Nat.reduceAdd, reduceCtorEq, Option.map_some, Option.map_none, if_true, if_false, Option.some.injEq, Int.toNat_natCast]
    rw [List.length_range]
    refine ⟨alike_TIs _, tup_TIs _, depth_TIs _, fun ys hys => ?_⟩
    obtain ⟨zs, rfl, hp', hw'⟩ := sorted_TIs (gsets_nodup _) hys
    have l2 : (gsets ps.length).length ≤ 64 := by rw [gsets_len]; exact Nat.le_trans (Nat.pow_le_pow_right (by decide) hn) (by decide)
    have zl : zs.length ≤ 64 := by
      have := hp'.length_eq
      omega
    have zm : ∀ g, g ∈ zs ↔ Asc ps.length g := fun g => hp'.mem_iff.trans gsets_mem
    try simp only [pFun, pIxO, pLenO, pPopO, pInsO, pStO, pSlS, qRepT, pStar, qSortT, qInD, pSortSet, pRng3, qMinP, pPar3, pDNew, pDPut, pSortDict, pTupR, pLstR, pRevL, pRet, pRetN, pNext, pAsg, pAsgL, pAsgG, pPar, pAug, pApp, pFz, pFor, pGN, pGNil, pGCons, pGT, pVar, pC, pOp, pUn, pFrz, pNil, pCons, pDs, pTup, pLst, pNotT, pChain, pBl, pBlL, pLc, pYes, pCall, pSeqI, pRng1, pRng2, pEnum, pZip, pEZ, pSl, pNoPart, pPart, pIsa1, pIsa2, pCatL, x_Ite, x_AndT, x_OrT, x_Tst, x_AndV, x_OrV, x_NotV, boolD_d, elD_d, x_IxL, x_IxT, qII, qIC, qAdd, q1C, q2C, qLen, qTuple, qListL, qSum, qAll, qMin2, qMax2, qAbs, qInt, qEq, qNe, qIs, qIsNot, qIn, qNeg, qCatL, qSort, sqD, flatD, dIsN, wipeE, List.getElem?_cons_zero, List.getElem?_cons_succ, List.set_cons_zero, List.set_cons_succ, List.cons_append, List.nil_append, List.replicate_succ, List.replicate_zero, List.length_cons, List.length_nil, List.length_map, decide_eq_true_eq, decide_eq_false_iff_not, Bool.not_eq_true', Bool.not_eq_false', Bool.true_eq_false, Bool.false_eq_true, true_implies, false_implies, implies_true, true_and, and_true, Nat.reduceSub, Nat.reduceAdd, reduceCtorEq, Option.map_some, Option.map_none, if_true, if_false, Option.some.injEq, Int.toNat_natCast]
    refine ⟨by omega, ?_⟩
    refine lc_filter (F := TI) (G := TI) (fun g => dc (∃ c, Fits none w (mirL (inS g) ps) c)) (fun g hg Ψ hΨ => ?_) ?_
    · simp only [pFun, pIxO, pLenO, pPopO, pInsO, pStO, pSlS, qRepT, pStar, qSortT, qInD, pSortSet, pRng3, qMinP, pPar3, pDNew, pDPut, pSortDict, pTupR, pLstR, pRevL, pRet, pRetN, pNext, pAsg, pAsgL, pAsgG, pPar, pAug, pApp, pFz, pFor, pGN, pGNil, pGCons, pGT, pVar, pC, pOp, pUn, pFrz, pNil, pCons, pDs, pTup, pLst, pNotT, pChain, pBl, pBlL, pLc, pYes, pCall, pSeqI, pRng1, pRng2, pEnum, pZip, pEZ, pSl, pNoPart, pPart, pIsa1, pIsa2, pCatL, x_Ite, x_AndT, x_OrT, x_Tst, x_AndV, x_OrV, x_NotV, boolD_d, elD_d, x_IxL, x_IxT, qII, qIC, qAdd, q1C, q2C, qLen, qTuple, qListL, qSum, qAll, qMin2, qMax2, qAbs, qInt, qEq, qNe, qIs, qIsNot, qIn, qNeg, qCatL, qSort, sqD, flatD, dIsN, wipeE, List.getElem?_cons_zero, List.getElem?_cons_succ, List.set_cons_zero, List.set_cons_succ, List.cons_append, List.nil_append, List.replicate_succ, List.replicate_zero, List.length_cons, List.length_nil, List.length_map, decide_eq_true_eq, decide_eq_false_iff_not, Bool.not_eq_true', Bool.not_eq_false', Bool.true_eq_false, Bool.false_eq_true, true_implies, false_implies, implies_true, true_and, and_true, Nat.reduceSub, Nat.reduceAdd, reduceCtorEq, Option.map_some, Option.map_none, if_true, if_false, Option.some.injEq, Int.toNat_natCast]
      refine s_mirrored (by omega) ?_
      refine s_counts (by rw [mirL_len]; exact hn) (mirL_pos hp) hw hw2 fun fs hR hL => ?_
      simp only [pFun, pIxO, pLenO, pPopO, pInsO, pStO, pSlS, qRepT, pStar, qSortT, qInD, pSortSet, pRng3, qMinP, pPar3, pDNew, pDPut, pSortDict, pTupR, pLstR, pRevL, pRet, pRetN, pNext, pAsg, pAsgL, pAsgG, pPar, pAug, pApp, pFz, pFor, pGN, pGNil, pGCons, pGT, pVar, pC, pOp, pUn, pFrz, pNil, pCons, pDs, pTup, pLst, pNotT, pChain, pBl, pBlL, pLc, pYes, pCall, pSeqI, pRng1, pRng2, pEnum, pZip, pEZ, pSl, pNoPart, pPart, pIsa1, pIsa2, pCatL, x_Ite, x_AndT, x_OrT, x_Tst, x_AndV, x_OrV, x_NotV, boolD_d, elD_d, x_IxL, x_IxT, qII, qIC, qAdd, q1C, q2C, qLen, qTuple, qListL, qSum, qAll, qMin2, qMax2, qAbs, qInt, qEq, qNe, qIs, qIsNot, qIn, qNeg, qCatL, qSort, sqD, flatD, dIsN, wipeE, List.getElem?_cons_zero, List.getElem?_cons_succ, List.set_cons_zero, List.set_cons_succ, List.cons_append, List.nil_append, List.replicate_succ, List.replicate_zero, List.length_cons, List.length_nil, List.length_map, decide_eq_true_eq, decide_eq_false_iff_not, Bool.not_eq_true', Bool.not_eq_false', Bool.true_eq_false, Bool.false_eq_true, true_implies, false_implies, implies_true, true_and, and_true, Nat.reduceSub, Nat.reduceAdd, reduceCtorEq, Option.map_some, Option.map_none, if_true, if_false, Option.some.injEq, Int.toNat_natCast]
      refine ⟨by decide, (Sm.pairs (xs := fs) (by omega)).shp (by decide), shp_nil, ?_⟩
      have ne : PyData.eqv (LR fs) (.list []) = decide (fs = []) := by
        rw [LR, eqv_nil]
        simp
      rw [ne]
      have e : (∃ c, Fits none w (mirL (inS g) ps) c) ↔ ¬ fs = [] := by
        rw [rng_nil hR]
        exact ⟨fun ⟨c, hc⟩ h => h c hc, fun h => Classical.byContradiction fun hno => h fun c hc => hno ⟨c, hc⟩⟩
      refine ⟨fun h2 => ?_, fun h2 => ?_⟩
      · rw [if_pos (dc_iff.mpr (e.mpr (of_decide_eq_false h2)))] at hΨ; exact hΨ
      · rw [if_neg (fun z => (e.mp (dc_iff.mp z)) (of_decide_eq_true h2))] at hΨ; exact hΨ
    refine k (zs.filter fun g => dc (∃ c, Fits none w (mirL (inS g) ps) c)) (List.Pairwise.filter _ hw') (fun g => ?_) (Nat.le_trans (List.length_filter_le _ _) zl)
    rw [List.mem_filter, zm, dc_iff]
  · rintro ls i rs ρ e ⟨a, b, rfl⟩ Ψ hΨ
    have hi := nth_split e
    have hlt : ls.length < ps.length := by
      have := (List.getElem?_eq_some_iff.mp hi).1
      simpa using this
    rw [List.getElem?_range (by simpa using hlt)] at hi
    have hi := Option.some.inj hi
    subst hi
    have l2 : (gsets ls.length).length ≤ 64 := by rw [gsets_len]; exact Nat.le_trans (Nat.pow_le_pow_right (by decide) (show ls.length ≤ 6 by omega)) (by decide)
    simp only [pFun, pIxO, pLenO, pPopO, pInsO, pStO, pSlS, qRepT, pStar, qSortT, qInD, pSortSet, pRng3, qMinP, pPar3, pDNew, pDPut, pSortDict, pTupR, pLstR, pRevL, pRet, pRetN, pNext, pAsg, pAsgL, pAsgG, pPar, pAug, pApp, pFz, pFor, pGN, pGNil, pGCons, pGT, pVar, pC, pOp, pUn, pFrz, pNil, pCons, pDs, pTup, pLst, pNotT, pChain, pBl, pBlL, pLc, pYes, pCall, pSeqI, pRng1, pRng2, pEnum, pZip, pEZ, pSl, pNoPart, pPart, pIsa1, pIsa2, pCatL, x_Ite, x_AndT, x_OrT, x_Tst, x_AndV, x_OrV, x_NotV, boolD_d, elD_d, x_IxL, x_IxT, qII, qIC, qAdd, q1C, q2C, qLen, qTuple, qListL, qSum, qAll, qMin2, qMax2, qAbs, qInt, qEq, qNe, qIs, qIsNot, qIn, qNeg, qCatL, qSort, sqD, flatD, dIsN, wipeE, List.getElem?_cons_zero, List.getElem?_cons_succ, List.set_cons_zero, List.set_cons_succ, List.cons_append, List.nil_append, List.replicate_succ, List.replicate_zero, List.length_cons, List.length_nil, List.length_map, decide_eq_true_eq, decide_eq_false_iff_not, Bool.not_eq_true', Bool.not_eq_false', Bool.true_eq_false, Bool.false_eq_true, true_implies, false_implies, implies_true, true_and, and_true, Nat.reduceSub, Nat.reduceAdd, reduceCtorEq, Option.map_some, Option.map_none, if_true, if_false, Option.some.injEq, Int.toNat_natCast]
    refine ⟨by omega, ?_⟩
    refine lc_map (F := TI) (G := TI) (fun g => g ++ [(ls.length : Int)]) (fun g hg Ψ hΨ => ?_) ?_
    · have := asc_len (gsets_mem.mp hg)
      simp only [pFun, pIxO, pLenO, pPopO, pInsO, pStO, pSlS, qRepT, pStar, qSortT, qInD, pSortSet, pRng3, qMinP, pPar3, pDNew, pDPut, pSortDict, pTupR, pLstR, pRevL, pRet, pRetN, pNext, pAsg, pAsgL, pAsgG, pPar, pAug, pApp, pFz, pFor, pGN, pGNil, pGCons, pGT, pVar, pC, pOp, pUn, pFrz, pNil, pCons, pDs, pTup, pLst, pNotT, pChain, pBl, pBlL, pLc, pYes, pCall, pSeqI, pRng1, pRng2, pEnum, pZip, pEZ, pSl, pNoPart, pPart, pIsa1, pIsa2, pCatL, x_Ite, x_AndT, x_OrT, x_Tst, x_AndV, x_OrV, x_NotV, boolD_d, elD_d, x_IxL, x_IxT, qII, qIC, qAdd, q1C, q2C, qLen, qTuple, qListL, qSum, qAll, qMin2, qMax2, qAbs, qInt, qEq, qNe, qIs, qIsNot, qIn, qNeg, qCatL, qSort, sqD, flatD, dIsN, wipeE, List.getElem?_cons_zero, List.getElem?_cons_succ, List.set_cons_zero, List.set_cons_succ, List.cons_append, List.nil_append, List.replicate_succ, List.replicate_zero, List.length_cons, List.length_nil, List.length_map, decide_eq_true_eq, decide_eq_false_iff_not, Bool.not_eq_true', Bool.not_eq_false', Bool.true_eq_false, Bool.false_eq_true, true_implies, false_implies, implies_true, true_and, and_true, Nat.reduceSub, Nat.reduceAdd, reduceCtorEq, Option.map_some, Option.map_none, if_true, if_false, Option.some.injEq, Int.toNat_natCast]
      rw [show List.map Ent.d (g.map PyData.int) ++ [Ent.d (.int (0 + (ls.length : Int)))] = (g.map PyData.int ++ [PyData.int (0 + (ls.length : Int))]).map Ent.d by simp, pDs_map]
      refine ⟨by simp; omega, ?_⟩
      simp only [TI, List.map_append] at hΨ
      rw [show (0 : Int) + (ls.length : Int) = (ls.length : Int) by omega]
      exact hΨ
    refine ⟨by simp only [List.length_map]; omega, ?_⟩
    have := hΨ [.d (TI ps), .d (.int w), .d (LT_ (gsets (ls.length + 1))), .d (.int (0 + (ls.length : Int))), b] ⟨_, _, by rw [List.length_append]; rfl⟩
    simp only [LT_, gsets, List.map_append] at this
    exact this
end Law

set_option Elab.async false
set_option linter.all false
set_option maxRecDepth 100000
set_option maxHeartbeats 2000000
/-! PuAny: data of any kind, made by drawing. -/
namespace Law
open PySem PySem.W Pu

/-- nested at most n deep, lists and texts no longer than m -/
def Fine (m : Nat) : Nat → D → Prop
  | 0, .list _ => False
  | 0, .tuple _ => False
  | n + 1, .list xs => xs.length ≤ m ∧ ∀ x ∈ xs, Fine m n x
  | n + 1, .tuple xs => xs.length ≤ m ∧ ∀ x ∈ xs, Fine m n x
  | _, .int _ => True
  | _, .bool _ => True
  | _, .none => True
  | _, .str x => x.length ≤ m ∧ PyData.strOk x = true
  | _, .dict _ => False
theorem Fine.up {m m' : Nat} (hm : m ≤ m') : ∀ {n : Nat} {d : D}, Fine m n d → Fine m' (n + 1) d
  | 0, .list xs, h => h.elim
  | 0, .tuple xs, h => h.elim
  | n + 1, .list xs, h => ⟨Nat.le_trans h.1 hm, fun x hx => Fine.up hm (h.2 x hx)⟩
  | n + 1, .tuple xs, h => ⟨Nat.le_trans h.1 hm, fun x hx => Fine.up hm (h.2 x hx)⟩
  | 0, .int _, _ => trivial
  | 0, .bool _, _ => trivial
  | 0, .none, _ => trivial
  | 0, .str _, h => ⟨Nat.le_trans h.1 hm, h.2⟩
  | 0, .dict _, h => h.elim
  | n + 1, .int _, _ => trivial
  | n + 1, .bool _, _ => trivial
  | n + 1, .none, _ => trivial
  | n + 1, .str _, h => ⟨Nat.le_trans h.1 hm, h.2⟩
  | n + 1, .dict _, h => h.elim
theorem Fine.wide {m m' : Nat} (hm : m ≤ m') : ∀ {n : Nat} {d : D}, Fine m n d → Fine m' n d
  | 0, .list xs, h => h.elim
  | 0, .tuple xs, h => h.elim
  | n + 1, .list xs, h => ⟨Nat.le_trans h.1 hm, fun x hx => Fine.wide hm (h.2 x hx)⟩
  | n + 1, .tuple xs, h => ⟨Nat.le_trans h.1 hm, fun x hx => Fine.wide hm (h.2 x hx)⟩
  | 0, .int _, _ => trivial
  | 0, .bool _, _ => trivial
  | 0, .none, _ => trivial
  | 0, .str _, h => ⟨Nat.le_trans h.1 hm, h.2⟩
  | 0, .dict _, h => h.elim
  | n + 1, .int _, _ => trivial
  | n + 1, .bool _, _ => trivial
  | n + 1, .none, _ => trivial
  | n + 1, .str _, h => ⟨Nat.le_trans h.1 hm, h.2⟩
  | n + 1, .dict _, h => h.elim
theorem Fine.le {m m' n n' : Nat} {d : D} (h : Fine m n d) (hm : m ≤ m') (hn : n ≤ n') : Fine m' n' d := by
  have h := h.wide hm
  induction hn with
  | refl => exact h
  | step _ ih => exact Fine.up (Nat.le_refl _) ih
theorem Fine.all {m : Nat} : ∀ {n : Nat} {xs : List D}, (∀ x ∈ xs, Fine m n x) → (∀ n' d, n' < n + 1 → Fine m n' d → d.canLay0 = true ∧ d.depth ≤ n') → PyData.canLayAll0 xs = true ∧ PyData.depthAll xs ≤ n
  | n, [], _, _ => ⟨by simp [PyData.canLayAll0], by simp [PyData.depthAll]⟩
  | n, x :: xs, h, k => by
    have a := k n x (Nat.lt_succ_self _) (h x List.mem_cons_self)
    have b := Fine.all (n := n) (xs := xs) (fun y hy => h y (List.mem_cons_of_mem _ hy)) k
    exact ⟨by simp [PyData.canLayAll0, a.1, b.1], by simp only [PyData.depthAll]; omega⟩
theorem Fine.lay {m : Nat} : ∀ (n : Nat) {d : D}, Fine m n d → d.canLay0 = true ∧ d.depth ≤ n := by
  intro n
  induction n using Nat.strongRecOn with
  | _ n ih =>
    intro d h
    cases d with
    | none => exact ⟨by simp [PyData.canLay0], by simp [PyData.depth]⟩
    | bool _ => exact ⟨by simp [PyData.canLay0], by simp [PyData.depth]⟩
    | int _ => exact ⟨by simp [PyData.canLay0], by simp [PyData.depth]⟩
    | str _ => cases n <;> exact ⟨by simp [PyData.canLay0, h.2], by simp [PyData.depth]⟩
    | dict _ => cases n <;> exact h.elim
    | list xs =>
      cases n with
      | zero => exact h.elim
      | succ n =>
        have k := Fine.all h.2 fun n' d hn h => ih n' (by omega) h
        exact ⟨by simp [PyData.canLay0, k.1], by simp only [PyData.depth]; omega⟩
    | tuple xs =>
      cases n with
      | zero => exact h.elim
      | succ n =>
        have k := Fine.all h.2 fun n' d hn h => ih n' (by omega) h
        exact ⟨by simp [PyData.canLay0, k.1], by simp only [PyData.depth]; omega⟩
theorem Fine.shp {m n : Nat} {d : D} (h : Fine m n d) (hn : n ≤ 64) : SeqAt.shaped d = true := by
  have a := h.lay
  unfold SeqAt.shaped
  rw [a.1, Bool.true_and]
  exact decide_eq_true (Nat.le_trans a.2 hn)
theorem fine_int {m n : Nat} {i : Int} : Fine m n (.int i) := by cases n <;> trivial
theorem fine_bool {m n : Nat} {i : Bool} : Fine m n (.bool i) := by cases n <;> trivial
theorem fine_none {m n : Nat} : Fine m n .none := by cases n <;> trivial
theorem fine_str {m n : Nat} {x : Str} (h : x.length ≤ m) (k : PyData.strOk x = true) : Fine m n (.str x) := by cases n <;> exact ⟨h, k⟩
theorem fine_list {m n : Nat} {xs : List D} (h : xs.length ≤ m) (k : ∀ x ∈ xs, Fine m n x) : Fine m (n + 1) (.list xs) := ⟨h, k⟩
theorem fine_tup {m n : Nat} {xs : List D} (h : xs.length ≤ m) (k : ∀ x ∈ xs, Fine m n x) : Fine m (n + 1) (.tuple xs) := ⟨h, k⟩
theorem str_app (a b : Str) : (a ++ b).length = a.length + b.length := PySem.Str.length_append a b
theorem sok_app {a b : Str} (h : PyData.strOk a = true) (k : PyData.strOk b = true) : PyData.strOk (a ++ b) = true := by
  show (a.cps ++ b.cps).all _ = true
  rw [Array.all_append]
  rw [show a.cps.all _ = true from h, show b.cps.all _ = true from k]
  rfl
theorem cutS_le (z : Str) (lo hi : Option Int) : (L2.cutS z lo hi).length ≤ z.length := by
  show ((z.cps.toList.drop _).take _).toArray.size ≤ z.cps.size
  rw [List.size_toArray, List.length_take, List.length_drop, Array.length_toList]
  exact Nat.le_trans (Nat.min_le_right _ _) (Nat.sub_le _ _)
theorem cutS_two (z : Str) (k : Nat) : (L2.cutS z none (some (k : Int))).length + (L2.cutS z (some (k : Int)) none).length ≤ z.length := by
  have e1 : (L2.cutS z none (some (k : Int))).length = ((z.cps.toList.drop (HT.sIx z.length 0 none)).take (HT.sIx z.length z.length (some (k : Int)) - HT.sIx z.length 0 none)).toArray.size := rfl
  have e2 : (L2.cutS z (some (k : Int)) none).length = ((z.cps.toList.drop (HT.sIx z.length 0 (some (k : Int)))).take (HT.sIx z.length z.length none - HT.sIx z.length 0 (some (k : Int)))).toArray.size := rfl
  have e3 : z.length = z.cps.size := rfl
  rw [e1, e2, List.size_toArray, List.size_toArray, List.length_take, List.length_drop, List.length_take, List.length_drop, HT.sIx_nat, HT.sIx_nat, HT.sIx_none, HT.sIx_none, Array.length_toList]
  omega
theorem sok_cut {z : Str} (h : PyData.strOk z = true) (lo hi : Option Int) : PyData.strOk (L2.cutS z lo hi) = true := by
  have h : z.cps.all _ = true := h
  show ((z.cps.toList.drop _).take _).toArray.all _ = true
  rw [← Array.all_toList, List.all_eq_true] at h
  rw [List.all_toArray, List.all_eq_true]
  exact fun x hx => h x (List.mem_of_mem_drop (List.mem_of_mem_take hx))
theorem all2_mem {α β : Type} {R : β → Prop} {l : List α} {ys : List β} (h : All2 (fun _ => R) l ys) : ∀ y ∈ ys, R y := by
  induction h with
  | nil => exact fun _ h => absurd h List.not_mem_nil
  | cons a _ ih =>
    intro y hy
    rcases List.mem_cons.mp hy with rfl | hy
    · exact a
    · exact ih y hy
theorem all2_len {α β : Type} {R : α → β → Prop} {l : List α} {ys : List β} (h : All2 R l ys) : ys.length = l.length := by
  induction h with
  | nil => rfl
  | cons _ _ ih => rw [List.length_cons, List.length_cons, ih]
theorem two {A B X Y : Prop} (y : Y) (x : A → B → X) : (A → (B → X) ∧ (¬B → Y)) ∧ (¬A → Y) := ⟨fun a => ⟨x a, fun _ => y⟩, fun _ => y⟩
/-- anything -/
theorem s_any : ∀ (f deep : Nat) {Φ : Ent → Prop}, deep + 2 ≤ f → deep ≤ 2 → (∀ d, Fine 4 (deep + 1) d → Φ (.d d)) → p_l_any f [.tp, .d (.int deep)] Φ
  | 0, _, _, h, _, _ => absurd h (by omega)
  | 1, _, _, h, _, _ => absurd h (by omega)
  | f + 2, deep, Φ, hf, hd, k => by
    show (shut (pFun 2 5 _)) _ _
    rw [shut_eq]
    refine ⟨rfl, ?_⟩
    refine seq ?_
    simp only [pFun, pIxO, pLenO, pPopO, pInsO, pStO, pSlS, qRepT, pStar, qSortT, qInD, pSortSet, pRng3, qMinP, pPar3, pDNew, pDPut, pSortDict, pTupR, pLstR, pRevL, pRet, pRetN, pNext, pAsg, pAsgL, pAsgG, pPar, pAug, pApp, pFz, pFor, pGN, pGNil, pGCons, pGT, pVar, pC, pOp, pUn, pFrz, pNil, pCons, pDs, pTup, pLst, pNotT, pChain, pBl, pBlL, pLc, pYes, pCall, pSeqI, pRng1, pRng2, pEnum, pZip, pEZ, pSl, pNoPart, pPart, pIsa1, pIsa2, pCatL, x_Ite, x_AndT, x_OrT, x_Tst, x_AndV, x_OrV, x_NotV, boolD_d, elD_d, x_IxL, x_IxT, qII, qIC, qAdd, q1C, q2C, qLen, qTuple, qListL, qSum, qAll, qMin2, qMax2, qAbs, qInt, qEq, qNe, qIs, qIsNot, qIn, qNeg, qCatL, qSort, sqD, flatD, dIsN, wipeE, List.getElem?_cons_zero, List.getElem?_cons_succ, List.set_cons_zero, List.set_cons_succ, List.cons_append, List.nil_append, List.replicate_succ, List.replicate_zero, List.length_cons, List.length_nil, List.length_map, decide_eq_true_eq, decide_eq_false_iff_not, Bool.not_eq_true', Bool.not_eq_false', Bool.true_eq_false, Bool.false_eq_true, true_implies, false_implies, implies_true, true_and, and_true, Nat.reduceSub, Nat.reduceAdd, reduceCtorEq, Option.map_some, Option.map_none, if_true, if_false, Option.some.injEq, Int.toNat_natCast]
    refine s_draw (by decide) (by decide) fun c c0 c1 => ?_
    try simp only [pFun, pIxO, pLenO, pPopO, pInsO, pStO, pSlS, qRepT, pStar, qSortT, qInD, pSortSet, pRng3, qMinP, pPar3, pDNew, pDPut, pSortDict, pTupR, pLstR, pRevL, pRet, pRetN, pNext, pAsg, pAsgL, pAsgG, pPar, pAug, pApp, pFz, pFor, pGN, pGNil, pGCons, pGT, pVar, pC, pOp, pUn, pFrz, pNil, pCons, pDs, pTup, pLst, pNotT, pChain, pBl, pBlL, pLc, pYes, pCall, pSeqI, pRng1, pRng2, pEnum, pZip, pEZ, pSl, pNoPart, pPart, pIsa1, pIsa2, pCatL, x_Ite, x_AndT, x_OrT, x_Tst, x_AndV, x_OrV, x_NotV, boolD_d, elD_d, x_IxL, x_IxT, qII, qIC, qAdd, q1C, q2C, qLen, qTuple, qListL, qSum, qAll, qMin2, qMax2, qAbs, qInt, qEq, qNe, qIs, qIsNot, qIn, qNeg, qCatL, qSort, sqD, flatD, dIsN, wipeE, List.getElem?_cons_zero, List.getElem?_cons_succ, List.set_cons_zero, List.set_cons_succ, List.cons_append, List.nil_append, List.replicate_succ, List.replicate_zero, List.length_cons, List.length_nil, List.length_map, decide_eq_true_eq, decide_eq_false_iff_not, Bool.not_eq_true', Bool.not_eq_false', Bool.true_eq_false, Bool.false_eq_true, true_implies, false_implies, implies_true, true_and, and_true, Nat.reduceSub, Nat.reduceAdd, reduceCtorEq, Option.map_some, Option.map_none, if_true, if_false, Option.some.injEq, Int.toNat_natCast]
    refine seq ?_
    simp only [pFun, pIxO, pLenO, pPopO, pInsO, pStO, pSlS, qRepT, pStar, qSortT, qInD, pSortSet, pRng3, qMinP, pPar3, pDNew, pDPut, pSortDict, pTupR, pLstR, pRevL, pRet, pRetN, pNext, pAsg, pAsgL, pAsgG, pPar, pAug, pApp, pFz, pFor, pGN, pGNil, pGCons, pGT, pVar, pC, pOp, pUn, pFrz, pNil, pCons, pDs, pTup, pLst, pNotT, pChain, pBl, pBlL, pLc, pYes, pCall, pSeqI, pRng1, pRng2, pEnum, pZip, pEZ, pSl, pNoPart, pPart, pIsa1, pIsa2, pCatL, x_Ite, x_AndT, x_OrT, x_Tst, x_AndV, x_OrV, x_NotV, boolD_d, elD_d, x_IxL, x_IxT, qII, qIC, qAdd, q1C, q2C, qLen, qTuple, qListL, qSum, qAll, qMin2, qMax2, qAbs, qInt, qEq, qNe, qIs, qIsNot, qIn, qNeg, qCatL, qSort, sqD, flatD, dIsN, wipeE, List.getElem?_cons_zero, List.getElem?_cons_succ, List.set_cons_zero, List.set_cons_succ, List.cons_append, List.nil_append, List.replicate_succ, List.replicate_zero, List.length_cons, List.length_nil, List.length_map, decide_eq_true_eq, decide_eq_false_iff_not, Bool.not_eq_true', Bool.not_eq_false', Bool.true_eq_false, Bool.false_eq_true, true_implies, false_implies, implies_true, true_and, and_true, Nat.reduceSub, Nat.reduceAdd, reduceCtorEq, Option.map_some, Option.map_none, if_true, if_false, Option.some.injEq, Int.toNat_natCast, x_If]
    refine two ?_ fun h4 h0 => ?_
    rotate_left
    · refine seq ?_
      simp only [pFun, pIxO, pLenO, pPopO, pInsO, pStO, pSlS, qRepT, pStar, qSortT, qInD, pSortSet, pRng3, qMinP, pPar3, pDNew, pDPut, pSortDict, pTupR, pLstR, pRevL, pRet, pRetN, pNext, pAsg, pAsgL, pAsgG, pPar, pAug, pApp, pFz, pFor, pGN, pGNil, pGCons, pGT, pVar, pC, pOp, pUn, pFrz, pNil, pCons, pDs, pTup, pLst, pNotT, pChain, pBl, pBlL, pLc, pYes, pCall, pSeqI, pRng1, pRng2, pEnum, pZip, pEZ, pSl, pNoPart, pPart, pIsa1, pIsa2, pCatL, x_Ite, x_AndT, x_OrT, x_Tst, x_AndV, x_OrV, x_NotV, boolD_d, elD_d, x_IxL, x_IxT, qII, qIC, qAdd, q1C, q2C, qLen, qTuple, qListL, qSum, qAll, qMin2, qMax2, qAbs, qInt, qEq, qNe, qIs, qIsNot, qIn, qNeg, qCatL, qSort, sqD, flatD, dIsN, wipeE, List.getElem?_cons_zero, List.getElem?_cons_succ, List.set_cons_zero, List.set_cons_succ, List.cons_append, List.nil_append, List.replicate_succ, List.replicate_zero, List.length_cons, List.length_nil, List.length_map, decide_eq_true_eq, decide_eq_false_iff_not, Bool.not_eq_true', Bool.not_eq_false', Bool.true_eq_false, Bool.false_eq_true, true_implies, false_implies, implies_true, true_and, and_true, Nat.reduceSub, Nat.reduceAdd, reduceCtorEq, Option.map_some, Option.map_none, if_true, if_false, Option.some.injEq, Int.toNat_natCast]
      refine s_draw (by decide) (by decide) fun q q0 q1 => ?_
      try simp only [pFun, pIxO, pLenO, pPopO, pInsO, pStO, pSlS, qRepT, pStar, qSortT, qInD, pSortSet, pRng3, qMinP, pPar3, pDNew, pDPut, pSortDict, pTupR, pLstR, pRevL, pRet, pRetN, pNext, pAsg, pAsgL, pAsgG, pPar, pAug, pApp, pFz, pFor, pGN, pGNil, pGCons, pGT, pVar, pC, pOp, pUn, pFrz, pNil, pCons, pDs, pTup, pLst, pNotT, pChain, pBl, pBlL, pLc, pYes, pCall, pSeqI, pRng1, pRng2, pEnum, pZip, pEZ, pSl, pNoPart, pPart, pIsa1, pIsa2, pCatL, x_Ite, x_AndT, x_OrT, x_Tst, x_AndV, x_OrV, x_NotV, boolD_d, elD_d, x_IxL, x_IxT, qII, qIC, qAdd, q1C, q2C, qLen, qTuple, qListL, qSum, qAll, qMin2, qMax2, qAbs, qInt, qEq, qNe, qIs, qIsNot, qIn, qNeg, qCatL, qSort, sqD, flatD, dIsN, wipeE, List.getElem?_cons_zero, List.getElem?_cons_succ, List.set_cons_zero, List.set_cons_succ, List.cons_append, List.nil_append, List.replicate_succ, List.replicate_zero, List.length_cons, List.length_nil, List.length_map, decide_eq_true_eq, decide_eq_false_iff_not, Bool.not_eq_true', Bool.not_eq_false', Bool.true_eq_false, Bool.false_eq_true, true_implies, false_implies, implies_true, true_and, and_true, Nat.reduceSub, Nat.reduceAdd, reduceCtorEq, Option.map_some, Option.map_none, if_true, if_false, Option.some.injEq, Int.toNat_natCast]
      have hl : (rngD 0 q.toNat).length = q.toNat := by unfold rngD; rw [List.length_map, List.length_range]
      refine ⟨by omega, by omega, by omega, ?_⟩
      rw [rngD_map]
      refine lc_rel (G := fun d : D => d) (fun (_ : Nat) d => Fine 4 deep d) (fun a ha Ψ hΨ => ?_) fun ys hys => ?_
      · simp only [pFun, pIxO, pLenO, pPopO, pInsO, pStO, pSlS, qRepT, pStar, qSortT, qInD, pSortSet, pRng3, qMinP, pPar3, pDNew, pDPut, pSortDict, pTupR, pLstR, pRevL, pSeq, pRet, pRetN, pNext, pAsg, pAsgL, pAsgG, pPar, pAug, pApp, pFz, pFor, pGN, pGNil, pGCons, pGT, pVar, pC, pOp, pUn, pFrz, pNil, pCons, pDs, pTup, pLst, pNotT, pChain, pBl, pBlL, pLc, pYes, pCall, pSeqI, pRng1, pRng2, pEnum, pZip, pEZ, pSl, pNoPart, pPart, pIsa1, pIsa2, pCatL, x_If, x_Ite, x_AndT, x_OrT, x_Tst, x_AndV, x_OrV, x_NotV, boolD_d, elD_d, x_IxL, x_IxT, qII, qIC, qAdd, q1C, q2C, qLen, qTuple, qListL, qSum, qAll, qMin2, qMax2, qAbs, qInt, qEq, qNe, qIs, qIsNot, qIn, qNeg, qCatL, qSort, sqD, flatD, dIsN, wipeE, List.getElem?_cons_zero, List.getElem?_cons_succ, List.set_cons_zero, List.set_cons_succ, List.cons_append, List.nil_append, List.replicate_succ, List.replicate_zero, List.length_cons, List.length_nil, List.length_map, decide_eq_true_eq, decide_eq_false_iff_not, Bool.not_eq_true', Bool.not_eq_false', Bool.true_eq_false, Bool.false_eq_true, true_implies, false_implies, implies_true, true_and, and_true, Nat.reduceSub, Nat.reduceAdd, reduceCtorEq, Option.map_some, Option.map_none, if_true, if_false, Option.some.injEq, Int.toNat_natCast, qSub]
        have e1 : (deep : Int) - 1 = ((deep - 1 : Nat) : Int) := by omega
        rw [e1]
        refine s_any (f + 1) (deep - 1) (by omega) (by omega) fun d hd => ?_
        try simp only [pFun, pIxO, pLenO, pPopO, pInsO, pStO, pSlS, qRepT, pStar, qSortT, qInD, pSortSet, pRng3, qMinP, pPar3, pDNew, pDPut, pSortDict, pTupR, pLstR, pRevL, pRet, pRetN, pNext, pAsg, pAsgL, pAsgG, pPar, pAug, pApp, pFz, pFor, pGN, pGNil, pGCons, pGT, pVar, pC, pOp, pUn, pFrz, pNil, pCons, pDs, pTup, pLst, pNotT, pChain, pBl, pBlL, pLc, pYes, pCall, pSeqI, pRng1, pRng2, pEnum, pZip, pEZ, pSl, pNoPart, pPart, pIsa1, pIsa2, pCatL, x_Ite, x_AndT, x_OrT, x_Tst, x_AndV, x_OrV, x_NotV, boolD_d, elD_d, x_IxL, x_IxT, qII, qIC, qAdd, q1C, q2C, qLen, qTuple, qListL, qSum, qAll, qMin2, qMax2, qAbs, qInt, qEq, qNe, qIs, qIsNot, qIn, qNeg, qCatL, qSort, sqD, flatD, dIsN, wipeE, List.getElem?_cons_zero, List.getElem?_cons_succ, List.set_cons_zero, List.set_cons_succ, List.cons_append, List.nil_append, List.replicate_succ, List.replicate_zero, List.length_cons, List.length_nil, List.length_map, decide_eq_true_eq, decide_eq_false_iff_not, Bool.not_eq_true', Bool.not_eq_false', Bool.true_eq_false, Bool.false_eq_true, true_implies, false_implies, implies_true, true_and, and_true, Nat.reduceSub, Nat.reduceAdd, reduceCtorEq, Option.map_some, Option.map_none, if_true, if_false, Option.some.injEq, Int.toNat_natCast]
        refine hΨ d ?_
        have e2 : deep - 1 + 1 = deep := by omega
        rw [e2] at hd
        exact hd
      · refine ⟨by decide, ?_⟩
        rw [List.map_id']
        have hy := all2_mem hys
        have hyl : ys.length ≤ 4 := by
          have := all2_len hys
          rw [List.length_range] at this
          omega
        have hc : c = 0 ∨ c = 1 ∨ c = 2 ∨ c = 3 := by omega
        rcases hc with rfl | rfl | rfl | rfl
        · exact ⟨_, rfl, k _ (fine_list hyl hy)⟩
        · exact ⟨_, rfl, k _ (fine_tup hyl hy)⟩
        · exact ⟨_, rfl, k _ (fine_tup hyl hy)⟩
        · exact ⟨_, rfl, k _ (fine_tup hyl hy)⟩
    · refine seq ?_
      simp only [pFun, pIxO, pLenO, pPopO, pInsO, pStO, pSlS, qRepT, pStar, qSortT, qInD, pSortSet, pRng3, qMinP, pPar3, pDNew, pDPut, pSortDict, pTupR, pLstR, pRevL, pRet, pRetN, pNext, pAsg, pAsgL, pAsgG, pPar, pAug, pApp, pFz, pFor, pGN, pGNil, pGCons, pGT, pVar, pC, pOp, pUn, pFrz, pNil, pCons, pDs, pTup, pLst, pNotT, pChain, pBl, pBlL, pLc, pYes, pCall, pSeqI, pRng1, pRng2, pEnum, pZip, pEZ, pSl, pNoPart, pPart, pIsa1, pIsa2, pCatL, x_Ite, x_AndT, x_OrT, x_Tst, x_AndV, x_OrV, x_NotV, boolD_d, elD_d, x_IxL, x_IxT, qII, qIC, qAdd, q1C, q2C, qLen, qTuple, qListL, qSum, qAll, qMin2, qMax2, qAbs, qInt, qEq, qNe, qIs, qIsNot, qIn, qNeg, qCatL, qSort, sqD, flatD, dIsN, wipeE, List.getElem?_cons_zero, List.getElem?_cons_succ, List.set_cons_zero, List.set_cons_succ, List.cons_append, List.nil_append, List.replicate_succ, List.replicate_zero, List.length_cons, List.length_nil, List.length_map, decide_eq_true_eq, decide_eq_false_iff_not, Bool.not_eq_true', Bool.not_eq_false', Bool.true_eq_false, Bool.false_eq_true, true_implies, false_implies, implies_true, true_and, and_true, Nat.reduceSub, Nat.reduceAdd, reduceCtorEq, Option.map_some, Option.map_none, if_true, if_false, Option.some.injEq, Int.toNat_natCast, x_If]
      refine ⟨fun h8 => ?_, fun h8 => ?_⟩
      · refine s_draw (by decide) (by decide) fun a a0 a1 => ?_
        simp only [pFun, pIxO, pLenO, pPopO, pInsO, pStO, pSlS, qRepT, pStar, qSortT, qInD, pSortSet, pRng3, qMinP, pPar3, pDNew, pDPut, pSortDict, pTupR, pLstR, pRevL, pRet, pRetN, pNext, pAsg, pAsgL, pAsgG, pPar, pAug, pApp, pFz, pFor, pGN, pGNil, pGCons, pGT, pVar, pC, pOp, pUn, pFrz, pNil, pCons, pDs, pTup, pLst, pNotT, pChain, pBl, pBlL, pLc, pYes, pCall, pSeqI, pRng1, pRng2, pEnum, pZip, pEZ, pSl, pNoPart, pPart, pIsa1, pIsa2, pCatL, x_Ite, x_AndT, x_OrT, x_Tst, x_AndV, x_OrV, x_NotV, boolD_d, elD_d, x_IxL, x_IxT, qII, qIC, qAdd, q1C, q2C, qLen, qTuple, qListL, qSum, qAll, qMin2, qMax2, qAbs, qInt, qEq, qNe, qIs, qIsNot, qIn, qNeg, qCatL, qSort, sqD, flatD, dIsN, wipeE, List.getElem?_cons_zero, List.getElem?_cons_succ, List.set_cons_zero, List.set_cons_succ, List.cons_append, List.nil_append, List.replicate_succ, List.replicate_zero, List.length_cons, List.length_nil, List.length_map, decide_eq_true_eq, decide_eq_false_iff_not, Bool.not_eq_true', Bool.not_eq_false', Bool.true_eq_false, Bool.false_eq_true, true_implies, false_implies, implies_true, true_and, and_true, Nat.reduceSub, Nat.reduceAdd, reduceCtorEq, Option.map_some, Option.map_none, if_true, if_false, Option.some.injEq, Int.toNat_natCast, qSub, qPow]
        refine ⟨⟨by decide, by decide, by decide⟩, ?_⟩
        refine s_draw (by decide) (by decide) fun b b0 b1 => ?_
        simp only [pFun, pIxO, pLenO, pPopO, pInsO, pStO, pSlS, qRepT, pStar, qSortT, qInD, pSortSet, pRng3, qMinP, pPar3, pDNew, pDPut, pSortDict, pTupR, pLstR, pRevL, pRet, pRetN, pNext, pAsg, pAsgL, pAsgG, pPar, pAug, pApp, pFz, pFor, pGN, pGNil, pGCons, pGT, pVar, pC, pOp, pUn, pFrz, pNil, pCons, pDs, pTup, pLst, pNotT, pChain, pBl, pBlL, pLc, pYes, pCall, pSeqI, pRng1, pRng2, pEnum, pZip, pEZ, pSl, pNoPart, pPart, pIsa1, pIsa2, pCatL, x_Ite, x_AndT, x_OrT, x_Tst, x_AndV, x_OrV, x_NotV, boolD_d, elD_d, x_IxL, x_IxT, qII, qIC, qAdd, q1C, q2C, qLen, qTuple, qListL, qSum, qAll, qMin2, qMax2, qAbs, qInt, qEq, qNe, qIs, qIsNot, qIn, qNeg, qCatL, qSort, sqD, flatD, dIsN, wipeE, List.getElem?_cons_zero, List.getElem?_cons_succ, List.set_cons_zero, List.set_cons_succ, List.cons_append, List.nil_append, List.replicate_succ, List.replicate_zero, List.length_cons, List.length_nil, List.length_map, decide_eq_true_eq, decide_eq_false_iff_not, Bool.not_eq_true', Bool.not_eq_false', Bool.true_eq_false, Bool.false_eq_true, true_implies, false_implies, implies_true, true_and, and_true, Nat.reduceSub, Nat.reduceAdd, reduceCtorEq, Option.map_some, Option.map_none, if_true, if_false, Option.some.injEq, Int.toNat_natCast]
        refine ⟨by decide, ?_⟩
        have hc : (if c - 4 > 0 then c - 4 else 0) = 0 ∨ (if c - 4 > 0 then c - 4 else 0) = 1 ∨ (if c - 4 > 0 then c - 4 else 0) = 2 ∨ (if c - 4 > 0 then c - 4 else 0) = 3 := by
          split <;> omega
        rcases hc with e | e | e | e <;> rw [e]
        · exact ⟨_, rfl, k _ fine_int⟩
        · exact ⟨_, rfl, k _ fine_int⟩
        · exact ⟨_, rfl, k _ fine_int⟩
        · exact ⟨_, rfl, k _ fine_int⟩
      · refine seq ?_
        simp only [pFun, pIxO, pLenO, pPopO, pInsO, pStO, pSlS, qRepT, pStar, qSortT, qInD, pSortSet, pRng3, qMinP, pPar3, pDNew, pDPut, pSortDict, pTupR, pLstR, pRevL, pRet, pRetN, pNext, pAsg, pAsgL, pAsgG, pPar, pAug, pApp, pFz, pFor, pGN, pGNil, pGCons, pGT, pVar, pC, pOp, pUn, pFrz, pNil, pCons, pDs, pTup, pLst, pNotT, pChain, pBl, pBlL, pLc, pYes, pCall, pSeqI, pRng1, pRng2, pEnum, pZip, pEZ, pSl, pNoPart, pPart, pIsa1, pIsa2, pCatL, x_Ite, x_AndT, x_OrT, x_Tst, x_AndV, x_OrV, x_NotV, boolD_d, elD_d, x_IxL, x_IxT, qII, qIC, qAdd, q1C, q2C, qLen, qTuple, qListL, qSum, qAll, qMin2, qMax2, qAbs, qInt, qEq, qNe, qIs, qIsNot, qIn, qNeg, qCatL, qSort, sqD, flatD, dIsN, wipeE, List.getElem?_cons_zero, List.getElem?_cons_succ, List.set_cons_zero, List.set_cons_succ, List.cons_append, List.nil_append, List.replicate_succ, List.replicate_zero, List.length_cons, List.length_nil, List.length_map, decide_eq_true_eq, decide_eq_false_iff_not, Bool.not_eq_true', Bool.not_eq_false', Bool.true_eq_false, Bool.false_eq_true, true_implies, false_implies, implies_true, true_and, and_true, Nat.reduceSub, Nat.reduceAdd, reduceCtorEq, Option.map_some, Option.map_none, if_true, if_false, Option.some.injEq, Int.toNat_natCast]
        refine ⟨by decide, ?_⟩
        refine s_draw (by decide) (by decide) fun a a0 a1 => ?_
        simp only [pFun, pIxO, pLenO, pPopO, pInsO, pStO, pSlS, qRepT, pStar, qSortT, qInD, pSortSet, pRng3, qMinP, pPar3, pDNew, pDPut, pSortDict, pTupR, pLstR, pRevL, pRet, pRetN, pNext, pAsg, pAsgL, pAsgG, pPar, pAug, pApp, pFz, pFor, pGN, pGNil, pGCons, pGT, pVar, pC, pOp, pUn, pFrz, pNil, pCons, pDs, pTup, pLst, pNotT, pChain, pBl, pBlL, pLc, pYes, pCall, pSeqI, pRng1, pRng2, pEnum, pZip, pEZ, pSl, pNoPart, pPart, pIsa1, pIsa2, pCatL, x_Ite, x_AndT, x_OrT, x_Tst, x_AndV, x_OrV, x_NotV, boolD_d, elD_d, x_IxL, x_IxT, qII, qIC, qAdd, q1C, q2C, qLen, qTuple, qListL, qSum, qAll, qMin2, qMax2, qAbs, qInt, qEq, qNe, qIs, qIsNot, qIn, qNeg, qCatL, qSort, sqD, flatD, dIsN, wipeE, List.getElem?_cons_zero, List.getElem?_cons_succ, List.set_cons_zero, List.set_cons_succ, List.cons_append, List.nil_append, List.replicate_succ, List.replicate_zero, List.length_cons, List.length_nil, List.length_map, decide_eq_true_eq, decide_eq_false_iff_not, Bool.not_eq_true', Bool.not_eq_false', Bool.true_eq_false, Bool.false_eq_true, true_implies, false_implies, implies_true, true_and, and_true, Nat.reduceSub, Nat.reduceAdd, reduceCtorEq, Option.map_some, Option.map_none, if_true, if_false, Option.some.injEq, Int.toNat_natCast, qSub]
        have key : ∃ x : Str, L2.atI [PyData.str (Str.ofString ""), PyData.str (Str.ofString " "), PyData.str (Str.ofString "34"), PyData.str (Str.ofString "45"), PyData.str (Str.ofString "dial"), PyData.str (Str.ofString "A"), PyData.str (Str.ofString "3\n4")] a = some (.str x) ∧ x.length ≤ 4 ∧ PyData.strOk x = true := by
          have ha : a = 0 ∨ a = 1 ∨ a = 2 ∨ a = 3 ∨ a = 4 ∨ a = 5 ∨ a = 6 := by omega
          rcases ha with rfl | rfl | rfl | rfl | rfl | rfl | rfl <;> exact ⟨_, rfl, by decide +kernel, by decide +kernel⟩
        obtain ⟨x, e, x1, x2⟩ := key
        refine ⟨_, e, by decide, by decide, ?_⟩
        have hc : c = 8 ∨ c = 9 ∨ c = 10 ∨ c = 11 ∨ c = 12 := by omega
        rcases hc with rfl | rfl | rfl | rfl | rfl
        · exact ⟨_, rfl, k _ fine_bool⟩
        · exact ⟨_, rfl, k _ fine_bool⟩
        · exact ⟨_, rfl, k _ fine_none⟩
        · exact ⟨_, rfl, k _ (fine_str x1 x2)⟩
        · exact ⟨_, rfl, k _ (fine_tup (by decide) fun y hy => by
            simp only [List.mem_cons, List.not_mem_nil, or_false] at hy
            rcases hy with rfl | rfl <;> exact fine_int)⟩
def isW : D → Bool
  | .int _ => true
  | _ => false
theorem s_whole {d : D} {Φ : Ent → Prop} (k : Φ (.d (.bool (isW d)))) : p_l_whole [.d d] Φ := by
  unfold p_l_whole
  rw [shut_eq]
  cases d <;> (simp only [pFun, pIxO, pLenO, pPopO, pInsO, pStO, pSlS, qRepT, pStar, qSortT, qInD, pSortSet, pRng3, qMinP, pPar3, pDNew, pDPut, pSortDict, pTupR, pLstR, pRevL, pSeq, pRet, pRetN, pNext, pAsg, pAsgL, pAsgG, pPar, pAug, pApp, pFz, pFor, pGN, pGNil, pGCons, pGT, pVar, pC, pOp, pUn, pFrz, pNil, pCons, pDs, pTup, pLst, pNotT, pChain, pBl, pBlL, pLc, pYes, pCall, pSeqI, pRng1, pRng2, pEnum, pZip, pEZ, pSl, pNoPart, pPart, pIsa1, pIsa2, pCatL, x_If, x_Ite, x_AndT, x_OrT, x_Tst, x_AndV, x_OrV, x_NotV, boolD_d, elD_d, x_IxL, x_IxT, qII, qIC, qAdd, q1C, q2C, qLen, qTuple, qListL, qSum, qAll, qMin2, qMax2, qAbs, qInt, qEq, qNe, qIs, qIsNot, qIn, qNeg, qCatL, qSort, sqD, flatD, dIsN, wipeE, List.getElem?_cons_zero, List.getElem?_cons_succ, List.set_cons_zero, List.set_cons_succ, List.cons_append, List.nil_append, List.replicate_succ, List.replicate_zero, List.length_cons, List.length_nil, List.length_map, decide_eq_true_eq, decide_eq_false_iff_not, Bool.not_eq_true', Bool.not_eq_false', Bool.true_eq_false, Bool.false_eq_true, true_implies, false_implies, implies_true, true_and, and_true, Nat.reduceSub, Nat.reduceAdd, reduceCtorEq, Option.map_some, Option.map_none, if_true, if_false, Option.some.injEq, Int.toNat_natCast]; simp [isaD, isaS, tyD, boolD]; exact k)
theorem if_q (Q : Prop) {c : PXT} {a b : PZ} {P : Pn} {ρ : En} (hc : ∀ Φ : Bool → Prop, (Q → Φ true) → Φ false → c ρ Φ) (h1 : Q → a { P with nx := b P } ρ) (h2 : b P ρ) : pSeq (pIf c a pNext) b P ρ := by
  refine seq ?_
  rw [x_If]
  exact hc _ (fun q => ⟨fun _ => h1 q, fun h => by cases h⟩) ⟨fun h => (by cases h), fun _ => h2⟩
theorem isL1 {xs : List D} : isaD (.list xs) "tuple" = false := rfl
theorem isL2 {xs : List D} : (isaD (.list xs) "tuple" || isaD (.list xs) "list") = true := rfl
theorem isT1 {xs : List D} : isaD (.tuple xs) "tuple" = true := rfl
theorem isT2 {xs : List D} : (isaD (.tuple xs) "tuple" || isaD (.tuple xs) "list") = true := rfl
theorem getA {α : Type} {xs : List α} {q : Int} (h0 : 0 ≤ q) (h1 : q < xs.length) : ∃ v, L2.atI xs q = some v ∧ v ∈ xs := by
  have e : q = ((q.toNat : Nat) : Int) := by omega
  have hl : q.toNat < xs.length := by omega
  rw [e]
  exact ⟨_, atI_lt hl, List.getElem_mem hl⟩
theorem mem_ins {α : Type} {xs : List α} {k : Nat} {v y : α} (h : y ∈ xs.take k ++ [v] ++ xs.drop k) : y = v ∨ y ∈ xs := by
  rw [List.mem_append, List.mem_append, List.mem_singleton] at h
  rcases h with (h | h) | h
  · exact .inr (List.mem_of_mem_take h)
  · exact .inl h
  · exact .inr (List.mem_of_mem_drop h)
/-- spoilt -/
theorem s_spoilt : ∀ (f : Nat) {m n : Nat} {d : D} {Φ : Ent → Prop}, n + 5 ≤ f → n ≤ 10 → m ≤ 1000 → Fine m n d → (∀ e, Fine (m + 8) (n + 3) e → Φ (.d e)) → p_l_spoilt f [.tp, .d d] Φ
  | 0, _, _, _, _, h, _, _, _, _ => absurd h (by omega)
  | 1, _, _, _, _, h, _, _, _, _ => absurd h (by omega)
  | 2, _, _, _, _, h, _, _, _, _ => absurd h (by omega)
  | 3, _, _, _, _, h, _, _, _, _ => absurd h (by omega)
  | 4, _, _, _, _, h, _, _, _, _ => absurd h (by omega)
  | f + 5, m, n, d, Φ, hf, hn, hm, hd, k => by
    have any2 : p_l_any 4 [.tp, .d (.int 2)] Φ := s_any 4 2 (by decide) (by decide) fun e he => k e (he.le (by omega) (by omega))
    show (shut (pFun 2 6 _)) _ _
    rw [shut_eq]
    refine ⟨rfl, ?_⟩
    cases d with
    | dict _ => cases n <;> exact hd.elim
    | none =>
      refine skip_if (fun Φ h => by simp only [pFun, pIxO, pLenO, pPopO, pInsO, pStO, pSlS, qRepT, pStar, qSortT, qInD, pSortSet, pRng3, qMinP, pPar3, pDNew, pDPut, pSortDict, pTupR, pLstR, pRevL, pRet, pRetN, pNext, pAsg, pAsgL, pAsgG, pPar, pAug, pApp, pFz, pFor, pGN, pGNil, pGCons, pGT, pVar, pC, pOp, pUn, pFrz, pNil, pCons, pDs, pTup, pLst, pNotT, pChain, pBl, pBlL, pLc, pYes, pCall, pSeqI, pRng1, pRng2, pEnum, pZip, pEZ, pSl, pNoPart, pPart, pIsa1, pIsa2, pCatL, x_Ite, x_AndT, x_OrT, x_Tst, x_AndV, x_OrV, x_NotV, boolD_d, elD_d, x_IxL, x_IxT, qII, qIC, qAdd, q1C, q2C, qLen, qTuple, qListL, qSum, qAll, qMin2, qMax2, qAbs, qInt, qEq, qNe, qIs, qIsNot, qIn, qNeg, qCatL, qSort, sqD, flatD, dIsN, wipeE, List.getElem?_cons_zero, List.getElem?_cons_succ, List.set_cons_zero, List.set_cons_succ, List.cons_append, List.nil_append, List.replicate_succ, List.replicate_zero, List.length_cons, List.length_nil, List.length_map, decide_eq_true_eq, decide_eq_false_iff_not, Bool.not_eq_true', Bool.not_eq_false', Bool.true_eq_false, Bool.false_eq_true, true_implies, false_implies, implies_true, true_and, and_true, Nat.reduceSub, Nat.reduceAdd, reduceCtorEq, Option.map_some, Option.map_none, if_true, if_false, Option.some.injEq, Int.toNat_natCast]; simp [isaD, isaS, tyD, boolD]; exact h) ?_
      refine skip_if (fun Φ h => by simp only [pFun, pIxO, pLenO, pPopO, pInsO, pStO, pSlS, qRepT, pStar, qSortT, qInD, pSortSet, pRng3, qMinP, pPar3, pDNew, pDPut, pSortDict, pTupR, pLstR, pRevL, pRet, pRetN, pNext, pAsg, pAsgL, pAsgG, pPar, pAug, pApp, pFz, pFor, pGN, pGNil, pGCons, pGT, pVar, pC, pOp, pUn, pFrz, pNil, pCons, pDs, pTup, pLst, pNotT, pChain, pBl, pBlL, pLc, pYes, pCall, pSeqI, pRng1, pRng2, pEnum, pZip, pEZ, pSl, pNoPart, pPart, pIsa1, pIsa2, pCatL, x_Ite, x_AndT, x_OrT, x_Tst, x_AndV, x_OrV, x_NotV, boolD_d, elD_d, x_IxL, x_IxT, qII, qIC, qAdd, q1C, q2C, qLen, qTuple, qListL, qSum, qAll, qMin2, qMax2, qAbs, qInt, qEq, qNe, qIs, qIsNot, qIn, qNeg, qCatL, qSort, sqD, flatD, dIsN, wipeE, List.getElem?_cons_zero, List.getElem?_cons_succ, List.set_cons_zero, List.set_cons_succ, List.cons_append, List.nil_append, List.replicate_succ, List.replicate_zero, List.length_cons, List.length_nil, List.length_map, decide_eq_true_eq, decide_eq_false_iff_not, Bool.not_eq_true', Bool.not_eq_false', Bool.true_eq_false, Bool.false_eq_true, true_implies, false_implies, implies_true, true_and, and_true, Nat.reduceSub, Nat.reduceAdd, reduceCtorEq, Option.map_some, Option.map_none, if_true, if_false, Option.some.injEq, Int.toNat_natCast]; refine s_whole ?_; simp [isW, boolD]; exact h) ?_
      refine skip_if (fun Φ h => by simp only [pFun, pIxO, pLenO, pPopO, pInsO, pStO, pSlS, qRepT, pStar, qSortT, qInD, pSortSet, pRng3, qMinP, pPar3, pDNew, pDPut, pSortDict, pTupR, pLstR, pRevL, pRet, pRetN, pNext, pAsg, pAsgL, pAsgG, pPar, pAug, pApp, pFz, pFor, pGN, pGNil, pGCons, pGT, pVar, pC, pOp, pUn, pFrz, pNil, pCons, pDs, pTup, pLst, pNotT, pChain, pBl, pBlL, pLc, pYes, pCall, pSeqI, pRng1, pRng2, pEnum, pZip, pEZ, pSl, pNoPart, pPart, pIsa1, pIsa2, pCatL, x_Ite, x_AndT, x_OrT, x_Tst, x_AndV, x_OrV, x_NotV, boolD_d, elD_d, x_IxL, x_IxT, qII, qIC, qAdd, q1C, q2C, qLen, qTuple, qListL, qSum, qAll, qMin2, qMax2, qAbs, qInt, qEq, qNe, qIs, qIsNot, qIn, qNeg, qCatL, qSort, sqD, flatD, dIsN, wipeE, List.getElem?_cons_zero, List.getElem?_cons_succ, List.set_cons_zero, List.set_cons_succ, List.cons_append, List.nil_append, List.replicate_succ, List.replicate_zero, List.length_cons, List.length_nil, List.length_map, decide_eq_true_eq, decide_eq_false_iff_not, Bool.not_eq_true', Bool.not_eq_false', Bool.true_eq_false, Bool.false_eq_true, true_implies, false_implies, implies_true, true_and, and_true, Nat.reduceSub, Nat.reduceAdd, reduceCtorEq, Option.map_some, Option.map_none, if_true, if_false, Option.some.injEq, Int.toNat_natCast]; simp [isaD, isaS, tyD, boolD]; exact h) ?_
      refine skip_if (fun Φ h => by simp only [pFun, pIxO, pLenO, pPopO, pInsO, pStO, pSlS, qRepT, pStar, qSortT, qInD, pSortSet, pRng3, qMinP, pPar3, pDNew, pDPut, pSortDict, pTupR, pLstR, pRevL, pRet, pRetN, pNext, pAsg, pAsgL, pAsgG, pPar, pAug, pApp, pFz, pFor, pGN, pGNil, pGCons, pGT, pVar, pC, pOp, pUn, pFrz, pNil, pCons, pDs, pTup, pLst, pNotT, pChain, pBl, pBlL, pLc, pYes, pCall, pSeqI, pRng1, pRng2, pEnum, pZip, pEZ, pSl, pNoPart, pPart, pIsa1, pIsa2, pCatL, x_Ite, x_AndT, x_OrT, x_Tst, x_AndV, x_OrV, x_NotV, boolD_d, elD_d, x_IxL, x_IxT, qII, qIC, qAdd, q1C, q2C, qLen, qTuple, qListL, qSum, qAll, qMin2, qMax2, qAbs, qInt, qEq, qNe, qIs, qIsNot, qIn, qNeg, qCatL, qSort, sqD, flatD, dIsN, wipeE, List.getElem?_cons_zero, List.getElem?_cons_succ, List.set_cons_zero, List.set_cons_succ, List.cons_append, List.nil_append, List.replicate_succ, List.replicate_zero, List.length_cons, List.length_nil, List.length_map, decide_eq_true_eq, decide_eq_false_iff_not, Bool.not_eq_true', Bool.not_eq_false', Bool.true_eq_false, Bool.false_eq_true, true_implies, false_implies, implies_true, true_and, and_true, Nat.reduceSub, Nat.reduceAdd, reduceCtorEq, Option.map_some, Option.map_none, if_true, if_false, Option.some.injEq, Int.toNat_natCast]; simp [isaD, isaS, tyD, boolD]; exact h) ?_
      simp only [pFun, pIxO, pLenO, pPopO, pInsO, pStO, pSlS, qRepT, pStar, qSortT, qInD, pSortSet, pRng3, qMinP, pPar3, pDNew, pDPut, pSortDict, pTupR, pLstR, pRevL, pRet, pRetN, pNext, pAsg, pAsgL, pAsgG, pPar, pAug, pApp, pFz, pFor, pGN, pGNil, pGCons, pGT, pVar, pC, pOp, pUn, pFrz, pNil, pCons, pDs, pTup, pLst, pNotT, pChain, pBl, pBlL, pLc, pYes, pCall, pSeqI, pRng1, pRng2, pEnum, pZip, pEZ, pSl, pNoPart, pPart, pIsa1, pIsa2, pCatL, x_Ite, x_AndT, x_OrT, x_Tst, x_AndV, x_OrV, x_NotV, boolD_d, elD_d, x_IxL, x_IxT, qII, qIC, qAdd, q1C, q2C, qLen, qTuple, qListL, qSum, qAll, qMin2, qMax2, qAbs, qInt, qEq, qNe, qIs, qIsNot, qIn, qNeg, qCatL, qSort, sqD, flatD, dIsN, wipeE, List.getElem?_cons_zero, List.getElem?_cons_succ, List.set_cons_zero, List.set_cons_succ, List.cons_append, List.nil_append, List.replicate_succ, List.replicate_zero, List.length_cons, List.length_nil, List.length_map, decide_eq_true_eq, decide_eq_false_iff_not, Bool.not_eq_true', Bool.not_eq_false', Bool.true_eq_false, Bool.false_eq_true, true_implies, false_implies, implies_true, true_and, and_true, Nat.reduceSub, Nat.reduceAdd, reduceCtorEq, Option.map_some, Option.map_none, if_true, if_false, Option.some.injEq, Int.toNat_natCast]
      exact any2
    | bool b =>
      refine skip_if (fun Φ h => by simp only [pFun, pIxO, pLenO, pPopO, pInsO, pStO, pSlS, qRepT, pStar, qSortT, qInD, pSortSet, pRng3, qMinP, pPar3, pDNew, pDPut, pSortDict, pTupR, pLstR, pRevL, pRet, pRetN, pNext, pAsg, pAsgL, pAsgG, pPar, pAug, pApp, pFz, pFor, pGN, pGNil, pGCons, pGT, pVar, pC, pOp, pUn, pFrz, pNil, pCons, pDs, pTup, pLst, pNotT, pChain, pBl, pBlL, pLc, pYes, pCall, pSeqI, pRng1, pRng2, pEnum, pZip, pEZ, pSl, pNoPart, pPart, pIsa1, pIsa2, pCatL, x_Ite, x_AndT, x_OrT, x_Tst, x_AndV, x_OrV, x_NotV, boolD_d, elD_d, x_IxL, x_IxT, qII, qIC, qAdd, q1C, q2C, qLen, qTuple, qListL, qSum, qAll, qMin2, qMax2, qAbs, qInt, qEq, qNe, qIs, qIsNot, qIn, qNeg, qCatL, qSort, sqD, flatD, dIsN, wipeE, List.getElem?_cons_zero, List.getElem?_cons_succ, List.set_cons_zero, List.set_cons_succ, List.cons_append, List.nil_append, List.replicate_succ, List.replicate_zero, List.length_cons, List.length_nil, List.length_map, decide_eq_true_eq, decide_eq_false_iff_not, Bool.not_eq_true', Bool.not_eq_false', Bool.true_eq_false, Bool.false_eq_true, true_implies, false_implies, implies_true, true_and, and_true, Nat.reduceSub, Nat.reduceAdd, reduceCtorEq, Option.map_some, Option.map_none, if_true, if_false, Option.some.injEq, Int.toNat_natCast]; simp [isaD, isaS, tyD, boolD]; exact h) ?_
      refine skip_if (fun Φ h => by simp only [pFun, pIxO, pLenO, pPopO, pInsO, pStO, pSlS, qRepT, pStar, qSortT, qInD, pSortSet, pRng3, qMinP, pPar3, pDNew, pDPut, pSortDict, pTupR, pLstR, pRevL, pRet, pRetN, pNext, pAsg, pAsgL, pAsgG, pPar, pAug, pApp, pFz, pFor, pGN, pGNil, pGCons, pGT, pVar, pC, pOp, pUn, pFrz, pNil, pCons, pDs, pTup, pLst, pNotT, pChain, pBl, pBlL, pLc, pYes, pCall, pSeqI, pRng1, pRng2, pEnum, pZip, pEZ, pSl, pNoPart, pPart, pIsa1, pIsa2, pCatL, x_Ite, x_AndT, x_OrT, x_Tst, x_AndV, x_OrV, x_NotV, boolD_d, elD_d, x_IxL, x_IxT, qII, qIC, qAdd, q1C, q2C, qLen, qTuple, qListL, qSum, qAll, qMin2, qMax2, qAbs, qInt, qEq, qNe, qIs, qIsNot, qIn, qNeg, qCatL, qSort, sqD, flatD, dIsN, wipeE, List.getElem?_cons_zero, List.getElem?_cons_succ, List.set_cons_zero, List.set_cons_succ, List.cons_append, List.nil_append, List.replicate_succ, List.replicate_zero, List.length_cons, List.length_nil, List.length_map, decide_eq_true_eq, decide_eq_false_iff_not, Bool.not_eq_true', Bool.not_eq_false', Bool.true_eq_false, Bool.false_eq_true, true_implies, false_implies, implies_true, true_and, and_true, Nat.reduceSub, Nat.reduceAdd, reduceCtorEq, Option.map_some, Option.map_none, if_true, if_false, Option.some.injEq, Int.toNat_natCast]; refine s_whole ?_; simp [isW, boolD]; exact h) ?_
      refine skip_if (fun Φ h => by simp only [pFun, pIxO, pLenO, pPopO, pInsO, pStO, pSlS, qRepT, pStar, qSortT, qInD, pSortSet, pRng3, qMinP, pPar3, pDNew, pDPut, pSortDict, pTupR, pLstR, pRevL, pRet, pRetN, pNext, pAsg, pAsgL, pAsgG, pPar, pAug, pApp, pFz, pFor, pGN, pGNil, pGCons, pGT, pVar, pC, pOp, pUn, pFrz, pNil, pCons, pDs, pTup, pLst, pNotT, pChain, pBl, pBlL, pLc, pYes, pCall, pSeqI, pRng1, pRng2, pEnum, pZip, pEZ, pSl, pNoPart, pPart, pIsa1, pIsa2, pCatL, x_Ite, x_AndT, x_OrT, x_Tst, x_AndV, x_OrV, x_NotV, boolD_d, elD_d, x_IxL, x_IxT, qII, qIC, qAdd, q1C, q2C, qLen, qTuple, qListL, qSum, qAll, qMin2, qMax2, qAbs, qInt, qEq, qNe, qIs, qIsNot, qIn, qNeg, qCatL, qSort, sqD, flatD, dIsN, wipeE, List.getElem?_cons_zero, List.getElem?_cons_succ, List.set_cons_zero, List.set_cons_succ, List.cons_append, List.nil_append, List.replicate_succ, List.replicate_zero, List.length_cons, List.length_nil, List.length_map, decide_eq_true_eq, decide_eq_false_iff_not, Bool.not_eq_true', Bool.not_eq_false', Bool.true_eq_false, Bool.false_eq_true, true_implies, false_implies, implies_true, true_and, and_true, Nat.reduceSub, Nat.reduceAdd, reduceCtorEq, Option.map_some, Option.map_none, if_true, if_false, Option.some.injEq, Int.toNat_natCast]; simp [isaD, isaS, tyD, boolD]; exact h) ?_
      refine skip_if (fun Φ h => by simp only [pFun, pIxO, pLenO, pPopO, pInsO, pStO, pSlS, qRepT, pStar, qSortT, qInD, pSortSet, pRng3, qMinP, pPar3, pDNew, pDPut, pSortDict, pTupR, pLstR, pRevL, pRet, pRetN, pNext, pAsg, pAsgL, pAsgG, pPar, pAug, pApp, pFz, pFor, pGN, pGNil, pGCons, pGT, pVar, pC, pOp, pUn, pFrz, pNil, pCons, pDs, pTup, pLst, pNotT, pChain, pBl, pBlL, pLc, pYes, pCall, pSeqI, pRng1, pRng2, pEnum, pZip, pEZ, pSl, pNoPart, pPart, pIsa1, pIsa2, pCatL, x_Ite, x_AndT, x_OrT, x_Tst, x_AndV, x_OrV, x_NotV, boolD_d, elD_d, x_IxL, x_IxT, qII, qIC, qAdd, q1C, q2C, qLen, qTuple, qListL, qSum, qAll, qMin2, qMax2, qAbs, qInt, qEq, qNe, qIs, qIsNot, qIn, qNeg, qCatL, qSort, sqD, flatD, dIsN, wipeE, List.getElem?_cons_zero, List.getElem?_cons_succ, List.set_cons_zero, List.set_cons_succ, List.cons_append, List.nil_append, List.replicate_succ, List.replicate_zero, List.length_cons, List.length_nil, List.length_map, decide_eq_true_eq, decide_eq_false_iff_not, Bool.not_eq_true', Bool.not_eq_false', Bool.true_eq_false, Bool.false_eq_true, true_implies, false_implies, implies_true, true_and, and_true, Nat.reduceSub, Nat.reduceAdd, reduceCtorEq, Option.map_some, Option.map_none, if_true, if_false, Option.some.injEq, Int.toNat_natCast]; simp [isaD, isaS, tyD, boolD]; exact h) ?_
      simp only [pFun, pIxO, pLenO, pPopO, pInsO, pStO, pSlS, qRepT, pStar, qSortT, qInD, pSortSet, pRng3, qMinP, pPar3, pDNew, pDPut, pSortDict, pTupR, pLstR, pRevL, pRet, pRetN, pNext, pAsg, pAsgL, pAsgG, pPar, pAug, pApp, pFz, pFor, pGN, pGNil, pGCons, pGT, pVar, pC, pOp, pUn, pFrz, pNil, pCons, pDs, pTup, pLst, pNotT, pChain, pBl, pBlL, pLc, pYes, pCall, pSeqI, pRng1, pRng2, pEnum, pZip, pEZ, pSl, pNoPart, pPart, pIsa1, pIsa2, pCatL, x_Ite, x_AndT, x_OrT, x_Tst, x_AndV, x_OrV, x_NotV, boolD_d, elD_d, x_IxL, x_IxT, qII, qIC, qAdd, q1C, q2C, qLen, qTuple, qListL, qSum, qAll, qMin2, qMax2, qAbs, qInt, qEq, qNe, qIs, qIsNot, qIn, qNeg, qCatL, qSort, sqD, flatD, dIsN, wipeE, List.getElem?_cons_zero, List.getElem?_cons_succ, List.set_cons_zero, List.set_cons_succ, List.cons_append, List.nil_append, List.replicate_succ, List.replicate_zero, List.length_cons, List.length_nil, List.length_map, decide_eq_true_eq, decide_eq_false_iff_not, Bool.not_eq_true', Bool.not_eq_false', Bool.true_eq_false, Bool.false_eq_true, true_implies, false_implies, implies_true, true_and, and_true, Nat.reduceSub, Nat.reduceAdd, reduceCtorEq, Option.map_some, Option.map_none, if_true, if_false, Option.some.injEq, Int.toNat_natCast]
      exact any2
    | int i =>
      refine skip_if (fun Φ h => by simp only [pFun, pIxO, pLenO, pPopO, pInsO, pStO, pSlS, qRepT, pStar, qSortT, qInD, pSortSet, pRng3, qMinP, pPar3, pDNew, pDPut, pSortDict, pTupR, pLstR, pRevL, pRet, pRetN, pNext, pAsg, pAsgL, pAsgG, pPar, pAug, pApp, pFz, pFor, pGN, pGNil, pGCons, pGT, pVar, pC, pOp, pUn, pFrz, pNil, pCons, pDs, pTup, pLst, pNotT, pChain, pBl, pBlL, pLc, pYes, pCall, pSeqI, pRng1, pRng2, pEnum, pZip, pEZ, pSl, pNoPart, pPart, pIsa1, pIsa2, pCatL, x_Ite, x_AndT, x_OrT, x_Tst, x_AndV, x_OrV, x_NotV, boolD_d, elD_d, x_IxL, x_IxT, qII, qIC, qAdd, q1C, q2C, qLen, qTuple, qListL, qSum, qAll, qMin2, qMax2, qAbs, qInt, qEq, qNe, qIs, qIsNot, qIn, qNeg, qCatL, qSort, sqD, flatD, dIsN, wipeE, List.getElem?_cons_zero, List.getElem?_cons_succ, List.set_cons_zero, List.set_cons_succ, List.cons_append, List.nil_append, List.replicate_succ, List.replicate_zero, List.length_cons, List.length_nil, List.length_map, decide_eq_true_eq, decide_eq_false_iff_not, Bool.not_eq_true', Bool.not_eq_false', Bool.true_eq_false, Bool.false_eq_true, true_implies, false_implies, implies_true, true_and, and_true, Nat.reduceSub, Nat.reduceAdd, reduceCtorEq, Option.map_some, Option.map_none, if_true, if_false, Option.some.injEq, Int.toNat_natCast]; simp [isaD, isaS, tyD, boolD]; exact h) ?_
      refine seq ?_
      simp only [pFun, pIxO, pLenO, pPopO, pInsO, pStO, pSlS, qRepT, pStar, qSortT, qInD, pSortSet, pRng3, qMinP, pPar3, pDNew, pDPut, pSortDict, pTupR, pLstR, pRevL, pRet, pRetN, pNext, pAsg, pAsgL, pAsgG, pPar, pAug, pApp, pFz, pFor, pGN, pGNil, pGCons, pGT, pVar, pC, pOp, pUn, pFrz, pNil, pCons, pDs, pTup, pLst, pNotT, pChain, pBl, pBlL, pLc, pYes, pCall, pSeqI, pRng1, pRng2, pEnum, pZip, pEZ, pSl, pNoPart, pPart, pIsa1, pIsa2, pCatL, x_Ite, x_AndT, x_OrT, x_Tst, x_AndV, x_OrV, x_NotV, boolD_d, elD_d, x_IxL, x_IxT, qII, qIC, qAdd, q1C, q2C, qLen, qTuple, qListL, qSum, qAll, qMin2, qMax2, qAbs, qInt, qEq, qNe, qIs, qIsNot, qIn, qNeg, qCatL, qSort, sqD, flatD, dIsN, wipeE, List.getElem?_cons_zero, List.getElem?_cons_succ, List.set_cons_zero, List.set_cons_succ, List.cons_append, List.nil_append, List.replicate_succ, List.replicate_zero, List.length_cons, List.length_nil, List.length_map, decide_eq_true_eq, decide_eq_false_iff_not, Bool.not_eq_true', Bool.not_eq_false', Bool.true_eq_false, Bool.false_eq_true, true_implies, false_implies, implies_true, true_and, and_true, Nat.reduceSub, Nat.reduceAdd, reduceCtorEq, Option.map_some, Option.map_none, if_true, if_false, Option.some.injEq, Int.toNat_natCast, x_If]
      refine s_whole ?_
      simp only [pFun, pIxO, pLenO, pPopO, pInsO, pStO, pSlS, qRepT, pStar, qSortT, qInD, pSortSet, pRng3, qMinP, pPar3, pDNew, pDPut, pSortDict, pTupR, pLstR, pRevL, pRet, pRetN, pNext, pAsg, pAsgL, pAsgG, pPar, pAug, pApp, pFz, pFor, pGN, pGNil, pGCons, pGT, pVar, pC, pOp, pUn, pFrz, pNil, pCons, pDs, pTup, pLst, pNotT, pChain, pBl, pBlL, pLc, pYes, pCall, pSeqI, pRng1, pRng2, pEnum, pZip, pEZ, pSl, pNoPart, pPart, pIsa1, pIsa2, pCatL, x_Ite, x_AndT, x_OrT, x_Tst, x_AndV, x_OrV, x_NotV, boolD_d, elD_d, x_IxL, x_IxT, qII, qIC, qAdd, q1C, q2C, qLen, qTuple, qListL, qSum, qAll, qMin2, qMax2, qAbs, qInt, qEq, qNe, qIs, qIsNot, qIn, qNeg, qCatL, qSort, sqD, flatD, dIsN, wipeE, List.getElem?_cons_zero, List.getElem?_cons_succ, List.set_cons_zero, List.set_cons_succ, List.cons_append, List.nil_append, List.replicate_succ, List.replicate_zero, List.length_cons, List.length_nil, List.length_map, decide_eq_true_eq, decide_eq_false_iff_not, Bool.not_eq_true', Bool.not_eq_false', Bool.true_eq_false, Bool.false_eq_true, true_implies, false_implies, implies_true, true_and, and_true, Nat.reduceSub, Nat.reduceAdd, reduceCtorEq, Option.map_some, Option.map_none, if_true, if_false, Option.some.injEq, Int.toNat_natCast, isW]
      refine s_draw (by decide) (by decide) fun a a0 a1 => ?_
      simp only [pFun, pIxO, pLenO, pPopO, pInsO, pStO, pSlS, qRepT, pStar, qSortT, qInD, pSortSet, pRng3, qMinP, pPar3, pDNew, pDPut, pSortDict, pTupR, pLstR, pRevL, pRet, pRetN, pNext, pAsg, pAsgL, pAsgG, pPar, pAug, pApp, pFz, pFor, pGN, pGNil, pGCons, pGT, pVar, pC, pOp, pUn, pFrz, pNil, pCons, pDs, pTup, pLst, pNotT, pChain, pBl, pBlL, pLc, pYes, pCall, pSeqI, pRng1, pRng2, pEnum, pZip, pEZ, pSl, pNoPart, pPart, pIsa1, pIsa2, pCatL, x_Ite, x_AndT, x_OrT, x_Tst, x_AndV, x_OrV, x_NotV, boolD_d, elD_d, x_IxL, x_IxT, qII, qIC, qAdd, q1C, q2C, qLen, qTuple, qListL, qSum, qAll, qMin2, qMax2, qAbs, qInt, qEq, qNe, qIs, qIsNot, qIn, qNeg, qCatL, qSort, sqD, flatD, dIsN, wipeE, List.getElem?_cons_zero, List.getElem?_cons_succ, List.set_cons_zero, List.set_cons_succ, List.cons_append, List.nil_append, List.replicate_succ, List.replicate_zero, List.length_cons, List.length_nil, List.length_map, decide_eq_true_eq, decide_eq_false_iff_not, Bool.not_eq_true', Bool.not_eq_false', Bool.true_eq_false, Bool.false_eq_true, true_implies, false_implies, implies_true, true_and, and_true, Nat.reduceSub, Nat.reduceAdd, reduceCtorEq, Option.map_some, Option.map_none, if_true, if_false, Option.some.injEq, Int.toNat_natCast]
      refine ⟨fun h0 => ?_, fun h0 => ?_⟩
      · refine ⟨by decide, ?_⟩
        refine s_draw (by decide) (by decide) fun b b0 b1 => ?_
        simp only [pFun, pIxO, pLenO, pPopO, pInsO, pStO, pSlS, qRepT, pStar, qSortT, qInD, pSortSet, pRng3, qMinP, pPar3, pDNew, pDPut, pSortDict, pTupR, pLstR, pRevL, pRet, pRetN, pNext, pAsg, pAsgL, pAsgG, pPar, pAug, pApp, pFz, pFor, pGN, pGNil, pGCons, pGT, pVar, pC, pOp, pUn, pFrz, pNil, pCons, pDs, pTup, pLst, pNotT, pChain, pBl, pBlL, pLc, pYes, pCall, pSeqI, pRng1, pRng2, pEnum, pZip, pEZ, pSl, pNoPart, pPart, pIsa1, pIsa2, pCatL, x_Ite, x_AndT, x_OrT, x_Tst, x_AndV, x_OrV, x_NotV, boolD_d, elD_d, x_IxL, x_IxT, qII, qIC, qAdd, q1C, q2C, qLen, qTuple, qListL, qSum, qAll, qMin2, qMax2, qAbs, qInt, qEq, qNe, qIs, qIsNot, qIn, qNeg, qCatL, qSort, sqD, flatD, dIsN, wipeE, List.getElem?_cons_zero, List.getElem?_cons_succ, List.set_cons_zero, List.set_cons_succ, List.cons_append, List.nil_append, List.replicate_succ, List.replicate_zero, List.length_cons, List.length_nil, List.length_map, decide_eq_true_eq, decide_eq_false_iff_not, Bool.not_eq_true', Bool.not_eq_false', Bool.true_eq_false, Bool.false_eq_true, true_implies, false_implies, implies_true, true_and, and_true, Nat.reduceSub, Nat.reduceAdd, reduceCtorEq, Option.map_some, Option.map_none, if_true, if_false, Option.some.injEq, Int.toNat_natCast]
        have hb : b = 0 ∨ b = 1 ∨ b = 2 ∨ b = 3 ∨ b = 4 ∨ b = 5 := by omega
        rcases hb with rfl | rfl | rfl | rfl | rfl | rfl <;> exact ⟨_, rfl, k _ fine_int⟩
      refine skip_if (fun Φ h => by simp only [pFun, pIxO, pLenO, pPopO, pInsO, pStO, pSlS, qRepT, pStar, qSortT, qInD, pSortSet, pRng3, qMinP, pPar3, pDNew, pDPut, pSortDict, pTupR, pLstR, pRevL, pRet, pRetN, pNext, pAsg, pAsgL, pAsgG, pPar, pAug, pApp, pFz, pFor, pGN, pGNil, pGCons, pGT, pVar, pC, pOp, pUn, pFrz, pNil, pCons, pDs, pTup, pLst, pNotT, pChain, pBl, pBlL, pLc, pYes, pCall, pSeqI, pRng1, pRng2, pEnum, pZip, pEZ, pSl, pNoPart, pPart, pIsa1, pIsa2, pCatL, x_Ite, x_AndT, x_OrT, x_Tst, x_AndV, x_OrV, x_NotV, boolD_d, elD_d, x_IxL, x_IxT, qII, qIC, qAdd, q1C, q2C, qLen, qTuple, qListL, qSum, qAll, qMin2, qMax2, qAbs, qInt, qEq, qNe, qIs, qIsNot, qIn, qNeg, qCatL, qSort, sqD, flatD, dIsN, wipeE, List.getElem?_cons_zero, List.getElem?_cons_succ, List.set_cons_zero, List.set_cons_succ, List.cons_append, List.nil_append, List.replicate_succ, List.replicate_zero, List.length_cons, List.length_nil, List.length_map, decide_eq_true_eq, decide_eq_false_iff_not, Bool.not_eq_true', Bool.not_eq_false', Bool.true_eq_false, Bool.false_eq_true, true_implies, false_implies, implies_true, true_and, and_true, Nat.reduceSub, Nat.reduceAdd, reduceCtorEq, Option.map_some, Option.map_none, if_true, if_false, Option.some.injEq, Int.toNat_natCast]; simp [isaD, isaS, tyD, boolD]; exact h) ?_
      refine skip_if (fun Φ h => by simp only [pFun, pIxO, pLenO, pPopO, pInsO, pStO, pSlS, qRepT, pStar, qSortT, qInD, pSortSet, pRng3, qMinP, pPar3, pDNew, pDPut, pSortDict, pTupR, pLstR, pRevL, pRet, pRetN, pNext, pAsg, pAsgL, pAsgG, pPar, pAug, pApp, pFz, pFor, pGN, pGNil, pGCons, pGT, pVar, pC, pOp, pUn, pFrz, pNil, pCons, pDs, pTup, pLst, pNotT, pChain, pBl, pBlL, pLc, pYes, pCall, pSeqI, pRng1, pRng2, pEnum, pZip, pEZ, pSl, pNoPart, pPart, pIsa1, pIsa2, pCatL, x_Ite, x_AndT, x_OrT, x_Tst, x_AndV, x_OrV, x_NotV, boolD_d, elD_d, x_IxL, x_IxT, qII, qIC, qAdd, q1C, q2C, qLen, qTuple, qListL, qSum, qAll, qMin2, qMax2, qAbs, qInt, qEq, qNe, qIs, qIsNot, qIn, qNeg, qCatL, qSort, sqD, flatD, dIsN, wipeE, List.getElem?_cons_zero, List.getElem?_cons_succ, List.set_cons_zero, List.set_cons_succ, List.cons_append, List.nil_append, List.replicate_succ, List.replicate_zero, List.length_cons, List.length_nil, List.length_map, decide_eq_true_eq, decide_eq_false_iff_not, Bool.not_eq_true', Bool.not_eq_false', Bool.true_eq_false, Bool.false_eq_true, true_implies, false_implies, implies_true, true_and, and_true, Nat.reduceSub, Nat.reduceAdd, reduceCtorEq, Option.map_some, Option.map_none, if_true, if_false, Option.some.injEq, Int.toNat_natCast]; simp [isaD, isaS, tyD, boolD]; exact h) ?_
      simp only [pFun, pIxO, pLenO, pPopO, pInsO, pStO, pSlS, qRepT, pStar, qSortT, qInD, pSortSet, pRng3, qMinP, pPar3, pDNew, pDPut, pSortDict, pTupR, pLstR, pRevL, pRet, pRetN, pNext, pAsg, pAsgL, pAsgG, pPar, pAug, pApp, pFz, pFor, pGN, pGNil, pGCons, pGT, pVar, pC, pOp, pUn, pFrz, pNil, pCons, pDs, pTup, pLst, pNotT, pChain, pBl, pBlL, pLc, pYes, pCall, pSeqI, pRng1, pRng2, pEnum, pZip, pEZ, pSl, pNoPart, pPart, pIsa1, pIsa2, pCatL, x_Ite, x_AndT, x_OrT, x_Tst, x_AndV, x_OrV, x_NotV, boolD_d, elD_d, x_IxL, x_IxT, qII, qIC, qAdd, q1C, q2C, qLen, qTuple, qListL, qSum, qAll, qMin2, qMax2, qAbs, qInt, qEq, qNe, qIs, qIsNot, qIn, qNeg, qCatL, qSort, sqD, flatD, dIsN, wipeE, List.getElem?_cons_zero, List.getElem?_cons_succ, List.set_cons_zero, List.set_cons_succ, List.cons_append, List.nil_append, List.replicate_succ, List.replicate_zero, List.length_cons, List.length_nil, List.length_map, decide_eq_true_eq, decide_eq_false_iff_not, Bool.not_eq_true', Bool.not_eq_false', Bool.true_eq_false, Bool.false_eq_true, true_implies, false_implies, implies_true, true_and, and_true, Nat.reduceSub, Nat.reduceAdd, reduceCtorEq, Option.map_some, Option.map_none, if_true, if_false, Option.some.injEq, Int.toNat_natCast]
      exact any2
    | str x =>
      have hx : x.length ≤ m ∧ PyData.strOk x = true := by cases n <;> exact hd
      refine skip_if (fun Φ h => by simp only [pFun, pIxO, pLenO, pPopO, pInsO, pStO, pSlS, qRepT, pStar, qSortT, qInD, pSortSet, pRng3, qMinP, pPar3, pDNew, pDPut, pSortDict, pTupR, pLstR, pRevL, pRet, pRetN, pNext, pAsg, pAsgL, pAsgG, pPar, pAug, pApp, pFz, pFor, pGN, pGNil, pGCons, pGT, pVar, pC, pOp, pUn, pFrz, pNil, pCons, pDs, pTup, pLst, pNotT, pChain, pBl, pBlL, pLc, pYes, pCall, pSeqI, pRng1, pRng2, pEnum, pZip, pEZ, pSl, pNoPart, pPart, pIsa1, pIsa2, pCatL, x_Ite, x_AndT, x_OrT, x_Tst, x_AndV, x_OrV, x_NotV, boolD_d, elD_d, x_IxL, x_IxT, qII, qIC, qAdd, q1C, q2C, qLen, qTuple, qListL, qSum, qAll, qMin2, qMax2, qAbs, qInt, qEq, qNe, qIs, qIsNot, qIn, qNeg, qCatL, qSort, sqD, flatD, dIsN, wipeE, List.getElem?_cons_zero, List.getElem?_cons_succ, List.set_cons_zero, List.set_cons_succ, List.cons_append, List.nil_append, List.replicate_succ, List.replicate_zero, List.length_cons, List.length_nil, List.length_map, decide_eq_true_eq, decide_eq_false_iff_not, Bool.not_eq_true', Bool.not_eq_false', Bool.true_eq_false, Bool.false_eq_true, true_implies, false_implies, implies_true, true_and, and_true, Nat.reduceSub, Nat.reduceAdd, reduceCtorEq, Option.map_some, Option.map_none, if_true, if_false, Option.some.injEq, Int.toNat_natCast]; simp [isaD, isaS, tyD, boolD]; exact h) ?_
      refine skip_if (fun Φ h => by simp only [pFun, pIxO, pLenO, pPopO, pInsO, pStO, pSlS, qRepT, pStar, qSortT, qInD, pSortSet, pRng3, qMinP, pPar3, pDNew, pDPut, pSortDict, pTupR, pLstR, pRevL, pRet, pRetN, pNext, pAsg, pAsgL, pAsgG, pPar, pAug, pApp, pFz, pFor, pGN, pGNil, pGCons, pGT, pVar, pC, pOp, pUn, pFrz, pNil, pCons, pDs, pTup, pLst, pNotT, pChain, pBl, pBlL, pLc, pYes, pCall, pSeqI, pRng1, pRng2, pEnum, pZip, pEZ, pSl, pNoPart, pPart, pIsa1, pIsa2, pCatL, x_Ite, x_AndT, x_OrT, x_Tst, x_AndV, x_OrV, x_NotV, boolD_d, elD_d, x_IxL, x_IxT, qII, qIC, qAdd, q1C, q2C, qLen, qTuple, qListL, qSum, qAll, qMin2, qMax2, qAbs, qInt, qEq, qNe, qIs, qIsNot, qIn, qNeg, qCatL, qSort, sqD, flatD, dIsN, wipeE, List.getElem?_cons_zero, List.getElem?_cons_succ, List.set_cons_zero, List.set_cons_succ, List.cons_append, List.nil_append, List.replicate_succ, List.replicate_zero, List.length_cons, List.length_nil, List.length_map, decide_eq_true_eq, decide_eq_false_iff_not, Bool.not_eq_true', Bool.not_eq_false', Bool.true_eq_false, Bool.false_eq_true, true_implies, false_implies, implies_true, true_and, and_true, Nat.reduceSub, Nat.reduceAdd, reduceCtorEq, Option.map_some, Option.map_none, if_true, if_false, Option.some.injEq, Int.toNat_natCast]; refine s_whole ?_; simp [isW, boolD]; exact h) ?_
      refine seq ?_
      simp only [pFun, pIxO, pLenO, pPopO, pInsO, pStO, pSlS, qRepT, pStar, qSortT, qInD, pSortSet, pRng3, qMinP, pPar3, pDNew, pDPut, pSortDict, pTupR, pLstR, pRevL, pRet, pRetN, pNext, pAsg, pAsgL, pAsgG, pPar, pAug, pApp, pFz, pFor, pGN, pGNil, pGCons, pGT, pVar, pC, pOp, pUn, pFrz, pNil, pCons, pDs, pTup, pLst, pNotT, pChain, pBl, pBlL, pLc, pYes, pCall, pSeqI, pRng1, pRng2, pEnum, pZip, pEZ, pSl, pNoPart, pPart, pIsa1, pIsa2, pCatL, x_Ite, x_AndT, x_OrT, x_Tst, x_AndV, x_OrV, x_NotV, boolD_d, elD_d, x_IxL, x_IxT, qII, qIC, qAdd, q1C, q2C, qLen, qTuple, qListL, qSum, qAll, qMin2, qMax2, qAbs, qInt, qEq, qNe, qIs, qIsNot, qIn, qNeg, qCatL, qSort, sqD, flatD, dIsN, wipeE, List.getElem?_cons_zero, List.getElem?_cons_succ, List.set_cons_zero, List.set_cons_succ, List.cons_append, List.nil_append, List.replicate_succ, List.replicate_zero, List.length_cons, List.length_nil, List.length_map, decide_eq_true_eq, decide_eq_false_iff_not, Bool.not_eq_true', Bool.not_eq_false', Bool.true_eq_false, Bool.false_eq_true, true_implies, false_implies, implies_true, true_and, and_true, Nat.reduceSub, Nat.reduceAdd, reduceCtorEq, Option.map_some, Option.map_none, if_true, if_false, Option.some.injEq, Int.toNat_natCast, x_If, show isaD (.str x) "str" = true from rfl]
      refine s_draw (by decide) (by decide) fun a a0 a1 => ?_
      simp only [pFun, pIxO, pLenO, pPopO, pInsO, pStO, pSlS, qRepT, pStar, qSortT, qInD, pSortSet, pRng3, qMinP, pPar3, pDNew, pDPut, pSortDict, pTupR, pLstR, pRevL, pRet, pRetN, pNext, pAsg, pAsgL, pAsgG, pPar, pAug, pApp, pFz, pFor, pGN, pGNil, pGCons, pGT, pVar, pC, pOp, pUn, pFrz, pNil, pCons, pDs, pTup, pLst, pNotT, pChain, pBl, pBlL, pLc, pYes, pCall, pSeqI, pRng1, pRng2, pEnum, pZip, pEZ, pSl, pNoPart, pPart, pIsa1, pIsa2, pCatL, x_Ite, x_AndT, x_OrT, x_Tst, x_AndV, x_OrV, x_NotV, boolD_d, elD_d, x_IxL, x_IxT, qII, qIC, qAdd, q1C, q2C, qLen, qTuple, qListL, qSum, qAll, qMin2, qMax2, qAbs, qInt, qEq, qNe, qIs, qIsNot, qIn, qNeg, qCatL, qSort, sqD, flatD, dIsN, wipeE, List.getElem?_cons_zero, List.getElem?_cons_succ, List.set_cons_zero, List.set_cons_succ, List.cons_append, List.nil_append, List.replicate_succ, List.replicate_zero, List.length_cons, List.length_nil, List.length_map, decide_eq_true_eq, decide_eq_false_iff_not, Bool.not_eq_true', Bool.not_eq_false', Bool.true_eq_false, Bool.false_eq_true, true_implies, false_implies, implies_true, true_and, and_true, Nat.reduceSub, Nat.reduceAdd, reduceCtorEq, Option.map_some, Option.map_none, if_true, if_false, Option.some.injEq, Int.toNat_natCast]
      refine ⟨fun h0 => ?_, fun h0 => ?_⟩
      · refine seq ?_
        simp only [pFun, pIxO, pLenO, pPopO, pInsO, pStO, pSlS, qRepT, pStar, qSortT, qInD, pSortSet, pRng3, qMinP, pPar3, pDNew, pDPut, pSortDict, pTupR, pLstR, pRevL, pRet, pRetN, pNext, pAsg, pAsgL, pAsgG, pPar, pAug, pApp, pFz, pFor, pGN, pGNil, pGCons, pGT, pVar, pC, pOp, pUn, pFrz, pNil, pCons, pDs, pTup, pLst, pNotT, pChain, pBl, pBlL, pLc, pYes, pCall, pSeqI, pRng1, pRng2, pEnum, pZip, pEZ, pSl, pNoPart, pPart, pIsa1, pIsa2, pCatL, x_Ite, x_AndT, x_OrT, x_Tst, x_AndV, x_OrV, x_NotV, boolD_d, elD_d, x_IxL, x_IxT, qII, qIC, qAdd, q1C, q2C, qLen, qTuple, qListL, qSum, qAll, qMin2, qMax2, qAbs, qInt, qEq, qNe, qIs, qIsNot, qIn, qNeg, qCatL, qSort, sqD, flatD, dIsN, wipeE, List.getElem?_cons_zero, List.getElem?_cons_succ, List.set_cons_zero, List.set_cons_succ, List.cons_append, List.nil_append, List.replicate_succ, List.replicate_zero, List.length_cons, List.length_nil, List.length_map, decide_eq_true_eq, decide_eq_false_iff_not, Bool.not_eq_true', Bool.not_eq_false', Bool.true_eq_false, Bool.false_eq_true, true_implies, false_implies, implies_true, true_and, and_true, Nat.reduceSub, Nat.reduceAdd, reduceCtorEq, Option.map_some, Option.map_none, if_true, if_false, Option.some.injEq, Int.toNat_natCast]
        refine ⟨by omega, ?_⟩
        refine s_draw (by omega) (by omega) fun b b0 b1 => ?_
        simp only [pFun, pIxO, pLenO, pPopO, pInsO, pStO, pSlS, qRepT, pStar, qSortT, qInD, pSortSet, pRng3, qMinP, pPar3, pDNew, pDPut, pSortDict, pTupR, pLstR, pRevL, pRet, pRetN, pNext, pAsg, pAsgL, pAsgG, pPar, pAug, pApp, pFz, pFor, pGN, pGNil, pGCons, pGT, pVar, pC, pOp, pUn, pFrz, pNil, pCons, pDs, pTup, pLst, pNotT, pChain, pBl, pBlL, pLc, pYes, pCall, pSeqI, pRng1, pRng2, pEnum, pZip, pEZ, pSl, pNoPart, pPart, pIsa1, pIsa2, pCatL, x_Ite, x_AndT, x_OrT, x_Tst, x_AndV, x_OrV, x_NotV, boolD_d, elD_d, x_IxL, x_IxT, qII, qIC, qAdd, q1C, q2C, qLen, qTuple, qListL, qSum, qAll, qMin2, qMax2, qAbs, qInt, qEq, qNe, qIs, qIsNot, qIn, qNeg, qCatL, qSort, sqD, flatD, dIsN, wipeE, List.getElem?_cons_zero, List.getElem?_cons_succ, List.set_cons_zero, List.set_cons_succ, List.cons_append, List.nil_append, List.replicate_succ, List.replicate_zero, List.length_cons, List.length_nil, List.length_map, decide_eq_true_eq, decide_eq_false_iff_not, Bool.not_eq_true', Bool.not_eq_false', Bool.true_eq_false, Bool.false_eq_true, true_implies, false_implies, implies_true, true_and, and_true, Nat.reduceSub, Nat.reduceAdd, reduceCtorEq, Option.map_some, Option.map_none, if_true, if_false, Option.some.injEq, Int.toNat_natCast]
        have l3 : (L2.cutS x none (some b)).length + (L2.cutS x (some b) none).length ≤ x.length := by
          have e : b = ((b.toNat : Nat) : Int) := by omega
          rw [e]
          exact cutS_two x _
        have k1 := sok_cut hx.2 none (some b)
        have k2 := sok_cut hx.2 (some b) none
        refine ⟨by omega, by decide, ?_⟩
        refine s_draw (by decide) (by decide) fun c c0 c1 => ?_
        simp only [pFun, pIxO, pLenO, pPopO, pInsO, pStO, pSlS, qRepT, pStar, qSortT, qInD, pSortSet, pRng3, qMinP, pPar3, pDNew, pDPut, pSortDict, pTupR, pLstR, pRevL, pRet, pRetN, pNext, pAsg, pAsgL, pAsgG, pPar, pAug, pApp, pFz, pFor, pGN, pGNil, pGCons, pGT, pVar, pC, pOp, pUn, pFrz, pNil, pCons, pDs, pTup, pLst, pNotT, pChain, pBl, pBlL, pLc, pYes, pCall, pSeqI, pRng1, pRng2, pEnum, pZip, pEZ, pSl, pNoPart, pPart, pIsa1, pIsa2, pCatL, x_Ite, x_AndT, x_OrT, x_Tst, x_AndV, x_OrV, x_NotV, boolD_d, elD_d, x_IxL, x_IxT, qII, qIC, qAdd, q1C, q2C, qLen, qTuple, qListL, qSum, qAll, qMin2, qMax2, qAbs, qInt, qEq, qNe, qIs, qIsNot, qIn, qNeg, qCatL, qSort, sqD, flatD, dIsN, wipeE, List.getElem?_cons_zero, List.getElem?_cons_succ, List.set_cons_zero, List.set_cons_succ, List.cons_append, List.nil_append, List.replicate_succ, List.replicate_zero, List.length_cons, List.length_nil, List.length_map, decide_eq_true_eq, decide_eq_false_iff_not, Bool.not_eq_true', Bool.not_eq_false', Bool.true_eq_false, Bool.false_eq_true, true_implies, false_implies, implies_true, true_and, and_true, Nat.reduceSub, Nat.reduceAdd, reduceCtorEq, Option.map_some, Option.map_none, if_true, if_false, Option.some.injEq, Int.toNat_natCast]
        have key : ∃ y : Str, L2.atI [PyData.str (Str.ofString " "), PyData.str (Str.ofString "z"), PyData.str (Str.ofString "A"), PyData.str (Str.ofString "|"), PyData.str (Str.ofString "abcdefgh"), PyData.str (Str.ofString "")] c = some (.str y) ∧ y.length ≤ 8 ∧ PyData.strOk y = true := by
          have ha : c = 0 ∨ c = 1 ∨ c = 2 ∨ c = 3 ∨ c = 4 ∨ c = 5 := by omega
          rcases ha with rfl | rfl | rfl | rfl | rfl | rfl <;> exact ⟨_, rfl, by decide +kernel, by decide +kernel⟩
        obtain ⟨y, e, y1, y2⟩ := key
        refine ⟨_, e, ?_⟩
        refine ⟨by omega, by omega, ?_, k _ (fine_str ?_ ?_)⟩
        · rw [str_app]; omega
        · rw [str_app, str_app]; omega
        · exact sok_app (sok_app k1 y2) k2
      refine skip_if (fun Φ h => by simp only [pFun, pIxO, pLenO, pPopO, pInsO, pStO, pSlS, qRepT, pStar, qSortT, qInD, pSortSet, pRng3, qMinP, pPar3, pDNew, pDPut, pSortDict, pTupR, pLstR, pRevL, pRet, pRetN, pNext, pAsg, pAsgL, pAsgG, pPar, pAug, pApp, pFz, pFor, pGN, pGNil, pGCons, pGT, pVar, pC, pOp, pUn, pFrz, pNil, pCons, pDs, pTup, pLst, pNotT, pChain, pBl, pBlL, pLc, pYes, pCall, pSeqI, pRng1, pRng2, pEnum, pZip, pEZ, pSl, pNoPart, pPart, pIsa1, pIsa2, pCatL, x_Ite, x_AndT, x_OrT, x_Tst, x_AndV, x_OrV, x_NotV, boolD_d, elD_d, x_IxL, x_IxT, qII, qIC, qAdd, q1C, q2C, qLen, qTuple, qListL, qSum, qAll, qMin2, qMax2, qAbs, qInt, qEq, qNe, qIs, qIsNot, qIn, qNeg, qCatL, qSort, sqD, flatD, dIsN, wipeE, List.getElem?_cons_zero, List.getElem?_cons_succ, List.set_cons_zero, List.set_cons_succ, List.cons_append, List.nil_append, List.replicate_succ, List.replicate_zero, List.length_cons, List.length_nil, List.length_map, decide_eq_true_eq, decide_eq_false_iff_not, Bool.not_eq_true', Bool.not_eq_false', Bool.true_eq_false, Bool.false_eq_true, true_implies, false_implies, implies_true, true_and, and_true, Nat.reduceSub, Nat.reduceAdd, reduceCtorEq, Option.map_some, Option.map_none, if_true, if_false, Option.some.injEq, Int.toNat_natCast]; simp [isaD, isaS, tyD, boolD]; exact h) ?_
      simp only [pFun, pIxO, pLenO, pPopO, pInsO, pStO, pSlS, qRepT, pStar, qSortT, qInD, pSortSet, pRng3, qMinP, pPar3, pDNew, pDPut, pSortDict, pTupR, pLstR, pRevL, pRet, pRetN, pNext, pAsg, pAsgL, pAsgG, pPar, pAug, pApp, pFz, pFor, pGN, pGNil, pGCons, pGT, pVar, pC, pOp, pUn, pFrz, pNil, pCons, pDs, pTup, pLst, pNotT, pChain, pBl, pBlL, pLc, pYes, pCall, pSeqI, pRng1, pRng2, pEnum, pZip, pEZ, pSl, pNoPart, pPart, pIsa1, pIsa2, pCatL, x_Ite, x_AndT, x_OrT, x_Tst, x_AndV, x_OrV, x_NotV, boolD_d, elD_d, x_IxL, x_IxT, qII, qIC, qAdd, q1C, q2C, qLen, qTuple, qListL, qSum, qAll, qMin2, qMax2, qAbs, qInt, qEq, qNe, qIs, qIsNot, qIn, qNeg, qCatL, qSort, sqD, flatD, dIsN, wipeE, List.getElem?_cons_zero, List.getElem?_cons_succ, List.set_cons_zero, List.set_cons_succ, List.cons_append, List.nil_append, List.replicate_succ, List.replicate_zero, List.length_cons, List.length_nil, List.length_map, decide_eq_true_eq, decide_eq_false_iff_not, Bool.not_eq_true', Bool.not_eq_false', Bool.true_eq_false, Bool.false_eq_true, true_implies, false_implies, implies_true, true_and, and_true, Nat.reduceSub, Nat.reduceAdd, reduceCtorEq, Option.map_some, Option.map_none, if_true, if_false, Option.some.injEq, Int.toNat_natCast]
      exact any2
    | list xs =>
      cases n with
      | zero => exact hd.elim
      | succ n =>
        obtain ⟨hl, hx⟩ := hd
        refine if_q (0 < xs.length) (fun Φ h1 h2 => ?_) (fun h0 => ?_) ?_
        · simp only [pFun, pIxO, pLenO, pPopO, pInsO, pStO, pSlS, qRepT, pStar, qSortT, qInD, pSortSet, pRng3, qMinP, pPar3, pDNew, pDPut, pSortDict, pTupR, pLstR, pRevL, pRet, pRetN, pNext, pAsg, pAsgL, pAsgG, pPar, pAug, pApp, pFz, pFor, pGN, pGNil, pGCons, pGT, pVar, pC, pOp, pUn, pFrz, pNil, pCons, pDs, pTup, pLst, pNotT, pChain, pBl, pBlL, pLc, pYes, pCall, pSeqI, pRng1, pRng2, pEnum, pZip, pEZ, pSl, pNoPart, pPart, pIsa1, pIsa2, pCatL, x_Ite, x_AndT, x_OrT, x_Tst, x_AndV, x_OrV, x_NotV, boolD_d, elD_d, x_IxL, x_IxT, qII, qIC, qAdd, q1C, q2C, qLen, qTuple, qListL, qSum, qAll, qMin2, qMax2, qAbs, qInt, qEq, qNe, qIs, qIsNot, qIn, qNeg, qCatL, qSort, sqD, flatD, dIsN, wipeE, List.getElem?_cons_zero, List.getElem?_cons_succ, List.set_cons_zero, List.set_cons_succ, List.cons_append, List.nil_append, List.replicate_succ, List.replicate_zero, List.length_cons, List.length_nil, List.length_map, decide_eq_true_eq, decide_eq_false_iff_not, Bool.not_eq_true', Bool.not_eq_false', Bool.true_eq_false, Bool.false_eq_true, true_implies, false_implies, implies_true, true_and, and_true, Nat.reduceSub, Nat.reduceAdd, reduceCtorEq, Option.map_some, Option.map_none, if_true, if_false, Option.some.injEq, Int.toNat_natCast, isL2]
          refine ⟨fun h => ?_, fun _ => h2⟩
          refine s_draw (by omega) (by omega) fun a a0 a1 => ?_
          simp only [pFun, pIxO, pLenO, pPopO, pInsO, pStO, pSlS, qRepT, pStar, qSortT, qInD, pSortSet, pRng3, qMinP, pPar3, pDNew, pDPut, pSortDict, pTupR, pLstR, pRevL, pRet, pRetN, pNext, pAsg, pAsgL, pAsgG, pPar, pAug, pApp, pFz, pFor, pGN, pGNil, pGCons, pGT, pVar, pC, pOp, pUn, pFrz, pNil, pCons, pDs, pTup, pLst, pNotT, pChain, pBl, pBlL, pLc, pYes, pCall, pSeqI, pRng1, pRng2, pEnum, pZip, pEZ, pSl, pNoPart, pPart, pIsa1, pIsa2, pCatL, x_Ite, x_AndT, x_OrT, x_Tst, x_AndV, x_OrV, x_NotV, boolD_d, elD_d, x_IxL, x_IxT, qII, qIC, qAdd, q1C, q2C, qLen, qTuple, qListL, qSum, qAll, qMin2, qMax2, qAbs, qInt, qEq, qNe, qIs, qIsNot, qIn, qNeg, qCatL, qSort, sqD, flatD, dIsN, wipeE, List.getElem?_cons_zero, List.getElem?_cons_succ, List.set_cons_zero, List.set_cons_succ, List.cons_append, List.nil_append, List.replicate_succ, List.replicate_zero, List.length_cons, List.length_nil, List.length_map, decide_eq_true_eq, decide_eq_false_iff_not, Bool.not_eq_true', Bool.not_eq_false', Bool.true_eq_false, Bool.false_eq_true, true_implies, false_implies, implies_true, true_and, and_true, Nat.reduceSub, Nat.reduceAdd, reduceCtorEq, Option.map_some, Option.map_none, if_true, if_false, Option.some.injEq, Int.toNat_natCast, qGt, boolD_d]
          by_cases h3 : a > 0
          · rw [decide_eq_true h3]; exact h1 (by omega)
          · rw [decide_eq_false h3]; exact h2
        · refine seq ?_
          simp only [pFun, pIxO, pLenO, pPopO, pInsO, pStO, pSlS, qRepT, pStar, qSortT, qInD, pSortSet, pRng3, qMinP, pPar3, pDNew, pDPut, pSortDict, pTupR, pLstR, pRevL, pRet, pRetN, pNext, pAsg, pAsgL, pAsgG, pPar, pAug, pApp, pFz, pFor, pGN, pGNil, pGCons, pGT, pVar, pC, pOp, pUn, pFrz, pNil, pCons, pDs, pTup, pLst, pNotT, pChain, pBl, pBlL, pLc, pYes, pCall, pSeqI, pRng1, pRng2, pEnum, pZip, pEZ, pSl, pNoPart, pPart, pIsa1, pIsa2, pCatL, x_Ite, x_AndT, x_OrT, x_Tst, x_AndV, x_OrV, x_NotV, boolD_d, elD_d, x_IxL, x_IxT, qII, qIC, qAdd, q1C, q2C, qLen, qTuple, qListL, qSum, qAll, qMin2, qMax2, qAbs, qInt, qEq, qNe, qIs, qIsNot, qIn, qNeg, qCatL, qSort, sqD, flatD, dIsN, wipeE, List.getElem?_cons_zero, List.getElem?_cons_succ, List.set_cons_zero, List.set_cons_succ, List.cons_append, List.nil_append, List.replicate_succ, List.replicate_zero, List.length_cons, List.length_nil, List.length_map, decide_eq_true_eq, decide_eq_false_iff_not, Bool.not_eq_true', Bool.not_eq_false', Bool.true_eq_false, Bool.false_eq_true, true_implies, false_implies, implies_true, true_and, and_true, Nat.reduceSub, Nat.reduceAdd, reduceCtorEq, Option.map_some, Option.map_none, if_true, if_false, Option.some.injEq, Int.toNat_natCast]
          refine s_draw (by omega) (by omega) fun q q0 q1 => ?_
          try simp only [pFun, pIxO, pLenO, pPopO, pInsO, pStO, pSlS, qRepT, pStar, qSortT, qInD, pSortSet, pRng3, qMinP, pPar3, pDNew, pDPut, pSortDict, pTupR, pLstR, pRevL, pRet, pRetN, pNext, pAsg, pAsgL, pAsgG, pPar, pAug, pApp, pFz, pFor, pGN, pGNil, pGCons, pGT, pVar, pC, pOp, pUn, pFrz, pNil, pCons, pDs, pTup, pLst, pNotT, pChain, pBl, pBlL, pLc, pYes, pCall, pSeqI, pRng1, pRng2, pEnum, pZip, pEZ, pSl, pNoPart, pPart, pIsa1, pIsa2, pCatL, x_Ite, x_AndT, x_OrT, x_Tst, x_AndV, x_OrV, x_NotV, boolD_d, elD_d, x_IxL, x_IxT, qII, qIC, qAdd, q1C, q2C, qLen, qTuple, qListL, qSum, qAll, qMin2, qMax2, qAbs, qInt, qEq, qNe, qIs, qIsNot, qIn, qNeg, qCatL, qSort, sqD, flatD, dIsN, wipeE, List.getElem?_cons_zero, List.getElem?_cons_succ, List.set_cons_zero, List.set_cons_succ, List.cons_append, List.nil_append, List.replicate_succ, List.replicate_zero, List.length_cons, List.length_nil, List.length_map, decide_eq_true_eq, decide_eq_false_iff_not, Bool.not_eq_true', Bool.not_eq_false', Bool.true_eq_false, Bool.false_eq_true, true_implies, false_implies, implies_true, true_and, and_true, Nat.reduceSub, Nat.reduceAdd, reduceCtorEq, Option.map_some, Option.map_none, if_true, if_false, Option.some.injEq, Int.toNat_natCast]
          refine seq ?_
          simp only [pFun, pIxO, pLenO, pPopO, pInsO, pStO, pSlS, qRepT, pStar, qSortT, qInD, pSortSet, pRng3, qMinP, pPar3, pDNew, pDPut, pSortDict, pTupR, pLstR, pRevL, pRet, pRetN, pNext, pAsg, pAsgL, pAsgG, pPar, pAug, pApp, pFz, pFor, pGN, pGNil, pGCons, pGT, pVar, pC, pOp, pUn, pFrz, pNil, pCons, pDs, pTup, pLst, pNotT, pChain, pBl, pBlL, pLc, pYes, pCall, pSeqI, pRng1, pRng2, pEnum, pZip, pEZ, pSl, pNoPart, pPart, pIsa1, pIsa2, pCatL, x_Ite, x_AndT, x_OrT, x_Tst, x_AndV, x_OrV, x_NotV, boolD_d, elD_d, x_IxL, x_IxT, qII, qIC, qAdd, q1C, q2C, qLen, qTuple, qListL, qSum, qAll, qMin2, qMax2, qAbs, qInt, qEq, qNe, qIs, qIsNot, qIn, qNeg, qCatL, qSort, sqD, flatD, dIsN, wipeE, List.getElem?_cons_zero, List.getElem?_cons_succ, List.set_cons_zero, List.set_cons_succ, List.cons_append, List.nil_append, List.replicate_succ, List.replicate_zero, List.length_cons, List.length_nil, List.length_map, decide_eq_true_eq, decide_eq_false_iff_not, Bool.not_eq_true', Bool.not_eq_false', Bool.true_eq_false, Bool.false_eq_true, true_implies, false_implies, implies_true, true_and, and_true, Nat.reduceSub, Nat.reduceAdd, reduceCtorEq, Option.map_some, Option.map_none, if_true, if_false, Option.some.injEq, Int.toNat_natCast]
          refine seq ?_
          simp only [pFun, pIxO, pLenO, pPopO, pInsO, pStO, pSlS, qRepT, pStar, qSortT, qInD, pSortSet, pRng3, qMinP, pPar3, pDNew, pDPut, pSortDict, pTupR, pLstR, pRevL, pRet, pRetN, pNext, pAsg, pAsgL, pAsgG, pPar, pAug, pApp, pFz, pFor, pGN, pGNil, pGCons, pGT, pVar, pC, pOp, pUn, pFrz, pNil, pCons, pDs, pTup, pLst, pNotT, pChain, pBl, pBlL, pLc, pYes, pCall, pSeqI, pRng1, pRng2, pEnum, pZip, pEZ, pSl, pNoPart, pPart, pIsa1, pIsa2, pCatL, x_Ite, x_AndT, x_OrT, x_Tst, x_AndV, x_OrV, x_NotV, boolD_d, elD_d, x_IxL, x_IxT, qII, qIC, qAdd, q1C, q2C, qLen, qTuple, qListL, qSum, qAll, qMin2, qMax2, qAbs, qInt, qEq, qNe, qIs, qIsNot, qIn, qNeg, qCatL, qSort, sqD, flatD, dIsN, wipeE, List.getElem?_cons_zero, List.getElem?_cons_succ, List.set_cons_zero, List.set_cons_succ, List.cons_append, List.nil_append, List.replicate_succ, List.replicate_zero, List.length_cons, List.length_nil, List.length_map, decide_eq_true_eq, decide_eq_false_iff_not, Bool.not_eq_true', Bool.not_eq_false', Bool.true_eq_false, Bool.false_eq_true, true_implies, false_implies, implies_true, true_and, and_true, Nat.reduceSub, Nat.reduceAdd, reduceCtorEq, Option.map_some, Option.map_none, if_true, if_false, Option.some.injEq, Int.toNat_natCast]
          refine s_draw (by omega) (by omega) fun c c0 c1 => ?_
          try simp only [pFun, pIxO, pLenO, pPopO, pInsO, pStO, pSlS, qRepT, pStar, qSortT, qInD, pSortSet, pRng3, qMinP, pPar3, pDNew, pDPut, pSortDict, pTupR, pLstR, pRevL, pRet, pRetN, pNext, pAsg, pAsgL, pAsgG, pPar, pAug, pApp, pFz, pFor, pGN, pGNil, pGCons, pGT, pVar, pC, pOp, pUn, pFrz, pNil, pCons, pDs, pTup, pLst, pNotT, pChain, pBl, pBlL, pLc, pYes, pCall, pSeqI, pRng1, pRng2, pEnum, pZip, pEZ, pSl, pNoPart, pPart, pIsa1, pIsa2, pCatL, x_Ite, x_AndT, x_OrT, x_Tst, x_AndV, x_OrV, x_NotV, boolD_d, elD_d, x_IxL, x_IxT, qII, qIC, qAdd, q1C, q2C, qLen, qTuple, qListL, qSum, qAll, qMin2, qMax2, qAbs, qInt, qEq, qNe, qIs, qIsNot, qIn, qNeg, qCatL, qSort, sqD, flatD, dIsN, wipeE, List.getElem?_cons_zero, List.getElem?_cons_succ, List.set_cons_zero, List.set_cons_succ, List.cons_append, List.nil_append, List.replicate_succ, List.replicate_zero, List.length_cons, List.length_nil, List.length_map, decide_eq_true_eq, decide_eq_false_iff_not, Bool.not_eq_true', Bool.not_eq_false', Bool.true_eq_false, Bool.false_eq_true, true_implies, false_implies, implies_true, true_and, and_true, Nat.reduceSub, Nat.reduceAdd, reduceCtorEq, Option.map_some, Option.map_none, if_true, if_false, Option.some.injEq, Int.toNat_natCast]
          refine seq_cut (fun ρ => ∃ ys : List D, ρ = [.tp, .d (.list xs), .d (.int q), .ol ys, .d (.int c), .u] ∧ ys.length ≤ m + 8 ∧ ∀ y ∈ ys, Fine (m + 8) (n + 3) y) (fun Ψ hΨ => ?_) ?_
          · simp only [pFun, pIxO, pLenO, pPopO, pInsO, pStO, pSlS, qRepT, pStar, qSortT, qInD, pSortSet, pRng3, qMinP, pPar3, pDNew, pDPut, pSortDict, pTupR, pLstR, pRevL, pRet, pRetN, pNext, pAsg, pAsgL, pAsgG, pPar, pAug, pApp, pFz, pFor, pGN, pGNil, pGCons, pGT, pVar, pC, pOp, pUn, pFrz, pNil, pCons, pDs, pTup, pLst, pNotT, pChain, pBl, pBlL, pLc, pYes, pCall, pSeqI, pRng1, pRng2, pEnum, pZip, pEZ, pSl, pNoPart, pPart, pIsa1, pIsa2, pCatL, x_Ite, x_AndT, x_OrT, x_Tst, x_AndV, x_OrV, x_NotV, boolD_d, elD_d, x_IxL, x_IxT, qII, qIC, qAdd, q1C, q2C, qLen, qTuple, qListL, qSum, qAll, qMin2, qMax2, qAbs, qInt, qEq, qNe, qIs, qIsNot, qIn, qNeg, qCatL, qSort, sqD, flatD, dIsN, wipeE, List.getElem?_cons_zero, List.getElem?_cons_succ, List.set_cons_zero, List.set_cons_succ, List.cons_append, List.nil_append, List.replicate_succ, List.replicate_zero, List.length_cons, List.length_nil, List.length_map, decide_eq_true_eq, decide_eq_false_iff_not, Bool.not_eq_true', Bool.not_eq_false', Bool.true_eq_false, Bool.false_eq_true, true_implies, false_implies, implies_true, true_and, and_true, Nat.reduceSub, Nat.reduceAdd, reduceCtorEq, Option.map_some, Option.map_none, if_true, if_false, Option.some.injEq, Int.toNat_natCast, x_If]
            have lift : ∀ {y}, y ∈ xs → Fine (m + 8) (n + 3) y := fun {y} hy => (hx y hy).le (by omega) (by omega)
            refine ⟨fun h8 => ?_, fun _ => ⟨shp_int _, shp_int _, fun _ => ⟨⟨q0, q1, by omega⟩, hΨ _ ⟨_, rfl, ?_, ?_⟩⟩, fun _ => ⟨shp_int _, shp_int _, fun _ => ?_, fun _ => ⟨shp_int _, shp_int _, fun _ => hΨ _ ⟨_, rfl, ?_, ?_⟩, fun _ => ?_⟩⟩⟩⟩
            · obtain ⟨v, e, hv⟩ := getA q0 q1
              refine ⟨v, e, ?_⟩
              refine s_spoilt (f + 4) (by omega) (by omega) hm (hx v hv) fun y hy => ?_
              refine ⟨⟨q0, q1⟩, hΨ _ ⟨_, rfl, ?_, fun z hz => ?_⟩⟩
              · rw [List.length_set]; omega
              · rcases List.mem_or_eq_of_mem_set hz with hz | rfl
                · exact lift hz
                · exact hy
            · have := List.length_eraseIdx_le xs q.toNat
              omega
            · exact fun y hy => lift (List.mem_of_mem_eraseIdx hy)
            · refine s_draw (by omega) (by omega) fun b b0 b1 => ?_
              obtain ⟨v, e, hv⟩ := getA b0 b1
              refine ⟨v, e, ⟨q0, by omega, by omega⟩, hΨ _ ⟨_, rfl, ?_, fun y hy => ?_⟩⟩
              · simp only [List.length_append, List.length_take, List.length_drop, List.length_cons, List.length_nil]; omega
              · rcases mem_ins hy with rfl | hy
                · exact lift hv
                · exact lift hy
            · rw [List.length_reverse]; omega
            · exact fun y hy => lift (List.mem_reverse.mp hy)
            · refine s_any 4 1 (by decide) (by decide) fun v hv => ?_
              refine ⟨⟨q0, by omega, by omega⟩, hΨ _ ⟨_, rfl, ?_, fun y hy => ?_⟩⟩
              · simp only [List.length_append, List.length_take, List.length_drop, List.length_cons, List.length_nil]; omega
              · rcases mem_ins hy with rfl | hy
                · exact hv.le (by omega) (by omega)
                · exact lift hy
          · rintro _ ⟨ys, rfl, hy, hz⟩
            simp only [pFun, pIxO, pLenO, pPopO, pInsO, pStO, pSlS, qRepT, pStar, qSortT, qInD, pSortSet, pRng3, qMinP, pPar3, pDNew, pDPut, pSortDict, pTupR, pLstR, pRevL, pRet, pRetN, pNext, pAsg, pAsgL, pAsgG, pPar, pAug, pApp, pFz, pFor, pGN, pGNil, pGCons, pGT, pVar, pC, pOp, pUn, pFrz, pNil, pCons, pDs, pTup, pLst, pNotT, pChain, pBl, pBlL, pLc, pYes, pCall, pSeqI, pRng1, pRng2, pEnum, pZip, pEZ, pSl, pNoPart, pPart, pIsa1, pIsa2, pCatL, x_Ite, x_AndT, x_OrT, x_Tst, x_AndV, x_OrV, x_NotV, boolD_d, elD_d, x_IxL, x_IxT, qII, qIC, qAdd, q1C, q2C, qLen, qTuple, qListL, qSum, qAll, qMin2, qMax2, qAbs, qInt, qEq, qNe, qIs, qIsNot, qIn, qNeg, qCatL, qSort, sqD, flatD, dIsN, wipeE, List.getElem?_cons_zero, List.getElem?_cons_succ, List.set_cons_zero, List.set_cons_succ, List.cons_append, List.nil_append, List.replicate_succ, List.replicate_zero, List.length_cons, List.length_nil, List.length_map, decide_eq_true_eq, decide_eq_false_iff_not, Bool.not_eq_true', Bool.not_eq_false', Bool.true_eq_false, Bool.false_eq_true, true_implies, false_implies, implies_true, true_and, and_true, Nat.reduceSub, Nat.reduceAdd, reduceCtorEq, Option.map_some, Option.map_none, if_true, if_false, Option.some.injEq, Int.toNat_natCast, isL1]
            exact k _ (fine_list hy hz)
        refine skip_if (fun Φ h => by simp only [pFun, pIxO, pLenO, pPopO, pInsO, pStO, pSlS, qRepT, pStar, qSortT, qInD, pSortSet, pRng3, qMinP, pPar3, pDNew, pDPut, pSortDict, pTupR, pLstR, pRevL, pRet, pRetN, pNext, pAsg, pAsgL, pAsgG, pPar, pAug, pApp, pFz, pFor, pGN, pGNil, pGCons, pGT, pVar, pC, pOp, pUn, pFrz, pNil, pCons, pDs, pTup, pLst, pNotT, pChain, pBl, pBlL, pLc, pYes, pCall, pSeqI, pRng1, pRng2, pEnum, pZip, pEZ, pSl, pNoPart, pPart, pIsa1, pIsa2, pCatL, x_Ite, x_AndT, x_OrT, x_Tst, x_AndV, x_OrV, x_NotV, boolD_d, elD_d, x_IxL, x_IxT, qII, qIC, qAdd, q1C, q2C, qLen, qTuple, qListL, qSum, qAll, qMin2, qMax2, qAbs, qInt, qEq, qNe, qIs, qIsNot, qIn, qNeg, qCatL, qSort, sqD, flatD, dIsN, wipeE, List.getElem?_cons_zero, List.getElem?_cons_succ, List.set_cons_zero, List.set_cons_succ, List.cons_append, List.nil_append, List.replicate_succ, List.replicate_zero, List.length_cons, List.length_nil, List.length_map, decide_eq_true_eq, decide_eq_false_iff_not, Bool.not_eq_true', Bool.not_eq_false', Bool.true_eq_false, Bool.false_eq_true, true_implies, false_implies, implies_true, true_and, and_true, Nat.reduceSub, Nat.reduceAdd, reduceCtorEq, Option.map_some, Option.map_none, if_true, if_false, Option.some.injEq, Int.toNat_natCast]; refine s_whole ?_; simp [isW, boolD]; exact h) ?_
        refine skip_if (fun Φ h => by simp only [pFun, pIxO, pLenO, pPopO, pInsO, pStO, pSlS, qRepT, pStar, qSortT, qInD, pSortSet, pRng3, qMinP, pPar3, pDNew, pDPut, pSortDict, pTupR, pLstR, pRevL, pRet, pRetN, pNext, pAsg, pAsgL, pAsgG, pPar, pAug, pApp, pFz, pFor, pGN, pGNil, pGCons, pGT, pVar, pC, pOp, pUn, pFrz, pNil, pCons, pDs, pTup, pLst, pNotT, pChain, pBl, pBlL, pLc, pYes, pCall, pSeqI, pRng1, pRng2, pEnum, pZip, pEZ, pSl, pNoPart, pPart, pIsa1, pIsa2, pCatL, x_Ite, x_AndT, x_OrT, x_Tst, x_AndV, x_OrV, x_NotV, boolD_d, elD_d, x_IxL, x_IxT, qII, qIC, qAdd, q1C, q2C, qLen, qTuple, qListL, qSum, qAll, qMin2, qMax2, qAbs, qInt, qEq, qNe, qIs, qIsNot, qIn, qNeg, qCatL, qSort, sqD, flatD, dIsN, wipeE, List.getElem?_cons_zero, List.getElem?_cons_succ, List.set_cons_zero, List.set_cons_succ, List.cons_append, List.nil_append, List.replicate_succ, List.replicate_zero, List.length_cons, List.length_nil, List.length_map, decide_eq_true_eq, decide_eq_false_iff_not, Bool.not_eq_true', Bool.not_eq_false', Bool.true_eq_false, Bool.false_eq_true, true_implies, false_implies, implies_true, true_and, and_true, Nat.reduceSub, Nat.reduceAdd, reduceCtorEq, Option.map_some, Option.map_none, if_true, if_false, Option.some.injEq, Int.toNat_natCast]; simp [isaD, isaS, tyD, boolD]; exact h) ?_
        refine if_q True (fun Φ h1 h2 => ?_) (fun _ => ?_) ?_
        · simp only [pFun, pIxO, pLenO, pPopO, pInsO, pStO, pSlS, qRepT, pStar, qSortT, qInD, pSortSet, pRng3, qMinP, pPar3, pDNew, pDPut, pSortDict, pTupR, pLstR, pRevL, pRet, pRetN, pNext, pAsg, pAsgL, pAsgG, pPar, pAug, pApp, pFz, pFor, pGN, pGNil, pGCons, pGT, pVar, pC, pOp, pUn, pFrz, pNil, pCons, pDs, pTup, pLst, pNotT, pChain, pBl, pBlL, pLc, pYes, pCall, pSeqI, pRng1, pRng2, pEnum, pZip, pEZ, pSl, pNoPart, pPart, pIsa1, pIsa2, pCatL, x_Ite, x_AndT, x_OrT, x_Tst, x_AndV, x_OrV, x_NotV, boolD_d, elD_d, x_IxL, x_IxT, qII, qIC, qAdd, q1C, q2C, qLen, qTuple, qListL, qSum, qAll, qMin2, qMax2, qAbs, qInt, qEq, qNe, qIs, qIsNot, qIn, qNeg, qCatL, qSort, sqD, flatD, dIsN, wipeE, List.getElem?_cons_zero, List.getElem?_cons_succ, List.set_cons_zero, List.set_cons_succ, List.cons_append, List.nil_append, List.replicate_succ, List.replicate_zero, List.length_cons, List.length_nil, List.length_map, decide_eq_true_eq, decide_eq_false_iff_not, Bool.not_eq_true', Bool.not_eq_false', Bool.true_eq_false, Bool.false_eq_true, true_implies, false_implies, implies_true, true_and, and_true, Nat.reduceSub, Nat.reduceAdd, reduceCtorEq, Option.map_some, Option.map_none, if_true, if_false, Option.some.injEq, Int.toNat_natCast, isL2]
          refine s_draw (by decide) (by decide) fun a a0 a1 => ?_
          simp only [pFun, pIxO, pLenO, pPopO, pInsO, pStO, pSlS, qRepT, pStar, qSortT, qInD, pSortSet, pRng3, qMinP, pPar3, pDNew, pDPut, pSortDict, pTupR, pLstR, pRevL, pRet, pRetN, pNext, pAsg, pAsgL, pAsgG, pPar, pAug, pApp, pFz, pFor, pGN, pGNil, pGCons, pGT, pVar, pC, pOp, pUn, pFrz, pNil, pCons, pDs, pTup, pLst, pNotT, pChain, pBl, pBlL, pLc, pYes, pCall, pSeqI, pRng1, pRng2, pEnum, pZip, pEZ, pSl, pNoPart, pPart, pIsa1, pIsa2, pCatL, x_Ite, x_AndT, x_OrT, x_Tst, x_AndV, x_OrV, x_NotV, boolD_d, elD_d, x_IxL, x_IxT, qII, qIC, qAdd, q1C, q2C, qLen, qTuple, qListL, qSum, qAll, qMin2, qMax2, qAbs, qInt, qEq, qNe, qIs, qIsNot, qIn, qNeg, qCatL, qSort, sqD, flatD, dIsN, wipeE, List.getElem?_cons_zero, List.getElem?_cons_succ, List.set_cons_zero, List.set_cons_succ, List.cons_append, List.nil_append, List.replicate_succ, List.replicate_zero, List.length_cons, List.length_nil, List.length_map, decide_eq_true_eq, decide_eq_false_iff_not, Bool.not_eq_true', Bool.not_eq_false', Bool.true_eq_false, Bool.false_eq_true, true_implies, false_implies, implies_true, true_and, and_true, Nat.reduceSub, Nat.reduceAdd, reduceCtorEq, Option.map_some, Option.map_none, if_true, if_false, Option.some.injEq, Int.toNat_natCast, eqv_i]
          refine ⟨shp_int _, shp_int _, ?_⟩
          by_cases h3 : a = 0
          · rw [decide_eq_true h3]; exact h1 trivial
          · rw [decide_eq_false h3]; exact h2
        · simp only [pFun, pIxO, pLenO, pPopO, pInsO, pStO, pSlS, qRepT, pStar, qSortT, qInD, pSortSet, pRng3, qMinP, pPar3, pDNew, pDPut, pSortDict, pTupR, pLstR, pRevL, pRet, pRetN, pNext, pAsg, pAsgL, pAsgG, pPar, pAug, pApp, pFz, pFor, pGN, pGNil, pGCons, pGT, pVar, pC, pOp, pUn, pFrz, pNil, pCons, pDs, pTup, pLst, pNotT, pChain, pBl, pBlL, pLc, pYes, pCall, pSeqI, pRng1, pRng2, pEnum, pZip, pEZ, pSl, pNoPart, pPart, pIsa1, pIsa2, pCatL, x_Ite, x_AndT, x_OrT, x_Tst, x_AndV, x_OrV, x_NotV, boolD_d, elD_d, x_IxL, x_IxT, qII, qIC, qAdd, q1C, q2C, qLen, qTuple, qListL, qSum, qAll, qMin2, qMax2, qAbs, qInt, qEq, qNe, qIs, qIsNot, qIn, qNeg, qCatL, qSort, sqD, flatD, dIsN, wipeE, List.getElem?_cons_zero, List.getElem?_cons_succ, List.set_cons_zero, List.set_cons_succ, List.cons_append, List.nil_append, List.replicate_succ, List.replicate_zero, List.length_cons, List.length_nil, List.length_map, decide_eq_true_eq, decide_eq_false_iff_not, Bool.not_eq_true', Bool.not_eq_false', Bool.true_eq_false, Bool.false_eq_true, true_implies, false_implies, implies_true, true_and, and_true, Nat.reduceSub, Nat.reduceAdd, reduceCtorEq, Option.map_some, Option.map_none, if_true, if_false, Option.some.injEq, Int.toNat_natCast, isL1]
          exact k _ (fine_tup (by omega) fun y hy => (hx y hy).le (by omega) (by omega))
        · simp only [pFun, pIxO, pLenO, pPopO, pInsO, pStO, pSlS, qRepT, pStar, qSortT, qInD, pSortSet, pRng3, qMinP, pPar3, pDNew, pDPut, pSortDict, pTupR, pLstR, pRevL, pRet, pRetN, pNext, pAsg, pAsgL, pAsgG, pPar, pAug, pApp, pFz, pFor, pGN, pGNil, pGCons, pGT, pVar, pC, pOp, pUn, pFrz, pNil, pCons, pDs, pTup, pLst, pNotT, pChain, pBl, pBlL, pLc, pYes, pCall, pSeqI, pRng1, pRng2, pEnum, pZip, pEZ, pSl, pNoPart, pPart, pIsa1, pIsa2, pCatL, x_Ite, x_AndT, x_OrT, x_Tst, x_AndV, x_OrV, x_NotV, boolD_d, elD_d, x_IxL, x_IxT, qII, qIC, qAdd, q1C, q2C, qLen, qTuple, qListL, qSum, qAll, qMin2, qMax2, qAbs, qInt, qEq, qNe, qIs, qIsNot, qIn, qNeg, qCatL, qSort, sqD, flatD, dIsN, wipeE, List.getElem?_cons_zero, List.getElem?_cons_succ, List.set_cons_zero, List.set_cons_succ, List.cons_append, List.nil_append, List.replicate_succ, List.replicate_zero, List.length_cons, List.length_nil, List.length_map, decide_eq_true_eq, decide_eq_false_iff_not, Bool.not_eq_true', Bool.not_eq_false', Bool.true_eq_false, Bool.false_eq_true, true_implies, false_implies, implies_true, true_and, and_true, Nat.reduceSub, Nat.reduceAdd, reduceCtorEq, Option.map_some, Option.map_none, if_true, if_false, Option.some.injEq, Int.toNat_natCast]
          exact any2
    | tuple xs =>
      cases n with
      | zero => exact hd.elim
      | succ n =>
        obtain ⟨hl, hx⟩ := hd
        refine if_q (0 < xs.length) (fun Φ h1 h2 => ?_) (fun h0 => ?_) ?_
        · simp only [pFun, pIxO, pLenO, pPopO, pInsO, pStO, pSlS, qRepT, pStar, qSortT, qInD, pSortSet, pRng3, qMinP, pPar3, pDNew, pDPut, pSortDict, pTupR, pLstR, pRevL, pRet, pRetN, pNext, pAsg, pAsgL, pAsgG, pPar, pAug, pApp, pFz, pFor, pGN, pGNil, pGCons, pGT, pVar, pC, pOp, pUn, pFrz, pNil, pCons, pDs, pTup, pLst, pNotT, pChain, pBl, pBlL, pLc, pYes, pCall, pSeqI, pRng1, pRng2, pEnum, pZip, pEZ, pSl, pNoPart, pPart, pIsa1, pIsa2, pCatL, x_Ite, x_AndT, x_OrT, x_Tst, x_AndV, x_OrV, x_NotV, boolD_d, elD_d, x_IxL, x_IxT, qII, qIC, qAdd, q1C, q2C, qLen, qTuple, qListL, qSum, qAll, qMin2, qMax2, qAbs, qInt, qEq, qNe, qIs, qIsNot, qIn, qNeg, qCatL, qSort, sqD, flatD, dIsN, wipeE, List.getElem?_cons_zero, List.getElem?_cons_succ, List.set_cons_zero, List.set_cons_succ, List.cons_append, List.nil_append, List.replicate_succ, List.replicate_zero, List.length_cons, List.length_nil, List.length_map, decide_eq_true_eq, decide_eq_false_iff_not, Bool.not_eq_true', Bool.not_eq_false', Bool.true_eq_false, Bool.false_eq_true, true_implies, false_implies, implies_true, true_and, and_true, Nat.reduceSub, Nat.reduceAdd, reduceCtorEq, Option.map_some, Option.map_none, if_true, if_false, Option.some.injEq, Int.toNat_natCast, isT2]
          refine ⟨fun h => ?_, fun _ => h2⟩
          refine s_draw (by omega) (by omega) fun a a0 a1 => ?_
          simp only [pFun, pIxO, pLenO, pPopO, pInsO, pStO, pSlS, qRepT, pStar, qSortT, qInD, pSortSet, pRng3, qMinP, pPar3, pDNew, pDPut, pSortDict, pTupR, pLstR, pRevL, pRet, pRetN, pNext, pAsg, pAsgL, pAsgG, pPar, pAug, pApp, pFz, pFor, pGN, pGNil, pGCons, pGT, pVar, pC, pOp, pUn, pFrz, pNil, pCons, pDs, pTup, pLst, pNotT, pChain, pBl, pBlL, pLc, pYes, pCall, pSeqI, pRng1, pRng2, pEnum, pZip, pEZ, pSl, pNoPart, pPart, pIsa1, pIsa2, pCatL, x_Ite, x_AndT, x_OrT, x_Tst, x_AndV, x_OrV, x_NotV, boolD_d, elD_d, x_IxL, x_IxT, qII, qIC, qAdd, q1C, q2C, qLen, qTuple, qListL, qSum, qAll, qMin2, qMax2, qAbs, qInt, qEq, qNe, qIs, qIsNot, qIn, qNeg, qCatL, qSort, sqD, flatD, dIsN, wipeE, List.getElem?_cons_zero, List.getElem?_cons_succ, List.set_cons_zero, List.set_cons_succ, List.cons_append, List.nil_append, List.replicate_succ, List.replicate_zero, List.length_cons, List.length_nil, List.length_map, decide_eq_true_eq, decide_eq_false_iff_not, Bool.not_eq_true', Bool.not_eq_false', Bool.true_eq_false, Bool.false_eq_true, true_implies, false_implies, implies_true, true_and, and_true, Nat.reduceSub, Nat.reduceAdd, reduceCtorEq, Option.map_some, Option.map_none, if_true, if_false, Option.some.injEq, Int.toNat_natCast, qGt, boolD_d]
          by_cases h3 : a > 0
          · rw [decide_eq_true h3]; exact h1 (by omega)
          · rw [decide_eq_false h3]; exact h2
        · refine seq ?_
          simp only [pFun, pIxO, pLenO, pPopO, pInsO, pStO, pSlS, qRepT, pStar, qSortT, qInD, pSortSet, pRng3, qMinP, pPar3, pDNew, pDPut, pSortDict, pTupR, pLstR, pRevL, pRet, pRetN, pNext, pAsg, pAsgL, pAsgG, pPar, pAug, pApp, pFz, pFor, pGN, pGNil, pGCons, pGT, pVar, pC, pOp, pUn, pFrz, pNil, pCons, pDs, pTup, pLst, pNotT, pChain, pBl, pBlL, pLc, pYes, pCall, pSeqI, pRng1, pRng2, pEnum, pZip, pEZ, pSl, pNoPart, pPart, pIsa1, pIsa2, pCatL, x_Ite, x_AndT, x_OrT, x_Tst, x_AndV, x_OrV, x_NotV, boolD_d, elD_d, x_IxL, x_IxT, qII, qIC, qAdd, q1C, q2C, qLen, qTuple, qListL, qSum, qAll, qMin2, qMax2, qAbs, qInt, qEq, qNe, qIs, qIsNot, qIn, qNeg, qCatL, qSort, sqD, flatD, dIsN, wipeE, List.getElem?_cons_zero, List.getElem?_cons_succ, List.set_cons_zero, List.set_cons_succ, List.cons_append, List.nil_append, List.replicate_succ, List.replicate_zero, List.length_cons, List.length_nil, List.length_map, decide_eq_true_eq, decide_eq_false_iff_not, Bool.not_eq_true', Bool.not_eq_false', Bool.true_eq_false, Bool.false_eq_true, true_implies, false_implies, implies_true, true_and, and_true, Nat.reduceSub, Nat.reduceAdd, reduceCtorEq, Option.map_some, Option.map_none, if_true, if_false, Option.some.injEq, Int.toNat_natCast]
          refine s_draw (by omega) (by omega) fun q q0 q1 => ?_
          try simp only [pFun, pIxO, pLenO, pPopO, pInsO, pStO, pSlS, qRepT, pStar, qSortT, qInD, pSortSet, pRng3, qMinP, pPar3, pDNew, pDPut, pSortDict, pTupR, pLstR, pRevL, pRet, pRetN, pNext, pAsg, pAsgL, pAsgG, pPar, pAug, pApp, pFz, pFor, pGN, pGNil, pGCons, pGT, pVar, pC, pOp, pUn, pFrz, pNil, pCons, pDs, pTup, pLst, pNotT, pChain, pBl, pBlL, pLc, pYes, pCall, pSeqI, pRng1, pRng2, pEnum, pZip, pEZ, pSl, pNoPart, pPart, pIsa1, pIsa2, pCatL, x_Ite, x_AndT, x_OrT, x_Tst, x_AndV, x_OrV, x_NotV, boolD_d, elD_d, x_IxL, x_IxT, qII, qIC, qAdd, q1C, q2C, qLen, qTuple, qListL, qSum, qAll, qMin2, qMax2, qAbs, qInt, qEq, qNe, qIs, qIsNot, qIn, qNeg, qCatL, qSort, sqD, flatD, dIsN, wipeE, List.getElem?_cons_zero, List.getElem?_cons_succ, List.set_cons_zero, List.set_cons_succ, List.cons_append, List.nil_append, List.replicate_succ, List.replicate_zero, List.length_cons, List.length_nil, List.length_map, decide_eq_true_eq, decide_eq_false_iff_not, Bool.not_eq_true', Bool.not_eq_false', Bool.true_eq_false, Bool.false_eq_true, true_implies, false_implies, implies_true, true_and, and_true, Nat.reduceSub, Nat.reduceAdd, reduceCtorEq, Option.map_some, Option.map_none, if_true, if_false, Option.some.injEq, Int.toNat_natCast]
          refine seq ?_
          simp only [pFun, pIxO, pLenO, pPopO, pInsO, pStO, pSlS, qRepT, pStar, qSortT, qInD, pSortSet, pRng3, qMinP, pPar3, pDNew, pDPut, pSortDict, pTupR, pLstR, pRevL, pRet, pRetN, pNext, pAsg, pAsgL, pAsgG, pPar, pAug, pApp, pFz, pFor, pGN, pGNil, pGCons, pGT, pVar, pC, pOp, pUn, pFrz, pNil, pCons, pDs, pTup, pLst, pNotT, pChain, pBl, pBlL, pLc, pYes, pCall, pSeqI, pRng1, pRng2, pEnum, pZip, pEZ, pSl, pNoPart, pPart, pIsa1, pIsa2, pCatL, x_Ite, x_AndT, x_OrT, x_Tst, x_AndV, x_OrV, x_NotV, boolD_d, elD_d, x_IxL, x_IxT, qII, qIC, qAdd, q1C, q2C, qLen, qTuple, qListL, qSum, qAll, qMin2, qMax2, qAbs, qInt, qEq, qNe, qIs, qIsNot, qIn, qNeg, qCatL, qSort, sqD, flatD, dIsN, wipeE, List.getElem?_cons_zero, List.getElem?_cons_succ, List.set_cons_zero, List.set_cons_succ, List.cons_append, List.nil_append, List.replicate_succ, List.replicate_zero, List.length_cons, List.length_nil, List.length_map, decide_eq_true_eq, decide_eq_false_iff_not, Bool.not_eq_true', Bool.not_eq_false', Bool.true_eq_false, Bool.false_eq_true, true_implies, false_implies, implies_true, true_and, and_true, Nat.reduceSub, Nat.reduceAdd, reduceCtorEq, Option.map_some, Option.map_none, if_true, if_false, Option.some.injEq, Int.toNat_natCast]
          refine seq ?_
          simp only [pFun, pIxO, pLenO, pPopO, pInsO, pStO, pSlS, qRepT, pStar, qSortT, qInD, pSortSet, pRng3, qMinP, pPar3, pDNew, pDPut, pSortDict, pTupR, pLstR, pRevL, pRet, pRetN, pNext, pAsg, pAsgL, pAsgG, pPar, pAug, pApp, pFz, pFor, pGN, pGNil, pGCons, pGT, pVar, pC, pOp, pUn, pFrz, pNil, pCons, pDs, pTup, pLst, pNotT, pChain, pBl, pBlL, pLc, pYes, pCall, pSeqI, pRng1, pRng2, pEnum, pZip, pEZ, pSl, pNoPart, pPart, pIsa1, pIsa2, pCatL, x_Ite, x_AndT, x_OrT, x_Tst, x_AndV, x_OrV, x_NotV, boolD_d, elD_d, x_IxL, x_IxT, qII, qIC, qAdd, q1C, q2C, qLen, qTuple, qListL, qSum, qAll, qMin2, qMax2, qAbs, qInt, qEq, qNe, qIs, qIsNot, qIn, qNeg, qCatL, qSort, sqD, flatD, dIsN, wipeE, List.getElem?_cons_zero, List.getElem?_cons_succ, List.set_cons_zero, List.set_cons_succ, List.cons_append, List.nil_append, List.replicate_succ, List.replicate_zero, List.length_cons, List.length_nil, List.length_map, decide_eq_true_eq, decide_eq_false_iff_not, Bool.not_eq_true', Bool.not_eq_false', Bool.true_eq_false, Bool.false_eq_true, true_implies, false_implies, implies_true, true_and, and_true, Nat.reduceSub, Nat.reduceAdd, reduceCtorEq, Option.map_some, Option.map_none, if_true, if_false, Option.some.injEq, Int.toNat_natCast]
          refine s_draw (by omega) (by omega) fun c c0 c1 => ?_
          try simp only [pFun, pIxO, pLenO, pPopO, pInsO, pStO, pSlS, qRepT, pStar, qSortT, qInD, pSortSet, pRng3, qMinP, pPar3, pDNew, pDPut, pSortDict, pTupR, pLstR, pRevL, pRet, pRetN, pNext, pAsg, pAsgL, pAsgG, pPar, pAug, pApp, pFz, pFor, pGN, pGNil, pGCons, pGT, pVar, pC, pOp, pUn, pFrz, pNil, pCons, pDs, pTup, pLst, pNotT, pChain, pBl, pBlL, pLc, pYes, pCall, pSeqI, pRng1, pRng2, pEnum, pZip, pEZ, pSl, pNoPart, pPart, pIsa1, pIsa2, pCatL, x_Ite, x_AndT, x_OrT, x_Tst, x_AndV, x_OrV, x_NotV, boolD_d, elD_d, x_IxL, x_IxT, qII, qIC, qAdd, q1C, q2C, qLen, qTuple, qListL, qSum, qAll, qMin2, qMax2, qAbs, qInt, qEq, qNe, qIs, qIsNot, qIn, qNeg, qCatL, qSort, sqD, flatD, dIsN, wipeE, List.getElem?_cons_zero, List.getElem?_cons_succ, List.set_cons_zero, List.set_cons_succ, List.cons_append, List.nil_append, List.replicate_succ, List.replicate_zero, List.length_cons, List.length_nil, List.length_map, decide_eq_true_eq, decide_eq_false_iff_not, Bool.not_eq_true', Bool.not_eq_false', Bool.true_eq_false, Bool.false_eq_true, true_implies, false_implies, implies_true, true_and, and_true, Nat.reduceSub, Nat.reduceAdd, reduceCtorEq, Option.map_some, Option.map_none, if_true, if_false, Option.some.injEq, Int.toNat_natCast]
          refine seq_cut (fun ρ => ∃ ys : List D, ρ = [.tp, .d (.tuple xs), .d (.int q), .ol ys, .d (.int c), .u] ∧ ys.length ≤ m + 8 ∧ ∀ y ∈ ys, Fine (m + 8) (n + 3) y) (fun Ψ hΨ => ?_) ?_
          · simp only [pFun, pIxO, pLenO, pPopO, pInsO, pStO, pSlS, qRepT, pStar, qSortT, qInD, pSortSet, pRng3, qMinP, pPar3, pDNew, pDPut, pSortDict, pTupR, pLstR, pRevL, pRet, pRetN, pNext, pAsg, pAsgL, pAsgG, pPar, pAug, pApp, pFz, pFor, pGN, pGNil, pGCons, pGT, pVar, pC, pOp, pUn, pFrz, pNil, pCons, pDs, pTup, pLst, pNotT, pChain, pBl, pBlL, pLc, pYes, pCall, pSeqI, pRng1, pRng2, pEnum, pZip, pEZ, pSl, pNoPart, pPart, pIsa1, pIsa2, pCatL, x_Ite, x_AndT, x_OrT, x_Tst, x_AndV, x_OrV, x_NotV, boolD_d, elD_d, x_IxL, x_IxT, qII, qIC, qAdd, q1C, q2C, qLen, qTuple, qListL, qSum, qAll, qMin2, qMax2, qAbs, qInt, qEq, qNe, qIs, qIsNot, qIn, qNeg, qCatL, qSort, sqD, flatD, dIsN, wipeE, List.getElem?_cons_zero, List.getElem?_cons_succ, List.set_cons_zero, List.set_cons_succ, List.cons_append, List.nil_append, List.replicate_succ, List.replicate_zero, List.length_cons, List.length_nil, List.length_map, decide_eq_true_eq, decide_eq_false_iff_not, Bool.not_eq_true', Bool.not_eq_false', Bool.true_eq_false, Bool.false_eq_true, true_implies, false_implies, implies_true, true_and, and_true, Nat.reduceSub, Nat.reduceAdd, reduceCtorEq, Option.map_some, Option.map_none, if_true, if_false, Option.some.injEq, Int.toNat_natCast, x_If]
            have lift : ∀ {y}, y ∈ xs → Fine (m + 8) (n + 3) y := fun {y} hy => (hx y hy).le (by omega) (by omega)
            refine ⟨fun h8 => ?_, fun _ => ⟨shp_int _, shp_int _, fun _ => ⟨⟨q0, q1, by omega⟩, hΨ _ ⟨_, rfl, ?_, ?_⟩⟩, fun _ => ⟨shp_int _, shp_int _, fun _ => ?_, fun _ => ⟨shp_int _, shp_int _, fun _ => hΨ _ ⟨_, rfl, ?_, ?_⟩, fun _ => ?_⟩⟩⟩⟩
            · obtain ⟨v, e, hv⟩ := getA q0 q1
              refine ⟨v, e, ?_⟩
              refine s_spoilt (f + 4) (by omega) (by omega) hm (hx v hv) fun y hy => ?_
              refine ⟨⟨q0, q1⟩, hΨ _ ⟨_, rfl, ?_, fun z hz => ?_⟩⟩
              · rw [List.length_set]; omega
              · rcases List.mem_or_eq_of_mem_set hz with hz | rfl
                · exact lift hz
                · exact hy
            · have := List.length_eraseIdx_le xs q.toNat
              omega
            · exact fun y hy => lift (List.mem_of_mem_eraseIdx hy)
            · refine s_draw (by omega) (by omega) fun b b0 b1 => ?_
              obtain ⟨v, e, hv⟩ := getA b0 b1
              refine ⟨v, e, ⟨q0, by omega, by omega⟩, hΨ _ ⟨_, rfl, ?_, fun y hy => ?_⟩⟩
              · simp only [List.length_append, List.length_take, List.length_drop, List.length_cons, List.length_nil]; omega
              · rcases mem_ins hy with rfl | hy
                · exact lift hv
                · exact lift hy
            · rw [List.length_reverse]; omega
            · exact fun y hy => lift (List.mem_reverse.mp hy)
            · refine s_any 4 1 (by decide) (by decide) fun v hv => ?_
              refine ⟨⟨q0, by omega, by omega⟩, hΨ _ ⟨_, rfl, ?_, fun y hy => ?_⟩⟩
              · simp only [List.length_append, List.length_take, List.length_drop, List.length_cons, List.length_nil]; omega
              · rcases mem_ins hy with rfl | hy
                · exact hv.le (by omega) (by omega)
                · exact lift hy
          · rintro _ ⟨ys, rfl, hy, hz⟩
            simp only [pFun, pIxO, pLenO, pPopO, pInsO, pStO, pSlS, qRepT, pStar, qSortT, qInD, pSortSet, pRng3, qMinP, pPar3, pDNew, pDPut, pSortDict, pTupR, pLstR, pRevL, pRet, pRetN, pNext, pAsg, pAsgL, pAsgG, pPar, pAug, pApp, pFz, pFor, pGN, pGNil, pGCons, pGT, pVar, pC, pOp, pUn, pFrz, pNil, pCons, pDs, pTup, pLst, pNotT, pChain, pBl, pBlL, pLc, pYes, pCall, pSeqI, pRng1, pRng2, pEnum, pZip, pEZ, pSl, pNoPart, pPart, pIsa1, pIsa2, pCatL, x_Ite, x_AndT, x_OrT, x_Tst, x_AndV, x_OrV, x_NotV, boolD_d, elD_d, x_IxL, x_IxT, qII, qIC, qAdd, q1C, q2C, qLen, qTuple, qListL, qSum, qAll, qMin2, qMax2, qAbs, qInt, qEq, qNe, qIs, qIsNot, qIn, qNeg, qCatL, qSort, sqD, flatD, dIsN, wipeE, List.getElem?_cons_zero, List.getElem?_cons_succ, List.set_cons_zero, List.set_cons_succ, List.cons_append, List.nil_append, List.replicate_succ, List.replicate_zero, List.length_cons, List.length_nil, List.length_map, decide_eq_true_eq, decide_eq_false_iff_not, Bool.not_eq_true', Bool.not_eq_false', Bool.true_eq_false, Bool.false_eq_true, true_implies, false_implies, implies_true, true_and, and_true, Nat.reduceSub, Nat.reduceAdd, reduceCtorEq, Option.map_some, Option.map_none, if_true, if_false, Option.some.injEq, Int.toNat_natCast, isT1]
            exact k _ (fine_tup hy hz)
        refine skip_if (fun Φ h => by simp only [pFun, pIxO, pLenO, pPopO, pInsO, pStO, pSlS, qRepT, pStar, qSortT, qInD, pSortSet, pRng3, qMinP, pPar3, pDNew, pDPut, pSortDict, pTupR, pLstR, pRevL, pRet, pRetN, pNext, pAsg, pAsgL, pAsgG, pPar, pAug, pApp, pFz, pFor, pGN, pGNil, pGCons, pGT, pVar, pC, pOp, pUn, pFrz, pNil, pCons, pDs, pTup, pLst, pNotT, pChain, pBl, pBlL, pLc, pYes, pCall, pSeqI, pRng1, pRng2, pEnum, pZip, pEZ, pSl, pNoPart, pPart, pIsa1, pIsa2, pCatL, x_Ite, x_AndT, x_OrT, x_Tst, x_AndV, x_OrV, x_NotV, boolD_d, elD_d, x_IxL, x_IxT, qII, qIC, qAdd, q1C, q2C, qLen, qTuple, qListL, qSum, qAll, qMin2, qMax2, qAbs, qInt, qEq, qNe, qIs, qIsNot, qIn, qNeg, qCatL, qSort, sqD, flatD, dIsN, wipeE, List.getElem?_cons_zero, List.getElem?_cons_succ, List.set_cons_zero, List.set_cons_succ, List.cons_append, List.nil_append, List.replicate_succ, List.replicate_zero, List.length_cons, List.length_nil, List.length_map, decide_eq_true_eq, decide_eq_false_iff_not, Bool.not_eq_true', Bool.not_eq_false', Bool.true_eq_false, Bool.false_eq_true, true_implies, false_implies, implies_true, true_and, and_true, Nat.reduceSub, Nat.reduceAdd, reduceCtorEq, Option.map_some, Option.map_none, if_true, if_false, Option.some.injEq, Int.toNat_natCast]; refine s_whole ?_; simp [isW, boolD]; exact h) ?_
        refine skip_if (fun Φ h => by simp only [pFun, pIxO, pLenO, pPopO, pInsO, pStO, pSlS, qRepT, pStar, qSortT, qInD, pSortSet, pRng3, qMinP, pPar3, pDNew, pDPut, pSortDict, pTupR, pLstR, pRevL, pRet, pRetN, pNext, pAsg, pAsgL, pAsgG, pPar, pAug, pApp, pFz, pFor, pGN, pGNil, pGCons, pGT, pVar, pC, pOp, pUn, pFrz, pNil, pCons, pDs, pTup, pLst, pNotT, pChain, pBl, pBlL, pLc, pYes, pCall, pSeqI, pRng1, pRng2, pEnum, pZip, pEZ, pSl, pNoPart, pPart, pIsa1, pIsa2, pCatL, x_Ite, x_AndT, x_OrT, x_Tst, x_AndV, x_OrV, x_NotV, boolD_d, elD_d, x_IxL, x_IxT, qII, qIC, qAdd, q1C, q2C, qLen, qTuple, qListL, qSum, qAll, qMin2, qMax2, qAbs, qInt, qEq, qNe, qIs, qIsNot, qIn, qNeg, qCatL, qSort, sqD, flatD, dIsN, wipeE, List.getElem?_cons_zero, List.getElem?_cons_succ, List.set_cons_zero, List.set_cons_succ, List.cons_append, List.nil_append, List.replicate_succ, List.replicate_zero, List.length_cons, List.length_nil, List.length_map, decide_eq_true_eq, decide_eq_false_iff_not, Bool.not_eq_true', Bool.not_eq_false', Bool.true_eq_false, Bool.false_eq_true, true_implies, false_implies, implies_true, true_and, and_true, Nat.reduceSub, Nat.reduceAdd, reduceCtorEq, Option.map_some, Option.map_none, if_true, if_false, Option.some.injEq, Int.toNat_natCast]; simp [isaD, isaS, tyD, boolD]; exact h) ?_
        refine if_q True (fun Φ h1 h2 => ?_) (fun _ => ?_) ?_
        · simp only [pFun, pIxO, pLenO, pPopO, pInsO, pStO, pSlS, qRepT, pStar, qSortT, qInD, pSortSet, pRng3, qMinP, pPar3, pDNew, pDPut, pSortDict, pTupR, pLstR, pRevL, pRet, pRetN, pNext, pAsg, pAsgL, pAsgG, pPar, pAug, pApp, pFz, pFor, pGN, pGNil, pGCons, pGT, pVar, pC, pOp, pUn, pFrz, pNil, pCons, pDs, pTup, pLst, pNotT, pChain, pBl, pBlL, pLc, pYes, pCall, pSeqI, pRng1, pRng2, pEnum, pZip, pEZ, pSl, pNoPart, pPart, pIsa1, pIsa2, pCatL, x_Ite, x_AndT, x_OrT, x_Tst, x_AndV, x_OrV, x_NotV, boolD_d, elD_d, x_IxL, x_IxT, qII, qIC, qAdd, q1C, q2C, qLen, qTuple, qListL, qSum, qAll, qMin2, qMax2, qAbs, qInt, qEq, qNe, qIs, qIsNot, qIn, qNeg, qCatL, qSort, sqD, flatD, dIsN, wipeE, List.getElem?_cons_zero, List.getElem?_cons_succ, List.set_cons_zero, List.set_cons_succ, List.cons_append, List.nil_append, List.replicate_succ, List.replicate_zero, List.length_cons, List.length_nil, List.length_map, decide_eq_true_eq, decide_eq_false_iff_not, Bool.not_eq_true', Bool.not_eq_false', Bool.true_eq_false, Bool.false_eq_true, true_implies, false_implies, implies_true, true_and, and_true, Nat.reduceSub, Nat.reduceAdd, reduceCtorEq, Option.map_some, Option.map_none, if_true, if_false, Option.some.injEq, Int.toNat_natCast, isT2]
          refine s_draw (by decide) (by decide) fun a a0 a1 => ?_
          simp only [pFun, pIxO, pLenO, pPopO, pInsO, pStO, pSlS, qRepT, pStar, qSortT, qInD, pSortSet, pRng3, qMinP, pPar3, pDNew, pDPut, pSortDict, pTupR, pLstR, pRevL, pRet, pRetN, pNext, pAsg, pAsgL, pAsgG, pPar, pAug, pApp, pFz, pFor, pGN, pGNil, pGCons, pGT, pVar, pC, pOp, pUn, pFrz, pNil, pCons, pDs, pTup, pLst, pNotT, pChain, pBl, pBlL, pLc, pYes, pCall, pSeqI, pRng1, pRng2, pEnum, pZip, pEZ, pSl, pNoPart, pPart, pIsa1, pIsa2, pCatL, x_Ite, x_AndT, x_OrT, x_Tst, x_AndV, x_OrV, x_NotV, boolD_d, elD_d, x_IxL, x_IxT, qII, qIC, qAdd, q1C, q2C, qLen, qTuple, qListL, qSum, qAll, qMin2, qMax2, qAbs, qInt, qEq, qNe, qIs, qIsNot, qIn, qNeg, qCatL, qSort, sqD, flatD, dIsN, wipeE, List.getElem?_cons_zero, List.getElem?_cons_succ, List.set_cons_zero, List.set_cons_succ, List.cons_append, List.nil_append, List.replicate_succ, List.replicate_zero, List.length_cons, List.length_nil, List.length_map, decide_eq_true_eq, decide_eq_false_iff_not, Bool.not_eq_true', Bool.not_eq_false', Bool.true_eq_false, Bool.false_eq_true, true_implies, false_implies, implies_true, true_and, and_true, Nat.reduceSub, Nat.reduceAdd, reduceCtorEq, Option.map_some, Option.map_none, if_true, if_false, Option.some.injEq, Int.toNat_natCast, eqv_i]
          refine ⟨shp_int _, shp_int _, ?_⟩
          by_cases h3 : a = 0
          · rw [decide_eq_true h3]; exact h1 trivial
          · rw [decide_eq_false h3]; exact h2
        · simp only [pFun, pIxO, pLenO, pPopO, pInsO, pStO, pSlS, qRepT, pStar, qSortT, qInD, pSortSet, pRng3, qMinP, pPar3, pDNew, pDPut, pSortDict, pTupR, pLstR, pRevL, pRet, pRetN, pNext, pAsg, pAsgL, pAsgG, pPar, pAug, pApp, pFz, pFor, pGN, pGNil, pGCons, pGT, pVar, pC, pOp, pUn, pFrz, pNil, pCons, pDs, pTup, pLst, pNotT, pChain, pBl, pBlL, pLc, pYes, pCall, pSeqI, pRng1, pRng2, pEnum, pZip, pEZ, pSl, pNoPart, pPart, pIsa1, pIsa2, pCatL, x_Ite, x_AndT, x_OrT, x_Tst, x_AndV, x_OrV, x_NotV, boolD_d, elD_d, x_IxL, x_IxT, qII, qIC, qAdd, q1C, q2C, qLen, qTuple, qListL, qSum, qAll, qMin2, qMax2, qAbs, qInt, qEq, qNe, qIs, qIsNot, qIn, qNeg, qCatL, qSort, sqD, flatD, dIsN, wipeE, List.getElem?_cons_zero, List.getElem?_cons_succ, List.set_cons_zero, List.set_cons_succ, List.cons_append, List.nil_append, List.replicate_succ, List.replicate_zero, List.length_cons, List.length_nil, List.length_map, decide_eq_true_eq, decide_eq_false_iff_not, Bool.not_eq_true', Bool.not_eq_false', Bool.true_eq_false, Bool.false_eq_true, true_implies, false_implies, implies_true, true_and, and_true, Nat.reduceSub, Nat.reduceAdd, reduceCtorEq, Option.map_some, Option.map_none, if_true, if_false, Option.some.injEq, Int.toNat_natCast, isT1]
          exact k _ (fine_list (by omega) fun y hy => (hx y hy).le (by omega) (by omega))
        · simp only [pFun, pIxO, pLenO, pPopO, pInsO, pStO, pSlS, qRepT, pStar, qSortT, qInD, pSortSet, pRng3, qMinP, pPar3, pDNew, pDPut, pSortDict, pTupR, pLstR, pRevL, pRet, pRetN, pNext, pAsg, pAsgL, pAsgG, pPar, pAug, pApp, pFz, pFor, pGN, pGNil, pGCons, pGT, pVar, pC, pOp, pUn, pFrz, pNil, pCons, pDs, pTup, pLst, pNotT, pChain, pBl, pBlL, pLc, pYes, pCall, pSeqI, pRng1, pRng2, pEnum, pZip, pEZ, pSl, pNoPart, pPart, pIsa1, pIsa2, pCatL, x_Ite, x_AndT, x_OrT, x_Tst, x_AndV, x_OrV, x_NotV, boolD_d, elD_d, x_IxL, x_IxT, qII, qIC, qAdd, q1C, q2C, qLen, qTuple, qListL, qSum, qAll, qMin2, qMax2, qAbs, qInt, qEq, qNe, qIs, qIsNot, qIn, qNeg, qCatL, qSort, sqD, flatD, dIsN, wipeE, List.getElem?_cons_zero, List.getElem?_cons_succ, List.set_cons_zero, List.set_cons_succ, List.cons_append, List.nil_append, List.replicate_succ, List.replicate_zero, List.length_cons, List.length_nil, List.length_map, decide_eq_true_eq, decide_eq_false_iff_not, Bool.not_eq_true', Bool.not_eq_false', Bool.true_eq_false, Bool.false_eq_true, true_implies, false_implies, implies_true, true_and, and_true, Nat.reduceSub, Nat.reduceAdd, reduceCtorEq, Option.map_some, Option.map_none, if_true, if_false, Option.some.injEq, Int.toNat_natCast]
          exact any2
end Law

set_option Elab.async false
set_option linter.all false
set_option maxRecDepth 100000
namespace Law
open PySem Pu
noncomputable def p_law : PZ :=
  (pSeq (pFor (pRng1 (pCons (pC (.int 6)) pNil)) (pGN 2) (pSeq (pAsg (pCall p_l_dials (pCons (pVar 1) (pCons (pOp qAdd (pC (.int 1)) (pCall p_draw (pCons (pVar 1) (pCons (pC (.int 6)) pNil)))) pNil))) 3) (pSeq (pAsgL (pLst (pCons (pVar 3) (pCons (pFrz (pBlL qListL (pCons (pVar 3) pNil))) (pCons (pTup pNil) (pCons (pTup (pCons (pC (.int 0)) pNil)) (pCons (pTup (pCons (pC (.int 99)) pNil)) (pCons (pTup (pCons (pC (.int 100)) pNil)) (pCons (pTup (pCons (pUn qNeg (pC (.int 1))) pNil)) (pCons (pTup (pCons (pC (.bool true)) pNil)) (pCons (pTup (pCons (pC .none) pNil)) (pCons (pC (.int 5)) (pCons (pC .none) (pCons (pC (.str "34")) (pCons (pTup (pCons (pC (.str "34")) pNil)) pNil)))))))))))))) 4) (pFz 4 (pSeq (pAsgL (pCatL (pVar 4) (pFrz (pLst (pCons (pOp qRepT (pTup (pCons (pC (.int 0)) pNil)) (pC (.int 6))) (pCons (pOp qRepT (pTup (pCons (pC (.int 0)) pNil)) (pC (.int 7))) (pCons (pOp qRepT (pTup (pCons (pC (.int 99)) pNil)) (pC (.int 6))) (pCons (pOp qAdd (pVar 3) (pTup (pCons (pC (.int 100)) pNil))) (pCons (pTup (pCons (pTup (pCons (pC (.int 1)) (pCons (pC (.int 2)) pNil))) pNil)) pNil)))))))) 4) (pSeq (pFor (pRng1 (pCons (pC (.int 8)) pNil)) (pGN 5) (pSeq (pApp 4 (pCall (p_l_spoilt 10) (pCons (pVar 1) (pCons (pVar 3) pNil)))) (pApp 4 (pCall (p_l_spoilt 10) (pCons (pVar 1) (pCons (pIxO 4 (pUn qNeg (pC (.int 1)))) pNil)))))) (pFz 4 (pFor (pSeqI (pOp qAdd (pVar 4) (pFrz (pLst (pCons (pCall (p_l_any 4) (pCons (pVar 1) (pCons (pC (.int 2)) pNil))) pNil))))) (pGN 6) (pSeq (pAsg (pAndV (pIsa1 "tuple" (pVar 6)) (pChain qLe qLe (pC (.int 1)) (pBl qLen (pCons (pVar 6) pNil)) (pC (.int 6)))) 7) (pSeq (pAsg (pAndV (pVar 7) (pOp qEq (pFrz (pLc (pSeqI (pVar 6)) [9] (pGN 9) (pNotT (pTst (pCall p_l_within (pCons (pVar 9) (pCons (pC (.int 0)) (pCons (pC (.int 99)) pNil)))))) (pVar 9))) (pFrz (pLst pNil)))) 7) (pIf (pNotT (pTst (pCall (p_l_like 8) (pCons (pCall p_is_dials (pCons (pVar 6) pNil)) (pCons (pVar 7) pNil))))) (pRet (pC (.bool false))) pNext))))))))))) (pRet (pOp qEq (pFrz (pLc (pRng2 (pCons (pC (.int 1)) (pCons (pC (.int 7)) pNil))) [8] (pGN 8) pYes (pCall p_total (pCons (pVar 8) pNil)))) (pFrz (pLc (pRng2 (pCons (pC (.int 1)) (pCons (pC (.int 7)) pNil))) [8] (pGN 8) pYes (pCall p_l_size (pCons (pVar 8) pNil)))))))

end Law

set_option Elab.async false
set_option linter.all false
set_option maxRecDepth 100000
set_option maxHeartbeats 1000000
namespace Law
open PySem PySem.W Pu

def okI : D → Bool
  | .int i => decide (0 ≤ i) && decide (i ≤ 99)
  | _ => false
def lenB : D → Bool
  | .tuple xs => decide (1 ≤ (xs.length : Int)) && decide ((xs.length : Int) ≤ 6)
  | _ => false
def goodD : D → Bool
  | .tuple xs => (decide (1 ≤ (xs.length : Int)) && decide ((xs.length : Int) ≤ 6)) && xs.all okI
  | _ => false
theorem s_within {d : D} {Φ : Ent → Prop} (k : Φ (.d (.bool (okI d)))) : p_l_within [.d d, .d (.int 0), .d (.int 99)] Φ := by
  unfold p_l_within
  rw [shut_eq]
  simp only [pFun, pIxO, pLenO, pPopO, pInsO, pStO, pSlS, qRepT, pStar, qSortT, qInD, pSortSet, pRng3, qMinP, pPar3, pDNew, pDPut, pSortDict, pTupR, pLstR, pRevL, pSeq, pRet, pRetN, pNext, pAsg, pAsgL, pAsgG, pPar, pAug, pApp, pFz, pFor, pGN, pGNil, pGCons, pGT, pVar, pC, pOp, pUn, pFrz, pNil, pCons, pDs, pTup, pLst, pNotT, pChain, pBl, pBlL, pLc, pYes, pCall, pSeqI, pRng1, pRng2, pEnum, pZip, pEZ, pSl, pNoPart, pPart, pIsa1, pIsa2, pCatL, x_If, x_Ite, x_AndT, x_OrT, x_Tst, x_AndV, x_OrV, x_NotV, boolD_d, elD_d, x_IxL, x_IxT, qII, qIC, qAdd, q1C, q2C, qLen, qTuple, qListL, qSum, qAll, qMin2, qMax2, qAbs, qInt, qEq, qNe, qIs, qIsNot, qIn, qNeg, qCatL, qSort, sqD, flatD, dIsN, wipeE, List.getElem?_cons_zero, List.getElem?_cons_succ, List.set_cons_zero, List.set_cons_succ, List.cons_append, List.nil_append, List.replicate_succ, List.replicate_zero, List.length_cons, List.length_nil, List.length_map, decide_eq_true_eq, decide_eq_false_iff_not, Bool.not_eq_true', Bool.not_eq_false', Bool.true_eq_false, Bool.false_eq_true, true_implies, false_implies, implies_true, true_and, and_true, Nat.reduceSub, Nat.reduceAdd, reduceCtorEq, Option.map_some, Option.map_none, if_true, if_false, Option.some.injEq, Int.toNat_natCast]
  refine s_whole ?_
  cases d <;> first | exact ⟨fun h => (by cases h), fun _ => k⟩ | skip
  rename_i i
  refine ⟨fun _ => ?_, fun h => (by cases h)⟩
  simp only [pFun, pIxO, pLenO, pPopO, pInsO, pStO, pSlS, qRepT, pStar, qSortT, qInD, pSortSet, pRng3, qMinP, pPar3, pDNew, pDPut, pSortDict, pTupR, pLstR, pRevL, pSeq, pRet, pRetN, pNext, pAsg, pAsgL, pAsgG, pPar, pAug, pApp, pFz, pFor, pGN, pGNil, pGCons, pGT, pVar, pC, pOp, pUn, pFrz, pNil, pCons, pDs, pTup, pLst, pNotT, pChain, pBl, pBlL, pLc, pYes, pCall, pSeqI, pRng1, pRng2, pEnum, pZip, pEZ, pSl, pNoPart, pPart, pIsa1, pIsa2, pCatL, x_If, x_Ite, x_AndT, x_OrT, x_Tst, x_AndV, x_OrV, x_NotV, boolD_d, elD_d, x_IxL, x_IxT, qII, qIC, qAdd, q1C, q2C, qLen, qTuple, qListL, qSum, qAll, qMin2, qMax2, qAbs, qInt, qEq, qNe, qIs, qIsNot, qIn, qNeg, qCatL, qSort, sqD, flatD, dIsN, wipeE, List.getElem?_cons_zero, List.getElem?_cons_succ, List.set_cons_zero, List.set_cons_succ, List.cons_append, List.nil_append, List.replicate_succ, List.replicate_zero, List.length_cons, List.length_nil, List.length_map, decide_eq_true_eq, decide_eq_false_iff_not, Bool.not_eq_true', Bool.not_eq_false', Bool.true_eq_false, Bool.false_eq_true, true_implies, false_implies, implies_true, true_and, and_true, Nat.reduceSub, Nat.reduceAdd, reduceCtorEq, Option.map_some, Option.map_none, if_true, if_false, Option.some.injEq, Int.toNat_natCast]
  have k : Φ (.d (.bool (decide (0 ≤ i) && decide (i ≤ 99)))) := k
  by_cases h : 0 ≤ i
  · rw [decide_eq_true h] at k ⊢; exact k
  · rw [decide_eq_false h] at k ⊢; exact k
theorem s_is_integer {d : D} {Φ : Ent → Prop} (k : Φ (.d (.bool (okI d)))) : p_is_integer [.d d, .d (.int 0), .d (.int 99)] Φ := by
  unfold p_is_integer
  rw [shut_eq]
  simp only [pFun, pIxO, pLenO, pPopO, pInsO, pStO, pSlS, qRepT, pStar, qSortT, qInD, pSortSet, pRng3, qMinP, pPar3, pDNew, pDPut, pSortDict, pTupR, pLstR, pRevL, pSeq, pRet, pRetN, pNext, pAsg, pAsgL, pAsgG, pPar, pAug, pApp, pFz, pFor, pGN, pGNil, pGCons, pGT, pVar, pC, pOp, pUn, pFrz, pNil, pCons, pDs, pTup, pLst, pNotT, pChain, pBl, pBlL, pLc, pYes, pCall, pSeqI, pRng1, pRng2, pEnum, pZip, pEZ, pSl, pNoPart, pPart, pIsa1, pIsa2, pCatL, x_If, x_Ite, x_AndT, x_OrT, x_Tst, x_AndV, x_OrV, x_NotV, boolD_d, elD_d, x_IxL, x_IxT, qII, qIC, qAdd, q1C, q2C, qLen, qTuple, qListL, qSum, qAll, qMin2, qMax2, qAbs, qInt, qEq, qNe, qIs, qIsNot, qIn, qNeg, qCatL, qSort, sqD, flatD, dIsN, wipeE, List.getElem?_cons_zero, List.getElem?_cons_succ, List.set_cons_zero, List.set_cons_succ, List.cons_append, List.nil_append, List.replicate_succ, List.replicate_zero, List.length_cons, List.length_nil, List.length_map, decide_eq_true_eq, decide_eq_false_iff_not, Bool.not_eq_true', Bool.not_eq_false', Bool.true_eq_false, Bool.false_eq_true, true_implies, false_implies, implies_true, true_and, and_true, Nat.reduceSub, Nat.reduceAdd, reduceCtorEq, Option.map_some, Option.map_none, if_true, if_false, Option.some.injEq, Int.toNat_natCast]
  cases d <;> simp [isaD, isaS, tyD, boolD] <;> first | exact k | skip
  rename_i i
  simp only [pFun, pIxO, pLenO, pPopO, pInsO, pStO, pSlS, qRepT, pStar, qSortT, qInD, pSortSet, pRng3, qMinP, pPar3, pDNew, pDPut, pSortDict, pTupR, pLstR, pRevL, pSeq, pRet, pRetN, pNext, pAsg, pAsgL, pAsgG, pPar, pAug, pApp, pFz, pFor, pGN, pGNil, pGCons, pGT, pVar, pC, pOp, pUn, pFrz, pNil, pCons, pDs, pTup, pLst, pNotT, pChain, pBl, pBlL, pLc, pYes, pCall, pSeqI, pRng1, pRng2, pEnum, pZip, pEZ, pSl, pNoPart, pPart, pIsa1, pIsa2, pCatL, x_If, x_Ite, x_AndT, x_OrT, x_Tst, x_AndV, x_OrV, x_NotV, boolD_d, elD_d, x_IxL, x_IxT, qII, qIC, qAdd, q1C, q2C, qLen, qTuple, qListL, qSum, qAll, qMin2, qMax2, qAbs, qInt, qEq, qNe, qIs, qIsNot, qIn, qNeg, qCatL, qSort, sqD, flatD, dIsN, wipeE, List.getElem?_cons_zero, List.getElem?_cons_succ, List.set_cons_zero, List.set_cons_succ, List.cons_append, List.nil_append, List.replicate_succ, List.replicate_zero, List.length_cons, List.length_nil, List.length_map, decide_eq_true_eq, decide_eq_false_iff_not, Bool.not_eq_true', Bool.not_eq_false', Bool.true_eq_false, Bool.false_eq_true, true_implies, false_implies, implies_true, true_and, and_true, Nat.reduceSub, Nat.reduceAdd, reduceCtorEq, Option.map_some, Option.map_none, if_true, if_false, Option.some.injEq, Int.toNat_natCast]
  have k : Φ (.d (.bool (decide (0 ≤ i) && decide (i ≤ 99)))) := k
  by_cases h : 0 ≤ i
  · rw [decide_eq_true h] at k ⊢; exact k
  · rw [decide_eq_false h] at k ⊢; exact k
theorem s_is_dials {d : D} {Φ : Ent → Prop} (hl : ∀ xs, d = .tuple xs → xs.length ≤ 100000) (k : Φ (.d (.bool (goodD d)))) : p_is_dials [.d d] Φ := by
  unfold p_is_dials
  rw [shut_eq]
  refine ⟨rfl, ?_⟩
  cases d with
  | tuple xs =>
    have hl := hl xs rfl
    refine seq ?_
    simp only [pFun, pIxO, pLenO, pPopO, pInsO, pStO, pSlS, qRepT, pStar, qSortT, qInD, pSortSet, pRng3, qMinP, pPar3, pDNew, pDPut, pSortDict, pTupR, pLstR, pRevL, pRet, pRetN, pNext, pAsg, pAsgL, pAsgG, pPar, pAug, pApp, pFz, pFor, pGN, pGNil, pGCons, pGT, pVar, pC, pOp, pUn, pFrz, pNil, pCons, pDs, pTup, pLst, pNotT, pChain, pBl, pBlL, pLc, pYes, pCall, pSeqI, pRng1, pRng2, pEnum, pZip, pEZ, pSl, pNoPart, pPart, pIsa1, pIsa2, pCatL, x_Ite, x_AndT, x_OrT, x_Tst, x_AndV, x_OrV, x_NotV, boolD_d, elD_d, x_IxL, x_IxT, qII, qIC, qAdd, q1C, q2C, qLen, qTuple, qListL, qSum, qAll, qMin2, qMax2, qAbs, qInt, qEq, qNe, qIs, qIsNot, qIn, qNeg, qCatL, qSort, sqD, flatD, dIsN, wipeE, List.getElem?_cons_zero, List.getElem?_cons_succ, List.set_cons_zero, List.set_cons_succ, List.cons_append, List.nil_append, List.replicate_succ, List.replicate_zero, List.length_cons, List.length_nil, List.length_map, decide_eq_true_eq, decide_eq_false_iff_not, Bool.not_eq_true', Bool.not_eq_false', Bool.true_eq_false, Bool.false_eq_true, true_implies, false_implies, implies_true, true_and, and_true, Nat.reduceSub, Nat.reduceAdd, reduceCtorEq, Option.map_some, Option.map_none, if_true, if_false, Option.some.injEq, Int.toNat_natCast, x_If]
    refine ⟨fun h => (by cases h), fun _ => ?_⟩
    have k : Φ (.d (.bool ((decide (1 ≤ (xs.length : Int)) && decide ((xs.length : Int) ≤ 6)) && xs.all okI))) := k
    by_cases h1 : 1 ≤ (xs.length : Int)
    · rw [decide_eq_true h1, Bool.true_and] at k
      rw [decide_eq_true h1]
      refine ⟨fun h2 => ?_, fun h2 => ⟨hl, ?_⟩⟩
      · rw [decide_eq_false h2] at k; exact k
      · rw [decide_eq_true h2, Bool.true_and] at k
        rw [← List.map_id' xs]
        refine lc_map (F := fun d : D => d) (G := PyData.bool) okI (fun a ha Ψ hΨ => ?_) ?_
        · simp only [pFun, pIxO, pLenO, pPopO, pInsO, pStO, pSlS, qRepT, pStar, qSortT, qInD, pSortSet, pRng3, qMinP, pPar3, pDNew, pDPut, pSortDict, pTupR, pLstR, pRevL, pRet, pRetN, pNext, pAsg, pAsgL, pAsgG, pPar, pAug, pApp, pFz, pFor, pGN, pGNil, pGCons, pGT, pVar, pC, pOp, pUn, pFrz, pNil, pCons, pDs, pTup, pLst, pNotT, pChain, pBl, pBlL, pLc, pYes, pCall, pSeqI, pRng1, pRng2, pEnum, pZip, pEZ, pSl, pNoPart, pPart, pIsa1, pIsa2, pCatL, x_Ite, x_AndT, x_OrT, x_Tst, x_AndV, x_OrV, x_NotV, boolD_d, elD_d, x_IxL, x_IxT, qII, qIC, qAdd, q1C, q2C, qLen, qTuple, qListL, qSum, qAll, qMin2, qMax2, qAbs, qInt, qEq, qNe, qIs, qIsNot, qIn, qNeg, qCatL, qSort, sqD, flatD, dIsN, wipeE, List.getElem?_cons_zero, List.getElem?_cons_succ, List.set_cons_zero, List.set_cons_succ, List.cons_append, List.nil_append, List.replicate_succ, List.replicate_zero, List.length_cons, List.length_nil, List.length_map, decide_eq_true_eq, decide_eq_false_iff_not, Bool.not_eq_true', Bool.not_eq_false', Bool.true_eq_false, Bool.false_eq_true, true_implies, false_implies, implies_true, true_and, and_true, Nat.reduceSub, Nat.reduceAdd, reduceCtorEq, Option.map_some, Option.map_none, if_true, if_false, Option.some.injEq, Int.toNat_natCast]
          refine s_is_integer ?_
          simp only [pFun, pIxO, pLenO, pPopO, pInsO, pStO, pSlS, qRepT, pStar, qSortT, qInD, pSortSet, pRng3, qMinP, pPar3, pDNew, pDPut, pSortDict, pTupR, pLstR, pRevL, pRet, pRetN, pNext, pAsg, pAsgL, pAsgG, pPar, pAug, pApp, pFz, pFor, pGN, pGNil, pGCons, pGT, pVar, pC, pOp, pUn, pFrz, pNil, pCons, pDs, pTup, pLst, pNotT, pChain, pBl, pBlL, pLc, pYes, pCall, pSeqI, pRng1, pRng2, pEnum, pZip, pEZ, pSl, pNoPart, pPart, pIsa1, pIsa2, pCatL, x_Ite, x_AndT, x_OrT, x_Tst, x_AndV, x_OrV, x_NotV, boolD_d, elD_d, x_IxL, x_IxT, qII, qIC, qAdd, q1C, q2C, qLen, qTuple, qListL, qSum, qAll, qMin2, qMax2, qAbs, qInt, qEq, qNe, qIs, qIsNot, qIn, qNeg, qCatL, qSort, sqD, flatD, dIsN, wipeE, List.getElem?_cons_zero, List.getElem?_cons_succ, List.set_cons_zero, List.set_cons_succ, List.cons_append, List.nil_append, List.replicate_succ, List.replicate_zero, List.length_cons, List.length_nil, List.length_map, decide_eq_true_eq, decide_eq_false_iff_not, Bool.not_eq_true', Bool.not_eq_false', Bool.true_eq_false, Bool.false_eq_true, true_implies, false_implies, implies_true, true_and, and_true, Nat.reduceSub, Nat.reduceAdd, reduceCtorEq, Option.map_some, Option.map_none, if_true, if_false, Option.some.injEq, Int.toNat_natCast]
          exact hΨ
        · refine ⟨_, rfl, ?_⟩
          rw [List.all_map]
          exact k
    · rw [decide_eq_false h1, Bool.false_and, Bool.false_and] at k
      rw [decide_eq_false h1]
      exact k
  | _ => 
    refine seq ?_
    simp only [pFun, pIxO, pLenO, pPopO, pInsO, pStO, pSlS, qRepT, pStar, qSortT, qInD, pSortSet, pRng3, qMinP, pPar3, pDNew, pDPut, pSortDict, pTupR, pLstR, pRevL, pRet, pRetN, pNext, pAsg, pAsgL, pAsgG, pPar, pAug, pApp, pFz, pFor, pGN, pGNil, pGCons, pGT, pVar, pC, pOp, pUn, pFrz, pNil, pCons, pDs, pTup, pLst, pNotT, pChain, pBl, pBlL, pLc, pYes, pCall, pSeqI, pRng1, pRng2, pEnum, pZip, pEZ, pSl, pNoPart, pPart, pIsa1, pIsa2, pCatL, x_Ite, x_AndT, x_OrT, x_Tst, x_AndV, x_OrV, x_NotV, boolD_d, elD_d, x_IxL, x_IxT, qII, qIC, qAdd, q1C, q2C, qLen, qTuple, qListL, qSum, qAll, qMin2, qMax2, qAbs, qInt, qEq, qNe, qIs, qIsNot, qIn, qNeg, qCatL, qSort, sqD, flatD, dIsN, wipeE, List.getElem?_cons_zero, List.getElem?_cons_succ, List.set_cons_zero, List.set_cons_succ, List.cons_append, List.nil_append, List.replicate_succ, List.replicate_zero, List.length_cons, List.length_nil, List.length_map, decide_eq_true_eq, decide_eq_false_iff_not, Bool.not_eq_true', Bool.not_eq_false', Bool.true_eq_false, Bool.false_eq_true, true_implies, false_implies, implies_true, true_and, and_true, Nat.reduceSub, Nat.reduceAdd, reduceCtorEq, Option.map_some, Option.map_none, if_true, if_false, Option.some.injEq, Int.toNat_natCast, x_If]
    simp [isaD, isaS, tyD, boolD]
    exact k
theorem fa_nil {m n : Nat} : ∀ x ∈ ([] : List D), Fine m n x := fun x h => absurd h List.not_mem_nil
theorem fa_cons {m n : Nat} {x : D} {xs : List D} (h : Fine m n x) (k : ∀ x ∈ xs, Fine m n x) : ∀ y ∈ x :: xs, Fine m n y := fun y hy => by
  rcases List.mem_cons.mp hy with rfl | hy
  · exact h
  · exact k y hy
theorem law_ok : LawOk 10 p_law := by
  unfold LawOk p_law
  refine seq ?_
  simp only [pFun, pIxO, pLenO, pPopO, pInsO, pStO, pSlS, qRepT, pStar, qSortT, qInD, pSortSet, pRng3, qMinP, pPar3, pDNew, pDPut, pSortDict, pTupR, pLstR, pRevL, pRet, pRetN, pNext, pAsg, pAsgL, pAsgG, pPar, pAug, pApp, pFz, pFor, pGN, pGNil, pGCons, pGT, pVar, pC, pOp, pUn, pFrz, pNil, pCons, pDs, pTup, pLst, pNotT, pChain, pBl, pBlL, pLc, pYes, pCall, pSeqI, pRng1, pRng2, pEnum, pZip, pEZ, pSl, pNoPart, pPart, pIsa1, pIsa2, pCatL, x_Ite, x_AndT, x_OrT, x_Tst, x_AndV, x_OrV, x_NotV, boolD_d, elD_d, x_IxL, x_IxT, qII, qIC, qAdd, q1C, q2C, qLen, qTuple, qListL, qSum, qAll, qMin2, qMax2, qAbs, qInt, qEq, qNe, qIs, qIsNot, qIn, qNeg, qCatL, qSort, sqD, flatD, dIsN, wipeE, List.getElem?_cons_zero, List.getElem?_cons_succ, List.set_cons_zero, List.set_cons_succ, List.cons_append, List.nil_append, List.replicate_succ, List.replicate_zero, List.length_cons, List.length_nil, List.length_map, decide_eq_true_eq, decide_eq_false_iff_not, Bool.not_eq_true', Bool.not_eq_false', Bool.true_eq_false, Bool.false_eq_true, true_implies, false_implies, implies_true, true_and, and_true, Nat.reduceSub, Nat.reduceAdd, reduceCtorEq, Option.map_some, Option.map_none, if_true, if_false, Option.some.injEq, Int.toNat_natCast]
  refine ⟨by decide, by decide, ?_⟩
  rw [rngD_map]
  refine for_rule (fun _ _ ρ => ∃ a b c d e f g h, ρ = [.u, .tp, a, b, c, d, e, f, g, h]) ⟨_, _, _, _, _, _, _, _, rfl⟩ ?_ ?_
  · rintro ρ ⟨_, _, _, _, _, _, _, _, rfl⟩
    simp only [pFun, pIxO, pLenO, pPopO, pInsO, pStO, pSlS, qRepT, pStar, qSortT, qInD, pSortSet, pRng3, qMinP, pPar3, pDNew, pDPut, pSortDict, pTupR, pLstR, pRevL, pRet, pRetN, pNext, pAsg, pAsgL, pAsgG, pPar, pAug, pApp, pFz, pFor, pGN, pGNil, pGCons, pGT, pVar, pC, pOp, pUn, pFrz, pNil, pCons, pDs, pTup, pLst, pNotT, pChain, pBl, pBlL, pLc, pYes, pCall, pSeqI, pRng1, pRng2, pEnum, pZip, pEZ, pSl, pNoPart, pPart, pIsa1, pIsa2, pCatL, x_Ite, x_AndT, x_OrT, x_Tst, x_AndV, x_OrV, x_NotV, boolD_d, elD_d, x_IxL, x_IxT, qII, qIC, qAdd, q1C, q2C, qLen, qTuple, qListL, qSum, qAll, qMin2, qMax2, qAbs, qInt, qEq, qNe, qIs, qIsNot, qIn, qNeg, qCatL, qSort, sqD, flatD, dIsN, wipeE, List.getElem?_cons_zero, List.getElem?_cons_succ, List.set_cons_zero, List.set_cons_succ, List.cons_append, List.nil_append, List.replicate_succ, List.replicate_zero, List.length_cons, List.length_nil, List.length_map, decide_eq_true_eq, decide_eq_false_iff_not, Bool.not_eq_true', Bool.not_eq_false', Bool.true_eq_false, Bool.false_eq_true, true_implies, false_implies, implies_true, true_and, and_true, Nat.reduceSub, Nat.reduceAdd, reduceCtorEq, Option.map_some, Option.map_none, if_true, if_false, Option.some.injEq, Int.toNat_natCast]
    have nat : ∀ a : Nat, (1 : Int) + (a : Int) = ((a + 1 : Nat) : Int) := fun a => by omega
    have hl : (rngD 1 (7 - 1 : Int).toNat).length = 6 := rfl
    refine ⟨⟨by decide, by decide, by decide, by decide⟩, by decide, ?_⟩
    rw [rngD_map]
    refine lc_map (G := PyData.int) (fun a => ten (a + 1 + 1)) (fun a ha Ψ hΨ => ?_) ?_
    · have ha := List.mem_range.mp ha
      simp only [pFun, pIxO, pLenO, pPopO, pInsO, pStO, pSlS, qRepT, pStar, qSortT, qInD, pSortSet, pRng3, qMinP, pPar3, pDNew, pDPut, pSortDict, pTupR, pLstR, pRevL, pRet, pRetN, pNext, pAsg, pAsgL, pAsgG, pPar, pAug, pApp, pFz, pFor, pGN, pGNil, pGCons, pGT, pVar, pC, pOp, pUn, pFrz, pNil, pCons, pDs, pTup, pLst, pNotT, pChain, pBl, pBlL, pLc, pYes, pCall, pSeqI, pRng1, pRng2, pEnum, pZip, pEZ, pSl, pNoPart, pPart, pIsa1, pIsa2, pCatL, x_Ite, x_AndT, x_OrT, x_Tst, x_AndV, x_OrV, x_NotV, boolD_d, elD_d, x_IxL, x_IxT, qII, qIC, qAdd, q1C, q2C, qLen, qTuple, qListL, qSum, qAll, qMin2, qMax2, qAbs, qInt, qEq, qNe, qIs, qIsNot, qIn, qNeg, qCatL, qSort, sqD, flatD, dIsN, wipeE, List.getElem?_cons_zero, List.getElem?_cons_succ, List.set_cons_zero, List.set_cons_succ, List.cons_append, List.nil_append, List.replicate_succ, List.replicate_zero, List.length_cons, List.length_nil, List.length_map, decide_eq_true_eq, decide_eq_false_iff_not, Bool.not_eq_true', Bool.not_eq_false', Bool.true_eq_false, Bool.false_eq_true, true_implies, false_implies, implies_true, true_and, and_true, Nat.reduceSub, Nat.reduceAdd, reduceCtorEq, Option.map_some, Option.map_none, if_true, if_false, Option.some.injEq, Int.toNat_natCast]
      rw [nat]
      refine s_total (by omega) ?_
      simp only [pFun, pIxO, pLenO, pPopO, pInsO, pStO, pSlS, qRepT, pStar, qSortT, qInD, pSortSet, pRng3, qMinP, pPar3, pDNew, pDPut, pSortDict, pTupR, pLstR, pRevL, pRet, pRetN, pNext, pAsg, pAsgL, pAsgG, pPar, pAug, pApp, pFz, pFor, pGN, pGNil, pGCons, pGT, pVar, pC, pOp, pUn, pFrz, pNil, pCons, pDs, pTup, pLst, pNotT, pChain, pBl, pBlL, pLc, pYes, pCall, pSeqI, pRng1, pRng2, pEnum, pZip, pEZ, pSl, pNoPart, pPart, pIsa1, pIsa2, pCatL, x_Ite, x_AndT, x_OrT, x_Tst, x_AndV, x_OrV, x_NotV, boolD_d, elD_d, x_IxL, x_IxT, qII, qIC, qAdd, q1C, q2C, qLen, qTuple, qListL, qSum, qAll, qMin2, qMax2, qAbs, qInt, qEq, qNe, qIs, qIsNot, qIn, qNeg, qCatL, qSort, sqD, flatD, dIsN, wipeE, List.getElem?_cons_zero, List.getElem?_cons_succ, List.set_cons_zero, List.set_cons_succ, List.cons_append, List.nil_append, List.replicate_succ, List.replicate_zero, List.length_cons, List.length_nil, List.length_map, decide_eq_true_eq, decide_eq_false_iff_not, Bool.not_eq_true', Bool.not_eq_false', Bool.true_eq_false, Bool.false_eq_true, true_implies, false_implies, implies_true, true_and, and_true, Nat.reduceSub, Nat.reduceAdd, reduceCtorEq, Option.map_some, Option.map_none, if_true, if_false, Option.some.injEq, Int.toNat_natCast]
      exact hΨ
    refine ⟨⟨by decide, by decide, by decide, by decide⟩, by decide, ?_⟩
    refine lc_map (G := PyData.int) (fun a => ten (a + 1 + 1)) (fun a ha Ψ hΨ => ?_) ?_
    · have ha := List.mem_range.mp ha
      simp only [pFun, pIxO, pLenO, pPopO, pInsO, pStO, pSlS, qRepT, pStar, qSortT, qInD, pSortSet, pRng3, qMinP, pPar3, pDNew, pDPut, pSortDict, pTupR, pLstR, pRevL, pRet, pRetN, pNext, pAsg, pAsgL, pAsgG, pPar, pAug, pApp, pFz, pFor, pGN, pGNil, pGCons, pGT, pVar, pC, pOp, pUn, pFrz, pNil, pCons, pDs, pTup, pLst, pNotT, pChain, pBl, pBlL, pLc, pYes, pCall, pSeqI, pRng1, pRng2, pEnum, pZip, pEZ, pSl, pNoPart, pPart, pIsa1, pIsa2, pCatL, x_Ite, x_AndT, x_OrT, x_Tst, x_AndV, x_OrV, x_NotV, boolD_d, elD_d, x_IxL, x_IxT, qII, qIC, qAdd, q1C, q2C, qLen, qTuple, qListL, qSum, qAll, qMin2, qMax2, qAbs, qInt, qEq, qNe, qIs, qIsNot, qIn, qNeg, qCatL, qSort, sqD, flatD, dIsN, wipeE, List.getElem?_cons_zero, List.getElem?_cons_succ, List.set_cons_zero, List.set_cons_succ, List.cons_append, List.nil_append, List.replicate_succ, List.replicate_zero, List.length_cons, List.length_nil, List.length_map, decide_eq_true_eq, decide_eq_false_iff_not, Bool.not_eq_true', Bool.not_eq_false', Bool.true_eq_false, Bool.false_eq_true, true_implies, false_implies, implies_true, true_and, and_true, Nat.reduceSub, Nat.reduceAdd, reduceCtorEq, Option.map_some, Option.map_none, if_true, if_false, Option.some.injEq, Int.toNat_natCast]
      rw [nat]
      refine s_size (by omega) ?_
      simp only [pFun, pIxO, pLenO, pPopO, pInsO, pStO, pSlS, qRepT, pStar, qSortT, qInD, pSortSet, pRng3, qMinP, pPar3, pDNew, pDPut, pSortDict, pTupR, pLstR, pRevL, pRet, pRetN, pNext, pAsg, pAsgL, pAsgG, pPar, pAug, pApp, pFz, pFor, pGN, pGNil, pGCons, pGT, pVar, pC, pOp, pUn, pFrz, pNil, pCons, pDs, pTup, pLst, pNotT, pChain, pBl, pBlL, pLc, pYes, pCall, pSeqI, pRng1, pRng2, pEnum, pZip, pEZ, pSl, pNoPart, pPart, pIsa1, pIsa2, pCatL, x_Ite, x_AndT, x_OrT, x_Tst, x_AndV, x_OrV, x_NotV, boolD_d, elD_d, x_IxL, x_IxT, qII, qIC, qAdd, q1C, q2C, qLen, qTuple, qListL, qSum, qAll, qMin2, qMax2, qAbs, qInt, qEq, qNe, qIs, qIsNot, qIn, qNeg, qCatL, qSort, sqD, flatD, dIsN, wipeE, List.getElem?_cons_zero, List.getElem?_cons_succ, List.set_cons_zero, List.set_cons_succ, List.cons_append, List.nil_append, List.replicate_succ, List.replicate_zero, List.length_cons, List.length_nil, List.length_map, decide_eq_true_eq, decide_eq_false_iff_not, Bool.not_eq_true', Bool.not_eq_false', Bool.true_eq_false, Bool.false_eq_true, true_implies, false_implies, implies_true, true_and, and_true, Nat.reduceSub, Nat.reduceAdd, reduceCtorEq, Option.map_some, Option.map_none, if_true, if_false, Option.some.injEq, Int.toNat_natCast]
      exact hΨ
    have z : Sm 2 (LI ((List.range (7 - 1 : Int).toNat).map fun a => ten (a + 1 + 1))) := Sm.ints (by rw [List.length_map, List.length_range]; decide)
    refine ⟨z.shp (by decide), z.shp (by decide), ?_⟩
    rw [z.refl]
  rintro ls0 u0 rs0 ρ e0 ⟨x2, x3, x4, x5, x6, x7, x8, x9, rfl⟩ Ψ hΨ
  simp only [pFun, pIxO, pLenO, pPopO, pInsO, pStO, pSlS, qRepT, pStar, qSortT, qInD, pSortSet, pRng3, qMinP, pPar3, pDNew, pDPut, pSortDict, pTupR, pLstR, pRevL, pRet, pRetN, pNext, pAsg, pAsgL, pAsgG, pPar, pAug, pApp, pFz, pFor, pGN, pGNil, pGCons, pGT, pVar, pC, pOp, pUn, pFrz, pNil, pCons, pDs, pTup, pLst, pNotT, pChain, pBl, pBlL, pLc, pYes, pCall, pSeqI, pRng1, pRng2, pEnum, pZip, pEZ, pSl, pNoPart, pPart, pIsa1, pIsa2, pCatL, x_Ite, x_AndT, x_OrT, x_Tst, x_AndV, x_OrV, x_NotV, boolD_d, elD_d, x_IxL, x_IxT, qII, qIC, qAdd, q1C, q2C, qLen, qTuple, qListL, qSum, qAll, qMin2, qMax2, qAbs, qInt, qEq, qNe, qIs, qIsNot, qIn, qNeg, qCatL, qSort, sqD, flatD, dIsN, wipeE, List.getElem?_cons_zero, List.getElem?_cons_succ, List.set_cons_zero, List.set_cons_succ, List.cons_append, List.nil_append, List.replicate_succ, List.replicate_zero, List.length_cons, List.length_nil, List.length_map, decide_eq_true_eq, decide_eq_false_iff_not, Bool.not_eq_true', Bool.not_eq_false', Bool.true_eq_false, Bool.false_eq_true, true_implies, false_implies, implies_true, true_and, and_true, Nat.reduceSub, Nat.reduceAdd, reduceCtorEq, Option.map_some, Option.map_none, if_true, if_false, Option.some.injEq, Int.toNat_natCast]
  refine seq ?_
  simp only [pFun, pIxO, pLenO, pPopO, pInsO, pStO, pSlS, qRepT, pStar, qSortT, qInD, pSortSet, pRng3, qMinP, pPar3, pDNew, pDPut, pSortDict, pTupR, pLstR, pRevL, pRet, pRetN, pNext, pAsg, pAsgL, pAsgG, pPar, pAug, pApp, pFz, pFor, pGN, pGNil, pGCons, pGT, pVar, pC, pOp, pUn, pFrz, pNil, pCons, pDs, pTup, pLst, pNotT, pChain, pBl, pBlL, pLc, pYes, pCall, pSeqI, pRng1, pRng2, pEnum, pZip, pEZ, pSl, pNoPart, pPart, pIsa1, pIsa2, pCatL, x_Ite, x_AndT, x_OrT, x_Tst, x_AndV, x_OrV, x_NotV, boolD_d, elD_d, x_IxL, x_IxT, qII, qIC, qAdd, q1C, q2C, qLen, qTuple, qListL, qSum, qAll, qMin2, qMax2, qAbs, qInt, qEq, qNe, qIs, qIsNot, qIn, qNeg, qCatL, qSort, sqD, flatD, dIsN, wipeE, List.getElem?_cons_zero, List.getElem?_cons_succ, List.set_cons_zero, List.set_cons_succ, List.cons_append, List.nil_append, List.replicate_succ, List.replicate_zero, List.length_cons, List.length_nil, List.length_map, decide_eq_true_eq, decide_eq_false_iff_not, Bool.not_eq_true', Bool.not_eq_false', Bool.true_eq_false, Bool.false_eq_true, true_implies, false_implies, implies_true, true_and, and_true, Nat.reduceSub, Nat.reduceAdd, reduceCtorEq, Option.map_some, Option.map_none, if_true, if_false, Option.some.injEq, Int.toNat_natCast]
  refine s_draw (by decide) (by decide) fun n n0 n1 => ?_
  simp only [pFun, pIxO, pLenO, pPopO, pInsO, pStO, pSlS, qRepT, pStar, qSortT, qInD, pSortSet, pRng3, qMinP, pPar3, pDNew, pDPut, pSortDict, pTupR, pLstR, pRevL, pRet, pRetN, pNext, pAsg, pAsgL, pAsgG, pPar, pAug, pApp, pFz, pFor, pGN, pGNil, pGCons, pGT, pVar, pC, pOp, pUn, pFrz, pNil, pCons, pDs, pTup, pLst, pNotT, pChain, pBl, pBlL, pLc, pYes, pCall, pSeqI, pRng1, pRng2, pEnum, pZip, pEZ, pSl, pNoPart, pPart, pIsa1, pIsa2, pCatL, x_Ite, x_AndT, x_OrT, x_Tst, x_AndV, x_OrV, x_NotV, boolD_d, elD_d, x_IxL, x_IxT, qII, qIC, qAdd, q1C, q2C, qLen, qTuple, qListL, qSum, qAll, qMin2, qMax2, qAbs, qInt, qEq, qNe, qIs, qIsNot, qIn, qNeg, qCatL, qSort, sqD, flatD, dIsN, wipeE, List.getElem?_cons_zero, List.getElem?_cons_succ, List.set_cons_zero, List.set_cons_succ, List.cons_append, List.nil_append, List.replicate_succ, List.replicate_zero, List.length_cons, List.length_nil, List.length_map, decide_eq_true_eq, decide_eq_false_iff_not, Bool.not_eq_true', Bool.not_eq_false', Bool.true_eq_false, Bool.false_eq_true, true_implies, false_implies, implies_true, true_and, and_true, Nat.reduceSub, Nat.reduceAdd, reduceCtorEq, Option.map_some, Option.map_none, if_true, if_false, Option.some.injEq, Int.toNat_natCast]
  have e1 : 1 + n = ((n.toNat + 1 : Nat) : Int) := by omega
  rw [e1]
  refine s_dials (by omega) (by omega) fun ps hl hp => ?_
  try simp only [pFun, pIxO, pLenO, pPopO, pInsO, pStO, pSlS, qRepT, pStar, qSortT, qInD, pSortSet, pRng3, qMinP, pPar3, pDNew, pDPut, pSortDict, pTupR, pLstR, pRevL, pRet, pRetN, pNext, pAsg, pAsgL, pAsgG, pPar, pAug, pApp, pFz, pFor, pGN, pGNil, pGCons, pGT, pVar, pC, pOp, pUn, pFrz, pNil, pCons, pDs, pTup, pLst, pNotT, pChain, pBl, pBlL, pLc, pYes, pCall, pSeqI, pRng1, pRng2, pEnum, pZip, pEZ, pSl, pNoPart, pPart, pIsa1, pIsa2, pCatL, x_Ite, x_AndT, x_OrT, x_Tst, x_AndV, x_OrV, x_NotV, boolD_d, elD_d, x_IxL, x_IxT, qII, qIC, qAdd, q1C, q2C, qLen, qTuple, qListL, qSum, qAll, qMin2, qMax2, qAbs, qInt, qEq, qNe, qIs, qIsNot, qIn, qNeg, qCatL, qSort, sqD, flatD, dIsN, wipeE, List.getElem?_cons_zero, List.getElem?_cons_succ, List.set_cons_zero, List.set_cons_succ, List.cons_append, List.nil_append, List.replicate_succ, List.replicate_zero, List.length_cons, List.length_nil, List.length_map, decide_eq_true_eq, decide_eq_false_iff_not, Bool.not_eq_true', Bool.not_eq_false', Bool.true_eq_false, Bool.false_eq_true, true_implies, false_implies, implies_true, true_and, and_true, Nat.reduceSub, Nat.reduceAdd, reduceCtorEq, Option.map_some, Option.map_none, if_true, if_false, Option.some.injEq, Int.toNat_natCast]
  refine seq ?_
  simp only [pFun, pIxO, pLenO, pPopO, pInsO, pStO, pSlS, qRepT, pStar, qSortT, qInD, pSortSet, pRng3, qMinP, pPar3, pDNew, pDPut, pSortDict, pTupR, pLstR, pRevL, pRet, pRetN, pNext, pAsg, pAsgL, pAsgG, pPar, pAug, pApp, pFz, pFor, pGN, pGNil, pGCons, pGT, pVar, pC, pOp, pUn, pFrz, pNil, pCons, pDs, pTup, pLst, pNotT, pChain, pBl, pBlL, pLc, pYes, pCall, pSeqI, pRng1, pRng2, pEnum, pZip, pEZ, pSl, pNoPart, pPart, pIsa1, pIsa2, pCatL, x_Ite, x_AndT, x_OrT, x_Tst, x_AndV, x_OrV, x_NotV, boolD_d, elD_d, x_IxL, x_IxT, qII, qIC, qAdd, q1C, q2C, qLen, qTuple, qListL, qSum, qAll, qMin2, qMax2, qAbs, qInt, qEq, qNe, qIs, qIsNot, qIn, qNeg, qCatL, qSort, sqD, flatD, dIsN, wipeE, List.getElem?_cons_zero, List.getElem?_cons_succ, List.set_cons_zero, List.set_cons_succ, List.cons_append, List.nil_append, List.replicate_succ, List.replicate_zero, List.length_cons, List.length_nil, List.length_map, decide_eq_true_eq, decide_eq_false_iff_not, Bool.not_eq_true', Bool.not_eq_false', Bool.true_eq_false, Bool.false_eq_true, true_implies, false_implies, implies_true, true_and, and_true, Nat.reduceSub, Nat.reduceAdd, reduceCtorEq, Option.map_some, Option.map_none, if_true, if_false, Option.some.injEq, Int.toNat_natCast]
  refine ⟨by decide, by decide, by decide, by decide, by decide, by decide, by decide, by decide, by decide, ?_⟩
  have hdl : Fine 8 1 (TI ps) := fine_tup (by rw [List.length_map]; omega) fun x hx => by
    obtain ⟨i, _, rfl⟩ := List.mem_map.mp hx
    exact fine_int
  refine seq_cut (fun ρ => ∃ ts a b c d e f, ρ = [.u, .tp, a, .d (TI ps), .ol ts, b, c, d, e, f] ∧ ts.length ≤ 20 ∧ ∀ t ∈ ts, Fine 24 7 t) (fun Ψ hΨ => ?_) ?_
  · simp only [pFun, pIxO, pLenO, pPopO, pInsO, pStO, pSlS, qRepT, pStar, qSortT, qInD, pSortSet, pRng3, qMinP, pPar3, pDNew, pDPut, pSortDict, pTupR, pLstR, pRevL, pRet, pRetN, pNext, pAsg, pAsgL, pAsgG, pPar, pAug, pApp, pFz, pFor, pGN, pGNil, pGCons, pGT, pVar, pC, pOp, pUn, pFrz, pNil, pCons, pDs, pTup, pLst, pNotT, pChain, pBl, pBlL, pLc, pYes, pCall, pSeqI, pRng1, pRng2, pEnum, pZip, pEZ, pSl, pNoPart, pPart, pIsa1, pIsa2, pCatL, x_Ite, x_AndT, x_OrT, x_Tst, x_AndV, x_OrV, x_NotV, boolD_d, elD_d, x_IxL, x_IxT, qII, qIC, qAdd, q1C, q2C, qLen, qTuple, qListL, qSum, qAll, qMin2, qMax2, qAbs, qInt, qEq, qNe, qIs, qIsNot, qIn, qNeg, qCatL, qSort, sqD, flatD, dIsN, wipeE, List.getElem?_cons_zero, List.getElem?_cons_succ, List.set_cons_zero, List.set_cons_succ, List.cons_append, List.nil_append, List.replicate_succ, List.replicate_zero, List.length_cons, List.length_nil, List.length_map, decide_eq_true_eq, decide_eq_false_iff_not, Bool.not_eq_true', Bool.not_eq_false', Bool.true_eq_false, Bool.false_eq_true, true_implies, false_implies, implies_true, true_and, and_true, Nat.reduceSub, Nat.reduceAdd, reduceCtorEq, Option.map_some, Option.map_none, if_true, if_false, Option.some.injEq, Int.toNat_natCast]
    refine ⟨by decide, ⟨by decide, by decide, by decide, by decide⟩, by decide, ⟨by decide, by decide, by decide, by decide⟩, by decide, ⟨by decide, by decide, by decide, by decide⟩, by decide, by omega, by decide, by decide, by decide, by decide, ?_⟩
    have i24 : ∀ x ∈ ps.map PyData.int, Fine 24 6 x := fun x hx => by
      obtain ⟨i, _, rfl⟩ := List.mem_map.mp hx
      exact fine_int
    refine hΨ _ ⟨_, _, _, _, _, _, _, rfl, by simp, ?_⟩
    have one : ∀ {d : D}, Fine 24 6 d → Fine 24 7 (.tuple [d]) := fun h => fine_tup (by simp) (fa_cons h fa_nil)
    refine fa_cons (hdl.le (by omega) (by omega)) (fa_cons (fine_list (by rw [List.length_map]; omega) i24) ?_)
    refine fa_cons (fine_tup (by decide) fa_nil) (fa_cons (one fine_int) (fa_cons (one fine_int) (fa_cons (one fine_int) (fa_cons (one fine_int) (fa_cons (one fine_bool) (fa_cons (one fine_none) ?_))))))
    refine fa_cons fine_int (fa_cons fine_none (fa_cons (fine_str (by decide +kernel) (by decide +kernel)) (fa_cons (one (fine_str (by decide +kernel) (by decide +kernel))) ?_)))
    refine fa_cons (fine_tup (by decide) ?_) (fa_cons (fine_tup (by decide) ?_) (fa_cons (fine_tup (by decide) ?_) ?_))
    · exact fa_cons fine_int (fa_cons fine_int (fa_cons fine_int (fa_cons fine_int (fa_cons fine_int (fa_cons fine_int fa_nil)))))
    · exact fa_cons fine_int (fa_cons fine_int (fa_cons fine_int (fa_cons fine_int (fa_cons fine_int (fa_cons fine_int (fa_cons fine_int fa_nil))))))
    · exact fa_cons fine_int (fa_cons fine_int (fa_cons fine_int (fa_cons fine_int (fa_cons fine_int (fa_cons fine_int fa_nil)))))
    refine fa_cons (fine_tup (by rw [List.length_append, List.length_map, List.length_cons, List.length_nil]; omega) fun x hx => ?_) (fa_cons (fine_tup (by decide) (fa_cons (fine_tup (by decide) (fa_cons fine_int (fa_cons fine_int fa_nil))) fa_nil)) fa_nil)
    rcases List.mem_append.mp hx with hx | hx
    · exact i24 x hx
    · rw [List.mem_singleton] at hx
      subst hx
      exact fine_int
  rintro _ ⟨ts, _, _, _, _, _, _, rfl, ht, hts⟩
  refine seq_cut (fun ρ => ∃ ts a b c d e f, ρ = [.u, .tp, a, .d (TI ps), .ol ts, b, c, d, e, f] ∧ ts.length ≤ 100 ∧ ∀ t ∈ ts, Fine 24 7 t) (fun Ψ hΨ => ?_) ?_
  · simp only [pFun, pIxO, pLenO, pPopO, pInsO, pStO, pSlS, qRepT, pStar, qSortT, qInD, pSortSet, pRng3, qMinP, pPar3, pDNew, pDPut, pSortDict, pTupR, pLstR, pRevL, pRet, pRetN, pNext, pAsg, pAsgL, pAsgG, pPar, pAug, pApp, pFz, pFor, pGN, pGNil, pGCons, pGT, pVar, pC, pOp, pUn, pFrz, pNil, pCons, pDs, pTup, pLst, pNotT, pChain, pBl, pBlL, pLc, pYes, pCall, pSeqI, pRng1, pRng2, pEnum, pZip, pEZ, pSl, pNoPart, pPart, pIsa1, pIsa2, pCatL, x_Ite, x_AndT, x_OrT, x_Tst, x_AndV, x_OrV, x_NotV, boolD_d, elD_d, x_IxL, x_IxT, qII, qIC, qAdd, q1C, q2C, qLen, qTuple, qListL, qSum, qAll, qMin2, qMax2, qAbs, qInt, qEq, qNe, qIs, qIsNot, qIn, qNeg, qCatL, qSort, sqD, flatD, dIsN, wipeE, List.getElem?_cons_zero, List.getElem?_cons_succ, List.set_cons_zero, List.set_cons_succ, List.cons_append, List.nil_append, List.replicate_succ, List.replicate_zero, List.length_cons, List.length_nil, List.length_map, decide_eq_true_eq, decide_eq_false_iff_not, Bool.not_eq_true', Bool.not_eq_false', Bool.true_eq_false, Bool.false_eq_true, true_implies, false_implies, implies_true, true_and, and_true, Nat.reduceSub, Nat.reduceAdd, reduceCtorEq, Option.map_some, Option.map_none, if_true, if_false, Option.some.injEq, Int.toNat_natCast]
    refine ⟨by decide, by decide, ?_⟩
    rw [rngD_map]
    refine for_rule (fun (ls : List Nat) _ ρ => ls.length ≤ 8 ∧ ∃ ts a b c d e f, ρ = [.u, .tp, a, .d (TI ps), .ol ts, b, c, d, e, f] ∧ ts.length ≤ 20 + 2 * ls.length ∧ ∀ t ∈ ts, Fine 24 7 t) ⟨by simp, _, _, _, _, _, _, _, rfl, by simpa using ht, hts⟩ ?_ ?_
    · rintro ρ ⟨h8, ts, _, _, _, _, _, _, rfl, ht, hts⟩
      exact hΨ _ ⟨_, _, _, _, _, _, _, rfl, by omega, hts⟩
    rintro ls1 k rs1 ρ e1 ⟨h8, ts, _, _, _, _, _, _, rfl, ht, hts⟩ Ψ hΨ
    simp only [pFun, pIxO, pLenO, pPopO, pInsO, pStO, pSlS, qRepT, pStar, qSortT, qInD, pSortSet, pRng3, qMinP, pPar3, pDNew, pDPut, pSortDict, pTupR, pLstR, pRevL, pRet, pRetN, pNext, pAsg, pAsgL, pAsgG, pPar, pAug, pApp, pFz, pFor, pGN, pGNil, pGCons, pGT, pVar, pC, pOp, pUn, pFrz, pNil, pCons, pDs, pTup, pLst, pNotT, pChain, pBl, pBlL, pLc, pYes, pCall, pSeqI, pRng1, pRng2, pEnum, pZip, pEZ, pSl, pNoPart, pPart, pIsa1, pIsa2, pCatL, x_Ite, x_AndT, x_OrT, x_Tst, x_AndV, x_OrV, x_NotV, boolD_d, elD_d, x_IxL, x_IxT, qII, qIC, qAdd, q1C, q2C, qLen, qTuple, qListL, qSum, qAll, qMin2, qMax2, qAbs, qInt, qEq, qNe, qIs, qIsNot, qIn, qNeg, qCatL, qSort, sqD, flatD, dIsN, wipeE, List.getElem?_cons_zero, List.getElem?_cons_succ, List.set_cons_zero, List.set_cons_succ, List.cons_append, List.nil_append, List.replicate_succ, List.replicate_zero, List.length_cons, List.length_nil, List.length_map, decide_eq_true_eq, decide_eq_false_iff_not, Bool.not_eq_true', Bool.not_eq_false', Bool.true_eq_false, Bool.false_eq_true, true_implies, false_implies, implies_true, true_and, and_true, Nat.reduceSub, Nat.reduceAdd, reduceCtorEq, Option.map_some, Option.map_none, if_true, if_false, Option.some.injEq, Int.toNat_natCast]
    refine seq ?_
    simp only [pFun, pIxO, pLenO, pPopO, pInsO, pStO, pSlS, qRepT, pStar, qSortT, qInD, pSortSet, pRng3, qMinP, pPar3, pDNew, pDPut, pSortDict, pTupR, pLstR, pRevL, pRet, pRetN, pNext, pAsg, pAsgL, pAsgG, pPar, pAug, pApp, pFz, pFor, pGN, pGNil, pGCons, pGT, pVar, pC, pOp, pUn, pFrz, pNil, pCons, pDs, pTup, pLst, pNotT, pChain, pBl, pBlL, pLc, pYes, pCall, pSeqI, pRng1, pRng2, pEnum, pZip, pEZ, pSl, pNoPart, pPart, pIsa1, pIsa2, pCatL, x_Ite, x_AndT, x_OrT, x_Tst, x_AndV, x_OrV, x_NotV, boolD_d, elD_d, x_IxL, x_IxT, qII, qIC, qAdd, q1C, q2C, qLen, qTuple, qListL, qSum, qAll, qMin2, qMax2, qAbs, qInt, qEq, qNe, qIs, qIsNot, qIn, qNeg, qCatL, qSort, sqD, flatD, dIsN, wipeE, List.getElem?_cons_zero, List.getElem?_cons_succ, List.set_cons_zero, List.set_cons_succ, List.cons_append, List.nil_append, List.replicate_succ, List.replicate_zero, List.length_cons, List.length_nil, List.length_map, decide_eq_true_eq, decide_eq_false_iff_not, Bool.not_eq_true', Bool.not_eq_false', Bool.true_eq_false, Bool.false_eq_true, true_implies, false_implies, implies_true, true_and, and_true, Nat.reduceSub, Nat.reduceAdd, reduceCtorEq, Option.map_some, Option.map_none, if_true, if_false, Option.some.injEq, Int.toNat_natCast]
    refine s_spoilt 10 (by decide) (by decide) (by decide) hdl fun y hy => ?_
    refine ⟨by omega, y, atI_last, ?_⟩
    refine s_spoilt 10 (by decide) (by decide) (by decide) hy fun z hz => ?_
    refine ⟨by rw [List.length_append, List.length_cons, List.length_nil]; omega, hΨ _ ⟨?_, _, _, _, _, _, _, _, rfl, ?_, ?_⟩⟩
    · have := congrArg List.length e1
      simp at this ⊢
      omega
    · simp only [List.length_append, List.length_cons, List.length_nil]
      omega
    · intro t h
      rw [List.mem_append, List.mem_append, List.mem_singleton, List.mem_singleton] at h
      rcases h with (h | rfl) | rfl
      · exact hts t h
      · exact hy.le (by omega) (by omega)
      · exact hz.le (by omega) (by omega)
  rintro _ ⟨ts, _, _, _, _, _, _, rfl, ht, hts⟩
  simp only [pFun, pIxO, pLenO, pPopO, pInsO, pStO, pSlS, qRepT, pStar, qSortT, qInD, pSortSet, pRng3, qMinP, pPar3, pDNew, pDPut, pSortDict, pTupR, pLstR, pRevL, pRet, pRetN, pNext, pAsg, pAsgL, pAsgG, pPar, pAug, pApp, pFz, pFor, pGN, pGNil, pGCons, pGT, pVar, pC, pOp, pUn, pFrz, pNil, pCons, pDs, pTup, pLst, pNotT, pChain, pBl, pBlL, pLc, pYes, pCall, pSeqI, pRng1, pRng2, pEnum, pZip, pEZ, pSl, pNoPart, pPart, pIsa1, pIsa2, pCatL, x_Ite, x_AndT, x_OrT, x_Tst, x_AndV, x_OrV, x_NotV, boolD_d, elD_d, x_IxL, x_IxT, qII, qIC, qAdd, q1C, q2C, qLen, qTuple, qListL, qSum, qAll, qMin2, qMax2, qAbs, qInt, qEq, qNe, qIs, qIsNot, qIn, qNeg, qCatL, qSort, sqD, flatD, dIsN, wipeE, List.getElem?_cons_zero, List.getElem?_cons_succ, List.set_cons_zero, List.set_cons_succ, List.cons_append, List.nil_append, List.replicate_succ, List.replicate_zero, List.length_cons, List.length_nil, List.length_map, decide_eq_true_eq, decide_eq_false_iff_not, Bool.not_eq_true', Bool.not_eq_false', Bool.true_eq_false, Bool.false_eq_true, true_implies, false_implies, implies_true, true_and, and_true, Nat.reduceSub, Nat.reduceAdd, reduceCtorEq, Option.map_some, Option.map_none, if_true, if_false, Option.some.injEq, Int.toNat_natCast]
  refine s_any 4 2 (by decide) (by decide) fun an han => ?_
  simp only [pFun, pIxO, pLenO, pPopO, pInsO, pStO, pSlS, qRepT, pStar, qSortT, qInD, pSortSet, pRng3, qMinP, pPar3, pDNew, pDPut, pSortDict, pTupR, pLstR, pRevL, pRet, pRetN, pNext, pAsg, pAsgL, pAsgG, pPar, pAug, pApp, pFz, pFor, pGN, pGNil, pGCons, pGT, pVar, pC, pOp, pUn, pFrz, pNil, pCons, pDs, pTup, pLst, pNotT, pChain, pBl, pBlL, pLc, pYes, pCall, pSeqI, pRng1, pRng2, pEnum, pZip, pEZ, pSl, pNoPart, pPart, pIsa1, pIsa2, pCatL, x_Ite, x_AndT, x_OrT, x_Tst, x_AndV, x_OrV, x_NotV, boolD_d, elD_d, x_IxL, x_IxT, qII, qIC, qAdd, q1C, q2C, qLen, qTuple, qListL, qSum, qAll, qMin2, qMax2, qAbs, qInt, qEq, qNe, qIs, qIsNot, qIn, qNeg, qCatL, qSort, sqD, flatD, dIsN, wipeE, List.getElem?_cons_zero, List.getElem?_cons_succ, List.set_cons_zero, List.set_cons_succ, List.cons_append, List.nil_append, List.replicate_succ, List.replicate_zero, List.length_cons, List.length_nil, List.length_map, decide_eq_true_eq, decide_eq_false_iff_not, Bool.not_eq_true', Bool.not_eq_false', Bool.true_eq_false, Bool.false_eq_true, true_implies, false_implies, implies_true, true_and, and_true, Nat.reduceSub, Nat.reduceAdd, reduceCtorEq, Option.map_some, Option.map_none, if_true, if_false, Option.some.injEq, Int.toNat_natCast]
  refine ⟨by decide, by omega, ?_⟩
  rw [← List.map_id' (ts ++ [an])]
  have hal : ∀ t ∈ ts ++ [an], Fine 24 7 t := fun t h => by
    rcases List.mem_append.mp h with h | h
    · exact hts t h
    · rw [List.mem_singleton] at h
      subst h
      exact han.le (by omega) (by omega)
  refine for_rule (F := fun d : D => d) (fun _ _ ρ => ∃ a b c d e f g h, ρ = [.u, .tp, a, b, c, d, e, f, g, h]) ⟨_, _, _, _, _, _, _, _, rfl⟩ ?_ ?_
  · rintro ρ ⟨_, _, _, _, _, _, _, _, rfl⟩
    exact hΨ _ ⟨_, _, _, _, _, _, _, _, rfl⟩
  rintro ls1 t rs1 ρ e1 ⟨_, _, _, _, _, _, _, _, rfl⟩ Ψ hΨ
  have ft := hal t (by rw [e1]; simp)
  simp only [pFun, pIxO, pLenO, pPopO, pInsO, pStO, pSlS, qRepT, pStar, qSortT, qInD, pSortSet, pRng3, qMinP, pPar3, pDNew, pDPut, pSortDict, pTupR, pLstR, pRevL, pRet, pRetN, pNext, pAsg, pAsgL, pAsgG, pPar, pAug, pApp, pFz, pFor, pGN, pGNil, pGCons, pGT, pVar, pC, pOp, pUn, pFrz, pNil, pCons, pDs, pTup, pLst, pNotT, pChain, pBl, pBlL, pLc, pYes, pCall, pSeqI, pRng1, pRng2, pEnum, pZip, pEZ, pSl, pNoPart, pPart, pIsa1, pIsa2, pCatL, x_Ite, x_AndT, x_OrT, x_Tst, x_AndV, x_OrV, x_NotV, boolD_d, elD_d, x_IxL, x_IxT, qII, qIC, qAdd, q1C, q2C, qLen, qTuple, qListL, qSum, qAll, qMin2, qMax2, qAbs, qInt, qEq, qNe, qIs, qIsNot, qIn, qNeg, qCatL, qSort, sqD, flatD, dIsN, wipeE, List.getElem?_cons_zero, List.getElem?_cons_succ, List.set_cons_zero, List.set_cons_succ, List.cons_append, List.nil_append, List.replicate_succ, List.replicate_zero, List.length_cons, List.length_nil, List.length_map, decide_eq_true_eq, decide_eq_false_iff_not, Bool.not_eq_true', Bool.not_eq_false', Bool.true_eq_false, Bool.false_eq_true, true_implies, false_implies, implies_true, true_and, and_true, Nat.reduceSub, Nat.reduceAdd, reduceCtorEq, Option.map_some, Option.map_none, if_true, if_false, Option.some.injEq, Int.toNat_natCast]
  refine seq_cut (fun ρ => ∃ a b c d f g, ρ = [.u, .tp, a, b, c, d, .d t, .d (.bool (lenB t)), f, g]) (fun Ψ hΨ => ?_) ?_
  · simp only [pFun, pIxO, pLenO, pPopO, pInsO, pStO, pSlS, qRepT, pStar, qSortT, qInD, pSortSet, pRng3, qMinP, pPar3, pDNew, pDPut, pSortDict, pTupR, pLstR, pRevL, pRet, pRetN, pNext, pAsg, pAsgL, pAsgG, pPar, pAug, pApp, pFz, pFor, pGN, pGNil, pGCons, pGT, pVar, pC, pOp, pUn, pFrz, pNil, pCons, pDs, pTup, pLst, pNotT, pChain, pBl, pBlL, pLc, pYes, pCall, pSeqI, pRng1, pRng2, pEnum, pZip, pEZ, pSl, pNoPart, pPart, pIsa1, pIsa2, pCatL, x_Ite, x_AndT, x_OrT, x_Tst, x_AndV, x_OrV, x_NotV, boolD_d, elD_d, x_IxL, x_IxT, qII, qIC, qAdd, q1C, q2C, qLen, qTuple, qListL, qSum, qAll, qMin2, qMax2, qAbs, qInt, qEq, qNe, qIs, qIsNot, qIn, qNeg, qCatL, qSort, sqD, flatD, dIsN, wipeE, List.getElem?_cons_zero, List.getElem?_cons_succ, List.set_cons_zero, List.set_cons_succ, List.cons_append, List.nil_append, List.replicate_succ, List.replicate_zero, List.length_cons, List.length_nil, List.length_map, decide_eq_true_eq, decide_eq_false_iff_not, Bool.not_eq_true', Bool.not_eq_false', Bool.true_eq_false, Bool.false_eq_true, true_implies, false_implies, implies_true, true_and, and_true, Nat.reduceSub, Nat.reduceAdd, reduceCtorEq, Option.map_some, Option.map_none, if_true, if_false, Option.some.injEq, Int.toNat_natCast]
    cases t with
    | tuple xs =>
      simp only [pFun, pIxO, pLenO, pPopO, pInsO, pStO, pSlS, qRepT, pStar, qSortT, qInD, pSortSet, pRng3, qMinP, pPar3, pDNew, pDPut, pSortDict, pTupR, pLstR, pRevL, pRet, pRetN, pNext, pAsg, pAsgL, pAsgG, pPar, pAug, pApp, pFz, pFor, pGN, pGNil, pGCons, pGT, pVar, pC, pOp, pUn, pFrz, pNil, pCons, pDs, pTup, pLst, pNotT, pChain, pBl, pBlL, pLc, pYes, pCall, pSeqI, pRng1, pRng2, pEnum, pZip, pEZ, pSl, pNoPart, pPart, pIsa1, pIsa2, pCatL, x_Ite, x_AndT, x_OrT, x_Tst, x_AndV, x_OrV, x_NotV, boolD_d, elD_d, x_IxL, x_IxT, qII, qIC, qAdd, q1C, q2C, qLen, qTuple, qListL, qSum, qAll, qMin2, qMax2, qAbs, qInt, qEq, qNe, qIs, qIsNot, qIn, qNeg, qCatL, qSort, sqD, flatD, dIsN, wipeE, List.getElem?_cons_zero, List.getElem?_cons_succ, List.set_cons_zero, List.set_cons_succ, List.cons_append, List.nil_append, List.replicate_succ, List.replicate_zero, List.length_cons, List.length_nil, List.length_map, decide_eq_true_eq, decide_eq_false_iff_not, Bool.not_eq_true', Bool.not_eq_false', Bool.true_eq_false, Bool.false_eq_true, true_implies, false_implies, implies_true, true_and, and_true, Nat.reduceSub, Nat.reduceAdd, reduceCtorEq, Option.map_some, Option.map_none, if_true, if_false, Option.some.injEq, Int.toNat_natCast, isT1]
      have k : ∀ {v : Bool} {a b c d f g : Ent}, v = lenB (.tuple xs) → Ψ [.u, .tp, a, b, c, d, .d (.tuple xs), .d (.bool v), f, g] := by
        rintro _ a b c d f g rfl
        exact hΨ _ ⟨_, _, _, _, _, _, rfl⟩
      have e : lenB (.tuple xs) = (decide (1 ≤ (xs.length : Int)) && decide ((xs.length : Int) ≤ 6)) := rfl
      by_cases h : 1 ≤ (xs.length : Int)
      · rw [decide_eq_true h]; exact k (by rw [e, decide_eq_true h, Bool.true_and])
      · rw [decide_eq_false h]; exact k (by rw [e, decide_eq_false h, Bool.false_and])
    | _ =>
      simp [isaD, isaS, tyD, boolD]
      exact hΨ _ ⟨_, _, _, _, _, _, rfl⟩
  rintro _ ⟨_, _, _, _, _, _, rfl⟩
  refine seq_cut (fun ρ => ∃ a b c d f g, ρ = [.u, .tp, a, b, c, d, .d t, .d (.bool (goodD t)), f, g]) (fun Ψ hΨ => ?_) ?_
  · simp only [pFun, pIxO, pLenO, pPopO, pInsO, pStO, pSlS, qRepT, pStar, qSortT, qInD, pSortSet, pRng3, qMinP, pPar3, pDNew, pDPut, pSortDict, pTupR, pLstR, pRevL, pRet, pRetN, pNext, pAsg, pAsgL, pAsgG, pPar, pAug, pApp, pFz, pFor, pGN, pGNil, pGCons, pGT, pVar, pC, pOp, pUn, pFrz, pNil, pCons, pDs, pTup, pLst, pNotT, pChain, pBl, pBlL, pLc, pYes, pCall, pSeqI, pRng1, pRng2, pEnum, pZip, pEZ, pSl, pNoPart, pPart, pIsa1, pIsa2, pCatL, x_Ite, x_AndT, x_OrT, x_Tst, x_AndV, x_OrV, x_NotV, boolD_d, elD_d, x_IxL, x_IxT, qII, qIC, qAdd, q1C, q2C, qLen, qTuple, qListL, qSum, qAll, qMin2, qMax2, qAbs, qInt, qEq, qNe, qIs, qIsNot, qIn, qNeg, qCatL, qSort, sqD, flatD, dIsN, wipeE, List.getElem?_cons_zero, List.getElem?_cons_succ, List.set_cons_zero, List.set_cons_succ, List.cons_append, List.nil_append, List.replicate_succ, List.replicate_zero, List.length_cons, List.length_nil, List.length_map, decide_eq_true_eq, decide_eq_false_iff_not, Bool.not_eq_true', Bool.not_eq_false', Bool.true_eq_false, Bool.false_eq_true, true_implies, false_implies, implies_true, true_and, and_true, Nat.reduceSub, Nat.reduceAdd, reduceCtorEq, Option.map_some, Option.map_none, if_true, if_false, Option.some.injEq, Int.toNat_natCast]
    cases t with
    | tuple xs =>
      simp only [pFun, pIxO, pLenO, pPopO, pInsO, pStO, pSlS, qRepT, pStar, qSortT, qInD, pSortSet, pRng3, qMinP, pPar3, pDNew, pDPut, pSortDict, pTupR, pLstR, pRevL, pRet, pRetN, pNext, pAsg, pAsgL, pAsgG, pPar, pAug, pApp, pFz, pFor, pGN, pGNil, pGCons, pGT, pVar, pC, pOp, pUn, pFrz, pNil, pCons, pDs, pTup, pLst, pNotT, pChain, pBl, pBlL, pLc, pYes, pCall, pSeqI, pRng1, pRng2, pEnum, pZip, pEZ, pSl, pNoPart, pPart, pIsa1, pIsa2, pCatL, x_Ite, x_AndT, x_OrT, x_Tst, x_AndV, x_OrV, x_NotV, boolD_d, elD_d, x_IxL, x_IxT, qII, qIC, qAdd, q1C, q2C, qLen, qTuple, qListL, qSum, qAll, qMin2, qMax2, qAbs, qInt, qEq, qNe, qIs, qIsNot, qIn, qNeg, qCatL, qSort, sqD, flatD, dIsN, wipeE, List.getElem?_cons_zero, List.getElem?_cons_succ, List.set_cons_zero, List.set_cons_succ, List.cons_append, List.nil_append, List.replicate_succ, List.replicate_zero, List.length_cons, List.length_nil, List.length_map, decide_eq_true_eq, decide_eq_false_iff_not, Bool.not_eq_true', Bool.not_eq_false', Bool.true_eq_false, Bool.false_eq_true, true_implies, false_implies, implies_true, true_and, and_true, Nat.reduceSub, Nat.reduceAdd, reduceCtorEq, Option.map_some, Option.map_none, if_true, if_false, Option.some.injEq, Int.toNat_natCast]
      have k : ∀ {v : Bool} {a b c d f g : Ent}, v = goodD (.tuple xs) → Ψ [.u, .tp, a, b, c, d, .d (.tuple xs), .d (.bool v), f, g] := by
        rintro _ a b c d f g rfl
        exact hΨ _ ⟨_, _, _, _, _, _, rfl⟩
      have e : goodD (.tuple xs) = (lenB (.tuple xs) && xs.all okI) := rfl
      obtain ⟨hx1, hx2⟩ : xs.length ≤ 24 ∧ ∀ x ∈ xs, Fine 24 6 x := ft
      refine ⟨fun h => ⟨by omega, ?_⟩, fun h => k (by rw [e, h, Bool.false_and])⟩
      have key : ∀ {Φ : List D → Prop} {a b c d e f g h i : Ent}, Φ (xs.filter fun x => !okI x) → lcL (pGN 9) (pNotT (pTst (pCall p_l_within (pCons (pVar 9) (pCons (pC (.int 0)) (pCons (pC (.int 99)) pNil)))))) (pVar 9) [a, b, c, d, e, f, g, h, i, .u] xs Φ := by
        intro Φ a b c d e f g h i hh
        have e0 : lcL (pGN 9) (pNotT (pTst (pCall p_l_within (pCons (pVar 9) (pCons (pC (.int 0)) (pCons (pC (.int 99)) pNil)))))) (pVar 9) [a, b, c, d, e, f, g, h, i, .u] (xs.map fun d : D => d) Φ := by
          refine lc_filter (F := fun d : D => d) (G := fun d : D => d) (fun x => !okI x) (fun a ha Ψ hΨ => ?_) (by rw [List.map_id']; exact hh)
          simp only [pFun, pIxO, pLenO, pPopO, pInsO, pStO, pSlS, qRepT, pStar, qSortT, qInD, pSortSet, pRng3, qMinP, pPar3, pDNew, pDPut, pSortDict, pTupR, pLstR, pRevL, pRet, pRetN, pNext, pAsg, pAsgL, pAsgG, pPar, pAug, pApp, pFz, pFor, pGN, pGNil, pGCons, pGT, pVar, pC, pOp, pUn, pFrz, pNil, pCons, pDs, pTup, pLst, pNotT, pChain, pBl, pBlL, pLc, pYes, pCall, pSeqI, pRng1, pRng2, pEnum, pZip, pEZ, pSl, pNoPart, pPart, pIsa1, pIsa2, pCatL, x_Ite, x_AndT, x_OrT, x_Tst, x_AndV, x_OrV, x_NotV, boolD_d, elD_d, x_IxL, x_IxT, qII, qIC, qAdd, q1C, q2C, qLen, qTuple, qListL, qSum, qAll, qMin2, qMax2, qAbs, qInt, qEq, qNe, qIs, qIsNot, qIn, qNeg, qCatL, qSort, sqD, flatD, dIsN, wipeE, List.getElem?_cons_zero, List.getElem?_cons_succ, List.set_cons_zero, List.set_cons_succ, List.cons_append, List.nil_append, List.replicate_succ, List.replicate_zero, List.length_cons, List.length_nil, List.length_map, decide_eq_true_eq, decide_eq_false_iff_not, Bool.not_eq_true', Bool.not_eq_false', Bool.true_eq_false, Bool.false_eq_true, true_implies, false_implies, implies_true, true_and, and_true, Nat.reduceSub, Nat.reduceAdd, reduceCtorEq, Option.map_some, Option.map_none, if_true, if_false, Option.some.injEq, Int.toNat_natCast]
          refine s_within ?_
          simp only [pFun, pIxO, pLenO, pPopO, pInsO, pStO, pSlS, qRepT, pStar, qSortT, qInD, pSortSet, pRng3, qMinP, pPar3, pDNew, pDPut, pSortDict, pTupR, pLstR, pRevL, pRet, pRetN, pNext, pAsg, pAsgL, pAsgG, pPar, pAug, pApp, pFz, pFor, pGN, pGNil, pGCons, pGT, pVar, pC, pOp, pUn, pFrz, pNil, pCons, pDs, pTup, pLst, pNotT, pChain, pBl, pBlL, pLc, pYes, pCall, pSeqI, pRng1, pRng2, pEnum, pZip, pEZ, pSl, pNoPart, pPart, pIsa1, pIsa2, pCatL, x_Ite, x_AndT, x_OrT, x_Tst, x_AndV, x_OrV, x_NotV, boolD_d, elD_d, x_IxL, x_IxT, qII, qIC, qAdd, q1C, q2C, qLen, qTuple, qListL, qSum, qAll, qMin2, qMax2, qAbs, qInt, qEq, qNe, qIs, qIsNot, qIn, qNeg, qCatL, qSort, sqD, flatD, dIsN, wipeE, List.getElem?_cons_zero, List.getElem?_cons_succ, List.set_cons_zero, List.set_cons_succ, List.cons_append, List.nil_append, List.replicate_succ, List.replicate_zero, List.length_cons, List.length_nil, List.length_map, decide_eq_true_eq, decide_eq_false_iff_not, Bool.not_eq_true', Bool.not_eq_false', Bool.true_eq_false, Bool.false_eq_true, true_implies, false_implies, implies_true, true_and, and_true, Nat.reduceSub, Nat.reduceAdd, reduceCtorEq, Option.map_some, Option.map_none, if_true, if_false, Option.some.injEq, Int.toNat_natCast]
          cases hq : okI a with
          | true => rw [hq] at hΨ; exact ⟨fun h => (by cases h), fun _ => hΨ⟩
          | false => rw [hq] at hΨ; exact ⟨fun _ => hΨ, fun h => (by cases h)⟩
        rw [List.map_id'] at e0
        exact e0
      refine key ?_
      have ff : Fine 24 7 (.list (xs.filter fun x => !okI x)) := fine_list (Nat.le_trans (List.length_filter_le _ _) hx1) fun x hx => hx2 x (List.mem_filter.mp hx).1
      refine ⟨by decide, ff.shp (by decide), by simp [SeqAt.shaped, PyData.canLay0, PyData.canLayAll0, PyData.depth, PyData.depthAll], ?_⟩
      have e2 : PyData.eqv (.list (xs.filter fun x => !okI x)) (.list []) = xs.all okI := by
        rw [PyData.eqv]
        generalize hz : (xs.filter fun x => !okI x) = zs
        cases zs with
        | nil =>
          rw [PyData.eqvAll]
          symm
          rw [List.all_eq_true]
          intro x hx
          have := List.filter_eq_nil_iff.mp hz x hx
          simpa using this
        | cons z zs =>
          rw [PyData.eqvAll]
          symm
          rw [Bool.eq_false_iff]
          intro ha
          have hm : z ∈ xs.filter fun x => !okI x := by rw [hz]; exact List.mem_cons_self
          have := List.mem_filter.mp hm
          rw [List.all_eq_true.mp ha z this.1] at this
          cases this.2
      exact k (by rw [e, h, Bool.true_and, e2])
    | _ =>
      refine ⟨fun h => (by cases h), fun _ => hΨ _ ⟨_, _, _, _, _, _, rfl⟩⟩
  rintro _ ⟨_, _, _, _, _, _, rfl⟩
  refine skip_if1 (fun Φ h => ?_) (hΨ _ ⟨_, _, _, _, _, _, _, _, rfl⟩)
  simp only [pFun, pIxO, pLenO, pPopO, pInsO, pStO, pSlS, qRepT, pStar, qSortT, qInD, pSortSet, pRng3, qMinP, pPar3, pDNew, pDPut, pSortDict, pTupR, pLstR, pRevL, pRet, pRetN, pNext, pAsg, pAsgL, pAsgG, pPar, pAug, pApp, pFz, pFor, pGN, pGNil, pGCons, pGT, pVar, pC, pOp, pUn, pFrz, pNil, pCons, pDs, pTup, pLst, pNotT, pChain, pBl, pBlL, pLc, pYes, pCall, pSeqI, pRng1, pRng2, pEnum, pZip, pEZ, pSl, pNoPart, pPart, pIsa1, pIsa2, pCatL, x_Ite, x_AndT, x_OrT, x_Tst, x_AndV, x_OrV, x_NotV, boolD_d, elD_d, x_IxL, x_IxT, qII, qIC, qAdd, q1C, q2C, qLen, qTuple, qListL, qSum, qAll, qMin2, qMax2, qAbs, qInt, qEq, qNe, qIs, qIsNot, qIn, qNeg, qCatL, qSort, sqD, flatD, dIsN, wipeE, List.getElem?_cons_zero, List.getElem?_cons_succ, List.set_cons_zero, List.set_cons_succ, List.cons_append, List.nil_append, List.replicate_succ, List.replicate_zero, List.length_cons, List.length_nil, List.length_map, decide_eq_true_eq, decide_eq_false_iff_not, Bool.not_eq_true', Bool.not_eq_false', Bool.true_eq_false, Bool.false_eq_true, true_implies, false_implies, implies_true, true_and, and_true, Nat.reduceSub, Nat.reduceAdd, reduceCtorEq, Option.map_some, Option.map_none, if_true, if_false, Option.some.injEq, Int.toNat_natCast]
  refine s_is_dials (fun xs e => ?_) ?_
  · subst e
    exact Nat.le_trans ft.1 (by decide)
  try simp only [pFun, pIxO, pLenO, pPopO, pInsO, pStO, pSlS, qRepT, pStar, qSortT, qInD, pSortSet, pRng3, qMinP, pPar3, pDNew, pDPut, pSortDict, pTupR, pLstR, pRevL, pRet, pRetN, pNext, pAsg, pAsgL, pAsgG, pPar, pAug, pApp, pFz, pFor, pGN, pGNil, pGCons, pGT, pVar, pC, pOp, pUn, pFrz, pNil, pCons, pDs, pTup, pLst, pNotT, pChain, pBl, pBlL, pLc, pYes, pCall, pSeqI, pRng1, pRng2, pEnum, pZip, pEZ, pSl, pNoPart, pPart, pIsa1, pIsa2, pCatL, x_Ite, x_AndT, x_OrT, x_Tst, x_AndV, x_OrV, x_NotV, boolD_d, elD_d, x_IxL, x_IxT, qII, qIC, qAdd, q1C, q2C, qLen, qTuple, qListL, qSum, qAll, qMin2, qMax2, qAbs, qInt, qEq, qNe, qIs, qIsNot, qIn, qNeg, qCatL, qSort, sqD, flatD, dIsN, wipeE, List.getElem?_cons_zero, List.getElem?_cons_succ, List.set_cons_zero, List.set_cons_succ, List.cons_append, List.nil_append, List.replicate_succ, List.replicate_zero, List.length_cons, List.length_nil, List.length_map, decide_eq_true_eq, decide_eq_false_iff_not, Bool.not_eq_true', Bool.not_eq_false', Bool.true_eq_false, Bool.false_eq_true, true_implies, false_implies, implies_true, true_and, and_true, Nat.reduceSub, Nat.reduceAdd, reduceCtorEq, Option.map_some, Option.map_none, if_true, if_false, Option.some.injEq, Int.toNat_natCast]
  refine s_like 8 (by decide) trivial ?_
  try simp only [pFun, pIxO, pLenO, pPopO, pInsO, pStO, pSlS, qRepT, pStar, qSortT, qInD, pSortSet, pRng3, qMinP, pPar3, pDNew, pDPut, pSortDict, pTupR, pLstR, pRevL, pRet, pRetN, pNext, pAsg, pAsgL, pAsgG, pPar, pAug, pApp, pFz, pFor, pGN, pGNil, pGCons, pGT, pVar, pC, pOp, pUn, pFrz, pNil, pCons, pDs, pTup, pLst, pNotT, pChain, pBl, pBlL, pLc, pYes, pCall, pSeqI, pRng1, pRng2, pEnum, pZip, pEZ, pSl, pNoPart, pPart, pIsa1, pIsa2, pCatL, x_Ite, x_AndT, x_OrT, x_Tst, x_AndV, x_OrV, x_NotV, boolD_d, elD_d, x_IxL, x_IxT, qII, qIC, qAdd, q1C, q2C, qLen, qTuple, qListL, qSum, qAll, qMin2, qMax2, qAbs, qInt, qEq, qNe, qIs, qIsNot, qIn, qNeg, qCatL, qSort, sqD, flatD, dIsN, wipeE, List.getElem?_cons_zero, List.getElem?_cons_succ, List.set_cons_zero, List.set_cons_succ, List.cons_append, List.nil_append, List.replicate_succ, List.replicate_zero, List.length_cons, List.length_nil, List.length_map, decide_eq_true_eq, decide_eq_false_iff_not, Bool.not_eq_true', Bool.not_eq_false', Bool.true_eq_false, Bool.false_eq_true, true_implies, false_implies, implies_true, true_and, and_true, Nat.reduceSub, Nat.reduceAdd, reduceCtorEq, Option.map_some, Option.map_none, if_true, if_false, Option.some.injEq, Int.toNat_natCast]
  exact h
end Law

set_option Elab.async false
set_option linter.all false
set_option maxRecDepth 100000
set_option maxHeartbeats 4000000
namespace Walk
open PySem PyProof.Rows L2 Evl Pu Law
def topS (i : Nat) : Stmt := PySem.Challenge.pw_meterdials_k01_dials_values.main.body.getD i (.Pass ⟨0, 0, 0, 0⟩)
abbrev s_l_parts : Stmt := topS 14
abbrev s_l_draw : Stmt := topS 7
abbrev s_l_seen : Stmt := topS 16
abbrev s_l_size : Stmt := topS 13
abbrev s_l_count : Stmt := topS 15
abbrev s_l_dials : Stmt := topS 17
abbrev s_total : Stmt := topS 5
abbrev s_l_any : Stmt := topS 12
abbrev s_l_whole : Stmt := topS 8
abbrev s_l_spoilt : Stmt := topS 11
abbrev s_l_like : Stmt := topS 10
abbrev s_is_integer : Stmt := topS 3
abbrev s_is_dials : Stmt := topS 4
abbrev s_l_within : Stmt := topS 9
abbrev s_law : Stmt := topS 18
structure Tx (K : PySem.W.Frag) (mg : Str → Option Value) where
  f_l_parts : Addr
  fd_l_parts : FuncData
  F_l_parts : Fun K "_law_parts" "_law_parts" s_l_parts f_l_parts fd_l_parts
  g_l_parts : mg "_law_parts" = some (.ref f_l_parts)
  f_l_draw : Addr
  fd_l_draw : FuncData
  F_l_draw : Fun K "_law_draw" "_law_draw" s_l_draw f_l_draw fd_l_draw
  g_l_draw : mg "_law_draw" = some (.ref f_l_draw)
  f_l_seen : Addr
  fd_l_seen : FuncData
  F_l_seen : Fun K "_law_seen" "_law_seen" s_l_seen f_l_seen fd_l_seen
  g_l_seen : mg "_law_seen" = some (.ref f_l_seen)
  f_l_size : Addr
  fd_l_size : FuncData
  F_l_size : Fun K "_law_size" "_law_size" s_l_size f_l_size fd_l_size
  g_l_size : mg "_law_size" = some (.ref f_l_size)
  f_l_count : Addr
  fd_l_count : FuncData
  F_l_count : Fun K "_law_count" "_law_count" s_l_count f_l_count fd_l_count
  g_l_count : mg "_law_count" = some (.ref f_l_count)
  f_l_dials : Addr
  fd_l_dials : FuncData
  F_l_dials : Fun K "_law_dials" "_law_dials" s_l_dials f_l_dials fd_l_dials
  g_l_dials : mg "_law_dials" = some (.ref f_l_dials)
  f_total : Addr
  fd_total : FuncData
  F_total : Fun K "total" "total" s_total f_total fd_total
  g_total : mg "total" = some (.ref f_total)
  f_l_any : Addr
  fd_l_any : FuncData
  F_l_any : Fun K "_law_any" "_law_any" s_l_any f_l_any fd_l_any
  g_l_any : mg "_law_any" = some (.ref f_l_any)
  f_l_whole : Addr
  fd_l_whole : FuncData
  F_l_whole : Fun K "_law_whole" "_law_whole" s_l_whole f_l_whole fd_l_whole
  g_l_whole : mg "_law_whole" = some (.ref f_l_whole)
  f_l_spoilt : Addr
  fd_l_spoilt : FuncData
  F_l_spoilt : Fun K "_law_spoilt" "_law_spoilt" s_l_spoilt f_l_spoilt fd_l_spoilt
  g_l_spoilt : mg "_law_spoilt" = some (.ref f_l_spoilt)
  f_l_like : Addr
  fd_l_like : FuncData
  F_l_like : Fun K "_law_like" "_law_like" s_l_like f_l_like fd_l_like
  g_l_like : mg "_law_like" = some (.ref f_l_like)
  f_is_integer : Addr
  fd_is_integer : FuncData
  F_is_integer : Fun K "is_integer" "is_integer" s_is_integer f_is_integer fd_is_integer
  g_is_integer : mg "is_integer" = some (.ref f_is_integer)
  f_is_dials : Addr
  fd_is_dials : FuncData
  F_is_dials : Fun K "is_dials" "is_dials" s_is_dials f_is_dials fd_is_dials
  g_is_dials : mg "is_dials" = some (.ref f_is_dials)
  f_l_within : Addr
  fd_l_within : FuncData
  F_l_within : Fun K "_law_within" "_law_within" s_l_within f_l_within fd_l_within
  g_l_within : mg "_law_within" = some (.ref f_l_within)
  f_law : Addr
  fd_law : FuncData
  F_law : Fun K "law" "law" s_law f_law fd_law
  g_law : mg "law" = some (.ref f_law)
  u_MOST_DIALS : Tok
  c_MOST_DIALS : mg "MOST_DIALS" = some (.int 6 u_MOST_DIALS)
  u_TURN : Tok
  c_TURN : mg "TURN" = some (.int 100 u_TURN)
  m_all : mg "all" = none
  m_bool : mg "bool" = none
  m_int : mg "int" = none
  m_isinstance : mg "isinstance" = none
  m_len : mg "len" = none
  m_list : mg "list" = none
  m_max : mg "max" = none
  m_range : mg "range" = none
  m_str : mg "str" = none
  m_tuple : mg "tuple" = none

section
variable {P : Program} {w : World} {K : PySem.W.Frag} {mg : Str → Option Value} {base : Heap}
theorem sc_l_draw : FnScope ["tape", "many", "prime", "cell", "found"] ["tape", "many"] (defScope s_l_draw) := ⟨rfl, rfl, rfl, by decide +kernel, rfl, by decide +kernel, by decide +kernel⟩
def Tp (S t : Addr) (H0 : Hp) (i c : Int) (H : Hp) : Prop := H t = some (.lst [.ref S, .int i, .int c]) ∧ ∀ a, a ≠ t → H a = H0 a
theorem at0 {a b c : V} : atI [a, b, c] 0 = some a := rfl
theorem at1 {a b c : V} : atI [a, b, c] 1 = some b := rfl
theorem at2 {a b c : V} : atI [a, b, c] 2 = some c := rfl
theorem Tp.sq {K : PySem.W.Frag} {S t : Addr} {H0 H : Hp} {i c : Int} (h : Tp S t H0 i c H) : SqL K H t [.ref S, .int i, .int c] := SqL.of h.1
theorem Tp.sc {K : PySem.W.Frag} {S t : Addr} {H0 H : Hp} {i c : Int} {ns : List Int} (h : Tp S t H0 i c H) (hS : H0 S = some (.lst (ns.map V.int))) (ne : S ≠ t) : SqL K H S (ns.map V.int) := SqL.of (by rw [h.2 S ne]; exact hS)
theorem ok_l_draw0 {f : Addr} {fd : FuncData} (F : Fun K "_law_draw" "_law_draw" s_l_draw f fd) (hg : mg "_law_draw" = some (.ref f)) (ml : mg "len" = none) : Callee P w K mg base 1 "_law_draw" p_draw := by
  refine ⟨f, fd, ["tape", "many"], hg, F.kp, F.binds (fun _ _ _ _ _ _ us hl => match us, hl with | [_, _], _ => rfl), F.ok sc_l_draw (fun vs H Q E h => ?_) fun cdv A outer s H vs Q E hr h => ?_⟩
  · obtain ⟨T, B, es, Φ, _, _, r, ⟨n, rfl, _⟩, _⟩ := h
    exact r.len
  obtain ⟨T, B, es, Φ, ex, tp, r, ⟨n, rfl, n0, n1, hk⟩, k⟩ := h
  match vs, r with
  | [v1, v2], .cons r1 (.cons r2 .nil) =>
  obtain ⟨t, ht, rfl⟩ := r1
  cases r2
  obtain ⟨hb, S, ns, i, c, h1, h2, i0, c0⟩ := tp t ht
  have hS : H S = some (.lst (ns.map V.int)) := ex _ _ h2
  have ne : S ≠ t := fun e => by rw [e, hb] at h2; cases h2
  have nd := sc_l_draw.nd
  have ix : ∀ {X : Cx} {a b : Expr} {ta tb : TE} {pos : Pos}, PE X a ta → PE X b tb → PlainIx b → PE X (.Subscript a b pos) (tOp (rIxL X.K) ta tb) := fun a b c => pe_ix ix_list a b c
  refine ⟨_, pss_cons (ps_set (i := 2) nd rfl (.inl rfl) pe_int)
    (pss_cut (ps_if (pt_cmpR op_lt (ix (pv 0) pe_int (fun _ _ => rfl)) (pv 1) (nomark _))
        (pss_cons (ps_set (i := 3) nd rfl (.inl rfl) pe_int)
        (pss_cut (ps_if (pt_cmpR op_gt (pe_callB call_len_seq (by rfl) ml PySem.boot_len (pa_cons (ix (pv 0) pe_int (fun _ _ => rfl)) pa_nil)) pe_int (nomark _))
            (pss_one (ps_set (i := 3) nd rfl (.inl rfl) (ix (ix (pv 0) pe_int (fun _ _ => rfl)) (pe_op op_mod (ix (pv 0) pe_int (fun _ _ => rfl)) (pe_callB call_len_seq (by rfl) ml PySem.boot_len (pa_cons (ix (pv 0) pe_int (fun _ _ => rfl)) pa_nil))) (fun _ _ => rfl)))) pss_nil)
        (pss_cut (ps_if (PW.pt (pw_or (pt_cmpR op_ge (ix (pv 0) pe_int (fun _ _ => rfl)) (pe_callB call_len_seq (by rfl) ml PySem.boot_len (pa_cons (ix (pv 0) pe_int (fun _ _ => rfl)) pa_nil)) (nomark _)) (pw_or1 (pt_cmpR op_lt (pv 3) (pe_op op_pow pe_int pe_int) (nomark _)))))
            (pss_cons (ps_set (i := 3) nd rfl (.inl rfl) (pe_op op_mod (pe_op op_add (pv 3) (pe_op op_mul pe_int (ix (pv 0) pe_int (fun _ _ => rfl)))) (pv 2)))
            (pss_cons (ps_set (i := 3) nd rfl (.inl rfl) (pe_op op_mod (pe_op op_add (pe_op op_add (pe_op op_mul (pv 3) (pv 3)) (pe_op op_mul pe_int (pv 3))) pe_int) (pv 2)))
            (pss_one (ps_set (i := 3) nd rfl (.inl rfl) (pe_op op_mod (pe_op op_add (pe_op op_mul (pv 3) (pv 3)) pe_int) (pv 2)))))) pss_nil)
        (pss_cons (ps_asg (pe_op op_add (ix (pv 0) pe_int (fun _ _ => rfl)) pe_int) (pg_sub (pv 0) pe_int set_list))
        (pss_one (ps_asg (pv 3) (pg_sub (pv 0) pe_int set_list))))))) pss_nil)
    (pss_cons (ps_set (i := 4) nd rfl (.inl rfl) (pe_op op_mod (ix (pv 0) pe_int (fun _ _ => rfl)) (pv 1)))
    (pss_cons (ps_asg (pe_op op_fdivW (ix (pv 0) pe_int (fun _ _ => rfl)) (pv 1)) (pg_sub (pv 0) pe_int set_list))
    (pss_one (ps_ret (pv 4)))))), ?_⟩
  -- behind the outer if
  have T0 : Tp S t H i c H := ⟨h1, fun _ _ => rfl⟩
  refine ⟨fun σ' H' => ∃ i' c' x3, 0 ≤ i' ∧ 0 ≤ c' ∧ Tp S t H i' c' H' ∧ σ' = [some (.ref t), some (.int n), some (.int 2305843009213693951), x3, none], ?_, ?_⟩
  · -- the outer if
    refine ⟨.ref t, rfl, t, _, 2, _, rfl, rfl, T0.sq, at2, .int n, rfl, c, n, rfl, rfl, _, rfl, ?_⟩
    refine ite2 (fun _ => ?_) (fun _ => ⟨i, c, none, i0, c0, T0, rfl⟩)
    -- cell = 0; the read
    refine ⟨fun σ' H' => H' = H ∧ ∃ v : Int, σ' = [some (.ref t), some (.int n), some (.int 2305843009213693951), some (.int v), none], ?_, ?_⟩
    · refine ⟨.ref t, rfl, t, _, 0, _, rfl, rfl, T0.sq, at0, S, _, rfl, .inl (T0.sc hS ne), _, _, rfl, rfl, _, rfl, ?_⟩
      refine ite2 (fun hp => ?_) (fun _ => ⟨rfl, 0, rfl⟩)
      have hpos : (0 : Int) < ((ns.map V.int).length : Int) := of_decide_eq_true hp
      refine ⟨.ref t, rfl, t, _, 0, _, rfl, rfl, T0.sq, at0, .ref t, rfl, t, _, 1, _, rfl, rfl, T0.sq, at1, .ref t, rfl, t, _, 0, _, rfl, rfl, T0.sq, at0, S, _, rfl, .inl (T0.sc hS ne), i, _, rfl, rfl, hpos, ?_⟩
      have b0 : 0 ≤ i % ((ns.map V.int).length : Int) := Int.emod_nonneg _ (by omega)
      have b1 : i % ((ns.map V.int).length : Int) < ((ns.map V.int).length : Int) := Int.emod_lt_of_pos _ hpos
      have hlt : (i % ((ns.map V.int).length : Int)).toNat < ns.length := by rw [List.length_map] at b0 b1 ⊢; omega
      refine ⟨S, _, _, .int ns[(i % ((ns.map V.int).length : Int)).toNat], rfl, rfl, T0.sc hS ne, ?_, rfl, ns[(i % ((ns.map V.int).length : Int)).toNat], rfl⟩
      have := atI_nat (xs := ns.map V.int) (j := (i % ((ns.map V.int).length : Int)).toNat) (v := .int ns[(i % ((ns.map V.int).length : Int)).toNat]) (by rw [List.getElem?_map, List.getElem?_eq_getElem hlt]; rfl)
      rw [Int.toNat_of_nonneg b0] at this
      exact this
    · rintro σ' H' ⟨e, v, rfl⟩
      have e := e.symm
      subst e
      -- the mixing
      refine ⟨fun σ' H' => H' = H ∧ ∃ v : Int, 0 ≤ v ∧ σ' = [some (.ref t), some (.int n), some (.int 2305843009213693951), some (.int v), none], ?_, ?_⟩
      · have mix : ∀ u : Int, ∃ q, q = u % 2305843009213693951 ∧ 0 ≤ q ∧ q < 2305843009213693951 := fun u => ⟨_, rfl, Int.emod_nonneg _ (by decide), Int.emod_lt_of_pos _ (by decide)⟩
        have yes : (tSeq (tAsg (tOp (rI (fun _ j => 0 < j) fun i j => .int (i % j)) (tOp (rI0 fun i j => .int (i + j)) (tVar 3) (tOp (rI CMul fun i j => .int (i * j)) (tC (.int 1000003)) (tOp (rIxL K) (tVar 0) (tC (.int 1))))) (tVar 2)) (gName 3))
            (tSeq (tAsg (tOp (rI (fun _ j => 0 < j) fun i j => .int (i % j)) (tOp (rI0 fun i j => .int (i + j)) (tOp (rI0 fun i j => .int (i + j)) (tOp (rI CMul fun i j => .int (i * j)) (tVar 3) (tVar 3)) (tOp (rI CMul fun i j => .int (i * j)) (tC (.int 1181783497276652981)) (tVar 3))) (tC (.int 2049848353892358983))) (tVar 2)) (gName 3))
            (tAsg (tOp (rI (fun _ j => 0 < j) fun i j => .int (i % j)) (tOp (rI0 fun i j => .int (i + j)) (tOp (rI CMul fun i j => .int (i * j)) (tVar 3) (tVar 3)) (tC (.int 1442695040888963407))) (tVar 2)) (gName 3))))
            { nx := fun σ' H' => H' = H ∧ ∃ v : Int, 0 ≤ v ∧ σ' = [some (.ref t), some (.int n), some (.int 2305843009213693951), some (.int v), none], rt := Q } [some (.ref t), some (.int n), some (.int 2305843009213693951), some (.int v), none] H := by
          have pp : (0 : Int) < 2305843009213693951 := by decide
          refine ⟨.int v, rfl, .ref t, rfl, t, _, 1, _, rfl, rfl, T0.sq, at1, _, _, rfl, rfl, .inl ⟨by decide, by decide⟩, _, _, rfl, rfl, .int 2305843009213693951, rfl, _, _, rfl, rfl, pp, ?_⟩
          obtain ⟨q, hq, q0, q1⟩ := mix (v + 1000003 * i)
          show gName 3 (V.int ((v + 1000003 * i) % 2305843009213693951)) _ _ _
          rw [← hq]
          refine ⟨.int q, rfl, .int q, rfl, _, _, rfl, rfl, .inl ⟨by omega, by omega⟩, .int q, rfl, _, _, rfl, rfl, .inl ⟨by decide, by decide⟩, _, _, rfl, rfl, _, _, rfl, rfl, .int 2305843009213693951, rfl, _, _, rfl, rfl, pp, ?_⟩
          obtain ⟨q', hq', q0', q1'⟩ := mix (q * q + 1181783497276652981 * q + 2049848353892358983)
          show gName 3 (V.int ((q * q + 1181783497276652981 * q + 2049848353892358983) % 2305843009213693951)) _ _ _
          rw [← hq']
          exact ⟨.int q', rfl, .int q', rfl, _, _, rfl, rfl, .inl ⟨by omega, by omega⟩, _, _, rfl, rfl, .int 2305843009213693951, rfl, _, _, rfl, rfl, pp, rfl, _, Int.emod_nonneg _ (by decide), rfl⟩
        refine ⟨.ref t, rfl, t, _, 1, _, rfl, rfl, T0.sq, at1, .ref t, rfl, t, _, 0, _, rfl, rfl, T0.sq, at0, S, _, rfl, .inl (T0.sc hS ne), _, _, rfl, rfl, _, rfl, ?_⟩
        refine ite2 (fun _ => iteT yes) (fun _ => ?_)
        refine ⟨.int v, rfl, 10, 18, rfl, rfl, ⟨by decide, by decide, by decide⟩, v, _, rfl, rfl, _, rfl, ?_⟩
        refine ite2 (fun _ => yes) (fun hv => ⟨rfl, v, ?_, rfl⟩)
        have hv' : ¬ v < 10 ^ 18 := fun z => hv (decide_eq_true z)
        omega
      · rintro σ' H' ⟨e, v', v0, rfl⟩
        have e := e.symm
        subst e
        refine ⟨.ref t, rfl, t, _, 1, _, rfl, rfl, T0.sq, at1, i, 1, rfl, rfl, .ref t, rfl, t, _, 1, 1, rfl, rfl, T0.1, rfl, ?_⟩
        refine ⟨.int v', rfl, .ref t, rfl, t, _, 2, 2, rfl, rfl, upd_same, rfl, i + 1, v', _, by omega, v0, ⟨?_, fun a ha => ?_⟩, rfl⟩
        · rw [upd_same]; rfl
        · rw [upd_ne ha, upd_ne ha]
  · rintro σ' H' ⟨i', c', x3, i0', c0', T1, rfl⟩
    refine ⟨.ref t, rfl, t, _, 2, _, rfl, rfl, T1.sq, at2, .int n, rfl, c', n, rfl, rfl, n0, ?_⟩
    have nl : n.natAbs < 2 ^ 62 := by
      have e : (2 : Nat) ^ 62 = 4611686018427387904 := by decide
      rw [e]; omega
    refine ⟨.ref t, rfl, t, _, 2, _, rfl, rfl, T1.sq, at2, .int n, rfl, c', n, rfl, rfl, wide_div (b := 62) n0 nl (by decide) (by decide), .ref t, rfl, t, _, 2, 2, rfl, rfl, T1.1, rfl, .int (c' % n), rfl, ?_⟩
    have kp : ∀ a, a ≠ t → upd H' t (.lst ([V.ref S, .int i', .int c'].set 2 (.int (c' / n)))) a = H a := fun a ha => by rw [upd_ne ha]; exact T1.2 a ha
    have bt : ∀ a u, B a = some u → a ≠ t := fun a u q e => by rw [e, hb] at q; cases q
    refine k (.d (.int (c' % n))) (.int (c' % n)) B _ (hk _ (Int.emod_nonneg _ (by omega)) (Int.emod_lt_of_pos _ n0)) ⟨Ex.refl B, fun a u q nt => ?_, fun _ _ _ _ q => q⟩ (fun a u q => ?_) (fun x hx => ?_) (show Rep _ _ _ from .int _)
    · rw [kp a (fun e => nt (by rw [ht, e]))]; exact q
    · rw [kp a (bt a u q)]; exact ex a u q
    · have : x = t := by rw [ht] at hx; exact (Option.some.inj hx).symm
      subst this
      exact ⟨hb, S, ns, i', c' / n, upd_same, h2, i0', Int.ediv_nonneg c0' (by omega)⟩
theorem ok_l_draw (T : Tx K mg) : Callee P w K mg base 1 "_law_draw" p_draw := ok_l_draw0 T.F_l_draw T.g_l_draw T.m_len

theorem sc_l_parts : FnScope ["many", "found", "part", "turn"] ["many"] (defScope s_l_parts) := ⟨rfl, rfl, rfl, by decide +kernel, rfl, by decide +kernel, by decide +kernel⟩
theorem ok_l_parts (T : Tx K mg) : Callee P w K mg base 1 "_law_parts" p_l_parts := callee_shut (callee_of T.F_l_parts T.g_l_parts sc_l_parts (fun _ _ _ _ _ _ us hl => match us, hl with | [_], _ => rfl) (fun cdv A outer s H E hr => ⟨_, (have nd := sc_l_parts.nd; (z_cons (z_par (i := 1) (j := 2) nd (a_cons (d_frz (l_lst a_nil)) (a_cons d_int a_nil))) (z_cons (z_for (i_rng1 T.m_range (a_cons (dv 0) a_nil)) (g_name nd) (z_one (z_par (i := 1) (j := 2) nd (a_cons (d_add (d_frz (l_lst (a_cons (dv 2) a_nil))) (dv 1)) (a_cons (d_mul (dv 2) d_int) a_nil))))) (z_one (z_ret (dv 1))))))⟩))

theorem sc_l_seen : FnScope ["tape", "many", "count", "most", "found", "part"] ["tape", "many", "count", "most"] (defScope s_l_seen) := ⟨rfl, rfl, rfl, by decide +kernel, rfl, by decide +kernel, by decide +kernel⟩
theorem ok_l_seen (T : Tx K mg) : Callee P w K mg base 2 "_law_seen" p_l_seen := callee_shut (callee_of T.F_l_seen T.g_l_seen sc_l_seen (fun _ _ _ _ _ _ us hl => match us, hl with | [_, _, _, _], _ => rfl) (fun cdv A outer s H E hr => ⟨_, (have nd := sc_l_seen.nd; (z_cons (z_set (i := 4) nd (d_tup a_nil)) (z_cons (z_for (i_seq (d_call (ok_l_parts T) hr (a_cons (dv 1) a_nil))) (g_name nd) (z_one (z_set (i := 4) nd (d_add (dv 4) (d_tup (a_cons (d_mod (d_sub (d_add (d_div (dv 2) (dv 5)) (d_call (ok_l_draw T) hr (a_cons (dv 0) (a_cons (d_add (d_mul d_int (dv 3)) d_int) a_nil)))) (dv 3)) d_int) a_nil)))))) (z_one (z_ret (dv 4))))))⟩))

theorem sc_l_size : FnScope ["many", "found", "turn"] ["many"] (defScope s_l_size) := ⟨rfl, rfl, rfl, by decide +kernel, rfl, by decide +kernel, by decide +kernel⟩
theorem ok_l_size (T : Tx K mg) : Callee P w K mg base 1 "_law_size" p_l_size := callee_shut (callee_of T.F_l_size T.g_l_size sc_l_size (fun _ _ _ _ _ _ us hl => match us, hl with | [_], _ => rfl) (fun cdv A outer s H E hr => ⟨_, (have nd := sc_l_size.nd; (z_cons (z_set (i := 1) nd d_int) (z_cons (z_for (i_rng1 T.m_range (a_cons (dv 0) a_nil)) (g_name nd) (z_one (z_set (i := 1) nd (d_mul (dv 1) d_int)))) (z_one (z_ret (dv 1))))))⟩))

theorem sc_l_count : FnScope ["tape", "many", "whole", "found"] ["tape", "many"] (defScope s_l_count) := ⟨rfl, rfl, rfl, by decide +kernel, rfl, by decide +kernel, by decide +kernel⟩
theorem ok_l_count (T : Tx K mg) : Callee P w K mg base 2 "_law_count" p_l_count := callee_shut (callee_of T.F_l_count T.g_l_count sc_l_count (fun _ _ _ _ _ _ us hl => match us, hl with | [_, _], _ => rfl) (fun cdv A outer s H E hr => ⟨_, (have nd := sc_l_count.nd; (z_cons (z_set (i := 2) nd (d_call (ok_l_size T) hr (a_cons (dv 1) a_nil))) (z_cons (z_set (i := 3) nd (d_add (d_mul (d_add (d_mul (d_call (ok_l_draw T) hr (a_cons (dv 0) (a_cons d_int a_nil))) d_int) (d_call (ok_l_draw T) hr (a_cons (dv 0) (a_cons d_int a_nil)))) d_int) (d_call (ok_l_draw T) hr (a_cons (dv 0) (a_cons d_int a_nil))))) (z_one (z_ret (d_ix (d_frz (l_lst (a_cons (d_mod (dv 3) (dv 2)) (a_cons d_int (a_cons (d_sub (d_sub (dv 2) d_int) (d_call (ok_l_draw T) hr (a_cons (dv 0) (a_cons d_int a_nil)))) (a_cons (d_mul (d_div (d_mod (dv 3) (dv 2)) d_int) d_int) a_nil)))))) (d_call (ok_l_draw T) hr (a_cons (dv 0) (a_cons d_int a_nil)))))))))⟩))

theorem sc_l_dials : FnScope ["tape", "many", "found", "turn"] ["tape", "many"] (defScope s_l_dials) := ⟨rfl, rfl, rfl, by decide +kernel, rfl, by decide +kernel, by decide +kernel⟩
theorem ok_l_dials (T : Tx K mg) : Callee P w K mg base 3 "_law_dials" p_l_dials := callee_shut (callee_of T.F_l_dials T.g_l_dials sc_l_dials (fun _ _ _ _ _ _ us hl => match us, hl with | [_, _], _ => rfl) (fun cdv A outer s H E hr => ⟨_, (have nd := sc_l_dials.nd; (z_cons (z_if (t_cmp (op_eqD hr.units) s2Eq (d_call (ok_l_draw T) hr (a_cons (dv 0) (a_cons d_int a_nil))) d_int (nomark _)) (z_cons (z_set (i := 2) nd (d_tup a_nil)) (z_cons (z_for (i_rng1 T.m_range (a_cons (dv 1) a_nil)) (g_name nd) (z_one (z_set (i := 2) nd (d_add (dv 2) (d_tup (a_cons (d_call (ok_l_draw T) hr (a_cons (dv 0) (a_cons d_int a_nil))) a_nil)))))) (z_one (z_ret (dv 2))))) z_nil) (z_one (z_ret (d_call (ok_l_seen T) hr (a_cons (dv 0) (a_cons (dv 1) (a_cons (d_call (ok_l_count T) hr (a_cons (dv 0) (a_cons (dv 1) a_nil))) (a_cons (d_call (ok_l_draw T) hr (a_cons (dv 0) (a_cons d_int a_nil))) a_nil)))))))))⟩))

theorem sc_total : FnScope ["number", "found", "dial"] ["number"] (defScope s_total) := ⟨rfl, rfl, rfl, by decide +kernel, rfl, by decide +kernel, by decide +kernel⟩
theorem ok_total (T : Tx K mg) : Callee P w K mg base 1 "total" p_total := callee_shut (callee_of T.F_total T.g_total sc_total (fun _ _ _ _ _ _ us hl => match us, hl with | [_], _ => rfl) (fun cdv A outer s H E hr => ⟨_, (have nd := sc_total.nd; (z_cons (z_set (i := 1) nd d_int) (z_cons (z_for (i_rng1 T.m_range (a_cons (dv 0) a_nil)) (g_name nd) (z_one (z_set (i := 1) nd (d_mul (dv 1) d_int)))) (z_one (z_ret (dv 1))))))⟩))

theorem sc_l_any : FnScope ["tape", "deep", "course", "some", "k"] ["tape", "deep"] (defScope s_l_any) := ⟨rfl, rfl, rfl, by decide +kernel, rfl, by decide +kernel, by decide +kernel⟩
theorem ok_l_any (T : Tx K mg) : ∀ n, Callee P w K mg base n "_law_any" (p_l_any n)
  | 0 => callee_none (ps := ["tape", "deep"]) T.F_l_any T.g_l_any (fun _ _ _ _ _ _ us hl => match us, hl with | [_, _], _ => rfl)
  | 1 => callee_none (ps := ["tape", "deep"]) T.F_l_any T.g_l_any (fun _ _ _ _ _ _ us hl => match us, hl with | [_, _], _ => rfl)
  | n + 2 => callee_shut (callee_of (k := n + 1) T.F_l_any T.g_l_any sc_l_any (fun _ _ _ _ _ _ us hl => match us, hl with | [_, _], _ => rfl) (fun cdv A outer s H E hr => ⟨_, (have nd := sc_l_any.nd; (z_cons (z_set (i := 2) nd (d_call (ok_l_draw T) hr (a_cons (dv 0) (a_cons d_int a_nil)) (by omega))) (z_cons (z_if (t_w (w_and (t_cmp op_lt s2IB (dv 2) d_int (nomark _)) (w_and1 (t_cmp op_gt s2IB (dv 1) d_int (nomark _))))) (z_cons (z_lc (i := 3) [("k", 4)] nd (i_rng1 T.m_range (a_cons (d_call (ok_l_draw T) hr (a_cons (dv 0) (a_cons d_int a_nil)) (by omega)) a_nil)) (blkk (N := ["tape", "deep", "course", "some", "k"]) (sc := defScope s_l_any) (by decide +kernel)) (fun _ _ _ _ _ => (g_name nd)) (fun _ _ _ _ _ => ts_nil) (fun _ _ _ _ _ => (d_call (ok_l_any T (n + 1)) hr (a_cons (dv 0) (a_cons (d_sub (dv 1) d_int) a_nil)) (by omega)))) (z_one (z_ret (d_ix (d_frz (l_lst (a_cons (dv 3) (a_cons (d_bty call_tuple_of scTuple T.m_tuple (by decide +kernel) (a_cons (dv 3) a_nil)) (a_cons (d_bty call_tuple_of scTuple T.m_tuple (by decide +kernel) (a_cons (dv 3) a_nil)) (a_cons (d_bty call_tuple_of scTuple T.m_tuple (by decide +kernel) (a_cons (dv 3) a_nil)) a_nil)))))) (dv 2))))) z_nil) (z_cons (z_if (t_cmp op_lt s2IB (dv 2) d_int (nomark _)) (z_one (z_ret (d_ix (d_frz (l_lst (a_cons (d_sub (d_call (ok_l_draw T) hr (a_cons (dv 0) (a_cons d_int a_nil)) (by omega)) d_int) (a_cons (d_call (ok_l_draw T) hr (a_cons (dv 0) (a_cons (d_pow d_int d_int) a_nil)) (by omega)) (a_cons d_int (a_cons d_int a_nil)))))) (d_blt (call_max2 rfl) scMax2 T.m_max (by decide +kernel) (a_cons d_int (a_cons (d_sub (dv 2) d_int) a_nil)))))) z_nil) (z_cons (z_set (i := 3) nd (d_frz (l_lst (a_cons d_str (a_cons d_str (a_cons d_str (a_cons d_str (a_cons d_str (a_cons d_str (a_cons d_str a_nil)))))))))) (z_one (z_ret (d_ix (d_frz (l_lst (a_cons d_bl (a_cons d_bl (a_cons d_non (a_cons (d_ix (dv 3) (d_call (ok_l_draw T) hr (a_cons (dv 0) (a_cons d_int a_nil)) (by omega))) (a_cons (d_tup (a_cons d_int (a_cons d_int a_nil))) a_nil))))))) (d_sub (dv 2) d_int)))))))))⟩))

theorem sc_l_whole : FnScope ["item"] ["item"] (defScope s_l_whole) := ⟨rfl, rfl, rfl, by decide +kernel, rfl, by decide +kernel, by decide +kernel⟩
theorem ok_l_whole (T : Tx K mg) : Callee P w K mg base 1 "_law_whole" p_l_whole := callee_shut (callee_of T.F_l_whole T.g_l_whole sc_l_whole (fun _ _ _ _ _ _ us hl => match us, hl with | [_], _ => rfl) (fun cdv A outer s H E hr => ⟨_, (have nd := sc_l_whole.nd; (z_one (z_ret (d_and (d_isa1 (T := "int") (dv 0) T.m_isinstance T.m_int (by decide +kernel)) (d_one (d_not (d_isa1 (T := "bool") (dv 0) T.m_isinstance T.m_bool (by decide +kernel))))))))⟩))

theorem sc_l_spoilt : FnScope ["tape", "item", "k", "rest", "course", "at"] ["tape", "item"] (defScope s_l_spoilt) := ⟨rfl, rfl, rfl, by decide +kernel, rfl, by decide +kernel, by decide +kernel⟩
theorem ok_l_spoilt (T : Tx K mg) : ∀ n, Callee P w K mg base n "_law_spoilt" (p_l_spoilt n)
  | 0 => callee_none (ps := ["tape", "item"]) T.F_l_spoilt T.g_l_spoilt (fun _ _ _ _ _ _ us hl => match us, hl with | [_, _], _ => rfl)
  | 1 => callee_none (ps := ["tape", "item"]) T.F_l_spoilt T.g_l_spoilt (fun _ _ _ _ _ _ us hl => match us, hl with | [_, _], _ => rfl)
  | 2 => callee_none (ps := ["tape", "item"]) T.F_l_spoilt T.g_l_spoilt (fun _ _ _ _ _ _ us hl => match us, hl with | [_, _], _ => rfl)
  | 3 => callee_none (ps := ["tape", "item"]) T.F_l_spoilt T.g_l_spoilt (fun _ _ _ _ _ _ us hl => match us, hl with | [_, _], _ => rfl)
  | 4 => callee_none (ps := ["tape", "item"]) T.F_l_spoilt T.g_l_spoilt (fun _ _ _ _ _ _ us hl => match us, hl with | [_, _], _ => rfl)
  | n + 5 => callee_shut (callee_of (k := n + 4) T.F_l_spoilt T.g_l_spoilt sc_l_spoilt (fun _ _ _ _ _ _ us hl => match us, hl with | [_, _], _ => rfl) (fun cdv A outer s H E hr => ⟨_, (have nd := sc_l_spoilt.nd; (z_cons (z_if (t_w (w_and (t_val (d_isa2 (T := "tuple") (U := "list") (dv 1) T.m_isinstance T.m_tuple (by decide +kernel) T.m_list (by decide +kernel))) (w_and (t_cmp op_gt s2IB (d_blt call_lenD' scLen T.m_len (by decide +kernel) (a_cons (dv 1) a_nil)) d_int (nomark _)) (w_and1 (t_cmp op_gt s2IB (d_call (ok_l_draw T) hr (a_cons (dv 0) (a_cons d_int a_nil)) (by omega)) d_int (nomark _)))))) (z_cons (z_set (i := 2) nd (d_call (ok_l_draw T) hr (a_cons (dv 0) (a_cons (d_blt call_lenD' scLen T.m_len (by decide +kernel) (a_cons (dv 1) a_nil)) a_nil)) (by omega))) (z_cons (z_setL (i := 3) nd (l_bty call_list_of sclList T.m_list (by decide +kernel) (a_cons (dv 1) a_nil))) (z_cons (z_set (i := 4) nd (d_call (ok_l_draw T) hr (a_cons (dv 0) (a_cons d_int a_nil)) (by omega))) (z_cons (z_if (t_cmp op_lt s2IB (dv 4) d_int (nomark _)) (z_one (z_stO 3 (dv 2) (d_call (ok_l_spoilt T (n + 4)) hr (a_cons (dv 0) (a_cons (d_ixO 3 (dv 2)) a_nil)) (by omega)))) (z_one (z_if (t_cmp (op_eqD hr.units) s2Eq (dv 4) d_int (nomark _)) (z_one (z_popO 3 (dv 2))) (z_one (z_if (t_cmp (op_eqD hr.units) s2Eq (dv 4) d_int (nomark _)) (z_one (z_insO 3 (a_cons (dv 2) (a_cons (d_ixO 3 (d_call (ok_l_draw T) hr (a_cons (dv 0) (a_cons (d_lenO 3 T.m_len (by decide +kernel)) a_nil)) (by omega))) a_nil)))) (z_one (z_if (t_cmp (op_eqD hr.units) s2Eq (dv 4) d_int (nomark _)) (z_fz 3 (z_one (z_setL (i := 3) nd (l_rev (dv 3))))) (z_one (z_insO 3 (a_cons (dv 2) (a_cons (d_call (ok_l_any T 4) hr (a_cons (dv 0) (a_cons d_int a_nil)) (by omega)) a_nil))))))))))) (z_fz 3 (z_one (z_ret (d_ite (t_val (d_isa1 (T := "tuple") (dv 1) T.m_isinstance T.m_tuple (by decide +kernel))) (d_bty call_tuple_of scTuple T.m_tuple (by decide +kernel) (a_cons (dv 3) a_nil)) (dv 3))))))))) z_nil) (z_cons (z_if (t_w (w_and (t_val (d_call (ok_l_whole T) hr (a_cons (dv 1) a_nil) (by omega))) (w_and1 (t_cmp op_gt s2IB (d_call (ok_l_draw T) hr (a_cons (dv 0) (a_cons d_int a_nil)) (by omega)) d_int (nomark _))))) (z_one (z_ret (d_add (dv 1) (d_ix (d_frz (l_lst (a_cons d_int (a_cons (d_neg d_int) (a_cons d_int (a_cons (d_neg d_int) (a_cons d_int (a_cons d_int a_nil)))))))) (d_call (ok_l_draw T) hr (a_cons (dv 0) (a_cons d_int a_nil)) (by omega)))))) z_nil) (z_cons (z_if (t_w (w_and (t_val (d_isa1 (T := "str") (dv 1) T.m_isinstance T.m_str (by decide +kernel))) (w_and1 (t_cmp op_gt s2IB (d_call (ok_l_draw T) hr (a_cons (dv 0) (a_cons d_int a_nil)) (by omega)) d_int (nomark _))))) (z_cons (z_set (i := 5) nd (d_call (ok_l_draw T) hr (a_cons (dv 0) (a_cons (d_add (d_blt call_lenD' scLen T.m_len (by decide +kernel) (a_cons (dv 1) a_nil)) d_int) a_nil)) (by omega))) (z_one (z_ret (d_add (d_add (d_slS (dv 1) o_none (o_some (dv 5))) (d_ix (d_frz (l_lst (a_cons d_str (a_cons d_str (a_cons d_str (a_cons d_str (a_cons d_str (a_cons d_str a_nil)))))))) (d_call (ok_l_draw T) hr (a_cons (dv 0) (a_cons d_int a_nil)) (by omega)))) (d_slS (dv 1) (o_some (dv 5)) o_none))))) z_nil) (z_cons (z_if (t_w (w_and (t_val (d_isa2 (T := "tuple") (U := "list") (dv 1) T.m_isinstance T.m_tuple (by decide +kernel) T.m_list (by decide +kernel))) (w_and1 (t_cmp (op_eqD hr.units) s2Eq (d_call (ok_l_draw T) hr (a_cons (dv 0) (a_cons d_int a_nil)) (by omega)) d_int (nomark _))))) (z_one (z_ret (d_ite (t_val (d_isa1 (T := "tuple") (dv 1) T.m_isinstance T.m_tuple (by decide +kernel))) (d_frz (l_bty call_list_of sclList T.m_list (by decide +kernel) (a_cons (dv 1) a_nil))) (d_bty call_tuple_of scTuple T.m_tuple (by decide +kernel) (a_cons (dv 1) a_nil))))) z_nil) (z_one (z_ret (d_call (ok_l_any T 4) hr (a_cons (dv 0) (a_cons d_int a_nil)) (by omega)))))))))⟩))

theorem sc_l_like : FnScope ["one", "two", "k"] ["one", "two"] (defScope s_l_like) := ⟨rfl, rfl, rfl, by decide +kernel, rfl, by decide +kernel, by decide +kernel⟩
theorem ok_l_like (T : Tx K mg) : ∀ n, Callee P w K mg base n "_law_like" (p_l_like n)
  | 0 => callee_zero (ps := ["one", "two"]) T.F_l_like T.g_l_like (fun _ _ _ _ _ _ us hl => match us, hl with | [_, _], _ => rfl)
  | n + 1 => callee_shut (callee_of T.F_l_like T.g_l_like sc_l_like (fun _ _ _ _ _ _ us hl => match us, hl with | [_, _], _ => rfl) (fun cdv A outer s H E hr => ⟨_, (have nd := sc_l_like.nd; (z_cons (z_if (t_val (d_isa2 (T := "list") (U := "tuple") (dv 0) T.m_isinstance T.m_list (by decide +kernel) T.m_tuple (by decide +kernel))) (z_cons (z_if (t_w (w_or (t_cmp (op_neD hr.units) s2Ne (d_isa1 (T := "list") (dv 0) T.m_isinstance T.m_list (by decide +kernel)) (d_isa1 (T := "list") (dv 1) T.m_isinstance T.m_list (by decide +kernel)) (nomark _)) (w_or1 (t_cmp (op_neD hr.units) s2Ne (d_isa1 (T := "tuple") (dv 0) T.m_isinstance T.m_tuple (by decide +kernel)) (d_isa1 (T := "tuple") (dv 1) T.m_isinstance T.m_tuple (by decide +kernel)) (nomark _))))) (z_one (z_ret d_bl)) z_nil) (z_cons (z_if (t_cmp (op_neD hr.units) s2Ne (d_blt call_lenD' scLen T.m_len (by decide +kernel) (a_cons (dv 0) a_nil)) (d_blt call_lenD' scLen T.m_len (by decide +kernel) (a_cons (dv 1) a_nil)) (nomark _)) (z_one (z_ret d_bl)) z_nil) (z_one (z_ret (d_cmp (op_eqD hr.units) s2Eq (d_frz (l_lc [("k", 2)] nd (i_rng1 T.m_range (a_cons (d_blt call_lenD' scLen T.m_len (by decide +kernel) (a_cons (dv 0) a_nil)) a_nil)) (blkk (N := ["one", "two", "k"]) (sc := defScope s_l_like) (by decide +kernel)) (fun _ _ _ _ _ => (g_name nd)) (fun _ _ _ _ _ => (ts_one (t_not (t_val (d_call (ok_l_like T n) hr (a_cons (d_ix (dv 0) (dv 2)) (a_cons (d_ix (dv 1) (dv 2)) a_nil)) (Nat.le_refl _)))))) (fun _ _ _ _ _ => (dv 2)))) (d_frz (l_lst a_nil)) (nomark _)))))) z_nil) (z_cons (z_if (t_val (d_isa2 (T := "list") (U := "tuple") (dv 1) T.m_isinstance T.m_list (by decide +kernel) T.m_tuple (by decide +kernel))) (z_one (z_ret d_bl)) z_nil) (z_one (z_ret (d_and (d_cmp (op_eqD hr.units) s2Eq (d_isa1 (T := "bool") (dv 0) T.m_isinstance T.m_bool (by decide +kernel)) (d_isa1 (T := "bool") (dv 1) T.m_isinstance T.m_bool (by decide +kernel)) (nomark _)) (d_one (d_cmp (op_eqD hr.units) s2Eq (dv 0) (dv 1) (nomark _)))))))))⟩))

theorem sc_is_integer : FnScope ["value", "low", "high"] ["value", "low", "high"] (defScope s_is_integer) := ⟨rfl, rfl, rfl, by decide +kernel, rfl, by decide +kernel, by decide +kernel⟩
theorem ok_is_integer (T : Tx K mg) : Callee P w K mg base 1 "is_integer" p_is_integer := callee_shut (callee_of T.F_is_integer T.g_is_integer sc_is_integer (fun _ _ _ _ _ _ us hl => match us, hl with | [_, _, _], _ => rfl) (fun cdv A outer s H E hr => ⟨_, (have nd := sc_is_integer.nd; (z_one (z_ret (d_and (d_isa1 (T := "int") (dv 0) T.m_isinstance T.m_int (by decide +kernel)) (d_and (d_not (d_isa1 (T := "bool") (dv 0) T.m_isinstance T.m_bool (by decide +kernel))) (d_one (d_chain op_le s2IB op_le s2IB (dv 1) (dv 0) (dv 2))))))))⟩))

theorem sc_is_dials : FnScope ["value", "position"] ["value"] (defScope s_is_dials) := ⟨rfl, rfl, rfl, by decide +kernel, rfl, by decide +kernel, by decide +kernel⟩
theorem ok_is_dials (T : Tx K mg) : Callee P w K mg base 2 "is_dials" p_is_dials := callee_shut (callee_of T.F_is_dials T.g_is_dials sc_is_dials (fun _ _ _ _ _ _ us hl => match us, hl with | [_], _ => rfl) (fun cdv A outer s H E hr => ⟨_, (have nd := sc_is_dials.nd; (z_cons (z_if (t_w (w_or (t_not (t_val (d_isa1 (T := "tuple") (dv 0) T.m_isinstance T.m_tuple (by decide +kernel)))) (w_or1 (t_not (t_chain op_le s2IB op_le s2IB d_int (d_blt call_lenD' scLen T.m_len (by decide +kernel) (a_cons (dv 0) a_nil)) (d_gi T.c_MOST_DIALS)))))) (z_one (z_ret d_bl)) z_nil) (z_one (z_ret (d_blt (cr_all rfl) scAll T.m_all (by decide +kernel) (a_cons (d_frz (l_lc [("position", 1)] nd (i_seq (dv 0)) (blkk (N := ["value", "position"]) (sc := defScope s_is_dials) (by decide +kernel)) (fun _ _ _ _ _ => (g_name nd)) (fun _ _ _ _ _ => ts_nil) (fun _ _ _ _ _ => (d_call (ok_is_integer T) hr (a_cons (dv 1) (a_cons d_int (a_cons (d_sub (d_gi T.c_TURN) d_int) a_nil))))))) a_nil))))))⟩))

theorem sc_l_within : FnScope ["item", "low", "high"] ["item", "low", "high"] (defScope s_l_within) := ⟨rfl, rfl, rfl, by decide +kernel, rfl, by decide +kernel, by decide +kernel⟩
theorem ok_l_within (T : Tx K mg) : Callee P w K mg base 2 "_law_within" p_l_within := callee_shut (callee_of T.F_l_within T.g_l_within sc_l_within (fun _ _ _ _ _ _ us hl => match us, hl with | [_, _, _], _ => rfl) (fun cdv A outer s H E hr => ⟨_, (have nd := sc_l_within.nd; (z_one (z_ret (d_and (d_call (ok_l_whole T) hr (a_cons (dv 0) a_nil)) (d_one (d_chain op_le s2IB op_le s2IB (dv 1) (dv 0) (dv 2)))))))⟩))

theorem sc_law : FnScope ["script", "tape", "turn", "dials", "things", "k", "thing", "good", "number", "own"] ["script"] (defScope s_law) := ⟨rfl, rfl, rfl, by decide +kernel, rfl, by decide +kernel, by decide +kernel⟩
theorem ok_law (T : Tx K mg) (hp : LawOk 10 p_law) : FnOk P w K mg base CX0 11 T.f_law T.fd_law ["script"] (spLaw K) := law_of T.F_law sc_law (fun cdv A outer s H E hr => ⟨_, _, _, rfl, (have nd := sc_law.nd; (z_setL (i := 1) nd (l_lst (a_cons (d_frz (l_bty call_list_of sclList T.m_list (by decide +kernel) (a_cons (dv 0) a_nil))) (a_cons d_int (a_cons d_int a_nil))))).ps), (have nd := sc_law.nd; (z_cons (z_for (i_rng1 T.m_range (a_cons d_int a_nil)) (g_name nd) (z_cons (z_set (i := 3) nd (d_call (ok_l_dials T) hr (a_cons (dv 1) (a_cons (d_add d_int (d_call (ok_l_draw T) hr (a_cons (dv 1) (a_cons d_int a_nil)))) a_nil)))) (z_cons (z_setL (i := 4) nd (l_lst (a_cons (dv 3) (a_cons (d_frz (l_bty call_list_of sclList T.m_list (by decide +kernel) (a_cons (dv 3) a_nil))) (a_cons (d_tup a_nil) (a_cons (d_tup (a_cons d_int a_nil)) (a_cons (d_tup (a_cons d_int a_nil)) (a_cons (d_tup (a_cons d_int a_nil)) (a_cons (d_tup (a_cons (d_neg d_int) a_nil)) (a_cons (d_tup (a_cons d_bl a_nil)) (a_cons (d_tup (a_cons d_non a_nil)) (a_cons d_int (a_cons d_non (a_cons d_str (a_cons (d_tup (a_cons d_str a_nil)) a_nil))))))))))))))) (z_fz 4 (z_cons (z_setL (i := 4) nd (l_cat (dv 4) (d_frz (l_lst (a_cons (d_op op_repT s2RepT (d_tup (a_cons d_int a_nil)) d_int) (a_cons (d_op op_repT s2RepT (d_tup (a_cons d_int a_nil)) d_int) (a_cons (d_op op_repT s2RepT (d_tup (a_cons d_int a_nil)) d_int) (a_cons (d_add (dv 3) (d_tup (a_cons d_int a_nil))) (a_cons (d_tup (a_cons (d_tup (a_cons d_int (a_cons d_int a_nil))) a_nil)) a_nil))))))))) (z_cons (z_for (i_rng1 T.m_range (a_cons d_int a_nil)) (g_name nd) (z_cons (z_app 4 (d_call (ok_l_spoilt T 10) hr (a_cons (dv 1) (a_cons (dv 3) a_nil)))) (z_one (z_app 4 (d_call (ok_l_spoilt T 10) hr (a_cons (dv 1) (a_cons (d_ixO 4 (d_neg d_int)) a_nil))))))) (z_fz 4 (z_one (z_for (i_seq (d_add (dv 4) (d_frz (l_lst (a_cons (d_call (ok_l_any T 4) hr (a_cons (dv 1) (a_cons d_int a_nil))) a_nil))))) (g_name nd) (z_cons (z_set (i := 7) nd (d_and (d_isa1 (T := "tuple") (dv 6) T.m_isinstance T.m_tuple (by decide +kernel)) (d_one (d_chain op_le s2IB op_le s2IB d_int (d_blt call_lenD' scLen T.m_len (by decide +kernel) (a_cons (dv 6) a_nil)) d_int)))) (z_cons (z_set (i := 7) nd (d_and (dv 7) (d_one (d_cmp (op_eqD hr.units) s2Eq (d_frz (l_lc [("own", 9)] nd (i_seq (dv 6)) (blkk (N := ["script", "tape", "turn", "dials", "things", "k", "thing", "good", "number", "own"]) (sc := defScope s_law) (by decide +kernel)) (fun _ _ _ _ _ => (g_name nd)) (fun _ _ _ _ _ => (ts_one (t_not (t_val (d_call (ok_l_within T) hr (a_cons (dv 9) (a_cons d_int (a_cons d_int a_nil)))))))) (fun _ _ _ _ _ => (dv 9)))) (d_frz (l_lst a_nil)) (nomark _))))) (z_one (z_if (t_not (t_val (d_call (ok_l_like T 8) hr (a_cons (d_call (ok_is_dials T) hr (a_cons (dv 6) a_nil)) (a_cons (dv 7) a_nil))))) (z_one (z_ret d_bl)) z_nil))))))))))))) (z_one (z_ret (d_cmp (op_eqD hr.units) s2Eq (d_frz (l_lc [("number", 8)] nd (i_rng2 T.m_range (a_cons d_int (a_cons d_int a_nil))) (blkk (N := ["script", "tape", "turn", "dials", "things", "k", "thing", "good", "number", "own"]) (sc := defScope s_law) (by decide +kernel)) (fun _ _ _ _ _ => (g_name nd)) (fun _ _ _ _ _ => ts_nil) (fun _ _ _ _ _ => (d_call (ok_total T) hr (a_cons (dv 8) a_nil))))) (d_frz (l_lc [("number", 8)] nd (i_rng2 T.m_range (a_cons d_int (a_cons d_int a_nil))) (blkk (N := ["script", "tape", "turn", "dials", "things", "k", "thing", "good", "number", "own"]) (sc := defScope s_law) (by decide +kernel)) (fun _ _ _ _ _ => (g_name nd)) (fun _ _ _ _ _ => ts_nil) (fun _ _ _ _ _ => (d_call (ok_l_size T) hr (a_cons (dv 8) a_nil))))) (nomark _))))))⟩) hp

end
theorem all_mk {l : PySem.W.OpenLaw} {w : World} {K : PySem.W.Frag} {h : Heap} {mg : Str → Option Value} {fa : Addr} (X : K.In h) (G : h.Ns mainGlobals mg) (hfa : mg "law" = some (.ref fa))
    {f0 : Addr} {od0 an0 : Option Addr} {sl0 : Array (Option Value)} {oc0 kV0 dc0 pm0 cd0 ct0 : Value}
    (a0 : PySem.W.nsIn K mainGlobals "_law_parts" = some (some (.ref f0))) (l0 : K.lookup f0 = some ⟨oc0, od0, .func (PySem.W.fnOf "_law_parts" "_law_parts" (defArgs s_l_parts) (defBody s_l_parts) (defScope s_l_parts) .none kV0 dc0 pm0 an0 cd0 ct0), sl0⟩) (c0 : PySem.W.codeIn K cd0 "_law_parts" = true) (k0 : PySem.W.keepIn K (.ref f0) = true)
    {f1 : Addr} {od1 an1 : Option Addr} {sl1 : Array (Option Value)} {oc1 kV1 dc1 pm1 cd1 ct1 : Value}
    (a1 : PySem.W.nsIn K mainGlobals "_law_draw" = some (some (.ref f1))) (l1 : K.lookup f1 = some ⟨oc1, od1, .func (PySem.W.fnOf "_law_draw" "_law_draw" (defArgs s_l_draw) (defBody s_l_draw) (defScope s_l_draw) .none kV1 dc1 pm1 an1 cd1 ct1), sl1⟩) (c1 : PySem.W.codeIn K cd1 "_law_draw" = true) (k1 : PySem.W.keepIn K (.ref f1) = true)
    {f2 : Addr} {od2 an2 : Option Addr} {sl2 : Array (Option Value)} {oc2 kV2 dc2 pm2 cd2 ct2 : Value}
    (a2 : PySem.W.nsIn K mainGlobals "_law_seen" = some (some (.ref f2))) (l2 : K.lookup f2 = some ⟨oc2, od2, .func (PySem.W.fnOf "_law_seen" "_law_seen" (defArgs s_l_seen) (defBody s_l_seen) (defScope s_l_seen) .none kV2 dc2 pm2 an2 cd2 ct2), sl2⟩) (c2 : PySem.W.codeIn K cd2 "_law_seen" = true) (k2 : PySem.W.keepIn K (.ref f2) = true)
    {f3 : Addr} {od3 an3 : Option Addr} {sl3 : Array (Option Value)} {oc3 kV3 dc3 pm3 cd3 ct3 : Value}
    (a3 : PySem.W.nsIn K mainGlobals "_law_size" = some (some (.ref f3))) (l3 : K.lookup f3 = some ⟨oc3, od3, .func (PySem.W.fnOf "_law_size" "_law_size" (defArgs s_l_size) (defBody s_l_size) (defScope s_l_size) .none kV3 dc3 pm3 an3 cd3 ct3), sl3⟩) (c3 : PySem.W.codeIn K cd3 "_law_size" = true) (k3 : PySem.W.keepIn K (.ref f3) = true)
    {f4 : Addr} {od4 an4 : Option Addr} {sl4 : Array (Option Value)} {oc4 kV4 dc4 pm4 cd4 ct4 : Value}
    (a4 : PySem.W.nsIn K mainGlobals "_law_count" = some (some (.ref f4))) (l4 : K.lookup f4 = some ⟨oc4, od4, .func (PySem.W.fnOf "_law_count" "_law_count" (defArgs s_l_count) (defBody s_l_count) (defScope s_l_count) .none kV4 dc4 pm4 an4 cd4 ct4), sl4⟩) (c4 : PySem.W.codeIn K cd4 "_law_count" = true) (k4 : PySem.W.keepIn K (.ref f4) = true)
    {f5 : Addr} {od5 an5 : Option Addr} {sl5 : Array (Option Value)} {oc5 kV5 dc5 pm5 cd5 ct5 : Value}
    (a5 : PySem.W.nsIn K mainGlobals "_law_dials" = some (some (.ref f5))) (l5 : K.lookup f5 = some ⟨oc5, od5, .func (PySem.W.fnOf "_law_dials" "_law_dials" (defArgs s_l_dials) (defBody s_l_dials) (defScope s_l_dials) .none kV5 dc5 pm5 an5 cd5 ct5), sl5⟩) (c5 : PySem.W.codeIn K cd5 "_law_dials" = true) (k5 : PySem.W.keepIn K (.ref f5) = true)
    {f6 : Addr} {od6 an6 : Option Addr} {sl6 : Array (Option Value)} {oc6 kV6 dc6 pm6 cd6 ct6 : Value}
    (a6 : PySem.W.nsIn K mainGlobals "total" = some (some (.ref f6))) (l6 : K.lookup f6 = some ⟨oc6, od6, .func (PySem.W.fnOf "total" "total" (defArgs s_total) (defBody s_total) (defScope s_total) .none kV6 dc6 pm6 an6 cd6 ct6), sl6⟩) (c6 : PySem.W.codeIn K cd6 "total" = true) (k6 : PySem.W.keepIn K (.ref f6) = true)
    {f7 : Addr} {od7 an7 : Option Addr} {sl7 : Array (Option Value)} {oc7 kV7 dc7 pm7 cd7 ct7 : Value}
    (a7 : PySem.W.nsIn K mainGlobals "_law_any" = some (some (.ref f7))) (l7 : K.lookup f7 = some ⟨oc7, od7, .func (PySem.W.fnOf "_law_any" "_law_any" (defArgs s_l_any) (defBody s_l_any) (defScope s_l_any) .none kV7 dc7 pm7 an7 cd7 ct7), sl7⟩) (c7 : PySem.W.codeIn K cd7 "_law_any" = true) (k7 : PySem.W.keepIn K (.ref f7) = true)
    {f8 : Addr} {od8 an8 : Option Addr} {sl8 : Array (Option Value)} {oc8 kV8 dc8 pm8 cd8 ct8 : Value}
    (a8 : PySem.W.nsIn K mainGlobals "_law_whole" = some (some (.ref f8))) (l8 : K.lookup f8 = some ⟨oc8, od8, .func (PySem.W.fnOf "_law_whole" "_law_whole" (defArgs s_l_whole) (defBody s_l_whole) (defScope s_l_whole) .none kV8 dc8 pm8 an8 cd8 ct8), sl8⟩) (c8 : PySem.W.codeIn K cd8 "_law_whole" = true) (k8 : PySem.W.keepIn K (.ref f8) = true)
    {f9 : Addr} {od9 an9 : Option Addr} {sl9 : Array (Option Value)} {oc9 kV9 dc9 pm9 cd9 ct9 : Value}
    (a9 : PySem.W.nsIn K mainGlobals "_law_spoilt" = some (some (.ref f9))) (l9 : K.lookup f9 = some ⟨oc9, od9, .func (PySem.W.fnOf "_law_spoilt" "_law_spoilt" (defArgs s_l_spoilt) (defBody s_l_spoilt) (defScope s_l_spoilt) .none kV9 dc9 pm9 an9 cd9 ct9), sl9⟩) (c9 : PySem.W.codeIn K cd9 "_law_spoilt" = true) (k9 : PySem.W.keepIn K (.ref f9) = true)
    {f10 : Addr} {od10 an10 : Option Addr} {sl10 : Array (Option Value)} {oc10 kV10 dc10 pm10 cd10 ct10 : Value}
    (a10 : PySem.W.nsIn K mainGlobals "_law_like" = some (some (.ref f10))) (l10 : K.lookup f10 = some ⟨oc10, od10, .func (PySem.W.fnOf "_law_like" "_law_like" (defArgs s_l_like) (defBody s_l_like) (defScope s_l_like) .none kV10 dc10 pm10 an10 cd10 ct10), sl10⟩) (c10 : PySem.W.codeIn K cd10 "_law_like" = true) (k10 : PySem.W.keepIn K (.ref f10) = true)
    {f11 : Addr} {od11 an11 : Option Addr} {sl11 : Array (Option Value)} {oc11 kV11 dc11 pm11 cd11 ct11 : Value}
    (a11 : PySem.W.nsIn K mainGlobals "is_integer" = some (some (.ref f11))) (l11 : K.lookup f11 = some ⟨oc11, od11, .func (PySem.W.fnOf "is_integer" "is_integer" (defArgs s_is_integer) (defBody s_is_integer) (defScope s_is_integer) .none kV11 dc11 pm11 an11 cd11 ct11), sl11⟩) (c11 : PySem.W.codeIn K cd11 "is_integer" = true) (k11 : PySem.W.keepIn K (.ref f11) = true)
    {f12 : Addr} {od12 an12 : Option Addr} {sl12 : Array (Option Value)} {oc12 kV12 dc12 pm12 cd12 ct12 : Value}
    (a12 : PySem.W.nsIn K mainGlobals "is_dials" = some (some (.ref f12))) (l12 : K.lookup f12 = some ⟨oc12, od12, .func (PySem.W.fnOf "is_dials" "is_dials" (defArgs s_is_dials) (defBody s_is_dials) (defScope s_is_dials) .none kV12 dc12 pm12 an12 cd12 ct12), sl12⟩) (c12 : PySem.W.codeIn K cd12 "is_dials" = true) (k12 : PySem.W.keepIn K (.ref f12) = true)
    {f13 : Addr} {od13 an13 : Option Addr} {sl13 : Array (Option Value)} {oc13 kV13 dc13 pm13 cd13 ct13 : Value}
    (a13 : PySem.W.nsIn K mainGlobals "_law_within" = some (some (.ref f13))) (l13 : K.lookup f13 = some ⟨oc13, od13, .func (PySem.W.fnOf "_law_within" "_law_within" (defArgs s_l_within) (defBody s_l_within) (defScope s_l_within) .none kV13 dc13 pm13 an13 cd13 ct13), sl13⟩) (c13 : PySem.W.codeIn K cd13 "_law_within" = true) (k13 : PySem.W.keepIn K (.ref f13) = true)
    {f14 : Addr} {od14 an14 : Option Addr} {sl14 : Array (Option Value)} {oc14 kV14 dc14 pm14 cd14 ct14 : Value}
    (a14 : PySem.W.nsIn K mainGlobals "law" = some (some (.ref f14))) (l14 : K.lookup f14 = some ⟨oc14, od14, .func (PySem.W.fnOf "law" "law" (defArgs s_law) (defBody s_law) (defScope s_law) .none kV14 dc14 pm14 an14 cd14 ct14), sl14⟩) (c14 : PySem.W.codeIn K cd14 "law" = true) (k14 : PySem.W.keepIn K (.ref f14) = true)
    {u0 : Tok} (y0 : PySem.W.nsIn K mainGlobals "MOST_DIALS" = some (some (.int 6 u0)))
    {u1 : Tok} (y1 : PySem.W.nsIn K mainGlobals "TURN" = some (some (.int 100 u1)))
    (z0 : PySem.W.nsIn K mainGlobals "all" = some none)
    (z1 : PySem.W.nsIn K mainGlobals "bool" = some none)
    (z2 : PySem.W.nsIn K mainGlobals "int" = some none)
    (z3 : PySem.W.nsIn K mainGlobals "isinstance" = some none)
    (z4 : PySem.W.nsIn K mainGlobals "len" = some none)
    (z5 : PySem.W.nsIn K mainGlobals "list" = some none)
    (z6 : PySem.W.nsIn K mainGlobals "max" = some none)
    (z7 : PySem.W.nsIn K mainGlobals "range" = some none)
    (z8 : PySem.W.nsIn K mainGlobals "str" = some none)
    (z9 : PySem.W.nsIn K mainGlobals "tuple" = some none)
    (hp : LawOk 10 p_law)
    : ∃ fd : FuncData, (∀ (s : Shared) (v : Value), BindsTo s fd ⟨[v], []⟩ [("script", v)]) ∧ ∀ base : Heap, K.In base → base.Ns mainGlobals mg → FnOk l.prog w K mg base CX0 11 fa fd ["script"] (spLaw K) := by
  have e := (PySem.W.mg_of X G a14).symm.trans hfa
  cases e
  let T : Tx K mg := ⟨_, _, (fun_mk l0 c0 k0), (PySem.W.mg_of X G a0), _, _, (fun_mk l1 c1 k1), (PySem.W.mg_of X G a1), _, _, (fun_mk l2 c2 k2), (PySem.W.mg_of X G a2), _, _, (fun_mk l3 c3 k3), (PySem.W.mg_of X G a3), _, _, (fun_mk l4 c4 k4), (PySem.W.mg_of X G a4), _, _, (fun_mk l5 c5 k5), (PySem.W.mg_of X G a5), _, _, (fun_mk l6 c6 k6), (PySem.W.mg_of X G a6), _, _, (fun_mk l7 c7 k7), (PySem.W.mg_of X G a7), _, _, (fun_mk l8 c8 k8), (PySem.W.mg_of X G a8), _, _, (fun_mk l9 c9 k9), (PySem.W.mg_of X G a9), _, _, (fun_mk l10 c10 k10), (PySem.W.mg_of X G a10), _, _, (fun_mk l11 c11 k11), (PySem.W.mg_of X G a11), _, _, (fun_mk l12 c12 k12), (PySem.W.mg_of X G a12), _, _, (fun_mk l13 c13 k13), (PySem.W.mg_of X G a13), _, _, (fun_mk l14 c14 k14), (PySem.W.mg_of X G a14), u0, (PySem.W.mg_of X G y0), u1, (PySem.W.mg_of X G y1), (PySem.W.mg_none_of X G z0), (PySem.W.mg_none_of X G z1), (PySem.W.mg_none_of X G z2), (PySem.W.mg_none_of X G z3), (PySem.W.mg_none_of X G z4), (PySem.W.mg_none_of X G z5), (PySem.W.mg_none_of X G z6), (PySem.W.mg_none_of X G z7), (PySem.W.mg_none_of X G z8), (PySem.W.mg_none_of X G z9)⟩
  exact ⟨T.fd_law, fun s v => .of_eq rfl, fun base _ _ => ok_law T hp⟩

end Walk

open PySem PySem.W PyProof.Rows
set_option maxHeartbeats 0 in
theorem PySem.Challenge.cw_meterdials_k01_dials_values_holds : PySem.Challenge.rw_meterdials_k01_dials_values.Holds := by
  w_on; o_law; k_head; (case hw => w_witness2)
  k_fill
  refine L2.walk_of (l := PySem.Challenge.rw_meterdials_k01_dials_values) (n := 63) (k := 11) (x := "script") (CX := fun _ => L2.CX0) (sp := fun w => Pu.spLaw _) rfl (by decide) rfl ⟨rfl, by decide, by decide⟩ (fun w h Y => PySem.W.kIn_of Y) ?F (fun _ _ a ns hl _ hS => ⟨a, ns, rfl, hS, hl, fun _ => rfl⟩) (fun _ _ _ _ _ h => h)
  case F =>
    intro w mg fa h KX G hmg
    refine' Walk.all_mk KX G hmg ?a0 ?l0 ?c0 ?k0 ?a1 ?l1 ?c1 ?k1 ?a2 ?l2 ?c2 ?k2 ?a3 ?l3 ?c3 ?k3 ?a4 ?l4 ?c4 ?k4 ?a5 ?l5 ?c5 ?k5 ?a6 ?l6 ?c6 ?k6 ?a7 ?l7 ?c7 ?k7 ?a8 ?l8 ?c8 ?k8 ?a9 ?l9 ?c9 ?k9 ?a10 ?l10 ?c10 ?k10 ?a11 ?l11 ?c11 ?k11 ?a12 ?l12 ?c12 ?k12 ?a13 ?l13 ?c13 ?k13 ?a14 ?l14 ?c14 ?k14 ?y0 ?y1 ?z0 ?z1 ?z2 ?z3 ?z4 ?z5 ?z6 ?z7 ?z8 ?z9 Law.law_ok
    (case a0 => k_is)
    (case l0 => k_is)
    (case c0 => k_is)
    (case k0 => k_is)
    (case a1 => k_is)
    (case l1 => k_is)
    (case c1 => k_is)
    (case k1 => k_is)
    (case a2 => k_is)
    (case l2 => k_is)
    (case c2 => k_is)
    (case k2 => k_is)
    (case a3 => k_is)
    (case l3 => k_is)
    (case c3 => k_is)
    (case k3 => k_is)
    (case a4 => k_is)
    (case l4 => k_is)
    (case c4 => k_is)
    (case k4 => k_is)
    (case a5 => k_is)
    (case l5 => k_is)
    (case c5 => k_is)
    (case k5 => k_is)
    (case a6 => k_is)
    (case l6 => k_is)
    (case c6 => k_is)
    (case k6 => k_is)
    (case a7 => k_is)
    (case l7 => k_is)
    (case c7 => k_is)
    (case k7 => k_is)
    (case a8 => k_is)
    (case l8 => k_is)
    (case c8 => k_is)
    (case k8 => k_is)
    (case a9 => k_is)
    (case l9 => k_is)
    (case c9 => k_is)
    (case k9 => k_is)
    (case a10 => k_is)
    (case l10 => k_is)
    (case c10 => k_is)
    (case k10 => k_is)
    (case a11 => k_is)
    (case l11 => k_is)
    (case c11 => k_is)
    (case k11 => k_is)
    (case a12 => k_is)
    (case l12 => k_is)
    (case c12 => k_is)
    (case k12 => k_is)
    (case a13 => k_is)
    (case l13 => k_is)
    (case c13 => k_is)
    (case k13 => k_is)
    (case a14 => k_is)
    (case l14 => k_is)
    (case c14 => k_is)
    (case k14 => k_is)
    (case y0 => k_is)
    (case y1 => k_is)
    (case z0 => k_is)
    (case z1 => k_is)
    (case z2 => k_is)
    (case z3 => k_is)
    (case z4 => k_is)
    (case z5 => k_is)
    (case z6 => k_is)
    (case z7 => k_is)
    (case z8 => k_is)
    (case z9 => k_is)

