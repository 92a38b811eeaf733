import PyProof.Rows.All
import Wide.All
import OpenK.AllK
import Wide.FinOn
import PySem.Challenge.RW_dealbook_k01_books_and_their_texts
import HandS.ForMost
import HandS.Style
import HandS.Star
import HandS.Deep
import HandS.SortInts
import HandS.TupAny
import HandS.IsInst
import HandS.Conv
import HandS.TupSets
import HandS.SetFor
import HandS.Strs
import HandS.SetBool
import HandS.DictComp
import HandS.OwnEq
import HandS.ExcInit
import HandS.ExcField
import HandS.WordsExc
import HandS.Defaults
import HandS.MakeKwOnly
import HandS.RaiseMore
import KE.DataMinMax
import HandS.MakeKw
import HandS.Ends
import PyProof.Rows.StrJoinMade
import PyProof.ReprRoads
import PyProof.ReprLen
import HandS.Zip
import HandS.Rev
import KE.GoesMore
import KE.GoesEnum
set_option Elab.async false
set_option linter.all false
set_option maxRecDepth 100000
set_option maxHeartbeats 2000000
namespace DL
open PySem PySem.Spec L2
abbrev Stt := L2.St

/-! ### heaps -/
abbrev Ex (H H' : Hp) : Prop := ∀ a o, H a = some o → H' a = some o
theorem Ex.rfl' {H : Hp} : Ex H H := fun _ _ h => h
theorem Ex.trans {H H1 H2 : Hp} (a : Ex H H1) (b : Ex H1 H2) : Ex H H2 := fun x o h => b x o (a x o h)
theorem Ex.new {H : Hp} {p : Addr} {o : HO} (h : H p = none) : Ex H (upd H p o) := fun a u e => by
  rw [upd_ne (ne_of_none e h)]
  exact e
theorem Ex.back {H H' : Hp} {p : Addr} (e : Ex H H') (h : H' p = none) : H p = none := by
  cases q : H p with
  | none => rfl
  | some o => rw [e p o q] at h; cases h
/-- an object that H does not know may change -/
theorem Ex.mut {H H' : Hp} {p : Addr} {o : HO} (e : Ex H H') (h : H p = none) : Ex H (upd H' p o) := fun a u ha => by
  rw [upd_ne (ne_of_none ha h)]
  exact e a u ha
theorem Ex.both {H H' : Hp} {p : Addr} {o : HO} (e : Ex H H') (h : H p = none) : Ex (upd H p o) (upd H' p o) := fun a u ha => by
  by_cases q : a = p
  · subst q; rw [upd_same] at ha ⊢; exact ha
  · rw [upd_ne q] at ha ⊢; exact e a u ha
theorem Ex.rd {H H' : Hp} {a : Addr} {u : HO} (e : Ex H H') (h : Rd H a u) : Rd H' a u := by
  rcases h with h | ⟨o, h⟩
  · exact Or.inl (e a _ h)
  · exact Or.inr ⟨o, e a _ h⟩
theorem paired_mono {α β : Type} {F G : α → β → Prop} : ∀ {l₁ : List α} {l₂ : List β}, Paired F l₁ l₂ → (∀ a b, F a b → G a b) → Paired G l₁ l₂
  | _, _, .nil, _ => .nil
  | _, _, .cons r t, f => .cons (f _ _ r) (paired_mono t f)

def LB : Nat := 1000000
theorem lb_line {n : Nat} (h : n ≤ LB) : n ≤ sizeLine := Nat.le_trans h (by decide)
theorem lb_lt {n : Nat} (h : n ≤ LB) : n < sizeLine := Nat.lt_of_le_of_lt h (by decide)
/-! ### codecs: how a piece of data lies in a heap that stays -/
structure Cod (α : Type) where
  rep : Hp → V → α → Prop
  mono : ∀ {H H' : Hp} {v : V} {x : α}, Ex H H' → rep H v x → rep H' v x
def cInt : Cod Int := ⟨fun _ v x => v = .int x, fun _ h => h⟩
def cBool : Cod Bool := ⟨fun _ v x => v = .bl x, fun _ h => h⟩
def cStr : Cod Str := ⟨fun _ v x => v = .str x, fun _ h => h⟩
def cNon : Cod Unit := ⟨fun _ v _ => v = .non, fun _ h => h⟩
/-- the value itself -/
def cV : Cod V := ⟨fun _ v x => v = x, fun _ h => h⟩
def cList {α : Type} (c : Cod α) : Cod (List α) := ⟨fun H v xs => ∃ a vs, v = .ref a ∧ H a = some (.lst vs) ∧ Paired (c.rep H) vs xs ∧ vs.length ≤ LB,
  fun e ⟨a, vs, h1, h2, h3, h4⟩ => ⟨a, vs, h1, e _ _ h2, paired_mono h3 (fun _ _ q => c.mono e q), h4⟩⟩
def cTup {α : Type} (c : Cod α) : Cod (List α) := ⟨fun H v xs => ∃ a vs, v = .ref a ∧ H a = some (.tup vs) ∧ Paired (c.rep H) vs xs ∧ vs.length ≤ LB,
  fun e ⟨a, vs, h1, h2, h3, h4⟩ => ⟨a, vs, h1, e _ _ h2, paired_mono h3 (fun _ _ q => c.mono e q), h4⟩⟩
/-- a list that is only read (the script) -/
def cScr : Cod (List Int) := ⟨fun H v xs => ∃ a, v = .ref a ∧ Rd H a (.lst (xs.map V.int)), fun e ⟨a, h1, h2⟩ => ⟨a, h1, e.rd h2⟩⟩
def cT2 {α β : Type} (c : Cod α) (d : Cod β) : Cod (α × β) := ⟨fun H v x => ∃ a u w, v = .ref a ∧ H a = some (.tup [u, w]) ∧ c.rep H u x.1 ∧ d.rep H w x.2,
  fun e ⟨a, u, w, h1, h2, h3, h4⟩ => ⟨a, u, w, h1, e _ _ h2, c.mono e h3, d.mono e h4⟩⟩
def cT3 {α β γ : Type} (c : Cod α) (d : Cod β) (f : Cod γ) : Cod (α × β × γ) := ⟨fun H v x => ∃ a u w y, v = .ref a ∧ H a = some (.tup [u, w, y]) ∧ c.rep H u x.1 ∧ d.rep H w x.2.1 ∧ f.rep H y x.2.2,
  fun e ⟨a, u, w, y, h1, h2, h3, h4, h5⟩ => ⟨a, u, w, y, h1, e _ _ h2, c.mono e h3, d.mono e h4, f.mono e h5⟩⟩

/-! ### slots -/
/-- what is known of an object of one's own -/
structure OP where
  φ : Hp → Addr → HO → Prop
  mono : ∀ {H H' : Hp} {a : Addr} {o : HO}, Ex H H' → φ H a o → φ H' a o
inductive Sl : Type 1
  | un
  | d {α : Type} (c : Cod α) (x : α)
  | l {α : Type} (c : Cod α) (xs : List α)
  | bx (a : Addr)
  | r (p : OP)
abbrev Ctxt := List Sl
def Sl.own : Sl → Bool
  | .l _ _ => true
  | .bx _ => true
  | .r _ => true
  | _ => false
def LIM : Nat := 8589934592
def BoxAt (H : Hp) (a : Addr) (n : Nat) : Prop := ∃ (g : Int) (b : Bool) (m c : Int), H a = some (.lst [.int g, .bl b, .int m, .int c]) ∧ 0 ≤ m ∧ m < 2147483648 ∧ 0 ≤ c ∧ c ≤ (n : Int)
def SlOk (Hf H : Hp) (n : Nat) (ov : Option (Option V)) : Sl → Prop
  | .un => True
  | .d c x => ∃ v, ov = some (some v) ∧ c.rep Hf v x
  | .l c xs => ∃ a vs, ov = some (some (.ref a)) ∧ H a = some (.lst vs) ∧ Hf a = none ∧ Paired (c.rep Hf) vs xs ∧ vs.length ≤ LB
  | .bx a => ov = some (some (.ref a)) ∧ Hf a = none ∧ BoxAt H a n
  | .r p => ∃ a o, ov = some (some (.ref a)) ∧ H a = some o ∧ Hf a = none ∧ p.φ Hf a o
def Owns (σ : Stt) (Γ : Ctxt) (a : Addr) : Prop := ∃ (i : Nat) (s : Sl), Γ[i]? = some s ∧ s.own = true ∧ σ[i]? = some (some (V.ref a))
structure Fr (M : Addr → Prop) (Hf H Hf' H' : Hp) : Prop where
  ex : Ex Hf Hf'
  keep : ∀ a o, H a = some o → ¬ M a → H' a = some o
  fz : ∀ a o, H a = some o → ¬ M a → Hf a = none → Hf' a = none
  dom : ∀ a, H' a = none → H a = none
theorem Fr.refl {M : Addr → Prop} {Hf H : Hp} : Fr M Hf H Hf H := ⟨Ex.rfl', fun _ _ h _ => h, fun _ _ _ _ h => h, fun _ h => h⟩
theorem Fr.trans {M M1 : Addr → Prop} {Hf H Hf1 H1 Hf2 H2 : Hp} (f : Fr M Hf H Hf1 H1) (g : Fr M1 Hf1 H1 Hf2 H2) (hm : ∀ a, M1 a → M a ∨ H a = none) : Fr M Hf H Hf2 H2 where
  ex := f.ex.trans g.ex
  keep := fun a o h n => g.keep a o (f.keep a o h n) fun m => by
    rcases hm a m with q | q
    · exact n q
    · rw [h] at q; cases q
  fz := fun a o h n z => g.fz a o (f.keep a o h n) (fun m => by
    rcases hm a m with q | q
    · exact n q
    · rw [h] at q; cases q) (f.fz a o h n z)
  dom := fun a h => f.dom a (g.dom a h)
theorem Fr.mono {M M1 : Addr → Prop} {Hf H Hf1 H1 : Hp} (f : Fr M Hf H Hf1 H1) (hm : ∀ a, M a → M1 a ∨ H a = none) : Fr M1 Hf H Hf1 H1 := Fr.trans (M := M1) Fr.refl f hm
/-- a new object -/
theorem Fr.new {M : Addr → Prop} {Hf H : Hp} {p : Addr} {o : HO} (ex : Ex Hf H) (h : H p = none) : Fr M Hf H (upd Hf p o) (upd H p o) where
  ex := Ex.new (ex.back h)
  keep := fun a u e _ => Ex.new h a u e
  fz := fun a u e _ z => by rw [upd_ne (ne_of_none e h)]; exact z
  dom := fun a e => by
    by_cases q : a = p
    · subst q; exact h
    · rw [upd_ne q] at e; exact e
/-- .. that is not to stay as it is -/
theorem Fr.newO {M : Addr → Prop} {Hf H : Hp} {p : Addr} {o : HO} (h : H p = none) : Fr M Hf H Hf (upd H p o) where
  ex := Ex.rfl'
  keep := fun a u e _ => Ex.new h a u e
  fz := fun a u e _ z => z
  dom := fun a e => by
    by_cases q : a = p
    · subst q; exact h
    · rw [upd_ne q] at e; exact e

structure Org where
  M : Addr → Prop
  Hf : Hp
  H : Hp
structure Sat (O : Org) (Hf H : Hp) (σ : Stt) (Γ : Ctxt) (n : Nat) : Prop where
  len : σ.length = Γ.length
  ex : Ex Hf H
  at_ : ∀ (i : Nat) (s : Sl), Γ[i]? = some s → SlOk Hf H n σ[i]? s
  sep : ∀ (i j : Nat) (si sj : Sl) (a : Addr), i ≠ j → Γ[i]? = some si → Γ[j]? = some sj → si.own = true → sj.own = true → σ[i]? = some (some (V.ref a)) → σ[j]? ≠ some (some (V.ref a))
  fr : Fr O.M O.Hf O.H Hf H
  mine : ∀ a, Owns σ Γ a → O.M a ∨ O.H a = none

theorem boxAt_le {H : Hp} {a : Addr} {n m : Nat} (h : BoxAt H a n) (l : n ≤ m) : BoxAt H a m := by
  obtain ⟨g, b, x, c, h1, h2, h3, h4, h5⟩ := h
  exact ⟨g, b, x, c, h1, h2, h3, h4, by omega⟩
theorem boxAt_ex {H H' : Hp} {a : Addr} {n : Nat} (h : BoxAt H a n) (e : ∀ o, H a = some o → H' a = some o) : BoxAt H' a n := by
  obtain ⟨g, b, x, c, h1, h2⟩ := h
  exact ⟨g, b, x, c, e _ h1, h2⟩
section
variable {O : Org} {Hf H Hf' H' : Hp} {σ : Stt} {Γ : Ctxt} {n m : Nat}
theorem slOk_le {ov : Option (Option V)} {s : Sl} (h : SlOk Hf H n ov s) (l : n ≤ m) : SlOk Hf H m ov s := by
  cases s with
  | un => trivial
  | d c x => exact h
  | l c xs => exact h
  | bx a => obtain ⟨h1, h2, h3⟩ := h; exact ⟨h1, h2, boxAt_le h3 l⟩
  | r p => exact h
theorem Sat.le (S : Sat O Hf H σ Γ n) (l : n ≤ m) : Sat O Hf H σ Γ m := ⟨S.len, S.ex, fun i s h => slOk_le (S.at_ i s h) l, S.sep, S.fr, S.mine⟩
theorem Sat.ownAt (S : Sat O Hf H σ Γ n) {a : Addr} (h : Owns σ Γ a) : Hf a = none ∧ ∃ o, H a = some o := by
  obtain ⟨i, s, h1, h2, h3⟩ := h
  have q := S.at_ i s h1
  cases s with
  | un => cases h2
  | d c x => cases h2
  | l c xs =>
    obtain ⟨b, vs, e1, e2, e3, _⟩ := q
    rw [h3] at e1
    injection e1 with e1; injection e1 with e1; injection e1 with e1
    subst e1
    exact ⟨e3, _, e2⟩
  | bx b =>
    obtain ⟨e1, e2, g, bb, x, c, e3, _⟩ := q
    rw [h3] at e1
    injection e1 with e1; injection e1 with e1; injection e1 with e1
    subst e1
    exact ⟨e2, _, e3⟩
  | r p =>
    obtain ⟨b, o, e1, e2, e3, _⟩ := q
    rw [h3] at e1
    injection e1 with e1; injection e1 with e1; injection e1 with e1
    subst e1
    exact ⟨e3, _, e2⟩
/-- the boxes of a context -/
def Bx (Γ : Ctxt) (a : Addr) : Prop := ∃ i : Nat, Γ[i]? = some (.bx a)
theorem Sat.bxOwn (S : Sat O Hf H σ Γ n) {a : Addr} (h : Bx Γ a) : Owns σ Γ a := by
  obtain ⟨i, h⟩ := h
  obtain ⟨h1, _⟩ := S.at_ i _ h
  exact ⟨i, _, h, rfl, h1⟩
/-- a list slot's address is no box -/
theorem Sat.lNe (S : Sat O Hf H σ Γ n) {i : Nat} {α : Type} {c : Cod α} {xs : List α} {a : Addr} (h : Γ[i]? = some (.l c xs)) (e : σ[i]? = some (some (V.ref a))) : ¬ Bx Γ a := fun ⟨j, hj⟩ => by
  obtain ⟨h1, _⟩ := S.at_ j _ hj
  refine S.sep i j _ _ a (fun z => ?_) h hj rfl rfl e h1
  subst z
  rw [h] at hj
  cases hj
theorem Sat.rNe (S : Sat O Hf H σ Γ n) {i : Nat} {p : OP} {a : Addr} (h : Γ[i]? = some (.r p)) (e : σ[i]? = some (some (V.ref a))) : ¬ Bx Γ a := fun ⟨j, hj⟩ => by
  obtain ⟨h1, _⟩ := S.at_ j _ hj
  refine S.sep i j _ _ a (fun z => ?_) h hj rfl rfl e h1
  subst z
  rw [h] at hj
  cases hj
/-- the heaps grow, boxes may turn -/
theorem Sat.grow (S : Sat O Hf H σ Γ n) (f : Fr (Bx Γ) Hf H Hf' H') (ex : Ex Hf' H') (hb : ∀ a, Bx Γ a → Hf' a = none ∧ BoxAt H' a m) : Sat O Hf' H' σ Γ m where
  len := S.len
  ex := ex
  at_ := fun i s h => by
    have q := S.at_ i s h
    cases s with
    | un => trivial
    | d c x => obtain ⟨v, h1, h2⟩ := q; exact ⟨v, h1, c.mono f.ex h2⟩
    | l c xs =>
      obtain ⟨a, vs, h1, h2, h3, h4, h5⟩ := q
      have nb := S.lNe h h1
      exact ⟨a, vs, h1, f.keep _ _ h2 nb, f.fz _ _ h2 nb h3, paired_mono h4 (fun _ _ r => c.mono f.ex r), h5⟩
    | bx a =>
      obtain ⟨h1, h2, h3⟩ := q
      obtain ⟨h4, h5⟩ := hb a ⟨i, h⟩
      exact ⟨h1, h4, h5⟩
    | r p =>
      obtain ⟨a, o, h1, h2, h3, h4⟩ := q
      have nb := S.rNe h h1
      exact ⟨a, o, h1, f.keep _ _ h2 nb, f.fz _ _ h2 nb h3, p.mono f.ex h4⟩
  sep := S.sep
  fr := S.fr.trans f fun a h => S.mine a (S.bxOwn h)
  mine := S.mine
theorem Sat.grow0 (S : Sat O Hf H σ Γ n) (f : Fr (fun _ => False) Hf H Hf' H') (ex : Ex Hf' H') : Sat O Hf' H' σ Γ n :=
  S.grow (f.mono fun _ z => z.elim) ex fun a ⟨i, h⟩ => by
    obtain ⟨_, h2, h3⟩ := S.at_ i _ h
    have h4 := h3
    obtain ⟨g, b, x, c, e, _⟩ := h4
    exact ⟨f.fz _ _ e id h2, boxAt_ex h3 fun o r => f.keep _ _ r id⟩
theorem Sat.new (S : Sat O Hf H σ Γ n) {p : Addr} {o : HO} (h : H p = none) : Sat O (upd Hf p o) (upd H p o) σ Γ n :=
  S.grow0 (Fr.new S.ex h) (S.ex.both (S.ex.back h))
/-- seen from here -/
theorem Sat.here (S : Sat O Hf H σ Γ n) : Sat ⟨Owns σ Γ, Hf, H⟩ Hf H σ Γ n := ⟨S.len, S.ex, S.at_, S.sep, Fr.refl, fun _ h => .inl h⟩
theorem Sat.there {σ' : Stt} {Γ' : Ctxt} (S : Sat O Hf H σ Γ n) (T : Sat ⟨Owns σ Γ, Hf, H⟩ Hf' H' σ' Γ' m) : Sat O Hf' H' σ' Γ' m where
  len := T.len
  ex := T.ex
  at_ := T.at_
  sep := T.sep
  fr := S.fr.trans T.fr fun a h => S.mine a h
  mine := fun a h => by
    rcases T.mine a h with q | q
    · exact S.mine a q
    · exact .inr (S.fr.dom a q)
end
end DL

set_option Elab.async false
set_option linter.all false
set_option maxRecDepth 100000
set_option maxHeartbeats 2000000
namespace DL
open PySem PySem.Spec L2
/-! ### judgements -/
def TD {α : Type} (te : TE) (Γ : Ctxt) (k : Nat) (c : Cod α) (P : α → Prop) : Prop :=
  ∀ (O : Org) (n : Nat) (σ : Stt) (Hf H : Hp), n + k ≤ LIM → Sat O Hf H σ Γ n → ∀ Q : VK,
    (∀ v Hf' H' x, P x → c.rep Hf' v x → Fr (Bx Γ) Hf H Hf' H' → Sat O Hf' H' σ Γ (n + k) → Q v H') → te σ H Q
def TDT (tt : TT) (Γ : Ctxt) (k : Nat) (P : Bool → Prop) : Prop :=
  ∀ (O : Org) (n : Nat) (σ : Stt) (Hf H : Hp), n + k ≤ LIM → Sat O Hf H σ Γ n → ∀ Q : Bool → Hp → Prop,
    (∀ b Hf' H', P b → Fr (Bx Γ) Hf H Hf' H' → Sat O Hf' H' σ Γ (n + k) → Q b H') → tt σ H Q
/-- an operation on values -/
def RD {α β γ : Type} (r : R2) (c1 : Cod α) (x : α) (c2 : Cod β) (y : β) (c : Cod γ) (P : γ → Prop) : Prop :=
  ∀ (Hf H : Hp) (v u : V), Ex Hf H → c1.rep Hf v x → c2.rep Hf u y → ∀ Q : VK,
    (∀ z Hf' H' w, P z → c.rep Hf' w z → Fr (fun _ => False) Hf H Hf' H' → Ex Hf' H' → Q w H') → r v u H Q
def RU1 {α γ : Type} (r : V → Hp → VK → Prop) (c1 : Cod α) (x : α) (c : Cod γ) (P : γ → Prop) : Prop :=
  ∀ (Hf H : Hp) (v : V), Ex Hf H → c1.rep Hf v x → ∀ Q : VK,
    (∀ z Hf' H' w, P z → c.rep Hf' w z → Fr (fun _ => False) Hf H Hf' H' → Ex Hf' H' → Q w H') → r v H Q
/-- arguments: what the values are, one context entry each -/
def ArgsOk (Hf : Hp) : List V → Ctxt → Prop
  | [], [] => True
  | v :: vs, s :: as => (match s with
    | .d c x => c.rep Hf v x
    | .bx a => v = .ref a
    | _ => False) ∧ ArgsOk Hf vs as
  | _, _ => False
def TDA (ta : TA) (Γ : Ctxt) (k : Nat) (B : Ctxt → Prop) : Prop :=
  ∀ (O : Org) (n : Nat) (σ : Stt) (Hf H : Hp), n + k ≤ LIM → Sat O Hf H σ Γ n → ∀ Q : List V → Hp → Prop,
    (∀ vs Hf' H' as, B as → ArgsOk Hf' vs as → (∀ a, Sl.bx a ∈ as → Bx Γ a) → Fr (Bx Γ) Hf H Hf' H' → Sat O Hf' H' σ Γ (n + k) → Q vs H') → ta σ H Q
theorem argsOk_mono {Hf Hf' : Hp} (e : Ex Hf Hf') : ∀ {vs : List V} {as : Ctxt}, ArgsOk Hf vs as → ArgsOk Hf' vs as
  | [], [], _ => trivial
  | [], _ :: _, h => h.elim
  | _ :: _, [], h => h.elim
  | v :: vs, s :: as, h => by
    obtain ⟨h1, h2⟩ := h
    refine ⟨?_, argsOk_mono e h2⟩
    cases s with
    | un => exact h1
    | d c x => exact c.mono e h1
    | l c x => exact h1
    | bx a => exact h1
    | r p => exact h1

section
variable {Γ : Ctxt} {k k1 k2 k3 : Nat} {α β γ δ : Type} {c c1 : Cod α} {c2 : Cod β} {c3 : Cod γ} {P P1 : α → Prop} {P2 : β → Prop} {P3 : γ → Prop} {te ta tb : TE} {tt tu : TT}
theorem TD.imp {P' : α → Prop} (h : TD te Γ k c P) (hp : ∀ x, P x → P' x) : TD te Γ k c P' := fun O n σ Hf H hn S Q q => h O n σ Hf H hn S Q fun v Hf' H' x p => q v Hf' H' x (hp x p)
theorem TD.le (h : TD te Γ k c P) (l : k ≤ k2) : TD te Γ k2 c P := fun O n σ Hf H hn S Q q => h O n σ Hf H (by omega) S Q fun v Hf' H' x p r f s => q v Hf' H' x p r f (s.le (by omega))
theorem TDT.imp {P P' : Bool → Prop} (h : TDT tt Γ k P) (hp : ∀ x, P x → P' x) : TDT tt Γ k P' := fun O n σ Hf H hn S Q q => h O n σ Hf H hn S Q fun b Hf' H' p => q b Hf' H' (hp b p)
theorem TDT.le {P : Bool → Prop} (h : TDT tt Γ k P) (l : k ≤ k2) : TDT tt Γ k2 P := fun O n σ Hf H hn S Q q => h O n σ Hf H (by omega) S Q fun b Hf' H' p f s => q b Hf' H' p f (s.le (by omega))
/-- as another kind of data -/
theorem TD.conv {P' : β → Prop} (h : TD te Γ k c P) (hp : ∀ H v x, P x → c.rep H v x → ∃ y, P' y ∧ c2.rep H v y) : TD te Γ k c2 P' := fun O n σ Hf H hn S Q q => h O n σ Hf H hn S Q fun v Hf' H' x p r f s => by
  obtain ⟨y, p', r'⟩ := hp _ _ _ p r
  exact q v Hf' H' y p' r' f s
theorem td_var {i : Nat} {x : α} (h : Γ[i]? = some (.d c x)) : TD (tVar i) Γ 0 c (· = x) := fun O n σ Hf H _ S Q q => by
  obtain ⟨v, h1, h2⟩ := S.at_ i _ h
  exact ⟨v, h1, q v Hf H x rfl h2 Fr.refl S⟩
theorem td_c {v : V} {x : α} (h : ∀ H, c.rep H v x) : TD (tC v) Γ 0 c (· = x) := fun O n σ Hf H _ S Q q => q v Hf H x rfl (h Hf) Fr.refl S
theorem td_op {r : R2} (ha : TD ta Γ k1 c1 P1) (hb : TD tb Γ k2 c2 P2) (hr : ∀ x y, P1 x → P2 y → RD r c1 x c2 y c3 P3) : TD (tOp r ta tb) Γ (k1 + k2) c3 P3 := fun O n σ Hf H hn S Q q =>
  ha O n σ Hf H (by omega) S _ fun v Hf1 H1 x p1 r1 f1 S1 => hb O (n + k1) σ Hf1 H1 (by omega) S1 _ fun u Hf2 H2 y p2 r2 f2 S2 =>
    hr x y p1 p2 Hf2 H2 v u S2.ex (c1.mono f2.ex r1) r2 Q fun z Hf3 H3 w p3 r3 f3 e3 =>
      q w Hf3 H3 z p3 r3 ((f1.trans f2 fun _ h => .inl h).trans f3 fun _ h => h.elim) (by rw [← Nat.add_assoc]; exact S2.grow0 f3 e3)
theorem td_un {r : V → Hp → VK → Prop} (ha : TD ta Γ k1 c1 P1) (hr : ∀ x, P1 x → RU1 r c1 x c3 P3) : TD (tUn r ta) Γ k1 c3 P3 := fun O n σ Hf H hn S Q q =>
  ha O n σ Hf H hn S _ fun v Hf1 H1 x p1 r1 f1 S1 => hr x p1 Hf1 H1 v S1.ex r1 Q fun z Hf3 H3 w p3 r3 f3 e3 =>
      q w Hf3 H3 z p3 r3 (f1.trans f3 fun _ h => h.elim) (S1.grow0 f3 e3)
/-! ### tests -/
theorem tt_test {P : Bool → Prop} (h : TD te Γ k cBool P) : TDT (tTest te) Γ k P := fun O n σ Hf H hn S Q q => h O n σ Hf H hn S _ fun v Hf' H' x p r f s => ⟨x, r, q x Hf' H' p f s⟩
theorem tt_B {P : Bool → Prop} (h : TD te Γ k cBool P) : TDT (tB te) Γ k P := fun O n σ Hf H hn S Q q => h O n σ Hf H hn S _ fun v Hf' H' x p r f s => ⟨x, r, q x Hf' H' p f s⟩
theorem tt_and {a b : Bool → Prop} (h1 : TDT tt Γ k1 a) (h2 : a true → TDT tu Γ k2 b) : TDT (tAnd tt tu) Γ (k1 + k2) (fun r => (r = false ∧ a false) ∨ (a true ∧ b r)) := fun O n σ Hf H hn S Q q =>
  h1 O n σ Hf H (by omega) S _ fun b1 Hf1 H1 p f1 S1 => by
    cases b1 with
    | true =>
      rw [if_pos rfl]
      exact h2 p O (n + k1) σ Hf1 H1 (by omega) S1 Q fun b2 Hf2 H2 p2 f2 S2 => q b2 Hf2 H2 (.inr ⟨p, p2⟩) (f1.trans f2 fun _ h => .inl h) (by rw [← Nat.add_assoc]; exact S2)
    | false =>
      rw [if_neg Bool.false_ne_true]
      exact q false Hf1 H1 (.inl ⟨rfl, p⟩) f1 (S1.le (by omega))
theorem tt_or {a b : Bool → Prop} (h1 : TDT tt Γ k1 a) (h2 : a false → TDT tu Γ k2 b) : TDT (tOr tt tu) Γ (k1 + k2) (fun r => (r = true ∧ a true) ∨ (a false ∧ b r)) := fun O n σ Hf H hn S Q q =>
  h1 O n σ Hf H (by omega) S _ fun b1 Hf1 H1 p f1 S1 => by
    cases b1 with
    | false =>
      rw [if_neg Bool.false_ne_true]
      exact h2 p O (n + k1) σ Hf1 H1 (by omega) S1 Q fun b2 Hf2 H2 p2 f2 S2 => q b2 Hf2 H2 (.inr ⟨p, p2⟩) (f1.trans f2 fun _ h => .inl h) (by rw [← Nat.add_assoc]; exact S2)
    | true =>
      rw [if_pos rfl]
      exact q true Hf1 H1 (.inl ⟨rfl, p⟩) f1 (S1.le (by omega))
theorem tt_not {a : Bool → Prop} (h1 : TDT tt Γ k a) : TDT (tNot tt) Γ k (fun r => a (!r)) := fun O n σ Hf H hn S Q q =>
  h1 O n σ Hf H hn S _ fun b1 Hf1 H1 p f1 S1 => q (!b1) Hf1 H1 (by show a (!!b1); rw [Bool.not_not]; exact p) f1 S1
/-- the pure ones -/
theorem tt_and' {a b : Bool} (h1 : TDT tt Γ k1 (· = a)) (h2 : a = true → TDT tu Γ k2 (· = b)) : TDT (tAnd tt tu) Γ (k1 + k2) (· = (a && b)) :=
  (tt_and h1 fun e => h2 e.symm).imp fun x h => by
    rcases h with ⟨e1, e2⟩ | ⟨e1, e2⟩
    · subst e1 e2; rfl
    · subst e2 e1; rfl
theorem tt_or' {a b : Bool} (h1 : TDT tt Γ k1 (· = a)) (h2 : a = false → TDT tu Γ k2 (· = b)) : TDT (tOr tt tu) Γ (k1 + k2) (· = (a || b)) :=
  (tt_or h1 fun e => h2 e.symm).imp fun x h => by
    rcases h with ⟨e1, e2⟩ | ⟨e1, e2⟩
    · subst e1 e2; rfl
    · subst e2 e1; rfl
theorem tt_not' {a : Bool} (h1 : TDT tt Γ k (· = a)) : TDT (tNot tt) Γ k (· = !a) := (tt_not h1).imp fun x h => by rw [← h, Bool.not_not]
theorem td_if {b : Bool → Prop} (ht : TDT tt Γ k1 b) (ha : b true → TD ta Γ k2 c P) (hb : b false → TD tb Γ k3 c P) : TD (tIf tt ta tb) Γ (k1 + max k2 k3) c P := fun O n σ Hf H hn S Q q =>
  ht O n σ Hf H (by omega) S _ fun d Hf1 H1 p f1 S1 => by
    cases d with
    | true =>
      rw [if_pos rfl]
      exact ha p O (n + k1) σ Hf1 H1 (by omega) S1 Q fun v Hf2 H2 x p2 r f2 S2 => q v Hf2 H2 x p2 r (f1.trans f2 fun _ h => .inl h) (S2.le (by omega))
    | false =>
      rw [if_neg Bool.false_ne_true]
      exact hb p O (n + k1) σ Hf1 H1 (by omega) S1 Q fun v Hf2 H2 x p2 r f2 S2 => q v Hf2 H2 x p2 r (f1.trans f2 fun _ h => .inl h) (S2.le (by omega))
theorem td_andV {a b : Bool → Prop} (h1 : TD ta Γ k1 cBool a) (h2 : a true → TD tb Γ k2 cBool b) : TD (tAndV ta tb) Γ (k1 + k2) cBool (fun r => (r = false ∧ a false) ∨ (a true ∧ b r)) := fun O n σ Hf H hn S Q q =>
  h1 O n σ Hf H (by omega) S _ fun v Hf1 H1 b1 p r1 f1 S1 => ⟨b1, r1, by
    cases b1 with
    | true =>
      rw [if_pos rfl]
      exact h2 p O (n + k1) σ Hf1 H1 (by omega) S1 Q fun v2 Hf2 H2 b2 p2 r2 f2 S2 => q v2 Hf2 H2 b2 (.inr ⟨p, p2⟩) r2 (f1.trans f2 fun _ h => .inl h) (by rw [← Nat.add_assoc]; exact S2)
    | false =>
      rw [if_neg Bool.false_ne_true]
      exact q _ Hf1 H1 false (.inl ⟨rfl, p⟩) rfl f1 (S1.le (by omega))⟩
theorem td_orV {a b : Bool → Prop} (h1 : TD ta Γ k1 cBool a) (h2 : a false → TD tb Γ k2 cBool b) : TD (tOrV ta tb) Γ (k1 + k2) cBool (fun r => (r = true ∧ a true) ∨ (a false ∧ b r)) := fun O n σ Hf H hn S Q q =>
  h1 O n σ Hf H (by omega) S _ fun v Hf1 H1 b1 p r1 f1 S1 => ⟨b1, r1, by
    cases b1 with
    | false =>
      rw [if_neg Bool.false_ne_true]
      exact h2 p O (n + k1) σ Hf1 H1 (by omega) S1 Q fun v2 Hf2 H2 b2 p2 r2 f2 S2 => q v2 Hf2 H2 b2 (.inr ⟨p, p2⟩) r2 (f1.trans f2 fun _ h => .inl h) (by rw [← Nat.add_assoc]; exact S2)
    | true =>
      rw [if_pos rfl]
      exact q _ Hf1 H1 true (.inl ⟨rfl, p⟩) rfl f1 (S1.le (by omega))⟩
theorem td_notV {a : Bool → Prop} (h1 : TD ta Γ k cBool a) : TD (tNotV ta) Γ k cBool (fun r => a (!r)) := fun O n σ Hf H hn S Q q =>
  h1 O n σ Hf H hn S _ fun v Hf1 H1 b1 p r1 f1 S1 => ⟨b1, r1, q _ Hf1 H1 (!b1) (by show a (!!b1); rw [Bool.not_not]; exact p) rfl f1 S1⟩
theorem td_andV' {a b : Bool} (h1 : TD ta Γ k1 cBool (· = a)) (h2 : a = true → TD tb Γ k2 cBool (· = b)) : TD (tAndV ta tb) Γ (k1 + k2) cBool (· = (a && b)) :=
  (td_andV h1 fun e => h2 e.symm).imp fun x h => by
    rcases h with ⟨e1, e2⟩ | ⟨e1, e2⟩
    · subst e1 e2; rfl
    · subst e2 e1; rfl
theorem td_orV' {a b : Bool} (h1 : TD ta Γ k1 cBool (· = a)) (h2 : a = false → TD tb Γ k2 cBool (· = b)) : TD (tOrV ta tb) Γ (k1 + k2) cBool (· = (a || b)) :=
  (td_orV h1 fun e => h2 e.symm).imp fun x h => by
    rcases h with ⟨e1, e2⟩ | ⟨e1, e2⟩
    · subst e1 e2; rfl
    · subst e2 e1; rfl
theorem td_notV' {a : Bool} (h1 : TD ta Γ k cBool (· = a)) : TD (tNotV ta) Γ k cBool (· = !a) := (td_notV h1).imp fun x h => by rw [← h, Bool.not_not]
/-! ### arguments, displays -/
variable {tx : TA} {B : Ctxt → Prop}
theorem ta_nil : TDA tNil Γ 0 (· = []) := fun O n σ Hf H _ S Q q => q [] Hf H [] rfl trivial (fun _ h => nomatch h) Fr.refl S
theorem ta_cons (h : TD te Γ k1 c P) (hr : TDA tx Γ k2 B) : TDA (tCons te tx) Γ (k1 + k2) (fun as => ∃ x r, P x ∧ B r ∧ as = .d c x :: r) := fun O n σ Hf H hn S Q q =>
  h O n σ Hf H (by omega) S _ fun v Hf1 H1 x p r f1 S1 => hr O (n + k1) σ Hf1 H1 (by omega) S1 _ fun vs Hf2 H2 as b o hb f2 S2 =>
    q (v :: vs) Hf2 H2 (.d c x :: as) ⟨x, as, p, b, rfl⟩ ⟨c.mono f2.ex r, o⟩ (fun a h => by
      rcases List.mem_cons.mp h with e | e
      · cases e
      · exact hb a e) (f1.trans f2 fun _ h => .inl h) (by rw [← Nat.add_assoc]; exact S2)
theorem ta_box {i : Nat} {a : Addr} (h : Γ[i]? = some (.bx a)) (hr : TDA tx Γ k2 B) : TDA (tCons (tVar i) tx) Γ k2 (fun as => ∃ r, B r ∧ as = .bx a :: r) := fun O n σ Hf H hn S Q q => by
  obtain ⟨h1, h2⟩ := S.at_ i _ h
  exact ⟨.ref a, h1, hr O n σ Hf H hn S _ fun vs Hf2 H2 as b o hb f2 S2 => q (.ref a :: vs) Hf2 H2 (.bx a :: as) ⟨as, b, rfl⟩ ⟨rfl, o⟩ (fun a' h' => by
    rcases List.mem_cons.mp h' with e | e
    · cases e; exact ⟨i, h⟩
    · exact hb a' e) f2 S2⟩
theorem TDA.imp {B' : Ctxt → Prop} (h : TDA tx Γ k B) (hp : ∀ x, B x → B' x) : TDA tx Γ k B' := fun O n σ Hf H hn S Q q => h O n σ Hf H hn S Q fun v Hf' H' x p => q v Hf' H' x (hp x p)
/-- items of one kind -/
theorem args_items {Hf : Hp} : ∀ {vs : List V} {xs : List α}, ArgsOk Hf vs (xs.map fun x => Sl.d c x) → Paired (c.rep Hf) vs xs
  | [], [], _ => .nil
  | [], _ :: _, h => h.elim
  | _ :: _, [], h => h.elim
  | v :: vs, x :: xs, h => .cons h.1 (args_items h.2)
theorem paired_len {F : V → α → Prop} {vs : List V} {xs : List α} (h : Paired F vs xs) : vs.length = xs.length := h.length
theorem td_lst {R : List α → Prop} (h : TDA tx Γ k B) (hi : ∀ as, B as → ∃ xs : List α, as = xs.map (fun x => Sl.d c x) ∧ xs.length ≤ 1000 ∧ R xs) : TD (tLst tx) Γ k (cList c) R := fun O n σ Hf H hn S Q q =>
  h O n σ Hf H hn S _ fun vs Hf1 H1 as b o _ f1 S1 => by
    obtain ⟨xs, e, l, r⟩ := hi as b
    subst e
    have pr := args_items o
    refine ⟨by rw [paired_len pr]; exact Nat.le_trans l (by decide), fun p hp => ?_⟩
    exact q _ (upd Hf1 p (.lst vs)) _ xs r ⟨p, vs, rfl, upd_same, paired_mono pr (fun _ _ z => c.mono (Ex.new (S1.ex.back hp)) z), by rw [paired_len pr]; exact Nat.le_trans l (by decide)⟩
      (f1.trans (Fr.new (M := Bx Γ) S1.ex hp) fun _ z => .inl z) (S1.new hp)
theorem td_tup {R : List α → Prop} (h : TDA tx Γ k B) (hi : ∀ as, B as → ∃ xs : List α, as = xs.map (fun x => Sl.d c x) ∧ xs.length ≤ 1000 ∧ R xs) : TD (tTup tx) Γ k (cTup c) R := fun O n σ Hf H hn S Q q =>
  h O n σ Hf H hn S _ fun vs Hf1 H1 as b o _ f1 S1 => by
    obtain ⟨xs, e, l, r⟩ := hi as b
    subst e
    have pr := args_items o
    refine ⟨by rw [paired_len pr]; exact Nat.le_trans l (by decide), fun p hp => ?_⟩
    exact q _ (upd Hf1 p (.tup vs)) _ xs r ⟨p, vs, rfl, upd_same, paired_mono pr (fun _ _ z => c.mono (Ex.new (S1.ex.back hp)) z), by rw [paired_len pr]; exact Nat.le_trans l (by decide)⟩
      (f1.trans (Fr.new (M := Bx Γ) S1.ex hp) fun _ z => .inl z) (S1.new hp)
theorem td_t2 (ha : TD ta Γ k1 c1 P1) (hb : TD tb Γ k2 c2 P2) : TD (tTup (tCons ta (tCons tb tNil))) Γ (k1 + k2) (cT2 c1 c2) (fun z => P1 z.1 ∧ P2 z.2) := fun O n σ Hf H hn S Q q =>
  ha O n σ Hf H (by omega) S _ fun v Hf1 H1 x p1 r1 f1 S1 => hb O (n + k1) σ Hf1 H1 (by omega) S1 _ fun u Hf2 H2 y p2 r2 f2 S2 =>
    ⟨by show 2 ≤ sizeLine; decide, fun p hp => q _ (upd Hf2 p (.tup [v, u])) _ (x, y) ⟨p1, p2⟩
      ⟨p, v, u, rfl, upd_same, c1.mono (f2.ex.trans (Ex.new (S2.ex.back hp))) r1, c2.mono (Ex.new (S2.ex.back hp)) r2⟩
      ((f1.trans f2 fun _ h => .inl h).trans (Fr.new (M := Bx Γ) S2.ex hp) fun _ z => .inl z) (by rw [← Nat.add_assoc]; exact S2.new hp)⟩
variable {td : TE}
theorem td_t3 (ha : TD ta Γ k1 c1 P1) (hb : TD tb Γ k2 c2 P2) (hd : TD td Γ k3 c3 P3) : TD (tTup (tCons ta (tCons tb (tCons td tNil)))) Γ (k1 + k2 + k3) (cT3 c1 c2 c3) (fun z => P1 z.1 ∧ P2 z.2.1 ∧ P3 z.2.2) := fun O n σ Hf H hn S Q q =>
  ha O n σ Hf H (by omega) S _ fun v Hf1 H1 x p1 r1 f1 S1 => hb O (n + k1) σ Hf1 H1 (by omega) S1 _ fun u Hf2 H2 y p2 r2 f2 S2 => hd O (n + k1 + k2) σ Hf2 H2 (by omega) S2 _ fun w Hf3 H3 z p3 r3 f3 S3 =>
    ⟨by show 3 ≤ sizeLine; decide, fun p hp => q _ (upd Hf3 p (.tup [v, u, w])) _ (x, y, z) ⟨p1, p2, p3⟩
      ⟨p, v, u, w, rfl, upd_same, c1.mono (f2.ex.trans (f3.ex.trans (Ex.new (S3.ex.back hp)))) r1, c2.mono (f3.ex.trans (Ex.new (S3.ex.back hp))) r2, c3.mono (Ex.new (S3.ex.back hp)) r3⟩
      (((f1.trans f2 fun _ h => .inl h).trans f3 fun _ h => .inl h).trans (Fr.new (M := Bx Γ) S3.ex hp) fun _ z => .inl z)
      (by rw [show n + (k1 + k2 + k3) = n + k1 + k2 + k3 by omega]; exact S3.new hp)⟩
theorem td_t2' {x : α} {y : β} (ha : TD ta Γ k1 c1 (· = x)) (hb : TD tb Γ k2 c2 (· = y)) : TD (tTup (tCons ta (tCons tb tNil))) Γ (k1 + k2) (cT2 c1 c2) (· = (x, y)) :=
  (td_t2 ha hb).imp fun z ⟨h1, h2⟩ => by cases z; subst h1 h2; rfl
theorem td_t3' {x : α} {y : β} {z : γ} (ha : TD ta Γ k1 c1 (· = x)) (hb : TD tb Γ k2 c2 (· = y)) (hd : TD td Γ k3 c3 (· = z)) : TD (tTup (tCons ta (tCons tb (tCons td tNil)))) Γ (k1 + k2 + k3) (cT3 c1 c2 c3) (· = (x, y, z)) :=
  (td_t3 ha hb hd).imp fun w ⟨h1, h2, h3⟩ => by obtain ⟨w1, w2, w3⟩ := w; subst h1 h2 h3; rfl
/-! ### operations on ints -/
theorem rd_I0 {g : Int → Int → Int} {i j : Int} : RD (rI0 fun i j => .int (g i j)) cInt i cInt j cInt (· = g i j) := fun Hf H v u e h1 h2 Q q => ⟨i, j, h1, h2, q _ Hf H _ rfl rfl Fr.refl e⟩
theorem rd_B0 {g : Int → Int → Bool} {i j : Int} : RD (rI0 fun i j => .bl (g i j)) cInt i cInt j cBool (· = g i j) := fun Hf H v u e h1 h2 Q q => ⟨i, j, h1, h2, q _ Hf H _ rfl rfl Fr.refl e⟩
theorem rd_I {C : Int → Int → Prop} {g : Int → Int → Int} {i j : Int} (hc : C i j) : RD (rI C fun i j => .int (g i j)) cInt i cInt j cInt (· = g i j) := fun Hf H v u e h1 h2 Q q => ⟨i, j, h1, h2, hc, q _ Hf H _ rfl rfl Fr.refl e⟩
theorem rd_eqI {i j : Int} : RD rEq cInt i cInt j cBool (· = decide (i = j)) := fun Hf H v u e h1 h2 Q q => by
  obtain rfl := h1; obtain rfl := h2
  exact ⟨rfl, q _ Hf H _ rfl (by show V.bl _ = V.bl _; congr 1; exact decide_eq_decide.mpr ⟨fun h => V.int.inj h, fun h => by rw [h]⟩) Fr.refl e⟩
theorem rd_neI {i j : Int} : RD rNe cInt i cInt j cBool (· = !decide (i = j)) := fun Hf H v u e h1 h2 Q q => by
  obtain rfl := h1; obtain rfl := h2
  exact ⟨rfl, q _ Hf H _ rfl (by show V.bl _ = V.bl _; congr 2; exact decide_eq_decide.mpr ⟨fun h => V.int.inj h, fun h => by rw [h]⟩) Fr.refl e⟩
theorem rd_eqB {i j : Bool} : RD rEq cBool i cBool j cBool (· = decide (i = j)) := fun Hf H v u e h1 h2 Q q => by
  obtain rfl := h1; obtain rfl := h2
  exact ⟨rfl, q _ Hf H _ rfl (by show V.bl _ = V.bl _; congr 1; exact decide_eq_decide.mpr ⟨fun h => V.bl.inj h, fun h => by rw [h]⟩) Fr.refl e⟩
theorem rd_neB {i j : Bool} : RD rNe cBool i cBool j cBool (· = !decide (i = j)) := fun Hf H v u e h1 h2 Q q => by
  obtain rfl := h1; obtain rfl := h2
  exact ⟨rfl, q _ Hf H _ rfl (by show V.bl _ = V.bl _; congr 2; exact decide_eq_decide.mpr ⟨fun h => V.bl.inj h, fun h => by rw [h]⟩) Fr.refl e⟩
theorem ru_negI {i : Int} : RU1 (rU fun i => .int (-i)) cInt i cInt (· = -i) := fun Hf H v e h1 Q q => ⟨i, h1, q _ Hf H _ rfl rfl Fr.refl e⟩
end
end DL

set_option Elab.async false
set_option linter.all false
set_option maxRecDepth 100000
set_option maxHeartbeats 2000000
namespace DL
open PySem PySem.Spec L2
/-! ### slots set -/
theorem sget.{u} {α : Type u} {l : List α} {i j : Nat} {x y : α} (h : (l.set i x)[j]? = some y) : (j = i ∧ y = x) ∨ (j ≠ i ∧ l[j]? = some y) := by
  by_cases e : j = i
  · subst e
    by_cases hl : j < l.length
    · rw [List.getElem?_set_self hl] at h; exact .inl ⟨rfl, (Option.some.inj h).symm⟩
    · rw [List.getElem?_eq_none (by simpa using hl)] at h; cases h
  · rw [List.getElem?_set_ne (Ne.symm e)] at h; exact .inr ⟨e, h⟩
def BxKeep (Γ Γ' : Ctxt) : Prop := ∀ (i : Nat) a, Γ[i]? = some (.bx a) → Γ'[i]? = some (.bx a)
theorem BxKeep.refl {Γ : Ctxt} : BxKeep Γ Γ := fun _ _ h => h
theorem BxKeep.trans {Γ Γ1 Γ2 : Ctxt} (a : BxKeep Γ Γ1) (b : BxKeep Γ1 Γ2) : BxKeep Γ Γ2 := fun i x h => b i x (a i x h)
/-- the slot i is no box -/
def NoBx (Γ : Ctxt) (i : Nat) : Prop := match Γ[i]? with
  | some (.bx _) => False
  | _ => True
theorem bxKeep_set {Γ : Ctxt} {i : Nat} {s : Sl} (h : NoBx Γ i) : BxKeep Γ (Γ.set i s) := fun j a e => by
  have ne : i ≠ j := fun z => by subst z; unfold NoBx at h; rw [e] at h; exact h
  rw [List.getElem?_set_ne ne]; exact e
section
variable {O : Org} {Hf H Hf' H' : Hp} {σ : Stt} {Γ : Ctxt} {n m : Nat} {α β : Type}
/-- a slot gets a piece of data, or is forgotten -/
theorem Sat.set (S : Sat O Hf H σ Γ n) {i : Nat} {c : Cod α} {x : α} {v : V} (r : c.rep Hf v x) : Sat O Hf H (σ.set i (some v)) (Γ.set i (.d c x)) n where
  len := by rw [List.length_set, List.length_set]; exact S.len
  ex := S.ex
  at_ := fun j s h => by
    have lt : j < σ.length := by
      have := (List.getElem?_eq_some_iff.mp h).1
      rw [List.length_set] at this
      rw [S.len]; exact this
    rcases sget h with ⟨e, e2⟩ | ⟨e, h2⟩
    · subst e e2
      exact ⟨v, List.getElem?_set_self lt, r⟩
    · rw [List.getElem?_set_ne (Ne.symm e)]
      exact S.at_ j s h2
  sep := fun j l sj sl a ne h1 h2 o1 o2 e => by
    rcases sget h1 with ⟨_, z⟩ | ⟨n1, h1⟩
    · subst z; cases o1
    rcases sget h2 with ⟨_, z⟩ | ⟨n2, h2⟩
    · subst z; cases o2
    rw [List.getElem?_set_ne (Ne.symm n1)] at e
    rw [List.getElem?_set_ne (Ne.symm n2)]
    exact S.sep j l sj sl a ne h1 h2 o1 o2 e
  fr := S.fr
  mine := fun a ⟨j, s, h1, h2, h3⟩ => by
    rcases sget h1 with ⟨_, z⟩ | ⟨n1, h1⟩
    · subst z; cases h2
    rw [List.getElem?_set_ne (Ne.symm n1)] at h3
    exact S.mine a ⟨j, s, h1, h2, h3⟩
/-- what is known of the slots may be less; a slot that is not known may hold anything -/
theorem Sat.weaken {σ' : Stt} {Γ' : Ctxt} (S : Sat O Hf H σ Γ n) (hl : σ'.length = Γ'.length) (h : ∀ (i : Nat) s, Γ'[i]? = some s → s = .un ∨ (Γ[i]? = some s ∧ σ'[i]? = σ[i]?)) : Sat O Hf H σ' Γ' n where
  len := hl
  ex := S.ex
  at_ := fun i s e => by
    rcases h i s e with z | ⟨h1, h2⟩
    · subst z; trivial
    · rw [h2]; exact S.at_ i s h1
  sep := fun i j si sj a ne h1 h2 o1 o2 e => by
    rcases h i si h1 with z | ⟨g1, e1⟩
    · subst z; cases o1
    rcases h j sj h2 with z | ⟨g2, e2⟩
    · subst z; cases o2
    rw [e2]
    exact S.sep i j si sj a ne g1 g2 o1 o2 (by rw [← e1]; exact e)
  fr := S.fr
  mine := fun a ⟨j, s, h1, h2, h3⟩ => by
    rcases h j s h1 with z | ⟨g1, e1⟩
    · subst z; cases h2
    exact S.mine a ⟨j, s, g1, h2, by rw [← e1]; exact h3⟩
def wipeC (Γ : Ctxt) : List Nat → Ctxt
  | [] => Γ
  | v :: vs => (wipeC Γ vs).set v .un
theorem wipeC_length (Γ : Ctxt) : ∀ vs : List Nat, (wipeC Γ vs).length = Γ.length
  | [] => rfl
  | v :: vs => by unfold wipeC; rw [List.length_set, wipeC_length Γ vs]
theorem wipe_at {i : Nat} {s : Sl} : ∀ {vs : List Nat}, (wipeC Γ vs)[i]? = some s → s = .un ∨ (Γ[i]? = some s ∧ (wipe σ vs)[i]? = σ[i]?)
  | [], h => .inr ⟨h, rfl⟩
  | v :: vs, h => by
    unfold wipeC at h
    rcases sget h with ⟨_, z⟩ | ⟨ne, h⟩
    · exact .inl z
    rcases wipe_at h with z | ⟨h1, h2⟩
    · exact .inl z
    · refine .inr ⟨h1, ?_⟩
      unfold wipe
      rw [List.getElem?_set_ne (Ne.symm ne)]; exact h2
theorem Sat.wipe (S : Sat O Hf H σ Γ n) (vs : List Nat) : Sat O Hf H (wipe σ vs) (wipeC Γ vs) n :=
  S.weaken (by rw [wipe_length, wipeC_length]; exact S.len) fun _ _ h => wipe_at h
/-- a list of one's own stays as it is from now on -/
theorem Sat.freeze (S : Sat O Hf H σ Γ n) {i : Nat} {c : Cod α} {xs : List α} (h : Γ[i]? = some (.l c xs)) :
    ∃ a vs, σ[i]? = some (some (V.ref a)) ∧ H a = some (.lst vs) ∧ Hf a = none ∧ ¬ Bx Γ a ∧ (∀ (j : Nat) s, j ≠ i → Γ[j]? = some s → s.own = true → σ[j]? ≠ some (some (V.ref a))) ∧ (cList c).rep (upd Hf a (.lst vs)) (.ref a) xs ∧ Sat O (upd Hf a (.lst vs)) H σ (Γ.set i (.d (cList c) xs)) n := by
  obtain ⟨a, vs, h1, h2, h3, h4, h5⟩ := S.at_ i _ h
  have e1 : Ex Hf (upd Hf a (.lst vs)) := Ex.new h3
  have oth : ∀ (j : Nat) s, j ≠ i → Γ[j]? = some s → s.own = true → σ[j]? ≠ some (some (V.ref a)) := fun j s ne hs o => S.sep i j _ s a (Ne.symm ne) h hs rfl o h1
  have rp : (cList c).rep (upd Hf a (.lst vs)) (.ref a) xs := ⟨a, vs, rfl, upd_same, paired_mono h4 (fun _ _ q => c.mono e1 q), h5⟩
  refine ⟨a, vs, h1, h2, h3, S.lNe h h1, oth, rp, ?_, ?_, ?_, ?_, ?_, ?_⟩
  · rw [List.length_set]; exact S.len
  · intro b o e
    by_cases q : b = a
    · subst q; rw [upd_same] at e; cases e; exact h2
    · rw [upd_ne q] at e; exact S.ex b o e
  · intro j s hs
    rcases sget hs with ⟨e, z⟩ | ⟨ne, hs⟩
    · subst e z; exact ⟨_, h1, rp⟩
    · have q := S.at_ j s hs
      cases s with
      | un => trivial
      | d c' x => obtain ⟨v, g1, g2⟩ := q; exact ⟨v, g1, c'.mono e1 g2⟩
      | l c' ys =>
        obtain ⟨a', vs', g1, g2, g3, g4, g5⟩ := q
        have nea : a' ≠ a := fun z => by subst z; exact oth j _ ne hs rfl g1
        exact ⟨a', vs', g1, g2, by rw [upd_ne nea]; exact g3, paired_mono g4 (fun _ _ r => c'.mono e1 r), g5⟩
      | bx b =>
        obtain ⟨g1, g2, g3⟩ := q
        have nea : b ≠ a := fun z => by subst z; exact oth j _ ne hs rfl g1
        exact ⟨g1, by rw [upd_ne nea]; exact g2, g3⟩
      | r p =>
        obtain ⟨a', o', g1, g2, g3, g4⟩ := q
        have nea : a' ≠ a := fun z => by subst z; exact oth j _ ne hs rfl g1
        exact ⟨a', o', g1, g2, by rw [upd_ne nea]; exact g3, p.mono e1 g4⟩
  · intro j l sj sl b ne g1 g2 o1 o2 e
    rcases sget g1 with ⟨_, z⟩ | ⟨_, g1⟩
    · subst z; cases o1
    rcases sget g2 with ⟨_, z⟩ | ⟨_, g2⟩
    · subst z; cases o2
    exact S.sep j l sj sl b ne g1 g2 o1 o2 e
  · refine ⟨S.fr.ex.trans e1, S.fr.keep, fun b o e nm z => ?_, S.fr.dom⟩
    have nb : b ≠ a := fun q => by
      subst q
      rcases S.mine b ⟨i, _, h, rfl, h1⟩ with w | w
      · exact nm w
      · rw [w] at e; cases e
    rw [upd_ne nb]; exact S.fr.fz b o e nm z
  · intro b ⟨j, s, g1, g2, g3⟩
    rcases sget g1 with ⟨_, z⟩ | ⟨_, g1⟩
    · subst z; cases g2
    exact S.mine b ⟨j, s, g1, g2, g3⟩
end
/-! ### statements -/
structure Fin (O : Org) (Γ : Ctxt) (Hf Hf' H' : Hp) (σ' : Stt) (Γ' : Ctxt) (m : Nat) : Prop where
  sat : Sat O Hf' H' σ' Γ' m
  bx : BxKeep Γ Γ'
  ex : Ex Hf Hf'
/-- where a block may lead: on, to a break, to a continue; what it may return -/
structure Po (ρ : Type) where
  N : Ctxt → Prop
  bk : Ctxt → Prop
  ct : Ctxt → Prop
  c : Cod ρ
  R : ρ → Prop
def HS {ρ : Type} (ts : TS) (Γ : Ctxt) (k : Nat) (p : Po ρ) : Prop :=
  ∀ (O : Org) (n : Nat) (σ : Stt) (Hf H : Hp), n + k ≤ LIM → Sat O Hf H σ Γ n → ∀ D : Ends,
    (∀ σ' Hf' H' Γ', p.N Γ' → Fin O Γ Hf Hf' H' σ' Γ' (n + k) → D.nx σ' H') → (∀ σ' Hf' H' Γ', p.bk Γ' → Fin O Γ Hf Hf' H' σ' Γ' (n + k) → D.bk σ' H') →
    (∀ σ' Hf' H' Γ', p.ct Γ' → Fin O Γ Hf Hf' H' σ' Γ' (n + k) → D.ct σ' H') → (∀ v σ' Hf' H' Γ' x, p.R x → p.c.rep Hf' v x → Fin O Γ Hf Hf' H' σ' Γ' (n + k) → D.rt v H') → ts D σ H
section
variable {Γ : Ctxt} {k k1 k2 k3 : Nat} {α β γ ρ : Type} {c : Cod α} {P : α → Prop} {te : TE} {tt : TT} {t u : TS} {p : Po ρ} {N N' : Ctxt → Prop}
theorem Fin.le {O : Org} {Γ' : Ctxt} {Hf Hf' H' : Hp} {σ' : Stt} {m m' : Nat} (f : Fin O Γ Hf Hf' H' σ' Γ' m) (l : m ≤ m') : Fin O Γ Hf Hf' H' σ' Γ' m' := ⟨f.sat.le l, f.bx, f.ex⟩
theorem HS.le (h : HS t Γ k p) (l : k ≤ k2) : HS t Γ k2 p := fun O n σ Hf H hn S D q1 q2 q3 q4 =>
  h O n σ Hf H (by omega) S D (fun _ _ _ _ a f => q1 _ _ _ _ a (f.le (by omega))) (fun _ _ _ _ a f => q2 _ _ _ _ a (f.le (by omega))) (fun _ _ _ _ a f => q3 _ _ _ _ a (f.le (by omega))) fun _ _ _ _ _ _ a r f => q4 _ _ _ _ _ _ a r (f.le (by omega))
theorem HS.imp (h : HS t Γ k { p with N := N }) (hp : ∀ Γ', N Γ' → N' Γ') : HS t Γ k { p with N := N' } := fun O n σ Hf H hn S D q1 q2 q3 q4 =>
  h O n σ Hf H hn S D (fun _ _ _ _ a f => q1 _ _ _ _ (hp _ a) f) q2 q3 q4
theorem hs_next (h : p.N Γ) : HS tNext Γ 0 p := fun O n σ Hf H _ S D q1 _ _ _ => q1 σ Hf H Γ h ⟨S, .refl, Ex.rfl'⟩
theorem hs_break (h : p.bk Γ) : HS tBreak Γ 0 p := fun O n σ Hf H _ S D _ q2 _ _ => q2 σ Hf H Γ h ⟨S, .refl, Ex.rfl'⟩
theorem hs_cont (h : p.ct Γ) : HS tCont Γ 0 p := fun O n σ Hf H _ S D _ _ q3 _ => q3 σ Hf H Γ h ⟨S, .refl, Ex.rfl'⟩
theorem hs_seq (h1 : HS t Γ k1 { p with N := N }) (h2 : ∀ Γ1, N Γ1 → HS u Γ1 k2 p) : HS (tSeq t u) Γ (k1 + k2) p := fun O n σ Hf H hn S D q1 q2 q3 q4 =>
  h1 O n σ Hf H (by omega) S { D with nx := u D } (fun σ1 Hf1 H1 Γ1 a f => h2 Γ1 a O (n + k1) σ1 Hf1 H1 (by omega) f.sat D
      (fun _ _ _ _ b g => q1 _ _ _ _ b ⟨by rw [← Nat.add_assoc]; exact g.sat, f.bx.trans g.bx, f.ex.trans g.ex⟩) (fun _ _ _ _ b g => q2 _ _ _ _ b ⟨by rw [← Nat.add_assoc]; exact g.sat, f.bx.trans g.bx, f.ex.trans g.ex⟩)
      (fun _ _ _ _ b g => q3 _ _ _ _ b ⟨by rw [← Nat.add_assoc]; exact g.sat, f.bx.trans g.bx, f.ex.trans g.ex⟩) fun _ _ _ _ _ _ b r g => q4 _ _ _ _ _ _ b r ⟨by rw [← Nat.add_assoc]; exact g.sat, f.bx.trans g.bx, f.ex.trans g.ex⟩)
    (fun _ _ _ _ a f => q2 _ _ _ _ a (f.le (by omega))) (fun _ _ _ _ a f => q3 _ _ _ _ a (f.le (by omega))) fun _ _ _ _ _ _ a r f => q4 _ _ _ _ _ _ a r (f.le (by omega))
theorem hs_if {b : Bool → Prop} (ht : TDT tt Γ k1 b) (ha : b true → HS t Γ k2 p) (hb : b false → HS u Γ k3 p) : HS (tIfS tt t u) Γ (k1 + max k2 k3) p := fun O n σ Hf H hn S D q1 q2 q3 q4 =>
  ht O n σ Hf H (by omega) S _ fun d Hf1 H1 pd f1 S1 => by
    cases d with
    | true =>
      rw [if_pos rfl]
      exact (ha pd).le (Nat.le_max_left k2 k3) O (n + k1) σ Hf1 H1 (by omega) S1 D (fun _ _ _ _ a f => q1 _ _ _ _ a ⟨by rw [← Nat.add_assoc]; exact f.sat, f.bx, f1.ex.trans f.ex⟩) (fun _ _ _ _ a f => q2 _ _ _ _ a ⟨by rw [← Nat.add_assoc]; exact f.sat, f.bx, f1.ex.trans f.ex⟩)
        (fun _ _ _ _ a f => q3 _ _ _ _ a ⟨by rw [← Nat.add_assoc]; exact f.sat, f.bx, f1.ex.trans f.ex⟩) fun _ _ _ _ _ _ a r f => q4 _ _ _ _ _ _ a r ⟨by rw [← Nat.add_assoc]; exact f.sat, f.bx, f1.ex.trans f.ex⟩
    | false =>
      rw [if_neg Bool.false_ne_true]
      exact (hb pd).le (Nat.le_max_right k2 k3) O (n + k1) σ Hf1 H1 (by omega) S1 D (fun _ _ _ _ a f => q1 _ _ _ _ a ⟨by rw [← Nat.add_assoc]; exact f.sat, f.bx, f1.ex.trans f.ex⟩) (fun _ _ _ _ a f => q2 _ _ _ _ a ⟨by rw [← Nat.add_assoc]; exact f.sat, f.bx, f1.ex.trans f.ex⟩)
        (fun _ _ _ _ a f => q3 _ _ _ _ a ⟨by rw [← Nat.add_assoc]; exact f.sat, f.bx, f1.ex.trans f.ex⟩) fun _ _ _ _ _ _ a r f => q4 _ _ _ _ _ _ a r ⟨by rw [← Nat.add_assoc]; exact f.sat, f.bx, f1.ex.trans f.ex⟩
theorem hs_ret (h : TD te Γ k c P) (hr : ∀ H v x, P x → c.rep H v x → ∃ y, p.R y ∧ p.c.rep H v y) : HS (tRet te) Γ k p := fun O n σ Hf H hn S D _ _ _ q4 =>
  h O n σ Hf H hn S _ fun v Hf' H' x px r f s => by
    obtain ⟨y, py, ry⟩ := hr Hf' v x px r
    exact q4 v σ Hf' H' Γ y py ry ⟨s, .refl, f.ex⟩
/-- return x, x a list of one's own -/
theorem hs_ret_l {i : Nat} {xs : List α} (h : Γ[i]? = some (.l c xs)) (nb : NoBx Γ i) (hr : ∀ H v, (cList c).rep H v xs → ∃ y, p.R y ∧ p.c.rep H v y) : HS (tRet (tVar i)) Γ 0 p := fun O n σ Hf H hn S D _ _ _ q4 => by
  obtain ⟨a, vs, h1, h2, h3, _, _, rp, S'⟩ := S.freeze h
  obtain ⟨y, py, ry⟩ := hr _ _ rp
  exact ⟨.ref a, h1, q4 (.ref a) σ _ H (Γ.set i (.d (cList c) xs)) y py ry ⟨S', bxKeep_set nb, Ex.new h3⟩⟩
/-- from here on x stays as it is -/
theorem hs_freeze {i : Nat} {xs : List α} (h : Γ[i]? = some (.l c xs)) (nb : NoBx Γ i) (hs : HS t (Γ.set i (.d (cList c) xs)) k p) : HS t Γ k p := fun O n σ Hf H hn S D q1 q2 q3 q4 => by
  obtain ⟨a, vs, h1, h2, h3, _, _, rp, S'⟩ := S.freeze h
  have bk := bxKeep_set (s := .d (cList c) xs) nb
  exact hs O n σ _ H hn S' D (fun _ _ _ _ a f => q1 _ _ _ _ a ⟨f.sat, bk.trans f.bx, (Ex.new h3).trans f.ex⟩) (fun _ _ _ _ a f => q2 _ _ _ _ a ⟨f.sat, bk.trans f.bx, (Ex.new h3).trans f.ex⟩)
    (fun _ _ _ _ a f => q3 _ _ _ _ a ⟨f.sat, bk.trans f.bx, (Ex.new h3).trans f.ex⟩) fun _ _ _ _ _ _ a r f => q4 _ _ _ _ _ _ a r ⟨f.sat, bk.trans f.bx, (Ex.new h3).trans f.ex⟩
theorem hs_set {i : Nat} (h : TD te Γ k c P) (nb : NoBx Γ i) (hp : ∀ x, P x → p.N (Γ.set i (.d c x))) : HS (tAsg te (gName i)) Γ k p := fun O n σ Hf H hn S D q1 _ _ _ =>
  h O n σ Hf H hn S _ fun v Hf' H' x px r f s => q1 _ Hf' H' _ (hp x px) ⟨s.set r, bxKeep_set nb, f.ex⟩
theorem hs_drop (h : TD te Γ k c P) (hp : p.N Γ) : HS (tDrop te) Γ k p := fun O n σ Hf H hn S D q1 _ _ _ =>
  h O n σ Hf H hn S _ fun v Hf' H' x px r f s => q1 _ Hf' H' _ hp ⟨s, .refl, f.ex⟩
end
end DL

set_option Elab.async false
set_option linter.all false
set_option maxRecDepth 100000
set_option maxHeartbeats 2000000
namespace DL
open PySem PySem.Spec L2
/-! ### what is walked -/
structure Walks {α : Type} (J : It) (Hf : Hp) (c : Cod α) (xs : List α) : Prop where
  go : ∀ (Hf' H' : Hp) (i : Nat), Ex Hf Hf' → Ex Hf' H' → i < xs.length → J.go i H'
  stop : ∀ (Hf' H' : Hp), Ex Hf Hf' → Ex Hf' H' → J.stop xs.length H'
  yld : ∀ (Hf' H' : Hp) (i : Nat) (v : V) (H1 : Hp) (x : α), Ex Hf Hf' → Ex Hf' H' → J.yld i H' v H1 → xs[i]? = some x → ∃ Hf1, c.rep Hf1 v x ∧ Fr (fun _ => False) Hf' H' Hf1 H1 ∧ Ex Hf1 H1
def TW {α : Type} (wi : TI) (Γ : Ctxt) (k : Nat) (c : Cod α) (X : List α → Prop) : Prop :=
  ∀ (O : Org) (n : Nat) (σ : Stt) (Hf H : Hp), n + k ≤ LIM → Sat O Hf H σ Γ n → ∀ R : It → Hp → Prop,
    (∀ J Hf' H' xs, X xs → Walks J Hf' c xs → xs.length ≤ LB → Fr (Bx Γ) Hf H Hf' H' → Sat O Hf' H' σ Γ (n + k) → R J H') → wi σ H R
/-- a target takes a value -/
def GD {α : Type} (g : TG) (c : Cod α) (x : α) (Γ Γ' : Ctxt) (is : List Nat) : Prop :=
  BxKeep Γ Γ' ∧ (∀ a, Bx Γ' a → Bx Γ a) ∧ ∀ (O : Org) (n : Nat) (σ : Stt) (Hf H : Hp) (v : V), c.rep Hf v x → Sat O Hf H σ Γ n → ∀ Q : Stt → Hp → Prop,
    (∀ σ', Sat O Hf H σ' Γ' n → (∀ vs : List Nat, (∀ i ∈ is, i ∈ vs) → wipe σ' vs = wipe σ vs) → Q σ' H) → g v σ H Q
theorem wipe_in {σ : Stt} {j : Nat} : ∀ {vs : List Nat}, j ∈ vs → (wipe σ vs)[j]? = if j < σ.length then some none else none
  | [], h => nomatch h
  | w :: ws, h => by
    unfold wipe
    by_cases e : w = j
    · subst e
      by_cases hl : w < σ.length
      · rw [List.getElem?_set_self (by rw [wipe_length]; exact hl), if_pos hl]
      · rw [if_neg hl, List.getElem?_eq_none (by rw [List.length_set, wipe_length]; omega)]
    · rw [List.getElem?_set_ne e]
      exact wipe_in (List.mem_of_ne_of_mem (Ne.symm e) h)
theorem wipe_set {σ : Stt} {i : Nat} {v : Option V} {vs : List Nat} (h : i ∈ vs) : wipe (σ.set i v) vs = wipe σ vs := by
  apply List.ext_getElem?
  intro j
  by_cases hj : j ∈ vs
  · rw [wipe_in hj, wipe_in hj, List.length_set]
  · rw [wipe_out hj, wipe_out hj, List.getElem?_set_ne (fun e => hj (by rw [← e]; exact h))]
theorem boxLt {Γ : Ctxt} {i : Nat} {c : Type} {d : Cod c} {x : c} {a : Addr} (h : Bx (Γ.set i (.d d x)) a) : Bx Γ a := by
  obtain ⟨j, h⟩ := h
  rcases sget h with ⟨_, z⟩ | ⟨_, z⟩
  · cases z
  · exact ⟨j, z⟩
section
variable {Γ Γ1 Γ2 Γ3 : Ctxt} {k k1 k2 k3 kk : Nat} {α β γ ρ : Type} {c : Cod α} {c' : Cod β} {c1 : Cod α} {c2 : Cod β} {c3 : Cod γ} {P : α → Prop} {te : TE} {tt : TT} {t u : TS} {p : Po ρ} {N N' : Ctxt → Prop} {ta : TA} {wi : TI} {g g1 g2 g3 : TG}
theorem gd_name {i : Nat} {x : α} (nb : NoBx Γ i) : GD (gName i) c x Γ (Γ.set i (.d c x)) [i] :=
  ⟨bxKeep_set nb, fun a h => boxLt h, fun O n σ Hf H v r S Q q => q _ (S.set r) fun vs hi => wipe_set (hi i (by simp))⟩
theorem gd_t2 {K : PySem.W.Frag} {x : α × β} {is js : List Nat} (h1 : GD g1 c1 x.1 Γ Γ1 is) (h2 : GD g2 c2 x.2 Γ1 Γ2 js) : GD (gTup K 2 (gCons g1 (gCons g2 gNil))) (cT2 c1 c2) x Γ Γ2 (is ++ js) := by
  obtain ⟨b1, d1, h1⟩ := h1
  obtain ⟨b2, d2, h2⟩ := h2
  refine ⟨b1.trans b2, fun a h => d1 a (d2 a h), fun O n σ Hf H v r S Q q => ?_⟩
  obtain ⟨a, u, w, e1, e2, r1, r2⟩ := r
  refine ⟨a, [u, w], e1, SqT.of (S.ex _ _ e2), rfl, u, [w], rfl, h1 O n σ Hf H u r1 S _ fun σ1 S1 w1 => ⟨w, [], rfl, h2 O n σ1 Hf H w r2 S1 _ fun σ2 S2 w2 => ⟨rfl, q σ2 S2 fun vs hi => ?_⟩⟩⟩
  rw [w2 vs fun i m => hi i (List.mem_append_right _ m), w1 vs fun i m => hi i (List.mem_append_left _ m)]
theorem gd_t3 {K : PySem.W.Frag} {x : α × β × γ} {is js ls : List Nat} (h1 : GD g1 c1 x.1 Γ Γ1 is) (h2 : GD g2 c2 x.2.1 Γ1 Γ2 js) (h3 : GD g3 c3 x.2.2 Γ2 Γ3 ls) : GD (gTup K 3 (gCons g1 (gCons g2 (gCons g3 gNil)))) (cT3 c1 c2 c3) x Γ Γ3 (is ++ js ++ ls) := by
  obtain ⟨b1, d1, h1⟩ := h1
  obtain ⟨b2, d2, h2⟩ := h2
  obtain ⟨b3, d3, h3⟩ := h3
  refine ⟨(b1.trans b2).trans b3, fun a h => d1 a (d2 a (d3 a h)), fun O n σ Hf H v r S Q q => ?_⟩
  obtain ⟨a, u, w, y, e1, e2, r1, r2, r3⟩ := r
  refine ⟨a, [u, w, y], e1, SqT.of (S.ex _ _ e2), rfl, u, [w, y], rfl, h1 O n σ Hf H u r1 S _ fun σ1 S1 w1 => ⟨w, [y], rfl, h2 O n σ1 Hf H w r2 S1 _ fun σ2 S2 w2 => ⟨y, [], rfl, h3 O n σ2 Hf H y r3 S2 _ fun σ3 S3 w3 => ⟨rfl, q σ3 S3 fun vs hi => ?_⟩⟩⟩⟩
  rw [w3 vs fun i m => hi i (List.mem_append_right _ m), w2 vs fun i m => hi i (List.mem_append_left _ (List.mem_append_right _ m)), w1 vs fun i m => hi i (List.mem_append_left _ (List.mem_append_left _ m))]
/-! ### the walked things -/
theorem paired_get {F : V → α → Prop} : ∀ {vs : List V} {xs : List α} {i : Nat} {v : V} {x : α}, Paired F vs xs → vs[i]? = some v → xs[i]? = some x → F v x
  | _, _, i, v, x, .nil, h, _ => by simp at h
  | _, _, 0, v, x, .cons r _, h1, h2 => by simp at h1 h2; subst h1 h2; exact r
  | _, _, i + 1, v, x, .cons _ t, h1, h2 => paired_get (i := i) t (by simpa using h1) (by simpa using h2)
theorem tw_list {K : PySem.W.Frag} {X : List α → Prop} (h : TD te Γ k (cList c) X) : TW (iList K te) Γ k c X := fun O n σ Hf H hn S R q =>
  h O n σ Hf H hn S _ fun v Hf' H' xs px ⟨a, vs, e, ha, pr, lb⟩ f s => by
    have hl := paired_len pr
    refine ⟨a, e, ⟨vs, SqL.of (s.ex _ _ ha)⟩, q _ Hf' H' xs px ⟨fun Hf2 H2 i e1 e2 hi => ?_, fun Hf2 H2 e1 e2 => ⟨vs, SqL.of (e2 _ _ (e1 _ _ ha)), by omega⟩, fun Hf2 H2 i w H1 x e1 e2 hy hx => ?_⟩ (by omega) f s⟩
    · exact ⟨vs, vs[i]'(by omega), SqL.of (e2 _ _ (e1 _ _ ha)), List.getElem?_eq_getElem (by omega)⟩
    · obtain ⟨rfl, hy⟩ := hy
      exact ⟨Hf2, c.mono e1 (paired_get pr (hy vs (SqL.of (e2 _ _ (e1 _ _ ha)))) hx), Fr.refl, e2⟩
theorem tw_tup {K : PySem.W.Frag} {X : List α → Prop} (h : TD te Γ k (cTup c) X) : TW (iTup K te) Γ k c X := fun O n σ Hf H hn S R q =>
  h O n σ Hf H hn S _ fun v Hf' H' xs px ⟨a, vs, e, ha, pr, lb⟩ f s => by
    have hl := paired_len pr
    refine ⟨a, e, ⟨vs, SqT.of (s.ex _ _ ha)⟩, q _ Hf' H' xs px ⟨fun Hf2 H2 i e1 e2 hi => ?_, fun Hf2 H2 e1 e2 => ⟨vs, SqT.of (e2 _ _ (e1 _ _ ha)), by omega⟩, fun Hf2 H2 i w H1 x e1 e2 hy hx => ?_⟩ (by omega) f s⟩
    · exact ⟨vs, vs[i]'(by omega), SqT.of (e2 _ _ (e1 _ _ ha)), List.getElem?_eq_getElem (by omega)⟩
    · obtain ⟨rfl, hy⟩ := hy
      exact ⟨Hf2, c.mono e1 (paired_get pr (hy vs (SqT.of (e2 _ _ (e1 _ _ ha)))) hx), Fr.refl, e2⟩
/-- the numbers lo, lo + 1, .. -/
def rangeL (lo : Int) (n : Nat) : List Int := (List.range n).map fun (i : Nat) => lo + (i : Int)
theorem rangeL_len {lo : Int} {n : Nat} : (rangeL lo n).length = n := by unfold rangeL; rw [List.length_map, List.length_range]
theorem rangeL_get {lo : Int} {n i : Nat} {x : Int} (h : (rangeL lo n)[i]? = some x) : x = lo + (i : Int) := by
  unfold rangeL at h
  rw [List.getElem?_map] at h
  cases e : (List.range n)[i]? with
  | none => rw [e] at h; cases h
  | some j =>
    rw [e] at h
    have : j = i := by
      rw [List.getElem?_eq_some_iff] at e
      obtain ⟨h1, h2⟩ := e
      rw [List.getElem_range] at h2
      exact h2.symm
    subst this
    exact (Option.some.inj h).symm
theorem walks_r {Hf : Hp} {lo : Int} {n : Nat} : Walks (Itr lo n) Hf cInt (rangeL lo n) where
  go := fun _ _ i _ _ h => by rw [rangeL_len] at h; exact h
  stop := fun _ _ _ _ => by rw [rangeL_len]; exact Nat.le_refl n
  yld := fun Hf' H' i v H1 x e1 e2 hy hx => by
    obtain ⟨rfl, rfl⟩ := hy
    exact ⟨Hf', by rw [rangeL_get hx]; rfl, Fr.refl, e2⟩
theorem tw_range1 {B : Ctxt → Prop} {X : List Int → Prop} (h : TDA ta Γ k B) (hi : ∀ as, B as → ∃ j : Int, as = [.d cInt j] ∧ -4611686018427387904 ≤ j ∧ j ≤ 1000000 ∧ X (rangeL 0 j.toNat)) : TW (iRng1 ta) Γ k cInt X := fun O n σ Hf H hn S R q =>
  h O n σ Hf H hn S _ fun vs Hf' H' as b o _ f s => by
    obtain ⟨j, rfl, l1, l2, x⟩ := hi as b
    cases vs with
    | nil => exact o.elim
    | cons v vs =>
      cases vs with
      | cons _ _ => exact o.2.elim
      | nil =>
        obtain ⟨h1, _⟩ := o
        obtain rfl : v = .int j := h1
        exact ⟨j, rfl, by omega, by omega, q _ Hf' H' _ x walks_r (by rw [rangeL_len]; unfold LB; omega) f s⟩
theorem tw_range2 {B : Ctxt → Prop} {X : List Int → Prop} (h : TDA ta Γ k B) (hi : ∀ as, B as → ∃ i j : Int, as = [.d cInt i, .d cInt j] ∧ -1000000000 ≤ i ∧ i ≤ 1000000000 ∧ -1000000000 ≤ j ∧ j ≤ 1000000000 ∧ j - i ≤ 1000000 ∧ X (rangeL i (j - i).toNat)) : TW (iRng2 ta) Γ k cInt X := fun O n σ Hf H hn S R q =>
  h O n σ Hf H hn S _ fun vs Hf' H' as b o _ f s => by
    obtain ⟨i, j, rfl, l1, l2, l3, l4, l5, x⟩ := hi as b
    match vs, o with
    | [v, w], o =>
      obtain ⟨h1, h2, _⟩ := o
      obtain rfl : v = .int i := h1
      obtain rfl : w = .int j := h2
      exact ⟨i, j, rfl, ⟨by omega, by omega, by omega, by omega⟩, q _ Hf' H' _ x walks_r (by rw [rangeL_len]; unfold LB; omega) f s⟩
/-! ### for -/
theorem take_snoc {l : List α} {i : Nat} {x : α} (h : l[i]? = some x) : l.take (i + 1) = l.take i ++ [x] := by rw [List.take_add_one, h]; rfl
theorem split_at {l : List α} {i : Nat} {x : α} (h : l[i]? = some x) : l = l.take i ++ x :: l.drop (i + 1) := by
  obtain ⟨h1, h2⟩ := List.getElem?_eq_some_iff.mp h
  subst h2
  rw [← List.drop_eq_getElem_cons h1, List.take_append_drop]
theorem hs_for {X : List α → Prop} {kn : Nat} (I : List α → List α → Ctxt → Prop) (hw : TW wi Γ k c X) (h0 : ∀ xs, X xs → I xs [] Γ) (hk : ∀ xs, X xs → xs.length * kk ≤ kn)
    (hs : ∀ xs, X xs → ∀ pre x post Γ1, xs = pre ++ x :: post → I xs pre Γ1 → ∃ Γ2 is, GD g c x Γ1 Γ2 is ∧ HS t Γ2 kk { N := I xs (pre ++ [x]), ct := I xs (pre ++ [x]), bk := p.N, c := p.c, R := p.R })
    (hd : ∀ xs Γ1, X xs → I xs xs Γ1 → p.N Γ1) : HS (tFor wi g t) Γ (k + kn) p := fun O n σ Hf H hn S D q1 q2 q3 q4 =>
  hw O n σ Hf H (by omega) S _ fun J Hf1 H1 xs px W lb f1 S1 => by
    have hk' := hk xs px
    have kle : ∀ i, i ≤ xs.length → i * kk ≤ kn := fun i hi => Nat.le_trans (Nat.mul_le_mul_right kk hi) hk'
    refine ⟨fun i m σ' H' => m = xs.length - i ∧ i ≤ xs.length ∧ ∃ Γ1 Hfi, I xs (xs.take i) Γ1 ∧ Fin O Γ Hf1 Hfi H' σ' Γ1 (n + k + i * kk),
      ⟨xs.length, by simp, Nat.zero_le _, Γ, Hf1, by rw [List.take_zero]; exact h0 xs px, by rw [Nat.zero_mul]; exact S1, .refl, Ex.rfl'⟩, ?_⟩
    rintro i m σ' H' ⟨rfl, hi, Γ1, Hfi, hI, F⟩
    have hki := kle i hi
    by_cases hlt : i < xs.length
    · have hx : xs[i]? = some xs[i] := List.getElem?_eq_getElem hlt
      have hki1 := kle (i + 1) hlt
      rw [Nat.succ_mul] at hki1
      refine .inr ⟨W.go Hfi H' i F.ex F.sat.ex hlt, fun σ2 H2 => ∃ Γ2 Hf2, I xs (xs.take (i + 1)) Γ2 ∧ Fin O Γ Hf1 Hf2 H2 σ2 Γ2 (n + k + (i + 1) * kk), fun σ2 H2 ⟨Γ2, Hf2, a, b⟩ => ⟨xs.length - (i + 1), by omega, rfl, hlt, Γ2, Hf2, a, b⟩, fun v H2 hy => ?_⟩
      obtain ⟨Hf2, rx, fy, ey⟩ := W.yld Hfi H' i v H2 _ F.ex F.sat.ex hy hx
      have S2 : Sat O Hf2 H2 σ' Γ1 (n + k + i * kk) := F.sat.grow0 fy ey
      obtain ⟨Γ2, is, gd, hb⟩ := hs xs px (xs.take i) xs[i] (xs.drop (i + 1)) Γ1 (split_at hx) hI
      have en : n + k + i * kk + kk = n + k + (i + 1) * kk := by rw [Nat.succ_mul]; omega
      refine gd.2.2 O _ σ' Hf2 H2 v rx S2 _ fun σ3 S3 _ => ?_
      have up : ∀ {σ4 : Stt} {Hf4 H4 : Hp} {Γ4 : Ctxt}, Fin O Γ2 Hf2 Hf4 H4 σ4 Γ4 (n + k + i * kk + kk) → Fin O Γ Hf1 Hf4 H4 σ4 Γ4 (n + k + (i + 1) * kk) := fun {σ4 Hf4 H4 Γ4} f => ⟨by rw [← en]; exact f.sat, (F.bx.trans gd.1).trans f.bx, (F.ex.trans fy.ex).trans f.ex⟩
      have up2 : ∀ {σ4 : Stt} {Hf4 H4 : Hp} {Γ4 : Ctxt}, Fin O Γ2 Hf2 Hf4 H4 σ4 Γ4 (n + k + i * kk + kk) → Fin O Γ Hf Hf4 H4 σ4 Γ4 (n + (k + kn)) := fun {σ4 Hf4 H4 Γ4} f => ⟨(up f).sat.le (by rw [Nat.succ_mul]; omega), (up f).bx, f1.ex.trans (up f).ex⟩
      refine hb O _ σ3 Hf2 H2 (by omega) S3 _ (fun σ4 Hf4 H4 Γ4 a f => ⟨Γ4, Hf4, by rw [take_snoc hx]; exact a, up f⟩) (fun σ4 Hf4 H4 Γ4 a f => q1 σ4 Hf4 H4 Γ4 a (up2 f)) (fun σ4 Hf4 H4 Γ4 a f => ⟨Γ4, Hf4, by rw [take_snoc hx]; exact a, up f⟩) (fun v4 σ4 Hf4 H4 Γ4 y a r f => q4 v4 σ4 Hf4 H4 Γ4 y a r (up2 f))
    · have e : i = xs.length := by omega
      subst e
      rw [List.take_length] at hI
      exact .inl ⟨W.stop Hfi H' F.ex F.sat.ex, q1 σ' Hfi H' Γ1 (hd xs Γ1 px hI) ⟨F.sat.le (by omega), F.bx, f1.ex.trans F.ex⟩⟩
end
end DL

set_option Elab.async false
set_option linter.all false
set_option maxRecDepth 100000
set_option maxHeartbeats 2000000
namespace DL
open PySem PySem.Spec L2
/-- a new list that nobody else has -/
def TDF {α : Type} (te : TE) (Γ : Ctxt) (k : Nat) (c : Cod α) (P : List α → Prop) : Prop :=
  ∀ (O : Org) (n : Nat) (σ : Stt) (Hf H : Hp), n + k ≤ LIM → Sat O Hf H σ Γ n → ∀ Q : VK,
    (∀ a vs Hf' H' xs, P xs → H' a = some (.lst vs) → Hf' a = none → H a = none → Paired (c.rep Hf') vs xs → vs.length ≤ LB → Fr (Bx Γ) Hf H Hf' H' → Sat O Hf' H' σ Γ (n + k) → Q (.ref a) H') → te σ H Q
section
variable {Γ Γ1 Γ2 Γ3 : Ctxt} {k k1 k2 k3 kk kt ke : Nat} {α β γ ρ : Type} {c : Cod α} {c' : Cod β} {c1 : Cod α} {c2 : Cod β} {c3 : Cod γ} {P : α → Prop} {te to : TE} {tt : TT} {t u : TS} {p : Po ρ} {N N' : Ctxt → Prop} {ta tx : TA} {wi : TI} {g g1 g2 g3 : TG}
variable {O : Org} {Hf H Hf' H' : Hp} {σ : Stt} {n m : Nat}
/-- an object of one's own becomes one that stays -/
theorem Fr.fix {M : Addr → Prop} {Hf H Hf' H' : Hp} {a : Addr} {o : HO} (f : Fr M Hf H Hf' H') (h0 : H a = none) (h1 : Hf' a = none) (h2 : H' a = some o) : Fr M Hf H (upd Hf' a o) H' where
  ex := f.ex.trans (Ex.new h1)
  keep := f.keep
  fz := fun b u e nm z => by rw [upd_ne (ne_of_none e h0)]; exact f.fz b u e nm z
  dom := f.dom
theorem Ex.fix {Hf H : Hp} {a : Addr} {o : HO} (e : Ex Hf H) (h : H a = some o) : Ex (upd Hf a o) H := fun b u q => by
  by_cases z : b = a
  · subst z; rw [upd_same] at q; cases q; exact h
  · rw [upd_ne z] at q; exact e b u q
theorem TDF.td {R : List α → Prop} (h : TDF te Γ k c R) : TD te Γ k (cList c) R := fun O n σ Hf H hn S Q q =>
  h O n σ Hf H hn S Q fun a vs Hf' H' xs p1 h1 h2 h3 pr lb f s => by
    have e1 : Ex Hf' (upd Hf' a (.lst vs)) := Ex.new h2
    refine q _ (upd Hf' a (.lst vs)) H' xs p1 ⟨a, vs, rfl, upd_same, paired_mono pr (fun _ _ z => c.mono e1 z), lb⟩ (f.fix h3 h2 h1) ?_
    have fr := f.fix h3 h2 h1
    refine S.grow fr (s.ex.fix h1) fun b hb => ?_
    obtain ⟨i, hi⟩ := hb
    obtain ⟨g1, g2, g3⟩ := s.at_ i _ hi
    refine ⟨?_, g3⟩
    have nb : b ≠ a := fun z => by
      subst z
      obtain ⟨_, _, z3⟩ := S.at_ i _ hi
      obtain ⟨_, _, _, _, z4, _⟩ := z3
      rw [h3] at z4; cases z4
    rw [upd_ne nb]; exact g2
theorem TDF.imp {R R' : List α → Prop} (h : TDF te Γ k c R) (hp : ∀ x, R x → R' x) : TDF te Γ k c R' := fun O n σ Hf H hn S Q q => h O n σ Hf H hn S Q fun a vs Hf' H' xs p1 => q a vs Hf' H' xs (hp xs p1)
theorem TDF.le {R : List α → Prop} (h : TDF te Γ k c R) (l : k ≤ k2) : TDF te Γ k2 c R := fun O n σ Hf H hn S Q q => h O n σ Hf H (by omega) S Q fun a vs Hf' H' xs p1 h1 h2 h3 h4 h5 f s => q a vs Hf' H' xs p1 h1 h2 h3 h4 h5 f (s.le (by omega))
theorem tdf_lst {B : Ctxt → Prop} {R : List α → Prop} (h : TDA tx Γ k B) (hi : ∀ as, B as → ∃ xs : List α, as = xs.map (fun x => Sl.d c x) ∧ xs.length ≤ 1000 ∧ R xs) : TDF (tLst tx) Γ k c R := fun O n σ Hf H hn S Q q =>
  h O n σ Hf H hn S _ fun vs Hf1 H1 as b o _ f1 S1 => by
    obtain ⟨xs, e, l, r⟩ := hi as b
    subst e
    have pr := args_items o
    refine ⟨by rw [paired_len pr]; exact Nat.le_trans l (by decide), fun p hp => ?_⟩
    exact q p vs Hf1 (upd H1 p (.lst vs)) xs r upd_same (S1.ex.back hp) (f1.dom p hp) pr (by rw [paired_len pr]; exact Nat.le_trans l (by decide))
      (f1.trans (Fr.newO (M := Bx Γ) hp) fun _ z => .inl z) (S1.grow0 (Fr.newO hp) (S1.ex.trans (Ex.new hp)))
/-! ### comprehensions -/
theorem bx_wipe {vs : List Nat} (h : ∀ i ∈ vs, NoBx Γ i) {a : Addr} : Bx (wipeC Γ vs) a ↔ Bx Γ a := by
  induction vs with
  | nil => exact Iff.rfl
  | cons v vs ih =>
    have ih := ih fun i hi => h i (List.mem_cons_of_mem _ hi)
    have hv := h v List.mem_cons_self
    rw [← ih]
    constructor
    · rintro ⟨j, hj⟩
      unfold wipeC at hj
      rcases sget hj with ⟨_, z⟩ | ⟨_, z⟩
      · cases z
      · exact ⟨j, z⟩
    · rintro ⟨j, hj⟩
      refine ⟨j, ?_⟩
      have ne : v ≠ j := fun z => by
        subst z
        have hj' := hj
        rcases wipe_at (σ := ([] : Stt)) hj' with w | ⟨w, _⟩
        · cases w
        · unfold NoBx at hv; rw [w] at hv; exact hv
      unfold wipeC
      rw [List.getElem?_set_ne ne]; exact hj
theorem wipeC_keep {vs : List Nat} (h : ∀ i ∈ vs, NoBx Γ i) : BxKeep Γ (wipeC Γ vs) := by
  induction vs with
  | nil => exact .refl
  | cons v vs ih =>
    have ih := ih fun i hi => h i (List.mem_cons_of_mem _ hi)
    intro j a hj
    have hv := h v List.mem_cons_self
    have ne : v ≠ j := fun z => by subst z; unfold NoBx at hv; rw [hj] at hv; exact hv
    unfold wipeC
    rw [List.getElem?_set_ne ne]; exact ih j a hj
theorem wipe_wipe {vs : List Nat} : wipe (wipe σ vs) vs = wipe σ vs := by
  apply List.ext_getElem?
  intro j
  by_cases hj : j ∈ vs
  · rw [wipe_in hj, wipe_in hj, wipe_length]
  · rw [wipe_out hj]
theorem tdf_lc {vs : List Nat} {X : List α → Prop} {kn : Nat} (I : List α → List α → List β → Prop) (hw : TW wi Γ k c X) (hv : ∀ i ∈ vs, NoBx Γ i) (h0 : ∀ xs, X xs → I xs [] []) (hk : ∀ xs, X xs → xs.length * (kt + ke) ≤ kn)
    (hs : ∀ xs, X xs → ∀ pre x post ys, xs = pre ++ x :: post → I xs pre ys → ∃ Γ1 is Pt, GD g c x (wipeC Γ vs) Γ1 is ∧ (∀ i ∈ is, i ∈ vs) ∧ TDT tt Γ1 kt Pt ∧
      (Pt true → TD te Γ1 ke c' fun y => I xs (pre ++ [x]) (ys ++ [y])) ∧ (Pt false → I xs (pre ++ [x]) ys)) :
    TDF (tLc wi g tt te vs) Γ (k + kn) c' (fun ys => ∃ xs, X xs ∧ I xs xs ys) := fun O n σ Hf H hn S Q q =>
  hw O n σ Hf H (by omega) S _ fun J Hf1 H1 xs px W lb f1 S1 D hD => by
    have hk' := hk xs px
    have kle : ∀ i, i ≤ xs.length → i * (kt + ke) ≤ kn := fun i hi => Nat.le_trans (Nat.mul_le_mul_right _ hi) hk'
    have hbx : ∀ a, Bx Γ a → a ≠ D := fun a ⟨i, hi⟩ z => by
      subst z
      obtain ⟨_, _, _, _, _, _, e, _⟩ := S1.at_ i _ hi
      rw [hD] at e; cases e
    have bx0 : ∀ a, Bx Γ a → Hf1 a = none ∧ BoxAt H1 a (n + k) := fun a ⟨i, hi⟩ => (S1.at_ i _ hi).2
    refine ⟨fun i m H' => m = xs.length - i ∧ i ≤ xs.length ∧ ∃ Hfi ys acc, I xs (xs.take i) ys ∧ Paired (c'.rep Hfi) acc ys ∧ acc.length ≤ i ∧ H' D = some (.lst acc) ∧ Hfi D = none ∧ Ex Hfi H' ∧ Fr (Bx Γ) Hf1 H1 Hfi H' ∧
        ∀ a, Bx Γ a → Hfi a = none ∧ BoxAt H' a (n + k + i * (kt + ke)),
      ⟨xs.length, by simp, Nat.zero_le _, Hf1, [], [], by rw [List.take_zero]; exact h0 xs px, .nil, Nat.le_refl _, upd_same, S1.ex.back hD, S1.ex.trans (Ex.new hD), Fr.newO hD, fun a ha => ⟨(bx0 a ha).1, by
        rw [Nat.zero_mul]; exact boxAt_ex (bx0 a ha).2 fun o e => by rw [upd_ne (hbx a ha)]; exact e⟩⟩, ?_⟩
    rintro i m H' ⟨rfl, hi, Hfi, ys, acc, hI, pr, al, hDi, hfD, ex, fr, hb⟩
    have Si : Sat O Hfi H' (wipe σ vs) (wipeC Γ vs) (n + k + i * (kt + ke)) := (S1.grow fr ex hb).wipe vs
    by_cases hlt : i < xs.length
    · have hx : xs[i]? = some xs[i] := List.getElem?_eq_getElem hlt
      have hki1 := kle (i + 1) hlt
      have en : n + k + i * (kt + ke) + (kt + ke) = n + k + (i + 1) * (kt + ke) := by rw [Nat.succ_mul]; omega
      refine .inr ⟨W.go Hfi H' i fr.ex ex hlt, fun H2 => ∃ Hfi ys acc, I xs (xs.take (i + 1)) ys ∧ Paired (c'.rep Hfi) acc ys ∧ acc.length ≤ i + 1 ∧ H2 D = some (.lst acc) ∧ Hfi D = none ∧ Ex Hfi H2 ∧ Fr (Bx Γ) Hf1 H1 Hfi H2 ∧
        ∀ a, Bx Γ a → Hfi a = none ∧ BoxAt H2 a (n + k + (i + 1) * (kt + ke)), fun H2 h2 => ⟨xs.length - (i + 1), by omega, rfl, hlt, h2⟩, fun v H2 hy => ?_⟩
      obtain ⟨Hf2, rx, fy, ey⟩ := W.yld Hfi H' i v H2 _ fr.ex ex hy hx
      have S2 : Sat O Hf2 H2 (wipe σ vs) (wipeC Γ vs) (n + k + i * (kt + ke)) := Si.grow0 fy ey
      obtain ⟨Γ1, is, Pt, gd, hin, ht, hT, hF⟩ := hs xs px (xs.take i) xs[i] (xs.drop (i + 1)) ys (split_at hx) hI
      have bx1 : ∀ a, Bx Γ1 a → Bx Γ a := fun a h => (bx_wipe hv).mp (gd.2.1 a h)
      have bx2 : ∀ a, Bx Γ a → Bx Γ1 a := fun a h => by
        obtain ⟨j, hj⟩ := (bx_wipe hv).mpr h
        exact ⟨j, gd.1 j a hj⟩
      have hD2 : H2 D = some (.lst acc) := fy.keep _ _ hDi id
      have hfD2 : Hf2 D = none := fy.fz _ _ hDi id hfD
      refine gd.2.2 O _ _ Hf2 H2 v rx S2 _ fun σ3 S3 w3 => ⟨(w3 vs hin).trans wipe_wipe, ?_⟩
      refine ht O _ σ3 Hf2 H2 (by omega) S3 _ fun b Hf3 H3 pb f3 S3' => ?_
      have nD1 : ¬ Bx Γ1 D := fun z => hbx D (bx1 D z) rfl
      have hD3 : H3 D = some (.lst acc) := f3.keep _ _ hD2 nD1
      have hfD3 : Hf3 D = none := f3.fz _ _ hD2 nD1 hfD2
      have F3 : Fr (Bx Γ) Hf1 H1 Hf3 H3 := (fr.trans fy fun _ z => z.elim).trans f3 fun a z => .inl (bx1 a z)
      cases b with
      | true =>
        rw [if_pos rfl]
        refine hT pb O _ σ3 Hf3 H3 (by omega) S3' _ fun y Hf4 H4 yx py ry f4 S4 => ?_
        have hD4 : H4 D = some (.lst acc) := f4.keep _ _ hD3 nD1
        have hfD4 : Hf4 D = none := f4.fz _ _ hD3 nD1 hfD3
        have F4 : Fr (Bx Γ) Hf1 H1 Hf4 H4 := F3.trans f4 fun a z => .inl (bx1 a z)
        refine ⟨acc, hD4, lb_lt (Nat.le_trans al (Nat.le_trans hi lb)), Hf4, ys ++ [yx], acc ++ [y], by rw [take_snoc hx]; exact py, ?_, by rw [List.length_append, List.length_singleton]; omega, upd_same, hfD4, S4.ex.mut hfD4, ?_, fun a ha => ?_⟩
        · have e4 : Ex Hfi Hf4 := (fy.ex.trans f3.ex).trans f4.ex
          exact Paired.snoc (paired_mono pr fun _ _ z => c'.mono e4 z) ry
        · refine ⟨F4.ex, fun a o e nm => ?_, F4.fz, fun a e => ?_⟩
          · rw [upd_ne (ne_of_none e hD)]; exact F4.keep a o e nm
          · by_cases z : a = D
            · subst z; exact hD
            · rw [upd_ne z] at e; exact F4.dom a e
        · obtain ⟨j, hj⟩ := bx2 a ha
          obtain ⟨_, z1, z2⟩ := S4.at_ j _ hj
          exact ⟨z1, by rw [← en, show n + k + i * (kt + ke) + (kt + ke) = n + k + i * (kt + ke) + kt + ke by omega]; exact boxAt_ex z2 fun o e => by rw [upd_ne (hbx a ha)]; exact e⟩
      | false =>
        rw [if_neg Bool.false_ne_true]
        refine ⟨Hf3, ys, acc, by rw [take_snoc hx]; exact hF pb, paired_mono pr fun _ _ z => c'.mono (fy.ex.trans f3.ex) z, by omega, hD3, hfD3, S3'.ex, F3, fun a ha => ?_⟩
        obtain ⟨j, hj⟩ := bx2 a ha
        obtain ⟨_, z1, z2⟩ := S3'.at_ j _ hj
        exact ⟨z1, boxAt_le z2 (by rw [← en]; omega)⟩
    · have e : i = xs.length := by omega
      subst e
      rw [List.take_length] at hI
      have hkl := kle xs.length (Nat.le_refl _)
      exact .inl ⟨W.stop Hfi H' fr.ex ex, q D acc Hfi H' ys ⟨xs, px, hI⟩ hDi hfD (f1.dom D hD) pr (by omega) (f1.trans fr fun _ z => .inl z) ((S1.grow fr ex hb).le (by omega))⟩
def NoBxs (Γ : Ctxt) : List Nat → Prop
  | [] => True
  | i :: is => match Γ[i]? with
    | some (.bx _) => False
    | _ => NoBxs Γ is
theorem noBxs_mem : ∀ {vs : List Nat}, NoBxs Γ vs → ∀ i ∈ vs, NoBx Γ i
  | [], _, _, h => nomatch h
  | v :: vs, h, i, hi => by
    have hv : NoBx Γ v ∧ NoBxs Γ vs := by
      unfold NoBxs at h
      unfold NoBx
      split at h
      · exact h.elim
      · rename_i z
        refine ⟨?_, h⟩
        first
          | trivial
          | (split
             · rename_i a e; exact z a e
             · trivial)
    rcases List.mem_cons.mp hi with e | e
    · subst e; exact hv.1
    · exact noBxs_mem hv.2 i e
theorem Sat.forget (S : Sat O Hf H σ Γ n) (vs : List Nat) : Sat O Hf H σ (wipeC Γ vs) n :=
  S.weaken (by rw [wipeC_length]; exact S.len) fun i s h => (wipe_at (σ := σ) h).imp id fun q => ⟨q.1, rfl⟩
theorem Fin.forget {σ' : Stt} {Γ' : Ctxt} (f : Fin O Γ Hf Hf' H' σ' Γ' m) (vs : List Nat) (h : NoBxs Γ' vs) : Fin O Γ Hf Hf' H' σ' (wipeC Γ' vs) m := ⟨f.sat.forget vs, f.bx.trans (wipeC_keep (noBxs_mem h)), f.ex⟩
theorem HS.forget (vs : List Nat) (h : HS t Γ k { p with N := N }) (hp : ∀ Γ', N Γ' → NoBxs Γ' vs ∧ N' (wipeC Γ' vs)) : HS t Γ k { p with N := N' } := fun O n σ Hf H hn S D q1 q2 q3 q4 =>
  h O n σ Hf H hn S D (fun σ' Hf' H' Γ' a f => q1 σ' Hf' H' _ (hp Γ' a).2 (f.forget vs (hp Γ' a).1)) q2 q3 q4
theorem tt_yes : TDT tYes Γ 0 (· = true) := fun O n σ Hf H hn S Q q => q true Hf H rfl Fr.refl S
/-- [f x for x in xs if b x], nothing drawn -/
theorem tdf_lc' {vs : List Nat} {xs : List α} (f : α → β) (b : α → Bool) (hw : TW wi Γ k c (· = xs)) (hv : ∀ i ∈ vs, NoBx Γ i)
    (hs : ∀ x, x ∈ xs → ∃ Γ1 is, GD g c x (wipeC Γ vs) Γ1 is ∧ (∀ i ∈ is, i ∈ vs) ∧ TDT tt Γ1 0 (· = b x) ∧ (b x = true → TD te Γ1 0 c' (· = f x))) :
    TDF (tLc wi g tt te vs) Γ k c' (· = (xs.filter b).map f) :=
  ((tdf_lc (kt := 0) (ke := 0) (kn := 0) (fun _ pre ys => ys = (pre.filter b).map f) hw hv (fun _ _ => rfl) (fun xs _ => by simp) fun xs' e pre x post ys hxs hI => by
    subst e
    obtain ⟨Γ1, is, h1, h2, h3, h4⟩ := hs x (by rw [hxs]; simp)
    refine ⟨Γ1, is, _, h1, h2, h3, fun e => (h4 e.symm).imp fun y hy => ?_, fun e => ?_⟩
    · rw [hI, hy, List.filter_append, List.map_append]; congr 1; simp [← e]
    · rw [hI, List.filter_append, List.map_append]; simp [← e]).imp fun ys ⟨xs', e, h⟩ => by subst e; exact h).le (by omega)
theorem tdf_lcm {vs : List Nat} {xs : List α} (f : α → β) (hw : TW wi Γ k c (· = xs)) (hv : ∀ i ∈ vs, NoBx Γ i)
    (hs : ∀ x, x ∈ xs → ∃ Γ1 is, GD g c x (wipeC Γ vs) Γ1 is ∧ (∀ i ∈ is, i ∈ vs) ∧ TD te Γ1 0 c' (· = f x)) :
    TDF (tLc wi g tYes te vs) Γ k c' (· = xs.map f) :=
  (tdf_lc' f (fun _ => true) hw hv fun x hx => by
    obtain ⟨Γ1, is, h1, h2, h3⟩ := hs x hx
    exact ⟨Γ1, is, h1, h2, tt_yes, fun _ => h3⟩).imp fun ys e => by rw [e]; congr 1; simp
end
end DL

set_option Elab.async false
set_option linter.all false
set_option maxRecDepth 100000
set_option maxHeartbeats 2000000
namespace DL
open PySem PySem.Spec L2
section
variable {Γ Γ1 Γ2 Γ3 : Ctxt} {k k1 k2 k3 kk kt ke : Nat} {α β γ ρ : Type} {c : Cod α} {c' : Cod β} {c1 : Cod α} {c2 : Cod β} {c3 : Cod γ} {P : α → Prop} {te to ti : TE} {tt : TT} {t u : TS} {p : Po ρ} {N N' : Ctxt → Prop} {ta tx : TA} {wi : TI} {g g1 g2 g3 : TG}
variable {O : Org} {Hf H Hf' H' : Hp} {σ : Stt} {n m : Nat}
/-! ### lists of one's own -/
/-- a slot takes a new list that nobody else has -/
theorem Sat.setL (S : Sat O Hf H σ Γ n) {i : Nat} {c : Cod α} {xs : List α} {a : Addr} {vs : List V} (h1 : H a = some (.lst vs)) (h2 : Hf a = none) (pr : Paired (c.rep Hf) vs xs) (lb : vs.length ≤ LB)
    (h3 : ∀ (j : Nat) s, j ≠ i → Γ[j]? = some s → s.own = true → σ[j]? ≠ some (some (V.ref a))) (h4 : O.M a ∨ O.H a = none) : Sat O Hf H (σ.set i (some (.ref a))) (Γ.set i (.l c xs)) n where
  len := by rw [List.length_set, List.length_set]; exact S.len
  ex := S.ex
  at_ := fun j s h => by
    have lt : j < σ.length := by
      have := (List.getElem?_eq_some_iff.mp h).1
      rw [List.length_set] at this
      rw [S.len]; exact this
    rcases sget h with ⟨e, e2⟩ | ⟨e, hh⟩
    · subst e e2
      exact ⟨a, vs, List.getElem?_set_self lt, h1, h2, pr, lb⟩
    · rw [List.getElem?_set_ne (Ne.symm e)]
      exact S.at_ j s hh
  sep := fun j l sj sl b ne g1 g2 o1 o2 e => by
    rcases sget g1 with ⟨z, z2⟩ | ⟨n1, g1'⟩
    · subst z
      rcases sget g2 with ⟨w, _⟩ | ⟨n2, g2⟩
      · exact absurd w.symm ne
      have lt : j < σ.length := by
        have := (List.getElem?_eq_some_iff.mp e).1
        rw [List.length_set] at this; exact this
      rw [List.getElem?_set_self lt] at e
      injection e with e; injection e with e; injection e with e
      subst e
      rw [List.getElem?_set_ne (Ne.symm n2)]
      exact h3 l sl n2 g2 o2
    · rw [List.getElem?_set_ne (Ne.symm n1)] at e
      rcases sget g2 with ⟨w, _⟩ | ⟨n2, g2⟩
      · subst w
        intro e'
        by_cases lt : l < σ.length
        · rw [List.getElem?_set_self lt] at e'
          injection e' with e'; injection e' with e'; injection e' with e'
          subst e'
          exact h3 j sj n1 g1' o1 e
        · rw [List.getElem?_eq_none (by rw [List.length_set]; omega)] at e'; cases e'
      · rw [List.getElem?_set_ne (Ne.symm n2)]
        exact S.sep j l sj sl b ne g1' g2 o1 o2 e
  fr := S.fr
  mine := fun b ⟨j, s, g1, g2, g3⟩ => by
    rcases sget g1 with ⟨z, z2⟩ | ⟨n1, g1⟩
    · subst z
      have lt : j < σ.length := by
        have := (List.getElem?_eq_some_iff.mp g3).1
        rw [List.length_set] at this; exact this
      rw [List.getElem?_set_self lt] at g3
      injection g3 with e; injection e with e; injection e with e
      subst e
      exact h4
    · rw [List.getElem?_set_ne (Ne.symm n1)] at g3
      exact S.mine b ⟨j, s, g1, g2, g3⟩
theorem Sat.setR (S : Sat O Hf H σ Γ n) {i : Nat} {p : OP} {a : Addr} {o : HO} (h1 : H a = some o) (h2 : Hf a = none) (hp : p.φ Hf a o)
    (h3 : ∀ (j : Nat) s, j ≠ i → Γ[j]? = some s → s.own = true → σ[j]? ≠ some (some (V.ref a))) (h4 : O.M a ∨ O.H a = none) : Sat O Hf H (σ.set i (some (.ref a))) (Γ.set i (.r p)) n where
  len := by rw [List.length_set, List.length_set]; exact S.len
  ex := S.ex
  at_ := fun j s h => by
    have lt : j < σ.length := by
      have := (List.getElem?_eq_some_iff.mp h).1
      rw [List.length_set] at this
      rw [S.len]; exact this
    rcases sget h with ⟨e, e2⟩ | ⟨e, hh⟩
    · subst e e2
      exact ⟨a, o, List.getElem?_set_self lt, h1, h2, hp⟩
    · rw [List.getElem?_set_ne (Ne.symm e)]
      exact S.at_ j s hh
  sep := fun j l sj sl b ne g1 g2 o1 o2 e => by
    rcases sget g1 with ⟨z, z2⟩ | ⟨n1, g1'⟩
    · subst z
      rcases sget g2 with ⟨w, _⟩ | ⟨n2, g2⟩
      · exact absurd w.symm ne
      have lt : j < σ.length := by
        have := (List.getElem?_eq_some_iff.mp e).1
        rw [List.length_set] at this; exact this
      rw [List.getElem?_set_self lt] at e
      injection e with e; injection e with e; injection e with e
      subst e
      rw [List.getElem?_set_ne (Ne.symm n2)]
      exact h3 l sl n2 g2 o2
    · rw [List.getElem?_set_ne (Ne.symm n1)] at e
      rcases sget g2 with ⟨w, _⟩ | ⟨n2, g2⟩
      · subst w
        intro e'
        by_cases lt : l < σ.length
        · rw [List.getElem?_set_self lt] at e'
          injection e' with e'; injection e' with e'; injection e' with e'
          subst e'
          exact h3 j sj n1 g1' o1 e
        · rw [List.getElem?_eq_none (by rw [List.length_set]; omega)] at e'; cases e'
      · rw [List.getElem?_set_ne (Ne.symm n2)]
        exact S.sep j l sj sl b ne g1' g2 o1 o2 e
  fr := S.fr
  mine := fun b ⟨j, s, g1, g2, g3⟩ => by
    rcases sget g1 with ⟨z, z2⟩ | ⟨n1, g1⟩
    · subst z
      have lt : j < σ.length := by
        have := (List.getElem?_eq_some_iff.mp g3).1
        rw [List.length_set] at this; exact this
      rw [List.getElem?_set_self lt] at g3
      injection g3 with e; injection e with e; injection e with e
      subst e
      exact h4
    · rw [List.getElem?_set_ne (Ne.symm n1)] at g3
      exact S.mine b ⟨j, s, g1, g2, g3⟩
theorem hs_setL {i : Nat} {R : List α → Prop} (h : TDF te Γ k c R) (nb : NoBx Γ i) (hp : ∀ xs, R xs → p.N (Γ.set i (.l c xs))) : HS (tAsg te (gName i)) Γ k p := fun O n σ Hf H hn S D q1 _ _ _ =>
  h O n σ Hf H hn S _ fun a vs Hf' H' xs rx h1 h2 h3 pr lb f s => q1 _ Hf' H' _ (hp xs rx) ⟨s.setL h1 h2 pr lb (fun j sl ne hj ho e => by
    obtain ⟨w1, o, w2⟩ := S.ownAt (a := a) ⟨j, sl, hj, ho, e⟩
    rw [h3] at w2; cases w2) (.inr (S.fr.dom a h3)), bxKeep_set nb, f.ex⟩
/-- the list in a slot is written -/
theorem Sat.wr (S : Sat O Hf H σ Γ n) {i : Nat} {c0 : Cod β} {zs : List β} (h : Γ[i]? = some (.l c0 zs)) {a : Addr} (e : σ[i]? = some (some (V.ref a))) {c : Cod α} {xs : List α} {vs : List V} (pr : Paired (c.rep Hf) vs xs) (lb : vs.length ≤ LB) :
    Sat O Hf (upd H a (.lst vs)) σ (Γ.set i (.l c xs)) n := by
  obtain ⟨a', vs', g1, g2, g3, g4, g5⟩ := S.at_ i _ h
  rw [e] at g1
  injection g1 with g1; injection g1 with g1; injection g1 with g1
  subst g1
  have oth : ∀ (j : Nat) s, j ≠ i → Γ[j]? = some s → s.own = true → σ[j]? ≠ some (some (V.ref a)) := fun j s ne hs o => S.sep i j _ s a (Ne.symm ne) h hs rfl o e
  refine ⟨by rw [List.length_set]; exact S.len, S.ex.mut g3, fun j s hs => ?_, fun j l sj sl b ne q1 q2 o1 o2 ee => ?_, ?_, fun b ⟨j, s, q1, q2, q3⟩ => ?_⟩
  · rcases sget hs with ⟨z, z2⟩ | ⟨ne, hs⟩
    · subst z z2
      exact ⟨a, vs, e, upd_same, g3, pr, lb⟩
    · have q := S.at_ j s hs
      cases s with
      | un => trivial
      | d c' x => exact q
      | l c' ys =>
        obtain ⟨a', vs', w1, w2, w3, w4, w5⟩ := q
        have nea : a' ≠ a := fun z => by subst z; exact oth j _ ne hs rfl w1
        exact ⟨a', vs', w1, by rw [upd_ne nea]; exact w2, w3, w4, w5⟩
      | bx b =>
        obtain ⟨w1, w2, w3⟩ := q
        have nea : b ≠ a := fun z => by subst z; exact oth j _ ne hs rfl w1
        exact ⟨w1, w2, boxAt_ex w3 fun o r => by rw [upd_ne nea]; exact r⟩
      | r p =>
        obtain ⟨a', o', w1, w2, w3, w4⟩ := q
        have nea : a' ≠ a := fun z => by subst z; exact oth j _ ne hs rfl w1
        exact ⟨a', o', w1, by rw [upd_ne nea]; exact w2, w3, w4⟩
  · have k1 : ∃ s, Γ[j]? = some s ∧ s.own = true := by
      rcases sget q1 with ⟨z, _⟩ | ⟨_, z⟩
      · subst z; exact ⟨_, h, rfl⟩
      · exact ⟨_, z, o1⟩
    have k2 : ∃ s, Γ[l]? = some s ∧ s.own = true := by
      rcases sget q2 with ⟨z, _⟩ | ⟨_, z⟩
      · subst z; exact ⟨_, h, rfl⟩
      · exact ⟨_, z, o2⟩
    obtain ⟨s1, y1, y2⟩ := k1
    obtain ⟨s2, y3, y4⟩ := k2
    exact S.sep j l s1 s2 b ne y1 y3 y2 y4 ee
  · have mine : O.M a ∨ O.H a = none := S.mine a ⟨i, _, h, rfl, e⟩
    refine ⟨S.fr.ex, fun b o q nm => ?_, S.fr.fz, fun b q => ?_⟩
    · have nb : b ≠ a := fun z => by
        subst z
        rcases mine with w | w
        · exact nm w
        · rw [w] at q; cases q
      rw [upd_ne nb]; exact S.fr.keep b o q nm
    · by_cases z : b = a
      · subst z; rw [upd_same] at q; cases q
      · rw [upd_ne z] at q; exact S.fr.dom b q
  · rcases sget q1 with ⟨z, _⟩ | ⟨_, z⟩
    · subst z
      exact S.mine b ⟨j, _, h, rfl, q3⟩
    · exact S.mine b ⟨j, s, z, q2, q3⟩
theorem Sat.wrR (S : Sat O Hf H σ Γ n) {i : Nat} {p0 : OP} (h : Γ[i]? = some (.r p0)) {a : Addr} (e : σ[i]? = some (some (V.ref a))) {p : OP} {o : HO} (hp : p.φ Hf a o) :
    Sat O Hf (upd H a o) σ (Γ.set i (.r p)) n := by
  obtain ⟨a', o', g1, g2, g3, g4⟩ := S.at_ i _ h
  rw [e] at g1
  injection g1 with g1; injection g1 with g1; injection g1 with g1
  subst g1
  have oth : ∀ (j : Nat) s, j ≠ i → Γ[j]? = some s → s.own = true → σ[j]? ≠ some (some (V.ref a)) := fun j s ne hs o => S.sep i j _ s a (Ne.symm ne) h hs rfl o e
  refine ⟨by rw [List.length_set]; exact S.len, S.ex.mut g3, fun j s hs => ?_, fun j l sj sl b ne q1 q2 o1 o2 ee => ?_, ?_, fun b ⟨j, s, q1, q2, q3⟩ => ?_⟩
  · rcases sget hs with ⟨z, z2⟩ | ⟨ne, hs⟩
    · subst z z2
      exact ⟨a, o, e, upd_same, g3, hp⟩
    · have q := S.at_ j s hs
      cases s with
      | un => trivial
      | d c' x => exact q
      | l c' ys =>
        obtain ⟨a', vs', w1, w2, w3, w4, w5⟩ := q
        have nea : a' ≠ a := fun z => by subst z; exact oth j _ ne hs rfl w1
        exact ⟨a', vs', w1, by rw [upd_ne nea]; exact w2, w3, w4, w5⟩
      | bx b =>
        obtain ⟨w1, w2, w3⟩ := q
        have nea : b ≠ a := fun z => by subst z; exact oth j _ ne hs rfl w1
        exact ⟨w1, w2, boxAt_ex w3 fun o r => by rw [upd_ne nea]; exact r⟩
      | r p =>
        obtain ⟨a', o', w1, w2, w3, w4⟩ := q
        have nea : a' ≠ a := fun z => by subst z; exact oth j _ ne hs rfl w1
        exact ⟨a', o', w1, by rw [upd_ne nea]; exact w2, w3, w4⟩
  · have k1 : ∃ s, Γ[j]? = some s ∧ s.own = true := by
      rcases sget q1 with ⟨z, _⟩ | ⟨_, z⟩
      · subst z; exact ⟨_, h, rfl⟩
      · exact ⟨_, z, o1⟩
    have k2 : ∃ s, Γ[l]? = some s ∧ s.own = true := by
      rcases sget q2 with ⟨z, _⟩ | ⟨_, z⟩
      · subst z; exact ⟨_, h, rfl⟩
      · exact ⟨_, z, o2⟩
    obtain ⟨s1, y1, y2⟩ := k1
    obtain ⟨s2, y3, y4⟩ := k2
    exact S.sep j l s1 s2 b ne y1 y3 y2 y4 ee
  · have mine : O.M a ∨ O.H a = none := S.mine a ⟨i, _, h, rfl, e⟩
    refine ⟨S.fr.ex, fun b o q nm => ?_, S.fr.fz, fun b q => ?_⟩
    · have nb : b ≠ a := fun z => by
        subst z
        rcases mine with w | w
        · exact nm w
        · rw [w] at q; cases q
      rw [upd_ne nb]; exact S.fr.keep b o q nm
    · by_cases z : b = a
      · subst z; rw [upd_same] at q; cases q
      · rw [upd_ne z] at q; exact S.fr.dom b q
  · rcases sget q1 with ⟨z, _⟩ | ⟨_, z⟩
    · subst z
      exact S.mine b ⟨j, _, h, rfl, q3⟩
    · exact S.mine b ⟨j, s, z, q2, q3⟩
/-- x.append(e) -/
theorem hs_append {K : PySem.W.Frag} {i : Nat} {xs : List α} (h : Γ[i]? = some (.l c xs)) (nb : NoBx Γ i) (he : TD te Γ k c P) (lb : xs.length + 1 ≤ LB) (hp : ∀ y, P y → p.N (Γ.set i (.l c (xs ++ [y])))) :
    HS (tDrop (tBM K "list" rAppend (tVar i) (tCons te tNil))) Γ k p := fun O n σ Hf H hn S D q1 _ _ _ => by
  obtain ⟨a, vs, h1, h2, h3, h4, h5⟩ := S.at_ i _ h
  refine ⟨.ref a, h1, .inl ⟨rfl, vs, SqL.of h2⟩, ?_⟩
  refine he O n σ Hf H hn S _ fun v Hf' H' y py ry f s => ?_
  obtain ⟨a', vs', w1, w2, w3, w4, w5⟩ := s.at_ i _ h
  rw [h1] at w1
  injection w1 with w1; injection w1 with w1; injection w1 with w1
  subst w1
  have hl := paired_len w4
  refine ⟨a, vs', v, rfl, rfl, w2, lb_lt w5, ?_⟩
  exact q1 σ Hf' _ _ (hp y py) ⟨s.wr h h1 (Paired.snoc w4 ry) (by rw [List.length_append, List.length_singleton]; omega), bxKeep_set nb, f.ex⟩
theorem paired_set {F : V → α → Prop} {v : V} {x : α} (r : F v x) : ∀ {vs : List V} {xs : List α} (i : Nat), Paired F vs xs → Paired F (vs.set i v) (xs.set i x)
  | _, _, _, .nil => .nil
  | _, _, 0, .cons _ t => .cons r t
  | _, _, i + 1, .cons q t => .cons q (paired_set r i t)
/-- x[e] = v -/
theorem hs_setItem {i : Nat} {xs : List α} {Pi : Int → Prop} (h : Γ[i]? = some (.l c xs)) (nb : NoBx Γ i) (he : TD te Γ k1 c P) (hi : TD ti Γ k2 cInt Pi) (hp : ∀ y z, P y → Pi z → ∃ j : Nat, ixN xs.length z = some j ∧ p.N (Γ.set i (.l c (xs.set j y)))) :
    HS (tAsg te (gSub (tVar i) ti rSetL)) Γ (k1 + k2) p := fun O n σ Hf H hn S D q1 _ _ _ => by
  obtain ⟨a, vs, h1, h2, h3, h4, h5⟩ := S.at_ i _ h
  refine he O n σ Hf H (by omega) S _ fun v Hf1 H1 y py ry f1 S1 => ?_
  refine ⟨.ref a, h1, ?_⟩
  refine hi O (n + k1) σ Hf1 H1 (by omega) S1 _ fun w Hf2 H2 z pz rz f2 S2 => ?_
  obtain ⟨a', vs', w1, w2, w3, w4, w5⟩ := S2.at_ i _ h
  rw [h1] at w1
  injection w1 with w1; injection w1 with w1; injection w1 with w1
  subst w1
  obtain ⟨j, hj, pn⟩ := hp y z py pz
  have hl := paired_len w4
  refine ⟨a, vs', z, j, rfl, rz, w2, by rw [hl]; exact hj, ?_⟩
  exact q1 σ Hf2 _ _ pn ⟨by rw [← Nat.add_assoc]; exact S2.wr h h1 (paired_set (c.mono f2.ex ry) j w4) (by rw [List.length_set]; exact w5), bxKeep_set nb, f1.ex.trans f2.ex⟩
theorem paired_erase {F : V → α → Prop} : ∀ {vs : List V} {xs : List α} (i : Nat), Paired F vs xs → Paired F (vs.eraseIdx i) (xs.eraseIdx i)
  | _, _, _, .nil => .nil
  | _, _, 0, .cons _ t => t
  | _, _, i + 1, .cons q t => .cons q (paired_erase i t)
theorem ixN_seqI {n j : Nat} (h : j < n) : seqIndex? (j : Int) n = some j := by
  rw [seqIndex_of (by omega) (by omega)]
  simp
/-- y.append(x.pop(e)) -/
theorem hs_appendPop {K : PySem.W.Frag} {i j : Nat} {xs ys : List α} {Pi : Int → Prop} (hij : i ≠ j) (h : Γ[i]? = some (.l c ys)) (h' : Γ[j]? = some (.l c xs)) (nb : NoBx Γ i) (nb' : NoBx Γ j) (hi : TD ti Γ k cInt Pi) (lb : ys.length + 1 ≤ LB) (lb' : xs.length ≤ LB)
    (hp : ∀ z, Pi z → ∃ (l : Nat) (y : α), z = (l : Int) ∧ xs[l]? = some y ∧ p.N ((Γ.set j (.l c (xs.eraseIdx l))).set i (.l c (ys ++ [y])))) :
    HS (tDrop (tBM K "list" rAppend (tVar i) (tCons (tBM K "list" rPopAt (tVar j) (tCons ti tNil)) tNil))) Γ k p := fun O n σ Hf H hn S D q1 _ _ _ => by
  obtain ⟨a, vs, h1, h2, h3, h4, h5⟩ := S.at_ i _ h
  obtain ⟨b, us, e1, e2, e3, e4, e5⟩ := S.at_ j _ h'
  refine ⟨.ref a, h1, .inl ⟨rfl, vs, SqL.of h2⟩, ?_⟩
  refine ⟨.ref b, e1, .inl ⟨rfl, us, SqL.of e2⟩, ?_⟩
  refine hi O n σ Hf H hn S _ fun v Hf' H' z pz rz f s => ?_
  obtain ⟨l, y, rfl, hl, pn⟩ := hp z pz
  obtain rfl : v = .int (l : Int) := rz
  have hll : l < xs.length := (List.getElem?_eq_some_iff.mp hl).1
  obtain ⟨b', us', w1, w2, w3, w4, w5⟩ := s.at_ j _ h'
  rw [e1] at w1
  injection w1 with w1; injection w1 with w1; injection w1 with w1
  subst w1
  have hul := paired_len w4
  have hu : us'[l]? = some (us'[l]'(by omega)) := List.getElem?_eq_getElem (by omega)
  unfold LB at lb'
  refine ⟨b, us', (l : Int), l, us'[l]'(by omega), rfl, rfl, w2, by omega, by omega, ixN_seqI (by omega), hu, ?_⟩
  have s2 := s.wr h' e1 (paired_erase l w4) (by rw [List.length_eraseIdx]; split <;> omega)
  have h'' : (Γ.set j (.l c (xs.eraseIdx l)))[i]? = some (.l c ys) := by rw [List.getElem?_set_ne (Ne.symm hij)]; exact h
  obtain ⟨a', vs', x1, x2, x3, x4, x5⟩ := s2.at_ i _ h''
  rw [h1] at x1
  injection x1 with x1; injection x1 with x1; injection x1 with x1
  subst x1
  have hvl := paired_len x4
  refine ⟨a, vs', us'[l]'(by omega), rfl, rfl, x2, lb_lt x5, ?_⟩
  have nb2 : NoBx (Γ.set j (.l c (xs.eraseIdx l))) i := by unfold NoBx; rw [h'']; trivial
  exact q1 σ Hf' _ _ pn ⟨s2.wr h'' h1 (Paired.snoc x4 (paired_get w4 hu hl)) (by rw [List.length_append, List.length_singleton]; omega), (bxKeep_set nb').trans (bxKeep_set nb2), f.ex⟩
/-! ### a list of one's own, only looked at -/
def Flat {α : Type} (c : Cod α) : Prop := ∀ (H H' : Hp) v x, c.rep H v x → c.rep H' v x
theorem flat_int : Flat cInt := fun _ _ _ _ h => h
theorem flat_bool : Flat cBool := fun _ _ _ _ h => h
theorem flat_str : Flat cStr := fun _ _ _ _ h => h
theorem Sat.view (S : Sat O Hf H σ Γ n) {i : Nat} {c : Cod α} {xs : List α} (h : Γ[i]? = some (.l c xs)) {Q : Hp → Prop}
    (run : ∀ Hf1, Sat O Hf1 H σ (Γ.set i (.d (cList c) xs)) n → (∀ Hf1' H', Fr (Bx (Γ.set i (.d (cList c) xs))) Hf1 H Hf1' H' → Sat O Hf1' H' σ (Γ.set i (.d (cList c) xs)) m →
      (∃ Hf', Fr (Bx Γ) Hf H Hf' H' ∧ Sat O Hf' H' σ Γ m)) → Q H) : Q H := by
  obtain ⟨a, vs, h1, h2, h3, nbx, oth, rp, S'⟩ := S.freeze h
  refine run _ S' fun Hf1' H' f s => ?_
  have bxe : ∀ b, Bx Γ b → Bx (Γ.set i (.d (cList c) xs)) b := fun b ⟨j, hj⟩ => ⟨j, by
    rw [List.getElem?_set_ne (fun z => by subst z; rw [h] at hj; cases hj)]; exact hj⟩
  have bxb : ∀ b, Bx (Γ.set i (.d (cList c) xs)) b → Bx Γ b := fun b hb => boxLt hb
  have F : Fr (Bx Γ) Hf H (fun b => if b = a then none else Hf1' b) H' := by
    refine ⟨fun b o e => ?_, fun b o e nm => f.keep b o e fun z => nm (bxb b z), fun b o e nm z => ?_, f.dom⟩
    · have nb := ne_of_none e h3
      show (if b = a then none else Hf1' b) = some o
      rw [if_neg nb]; exact f.ex b o (by rw [upd_ne nb]; exact e)
    · show (if b = a then none else Hf1' b) = none
      by_cases nb : b = a
      · rw [if_pos nb]
      · rw [if_neg nb]; exact f.fz b o e (fun w => nm (bxb b w)) (by rw [upd_ne nb]; exact z)
  refine ⟨_, F, S.grow F (fun b o e => ?_) fun b hb => ?_⟩
  · have e' : (if b = a then none else Hf1' b) = some o := e
    by_cases nb : b = a
    · rw [if_pos nb] at e'; cases e'
    · rw [if_neg nb] at e'; exact s.ex b o e'
  · obtain ⟨j, hj⟩ := bxe b hb
    obtain ⟨_, z2, z3⟩ := s.at_ j _ hj
    refine ⟨?_, z3⟩
    show (if b = a then none else Hf1' b) = none
    by_cases nb : b = a
    · rw [if_pos nb]
    · rw [if_neg nb]; exact z2
theorem td_view {i : Nat} {xs : List α} (h : Γ[i]? = some (.l c xs)) (fl : Flat c') {P : β → Prop} (ht : TD te (Γ.set i (.d (cList c) xs)) k c' P) : TD te Γ k c' P := fun O n σ Hf H hn S Q q => by
  refine S.view (m := n + k) h (Q := fun H => te σ H Q) fun Hf1 S1 back => ?_
  refine ht O n σ Hf1 H hn S1 Q fun v Hf' H' x px r f s => ?_
  obtain ⟨Hf2, F, S2⟩ := back Hf' H' f s
  exact q v Hf2 H' x px (fl _ _ _ _ r) F S2
theorem tt_view {i : Nat} {xs : List α} {P : Bool → Prop} (h : Γ[i]? = some (.l c xs)) (ht : TDT tt (Γ.set i (.d (cList c) xs)) k P) : TDT tt Γ k P := fun O n σ Hf H hn S Q q => by
  refine S.view (m := n + k) h (Q := fun H => tt σ H Q) fun Hf1 S1 back => ?_
  refine ht O n σ Hf1 H hn S1 Q fun b Hf' H' px f s => ?_
  obtain ⟨Hf2, F, S2⟩ := back Hf' H' f s
  exact q b Hf2 H' px F S2
theorem ixN_nat {n j : Nat} (h : j < n) (h2 : n ≤ LB) : ixN n (j : Int) = some j := by
  unfold ixN
  unfold LB at h2
  simp
  omega
end
end DL

set_option Elab.async false
set_option linter.all false
set_option maxRecDepth 100000
set_option maxHeartbeats 2000000
namespace DL
open PySem PySem.Spec L2
/-! ### promises -/
/-- parameters: data, and at most one box; kf: how often it draws at most -/
def spD {A ρ : Type} (ps : Addr → A → Ctxt) (kf : A → Nat) (pre : A → Prop) (c : Cod ρ) (P : A → ρ → Prop) : Sp := fun vs H Q _ =>
  ∃ (a : A) (b : Addr) (n : Nat) (Hf : Hp), pre a ∧ n + kf a ≤ LIM ∧ Ex Hf H ∧ ArgsOk Hf vs (ps b a) ∧ (∀ z, Sl.bx z ∈ ps b a → Hf z = none ∧ BoxAt H z n) ∧
    ∀ v Hf' H' x, P a x → c.rep Hf' v x → Fr (fun z => Sl.bx z ∈ ps b a) Hf H Hf' H' → Ex Hf' H' → (∀ z, Sl.bx z ∈ ps b a → Hf' z = none ∧ BoxAt H' z (n + kf a)) → Q v H'
/-- .. that draws nothing and gives f of its arguments -/
abbrev spP {A ρ : Type} (ps : A → Ctxt) (pre : A → Prop) (c : Cod ρ) (f : A → ρ) : Sp := spD (fun _ => ps) (fun _ => 0) pre c (fun a x => x = f a)
/-- at most one box -/
def NoB : Ctxt → Prop
  | [] => True
  | .bx _ :: _ => False
  | _ :: r => NoB r
def OneB : Ctxt → Prop
  | [] => True
  | .bx _ :: r => NoB r
  | _ :: r => OneB r
theorem noB_at : ∀ {Γ : Ctxt} {i : Nat} {a : Addr}, NoB Γ → Γ[i]? ≠ some (.bx a)
  | [], i, a, _, h => by simp at h
  | s :: r, 0, a, h, e => by
    simp at e
    subst e
    exact h
  | s :: r, i + 1, a, h, e => by
    have h' : NoB r := by cases s <;> first | exact h | exact h.elim
    exact noB_at (i := i) h' (by simpa using e)
theorem oneB_at : ∀ {Γ : Ctxt} {i j : Nat} {a b : Addr}, OneB Γ → Γ[i]? = some (.bx a) → Γ[j]? = some (.bx b) → i = j
  | [], i, _, _, _, _, h, _ => by simp at h
  | s :: r, 0, 0, _, _, _, _, _ => rfl
  | s :: r, 0, j + 1, a, b, h, e, e2 => by
    simp at e
    subst e
    exact absurd (show r[j]? = some (.bx b) by simpa using e2) (noB_at h)
  | s :: r, i + 1, 0, a, b, h, e, e2 => by
    simp at e2
    subst e2
    exact absurd (show r[i]? = some (.bx a) by simpa using e) (noB_at h)
  | s :: r, i + 1, j + 1, a, b, h, e, e2 => by
    have : i = j := by
      cases s with
      | bx z => exact absurd (show r[i]? = some (.bx a) by simpa using e) (noB_at h)
      | un => exact oneB_at (Γ := r) h (by simpa using e) (by simpa using e2)
      | d c x => exact oneB_at (Γ := r) h (by simpa using e) (by simpa using e2)
      | l c x => exact oneB_at (Γ := r) h (by simpa using e) (by simpa using e2)
      | r p => exact oneB_at (Γ := r) h (by simpa using e) (by simpa using e2)
    rw [this]
section
variable {Γ Γ1 Γ2 Γ3 : Ctxt} {k k1 k2 k3 kk kt ke : Nat} {A α β γ ρ : Type} {c : Cod α} {c' : Cod β} {cr : Cod ρ} {c1 : Cod α} {c2 : Cod β} {c3 : Cod γ} {P : α → Prop} {te to ti : TE} {tt : TT} {t u : TS} {p : Po ρ} {ta tx : TA}
variable {O : Org} {Hf H Hf' H' : Hp} {σ : Stt} {n m : Nat} {ps : Addr → A → Ctxt} {kf : A → Nat} {pre : A → Prop} {PR : A → ρ → Prop}
theorem argsOk_at : ∀ {vs : List V} {as : Ctxt} {i : Nat} {s : Sl}, ArgsOk Hf vs as → as[i]? = some s → (∃ α, ∃ (c : Cod α) (x : α) (v : V), s = .d c x ∧ vs[i]? = some v ∧ c.rep Hf v x) ∨ ∃ a, s = .bx a ∧ vs[i]? = some (.ref a)
  | [], [], i, s, _, e => by simp at e
  | [], _ :: _, i, s, h, e => h.elim
  | _ :: _, [], i, s, h, e => h.elim
  | v :: vs, s' :: as, 0, s, h, e => by
    simp at e
    subst e
    obtain ⟨h, _⟩ := h
    cases s' with
    | un => exact h.elim
    | d c x => exact .inl ⟨_, c, x, v, rfl, rfl, h⟩
    | l c x => exact h.elim
    | bx a =>
      have h : v = .ref a := h
      subst h
      exact .inr ⟨a, rfl, rfl⟩
    | r p => exact h.elim
  | v :: vs, s' :: as, i + 1, s, h, e => by
    have := argsOk_at (i := i) (s := s) h.2 (by simpa using e)
    simpa using this
theorem argsOk_len : ∀ {vs : List V} {as : Ctxt}, ArgsOk Hf vs as → vs.length = as.length
  | [], [], _ => rfl
  | [], _ :: _, h => h.elim
  | _ :: _, [], h => h.elim
  | _ :: _, _ :: _, h => by rw [List.length_cons, List.length_cons, argsOk_len h.2]
/-- what a callee leaves, seen by the caller -/
theorem Sat.called (S : Sat O Hf H σ Γ n) {as : Ctxt} {k : Nat} (hb : ∀ a, Sl.bx a ∈ as → Bx Γ a) (f : Fr (fun z => Sl.bx z ∈ as) Hf H Hf' H') (ex : Ex Hf' H') (bx : ∀ z, Sl.bx z ∈ as → Hf' z = none ∧ BoxAt H' z (n + k)) :
    Fr (Bx Γ) Hf H Hf' H' ∧ Sat O Hf' H' σ Γ (n + k) := by
  have F : Fr (Bx Γ) Hf H Hf' H' := f.mono fun a h => .inl (hb a h)
  refine ⟨F, S.grow F ex fun a ⟨i, hi⟩ => ?_⟩
  by_cases q : Sl.bx a ∈ as
  · exact bx a q
  · obtain ⟨_, z2, z3⟩ := S.at_ i _ hi
    have z4 := z3
    obtain ⟨_, _, _, _, e, _⟩ := z4
    exact ⟨f.fz a _ e q z2, boxAt_le (boxAt_ex z3 fun o r => f.keep a o r q) (by omega)⟩
theorem td_call {B : Ctxt → Prop} {P' : ρ → Prop} {E : XK} (h : TDA ta Γ k1 B) (hc : ∀ as, B as → ∃ a b, as = ps b a ∧ pre a ∧ kf a ≤ k2 ∧ ∀ x, PR a x → P' x) : TD (tCall (spD ps kf pre cr PR) [] E ta) Γ (k1 + k2) cr P' := fun O n σ Hf H hn S Q q =>
  h O n σ Hf H (by omega) S _ fun vs Hf1 H1 as b o hb f s => by
    obtain ⟨a, bb, e, pa, hk, hp⟩ := hc as b
    subst e
    refine ⟨a, bb, n + k1, Hf1, pa, by omega, s.ex, by rw [List.append_nil]; exact o, fun z hz => ?_, fun v Hf' H' x px r f2 ex bx => ?_⟩
    · obtain ⟨i, hi⟩ := hb z hz
      exact (s.at_ i _ hi).2
    · obtain ⟨F, S2⟩ := s.called hb f2 ex bx
      exact q v Hf' H' x (hp x px) r (f.trans F fun _ z => .inl z) (S2.le (by omega))
/-- instances: what the attributes say -/
def cIns (C : Addr) {ω : Type} (F : Hp → List (Str × V) → ω → Prop) (hm : ∀ {H H' fs y}, Ex H H' → F H fs y → F H' fs y) : Cod ω := ⟨fun H v y => ∃ a dx fs, v = .ref a ∧ H a = some (.ins C dx fs) ∧ F H fs y,
  fun e ⟨a, dx, fs, h1, h2, h3⟩ => ⟨a, dx, fs, h1, e _ _ h2, hm e h3⟩⟩
variable {C : Addr} {ω : Type} {F : Hp → List (Str × V) → ω → Prop} {hm : ∀ {H H' fs y}, Ex H H' → F H fs y → F H' fs y} {K : PySem.W.Frag}
theorem td_fld {f : Str} {y : ω → α} {Py : ω → Prop} (h : TD te Γ k (cIns C F hm) Py) (hC : Cls K C) (hN : NoAttr K C f) (hf : ∀ H fs y0, F H fs y0 → ∃ v, fs.lookup f = some v ∧ c.rep H v (y y0)) : TD (tFld K te f) Γ k c (fun x => ∃ z, Py z ∧ x = y z) := fun O n σ Hf H hn S Q q =>
  h O n σ Hf H hn S _ fun v Hf' H' z pz ⟨a, dx, fs, e1, e2, e3⟩ f s => by
    obtain ⟨w, l, r⟩ := hf _ _ _ e3
    exact ⟨a, C, dx, fs, w, e1, s.ex _ _ e2, hC, hN, l, q w Hf' H' _ ⟨z, pz, rfl⟩ r f s⟩
theorem td_meth {m : Str} {B : Ctxt → Prop} {P' : ρ → Prop} {Py : ω → Prop} {E : XK} (ho : TD te Γ k k1' Py) (hl : ∀ H fs y0, F H fs y0 → fs.lookup m = none) (h : TDA ta Γ k1 B) (hc : ∀ y as, Py y → B as → ∃ a b, .d k1' y :: as = ps b a ∧ pre a ∧ kf a ≤ k2 ∧ ∀ x, PR a x → P' x)
    (ek : k1' = cIns C F hm := by rfl) : TD (tMeth C m (spD ps kf pre cr PR) [] E te ta) Γ (k + k1 + k2) cr P' := fun O n σ Hf H hn S Q q => by
  subst ek
  refine ho O n σ Hf H (by omega) S _ fun v Hf0 H0 y py ry f0 s0 => ?_
  obtain ⟨a, dx, fs, e1, e2, e3⟩ := id ry
  refine ⟨a, dx, fs, e1, s0.ex _ _ e2, hl _ _ _ e3, ?_⟩
  refine h O (n + k) σ Hf0 H0 (by omega) s0 _ fun vs Hf1 H1 as b o hb f s => ?_
  obtain ⟨a', bb, e, pa, hk, hp⟩ := hc y as py b
  have hb' : ∀ z, Sl.bx z ∈ ps bb a' → Bx Γ z := fun z hz => by
    rw [← e] at hz
    rcases List.mem_cons.mp hz with w | w
    · cases w
    · exact hb z w
  refine ⟨a', bb, n + k + k1, Hf1, pa, by omega, s.ex, by rw [← e, List.append_nil]; exact ⟨(cIns C F hm).mono f.ex ry, o⟩, fun z hz => ?_, fun v' Hf' H' x px r f2 ex bx => ?_⟩
  · obtain ⟨i, hi⟩ := hb' z hz
    exact (s.at_ i _ hi).2
  · obtain ⟨F', S2⟩ := s.called hb' f2 ex bx
    exact q v' Hf' H' x (hp x px) r ((f0.trans f fun _ z => .inl z).trans F' fun _ z => .inl z) (S2.le (by omega))
/-! ### the making of an instance -/
/-- __init__'s promise: self is new, of the class at C, without attributes; behind it the attributes say y with P; nothing else of what stood is changed -/
def spI {A ω : Type} (C : Addr) (ps : A → Ctxt) (pre : A → Prop) (F : Hp → List (Str × V) → ω → Prop) (P : A → ω → Prop) : Sp := fun vs H Q _ =>
  ∃ (a : A) (x dx : Addr) (ws : List V) (Hf : Hp), pre a ∧ vs = .ref x :: ws ∧ H x = some (.ins C dx []) ∧ Hf x = none ∧ Ex Hf H ∧ ArgsOk Hf ws (ps a) ∧
    ∀ Hf' H' fs y, P a y → H' x = some (.ins C dx fs) → Hf' x = none → F Hf' fs y → Fr (fun z => z = x) Hf H Hf' H' → Ex Hf' H' → Q .non H'
theorem td_make {psi : A → Ctxt} {Pi : A → ω → Prop} {B : Ctxt → Prop} {P' : ω → Prop} {E : XK} (h : TDA ta Γ k1 B) (hc : ∀ as, B as → NoB as ∧ ∃ a, as = psi a ∧ pre a ∧ ∀ x, Pi a x → P' x) : TD (tMake C (spI C psi pre F Pi) [] E ta) Γ k1 (cIns C F hm) P' := fun O n σ Hf H hn S Q q =>
  h O n σ Hf H hn S _ fun vs Hf1 H1 as b o hb f s x dx hx hdx ne => by
    obtain ⟨nb, a, e, pa, hp⟩ := hc as b
    subst e
    have ex0 : Ex Hf1 (upd (upd H1 dx (.own x)) x (.ins C dx [])) := s.ex.trans ((Ex.new hdx).trans (Ex.new (by rw [upd_ne ne.symm]; exact hx)))
    have fx : Hf1 x = none := s.ex.back hx
    refine ⟨a, x, dx, vs, Hf1, pa, by rw [List.append_nil], upd_same, fx, ex0, o, fun Hf' H' fs y py hH hf hF fr ex => ⟨rfl, ?_⟩⟩
    have f1 : Fr (fun z => z = x) Hf1 H1 Hf' H' := by
      refine Fr.trans (M := fun z => z = x) (Fr.trans (M := fun z => z = x) (Hf1 := Hf1) (H1 := upd H1 dx (.own x)) (Fr.newO hdx) (Fr.newO (M := fun z => z = x) (by rw [upd_ne ne.symm]; exact hx)) fun _ z => .inl z) fr fun _ z => .inl z
    have f2 : Fr (Bx Γ) Hf1 H1 Hf' H' := f1.mono fun z e => .inr (by subst e; exact hx)
    have f3 : Fr (Bx Γ) Hf1 H1 (upd Hf' x (.ins C dx fs)) H' := f2.fix hx hf hH
    refine q _ _ _ y (hp y py) ⟨x, dx, fs, rfl, upd_same, hm (Ex.new hf) hF⟩ (f.trans f3 fun _ z => .inl z) ?_
    refine s.grow f3 (ex.fix hH) fun a' ⟨i, hi⟩ => ?_
    obtain ⟨_, z2, z3⟩ := s.at_ i _ hi
    have z4 := z3
    obtain ⟨_, _, _, _, e, _⟩ := z4
    have nx : a' ≠ x := ne_of_none e hx
    exact ⟨by rw [upd_ne nx]; exact f1.fz a' _ e nx z2, boxAt_ex z3 fun o r => f1.keep a' o r nx⟩
/-! ### a def's body -/
theorem ctx_at {as : Ctxt} {N : Nat} {i : Nat} {s : Sl} (h : (as ++ List.replicate N Sl.un)[i]? = some s) : as[i]? = some s ∨ s = .un := by
  by_cases hl : i < as.length
  · rw [List.getElem?_append_left hl] at h; exact .inl h
  · rw [List.getElem?_append_right (by omega)] at h
    exact .inr (List.eq_of_mem_replicate (List.mem_of_getElem? h))
theorem start_at {N : List Str} {vs : List V} {i : Nat} {v : V} (h : vs[i]? = some v) : (start N vs)[i]? = some (some v) := by
  unfold L2.start
  have hl : i < vs.length := (List.getElem?_eq_some_iff.mp h).1
  rw [List.getElem?_append_left (by rw [List.length_map]; exact hl), List.getElem?_map, h]; rfl
/-- the context at a def's entry -/
def entry (N : List Str) (as : Ctxt) : Ctxt := as ++ List.replicate (N.length - as.length) .un
theorem sat_entry {N : List Str} {vs : List V} {as : Ctxt} (hl : as.length ≤ N.length) (o : ArgsOk Hf vs as) (one : OneB as) (ex : Ex Hf H) (bx : ∀ z, Sl.bx z ∈ as → Hf z = none ∧ BoxAt H z n) :
    Sat ⟨fun z => Sl.bx z ∈ as, Hf, H⟩ Hf H (start N vs) (entry N as) n where
  len := by
    have := argsOk_len o
    unfold L2.start entry
    rw [List.length_append, List.length_append, List.length_map, List.length_replicate, List.length_replicate, this]
  ex := ex
  at_ := fun i s h => by
    rcases ctx_at h with h | h
    · rcases argsOk_at o h with ⟨α, c, x, v, rfl, hv, r⟩ | ⟨a, rfl, hv⟩
      · exact ⟨v, start_at hv, r⟩
      · have hm : Sl.bx a ∈ as := List.mem_of_getElem? h
        exact ⟨start_at hv, (bx a hm).1, (bx a hm).2⟩
    · subst h; trivial
  sep := fun i j si sj a ne h1 h2 o1 o2 e => by
    rcases ctx_at h1 with h1 | h1
    · rcases ctx_at h2 with h2 | h2
      · rcases argsOk_at o h1 with ⟨_, _, _, _, rfl, _⟩ | ⟨b, rfl, hv⟩
        · cases o1
        rcases argsOk_at o h2 with ⟨_, _, _, _, rfl, _⟩ | ⟨b', rfl, hv'⟩
        · cases o2
        exact absurd (oneB_at one h1 h2) ne
      · subst h2; cases o2
    · subst h1; cases o1
  fr := Fr.refl
  mine := fun a ⟨i, s, h1, h2, h3⟩ => by
    rcases ctx_at h1 with h1 | h1
    · rcases argsOk_at o h1 with ⟨_, _, _, _, rfl, _⟩ | ⟨b, rfl, hv⟩
      · cases h2
      · rw [start_at hv] at h3
        injection h3 with h3; injection h3 with h3; injection h3 with h3
        subst h3
        exact .inl (List.mem_of_getElem? h1)
    · subst h1; cases h2
/-- the reading of a body gives the promise -/
theorem body_ok {N : List Str} {vs : List V} {Q : VK} {ts : TS} {a : A} {b : Addr} (hl : (ps b a).length ≤ N.length) (one : OneB (ps b a)) (hn : n + kf a ≤ LIM) (ex : Ex Hf H) (o : ArgsOk Hf vs (ps b a)) (bx : ∀ z, Sl.bx z ∈ ps b a → Hf z = none ∧ BoxAt H z n)
    (q : ∀ v Hf' H' x, PR a x → cr.rep Hf' v x → Fr (fun z => Sl.bx z ∈ ps b a) Hf H Hf' H' → Ex Hf' H' → (∀ z, Sl.bx z ∈ ps b a → Hf' z = none ∧ BoxAt H' z (n + kf a)) → Q v H')
    (hs : HS ts (entry N (ps b a)) (kf a) { N := fun _ => False, bk := fun _ => False, ct := fun _ => False, c := cr, R := PR a }) : ts { nx := fun _ H' => Q .non H', rt := Q } (start N vs) H :=
  hs _ n _ Hf H hn (sat_entry hl o one ex bx) _ (fun _ _ _ _ z _ => z.elim) (fun _ _ _ _ z _ => z.elim) (fun _ _ _ _ z _ => z.elim) fun v σ' Hf' H' Γ' x px r f => q v Hf' H' x px r f.sat.fr f.sat.ex fun z hz => by
    obtain ⟨i, hi⟩ := List.getElem?_of_mem hz
    have hi' : (entry N (ps b a))[i]? = some (.bx z) := by
      unfold entry
      rw [List.getElem?_append_left (List.getElem?_eq_some_iff.mp hi).1]; exact hi
    exact (f.sat.at_ i _ (f.bx i z hi')).2
end
end DL

set_option Elab.async false
set_option linter.all false
set_option maxRecDepth 100000
set_option maxHeartbeats 2000000
namespace DL
open PySem PySem.Spec L2
/-! ### where a piece of the text stands -/
structure Stc where
  N : List Str
  sc : Scope
  K : PySem.W.Frag
  mg : Str → Option Value
  prog : Program
  w : World
  base : Heap
  lv : Nat
  fn : Str → Bool
  /-- it is known that nothing is being shown -/
  gd : Bool
structure Good (S : Stc) (X : Cx) : Prop where
  N : X.N = S.N
  sc : X.env.scope = S.sc
  K : X.K = S.K
  mg : X.mg = S.mg
  prog : X.prog = S.prog
  w : X.w = S.w
  base : X.base = S.base
  calm : X.calm = true
  room : Room S.lv X.A
  fn : X.fn = S.fn
  nox : X.xe = fun _ _ => False
  nd : S.N.Nodup
  gd : S.gd = true → X.A.guards = some []
abbrev Stc.blk (S : Stc) (scope : Scope) : Stc := { S with sc := relS scope S.sc, fn := fun x => scope.names.lookup x == some .cell, gd := false }
theorem Good.blk {S : Stc} {X : Cx} (G : Good S X) (scope : Scope) (s : Shared) (H : Hp) (C : Addr) (cl : List (Str × Addr)) (fp : List Addr) : Good (S.blk scope) (X.blk s H scope (compEnvC scope cl C X.env) fp) where
  N := G.N
  sc := by
    show relS scope X.env.scope = relS scope S.sc
    rw [G.sc]
  K := G.K
  mg := G.mg
  prog := G.prog
  w := G.w
  base := G.base
  calm := G.calm
  room := G.room
  fn := rfl
  nox := rfl
  nd := G.nd
  gd := fun h => nomatch h
variable {S : Stc} {X : Cx}
def tE (S : Stc) (e : Expr) : TE := fun σ H Q => ∃ t, (∀ X, Good S X → PE X e t) ∧ t σ H Q
def tT (S : Stc) (e : Expr) : TT := fun σ H Q => ∃ t, (∀ X, Good S X → PT X e t) ∧ t σ H Q
def tWt (S : Stc) (e : Expr) : TT := fun σ H Q => ∃ t, (∀ X, Good S X → PW X e t) ∧ t σ H Q
def tTs (S : Stc) (es : List Expr) : TT := fun σ H Q => ∃ t, (∀ X, Good S X → PTs X es t) ∧ t σ H Q
def tA (S : Stc) (es : List Expr) : TA := fun σ H Q => ∃ t, (∀ X, Good S X → PA X es t) ∧ t σ H Q
def tK (S : Stc) (es : List Keyword) : TA := fun σ H Q => ∃ t, (∀ X, Good S X → PK X es t) ∧ t σ H Q
def tI (S : Stc) (tg e : Expr) : TI := fun σ H R => ∃ t, (∀ X, Good S X → PI X tg e t) ∧ t σ H R
def tGt (S : Stc) (e : Expr) : TG := fun v σ H Q => ∃ t, (∀ X, Good S X → PG X e t) ∧ t v σ H Q
def tGts (S : Stc) (es : List Expr) : TGs := fun v σ H Q => ∃ t, (∀ X, Good S X → PGs X es t) ∧ t v σ H Q
def tS1 (S : Stc) (st : Stmt) : TS := fun D σ H => ∃ t, (∀ X, Good S X → PS X st t) ∧ t D σ H
def tSs (S : Stc) (st : List Stmt) : TS := fun D σ H => ∃ t, (∀ X, Good S X → PSs X st t) ∧ t D σ H
theorem tE_ok (G : Good S X) {e : Expr} : PE X e (tE S e) := ⟨fun pins s σ H Q I ⟨t, ht, h⟩ => (ht X G).run pins s σ H Q I h⟩
theorem tT_ok (G : Good S X) {e : Expr} : PT X e (tT S e) := ⟨fun pins s σ H Q I ⟨t, ht, h⟩ => (ht X G).run pins s σ H Q I h⟩
theorem tWt_ok (G : Good S X) {e : Expr} : PW X e (tWt S e) := ⟨fun w pins s σ H Q I ⟨t, ht, h⟩ => (ht X G).run w pins s σ H Q I h⟩
theorem tTs_ok (G : Good S X) {e : List Expr} : PTs X e (tTs S e) := ⟨fun pins s σ H Q I ⟨t, ht, h⟩ => (ht X G).run pins s σ H Q I h⟩
theorem tA_ok (G : Good S X) {e : List Expr} : PA X e (tA S e) := ⟨fun pos pins s σ H Q I ⟨t, ht, h⟩ => (ht X G).run pos pins s σ H Q I h⟩
theorem tK_ok (G : Good S X) {e : List Keyword} : PK X e (tK S e) := ⟨fun pos pins s σ H Q I ⟨t, ht, h⟩ => (ht X G).run pos pins s σ H Q I h⟩
theorem tI_ok (G : Good S X) {tg e : Expr} : PI X tg e (tI S tg e) := ⟨fun pins s σ H Q I ⟨t, ht, h⟩ => (ht X G).run pins s σ H Q I h⟩
theorem tGt_ok (G : Good S X) {e : Expr} : PG X e (tGt S e) := ⟨fun pins s σ H v u Q I r ⟨t, ht, h⟩ => (ht X G).run pins s σ H v u Q I r h⟩
theorem tGts_ok (G : Good S X) {e : List Expr} : PGs X e (tGts S e) := ⟨fun pins s σ H v u Q I r ⟨t, ht, h⟩ => (ht X G).run pins s σ H v u Q I r h⟩
theorem tS1_ok (G : Good S X) {e : Stmt} : PS X e (tS1 S e) := ⟨fun pins s σ H D I ⟨t, ht, h⟩ => (ht X G).run pins s σ H D I h⟩
theorem tSs_ok (G : Good S X) {e : List Stmt} : PSs X e (tSs S e) := ⟨fun pins s σ H D I ⟨t, ht, h⟩ => (ht X G).run pins s σ H D I h⟩
/-! ### judgements on the text -/
abbrev PD {α : Type} (S : Stc) (Γ : Ctxt) (k : Nat) (e : Expr) (c : Cod α) (P : α → Prop) : Prop := TD (tE S e) Γ k c P
abbrev PDF {α : Type} (S : Stc) (Γ : Ctxt) (k : Nat) (e : Expr) (c : Cod α) (P : List α → Prop) : Prop := TDF (tE S e) Γ k c P
abbrev PDT (S : Stc) (Γ : Ctxt) (k : Nat) (e : Expr) (P : Bool → Prop) : Prop := TDT (tT S e) Γ k P
abbrev PDW (S : Stc) (Γ : Ctxt) (k : Nat) (e : Expr) (P : Bool → Prop) : Prop := TDT (tWt S e) Γ k P
abbrev PDA (S : Stc) (Γ : Ctxt) (k : Nat) (es : List Expr) (B : Ctxt → Prop) : Prop := TDA (tA S es) Γ k B
abbrev PDK (S : Stc) (Γ : Ctxt) (k : Nat) (es : List Keyword) (B : Ctxt → Prop) : Prop := TDA (tK S es) Γ k B
abbrev PDI {α : Type} (S : Stc) (Γ : Ctxt) (k : Nat) (tg e : Expr) (c : Cod α) (P : List α → Prop) : Prop := TW (tI S tg e) Γ k c P
abbrev PDG {α : Type} (S : Stc) (g : Expr) (c : Cod α) (x : α) (Γ Γ' : Ctxt) (is : List Nat) : Prop := GD (tGt S g) c x Γ Γ' is
abbrev PH {ρ : Type} (S : Stc) (Γ : Ctxt) (k : Nat) (st : Stmt) (p : Po ρ) : Prop := HS (tS1 S st) Γ k p
abbrev PHs {ρ : Type} (S : Stc) (Γ : Ctxt) (k : Nat) (st : List Stmt) (p : Po ρ) : Prop := HS (tSs S st) Γ k p
section
variable {Γ Γ1 Γ2 Γ3 : Ctxt} {k k1 k2 k3 kk kt ke : Nat} {A α β γ ρ : Type} {c : Cod α} {c' : Cod β} {cr : Cod ρ} {c1 : Cod α} {c2 : Cod β} {c3 : Cod γ} {P P1 : α → Prop} {P2 : β → Prop} {P3 : γ → Prop} {te to ti : TE} {tt : TT} {t u : TS} {p : Po ρ} {ta tx : TA} {e a b d : Expr} {es : List Expr} {pos pos' : Pos}
theorem pd_of {te : TE} (ht : ∀ X, Good S X → PE X e te) (h : TD te Γ k c P) : PD S Γ k e c P := fun O n σ Hf H hn s Q q => ⟨te, ht, h O n σ Hf H hn s Q q⟩
theorem pdf_of {te : TE} {P : List α → Prop} (ht : ∀ X, Good S X → PE X e te) (h : TDF te Γ k c P) : PDF S Γ k e c P := fun O n σ Hf H hn s Q q => ⟨te, ht, h O n σ Hf H hn s Q q⟩
theorem pdt_of {tt : TT} {P : Bool → Prop} (ht : ∀ X, Good S X → PT X e tt) (h : TDT tt Γ k P) : PDT S Γ k e P := fun O n σ Hf H hn s Q q => ⟨tt, ht, h O n σ Hf H hn s Q q⟩
theorem pdw_of {tt : TT} {P : Bool → Prop} (ht : ∀ X, Good S X → PW X e tt) (h : TDT tt Γ k P) : PDW S Γ k e P := fun O n σ Hf H hn s Q q => ⟨tt, ht, h O n σ Hf H hn s Q q⟩
theorem pda_of {ta : TA} {B : Ctxt → Prop} (ht : ∀ X, Good S X → PA X es ta) (h : TDA ta Γ k B) : PDA S Γ k es B := fun O n σ Hf H hn s Q q => ⟨ta, ht, h O n σ Hf H hn s Q q⟩
theorem pdi_of {wi : TI} {tg : Expr} {P : List α → Prop} (ht : ∀ X, Good S X → PI X tg e wi) (h : TW wi Γ k c P) : PDI S Γ k tg e c P := fun O n σ Hf H hn s R q => ⟨wi, ht, h O n σ Hf H hn s R q⟩
theorem pdg_of {g : TG} {x : α} {is : List Nat} (ht : ∀ X, Good S X → PG X e g) (h : GD g c x Γ Γ1 is) : PDG S e c x Γ Γ1 is := ⟨h.1, h.2.1, fun O n σ Hf H v r s Q q => ⟨g, ht, h.2.2 O n σ Hf H v r s Q q⟩⟩
theorem ph_of {ts : TS} {st : Stmt} (ht : ∀ X, Good S X → PS X st ts) (h : HS ts Γ k p) : PH S Γ k st p := fun O n σ Hf H hn s D q1 q2 q3 q4 => ⟨ts, ht, h O n σ Hf H hn s D q1 q2 q3 q4⟩
theorem phs_of {ts : TS} {sts : List Stmt} (ht : ∀ X, Good S X → PSs X sts ts) (h : HS ts Γ k p) : PHs S Γ k sts p := fun O n σ Hf H hn s D q1 q2 q3 q4 => ⟨ts, ht, h O n σ Hf H hn s D q1 q2 q3 q4⟩
/-! ### names, constants -/
theorem vis (G : Good S X) {x : Str} (h : Vis S.sc x) : Vis X.env.scope x := by rw [G.sc]; exact h
theorem loc (G : Good S X) {x : Str} (h : Loc S.sc x) : Loc X.env.scope x := by rw [G.sc]; exact h
theorem glb (G : Good S X) {x : Str} (h : S.sc.names.lookup x = some .globalImplicit) : Gl X x := by
  show X.env.scope.names.lookup x = _
  rw [G.sc]; exact h
theorem pe_slot (G : Good S X) {i : Nat} {x : Str} (hN : S.N[i]? = some x) (hv : Vis S.sc x) (hd : (x == ("__debug__" : Str)) = false := by decide) (hcd : (x == ("__classdict__" : Str)) = false := by decide) : PE X (.Name x pos) (tVar i) := pe_var (by rw [G.N]; exact hN) (vis G hv) hd hcd
theorem pd_name {i : Nat} {x : Str} {y : α} (hΓ : Γ[i]? = some (.d c y)) (hN : S.N[i]? = some x) (hv : Vis S.sc x) (hd : (x == ("__debug__" : Str)) = false := by decide) (hcd : (x == ("__classdict__" : Str)) = false := by decide) : PD S Γ 0 (.Name x pos) c (· = y) :=
  pd_of (fun X G => pe_slot G hN hv hd hcd) (td_var hΓ)
theorem pd_int {i : Int} {j : Nat} : PD S Γ 0 (.Constant (.int i) j pos) cInt (· = i) := pd_of (fun X G => pe_int) (td_c fun _ => rfl)
theorem pd_bool {i : Bool} {j : Nat} : PD S Γ 0 (.Constant (.bool i) j pos) cBool (· = i) := pd_of (fun X G => pe_bl) (td_c fun _ => rfl)
theorem pd_str {i : Str} {j : Nat} : PD S Γ 0 (.Constant (.str i) j pos) cStr (· = i) := pd_of (fun X G => pe_str) (td_c fun _ => rfl)
theorem pd_none {j : Nat} : PD S Γ 0 (.Constant .none j pos) cNon (· = ()) := pd_of (fun X G => pe_non) (td_c fun _ => rfl)
/-- a module's constant -/
theorem pd_glob {x : Str} {v : V} {u : Value} {y : α} (hg : S.sc.names.lookup x = some .globalImplicit) (hm : S.mg x = some u) (r : RelV v u) (hc : ∀ H, c.rep H v y) (hd : (x == ("__debug__" : Str)) = false := by decide) : PD S Γ 0 (.Name x pos) c (· = y) :=
  pd_of (fun X G => pe_glob (glb G hg) (by rw [G.mg]; exact hm) r hd) (td_c hc)
/-! ### operators -/
theorem pd_bin {op : Operator} {r : R2} (ho : ∀ X, Good S X → OpR X (binaryOp op) r) (ha : PD S Γ k1 a c1 P1) (hb : PD S Γ k2 b c2 P2) (hr : ∀ x y, P1 x → P2 y → RD r c1 x c2 y c3 P3) : PD S Γ (k1 + k2) (.BinOp a op b pos) c3 P3 :=
  pd_of (fun X G => pe_op (ho X G) (tE_ok G) (tE_ok G)) (td_op ha hb hr)
theorem pd_un {op : UnaryOp} {r : V → Hp → VK → Prop} (ho : ∀ X, Good S X → UnR X (unaryOp op) r) (ha : PD S Γ k1 a c1 P1) (hr : ∀ x, P1 x → RU1 r c1 x c3 P3) : PD S Γ k1 (.UnaryOp op a pos) c3 P3 :=
  pd_of (fun X G => pe_un (ho X G) (tE_ok G)) (td_un ha hr)
theorem pd_cmp {op : CmpOp} {r : R2} {P3 : Bool → Prop} (ho : ∀ X, Good S X → OpR X (compareOp op) r) (ha : PD S Γ k1 a c1 P1) (hb : PD S Γ k2 b c2 P2) (hr : ∀ x y, P1 x → P2 y → RD r c1 x c2 y cBool P3) (hm : behindInMarks op b = false) : PD S Γ (k1 + k2) (.Compare a [op] [b] pos) cBool P3 :=
  pd_of (fun X G => pe_cmpR (ho X G) (tE_ok G) (tE_ok G) hm) (td_op ha hb hr)
theorem pdt_cmp {op : CmpOp} {r : R2} {P3 : Bool → Prop} (ho : ∀ X, Good S X → OpR X (compareOp op) r) (ha : PD S Γ k1 a c1 P1) (hb : PD S Γ k2 b c2 P2) (hr : ∀ x y, P1 x → P2 y → RD r c1 x c2 y cBool P3) (hm : behindInMarks op b = false) : PDT S Γ (k1 + k2) (.Compare a [op] [b] pos) P3 :=
  pdt_of (fun X G => pt_cmpR (ho X G) (tE_ok G) (tE_ok G) hm) (tt_test (td_op ha hb hr))
/-- a value that is a bool, as a test -/
theorem pdt_val {P : Bool → Prop} (h : PD S Γ k e cBool P) (he : ∀ (env : Env) whole, isTrue e env whole = (do let v ← whole; standAt e.pos; holding [v] (truthy v))) : PDT S Γ k e P :=
  pdt_of (fun X G => pt_val (tE_ok G) (he _)) (tt_B h)
theorem pdt_not {b : Bool} (h : PDT S Γ k a (· = b)) : PDT S Γ k (.UnaryOp .Not a pos) (· = !b) := pdt_of (fun X G => pt_not (tT_ok G)) (tt_not' h)
theorem pdt_w {P : Bool → Prop} (h : PDW S Γ k e P) : PDT S Γ k e P := pdt_of (fun X G => (tWt_ok G).pt) h
theorem pdw_and1 {P : Bool → Prop} (h : PDT S Γ k a P) : PDW S Γ k (.BoolOp .And [a] pos) P := pdw_of (fun X G => pw_and1 (tT_ok G)) h
theorem pdw_or1 {P : Bool → Prop} (h : PDT S Γ k a P) : PDW S Γ k (.BoolOp .Or [a] pos) P := pdw_of (fun X G => pw_or1 (tT_ok G)) h
theorem pdw_and {x y : Bool} {rest : List Expr} (h1 : PDT S Γ k1 a (· = x)) (h2 : x = true → PDW S Γ k2 (.BoolOp .And (b :: rest) pos) (· = y)) : PDW S Γ (k1 + k2) (.BoolOp .And (a :: b :: rest) pos) (· = (x && y)) :=
  pdw_of (fun X G => pw_and (tT_ok G) (tWt_ok G)) (tt_and' h1 h2)
theorem pdw_or {x y : Bool} {rest : List Expr} (h1 : PDT S Γ k1 a (· = x)) (h2 : x = false → PDW S Γ k2 (.BoolOp .Or (b :: rest) pos) (· = y)) : PDW S Γ (k1 + k2) (.BoolOp .Or (a :: b :: rest) pos) (· = (x || y)) :=
  pdw_of (fun X G => pw_or (tT_ok G) (tWt_ok G)) (tt_or' h1 h2)
theorem pd_and {x y : Bool} {rest : List Expr} (h1 : PD S Γ k1 a cBool (· = x)) (h2 : x = true → PD S Γ k2 (.BoolOp .And (b :: rest) pos) cBool (· = y)) : PD S Γ (k1 + k2) (.BoolOp .And (a :: b :: rest) pos) cBool (· = (x && y)) :=
  pd_of (fun X G => pe_and (tE_ok G) (tE_ok G)) (td_andV' h1 h2)
theorem pd_or {x y : Bool} {rest : List Expr} (h1 : PD S Γ k1 a cBool (· = x)) (h2 : x = false → PD S Γ k2 (.BoolOp .Or (b :: rest) pos) cBool (· = y)) : PD S Γ (k1 + k2) (.BoolOp .Or (a :: b :: rest) pos) cBool (· = (x || y)) :=
  pd_of (fun X G => pe_or (tE_ok G) (tE_ok G)) (td_orV' h1 h2)
theorem pd_one {op : BoolOp} (h : PD S Γ k a c P) : PD S Γ k (.BoolOp op [a] pos) c P := pd_of (fun X G => pe_one (tE_ok G)) h
theorem pd_not {b : Bool} (h : PD S Γ k a cBool (· = b)) : PD S Γ k (.UnaryOp .Not a pos) cBool (· = !b) := pd_of (fun X G => pe_not (tE_ok G)) (td_notV' h)
theorem pd_if {b' : Bool → Prop} (h : PDT S Γ k1 d b') (ha : b' true → PD S Γ k2 a c P) (hb : b' false → PD S Γ k3 b c P) : PD S Γ (k1 + max k2 k3) (.IfExp d a b pos) c P := pd_of (fun X G => pe_ifExp (tT_ok G) (tE_ok G) (tE_ok G)) (td_if h ha hb)
/-! ### arguments, displays -/
theorem pda_nil : PDA S Γ 0 [] (· = []) := pda_of (fun X G => pa_nil) ta_nil
theorem pda_cons {B : Ctxt → Prop} (h : PD S Γ k1 e c P) (hr : PDA S Γ k2 es B) (hs : ∀ env : Env, starEach (e :: es) env = (false, eval e env) :: starEach es env) : PDA S Γ (k1 + k2) (e :: es) (fun as => ∃ x r, P x ∧ B r ∧ as = .d c x :: r) :=
  pda_of (fun X G => pa_cons (tE_ok G) (tA_ok G) (hs _)) (ta_cons h hr)
theorem pda_box {B : Ctxt → Prop} {i : Nat} {x : Str} {z : Addr} (hΓ : Γ[i]? = some (.bx z)) (hN : S.N[i]? = some x) (hv : Vis S.sc x) (hr : PDA S Γ k2 es B) (hd : (x == ("__debug__" : Str)) = false := by decide) (hcd : (x == ("__classdict__" : Str)) = false := by decide) : PDA S Γ k2 (.Name x pos :: es) (fun as => ∃ r, B r ∧ as = .bx z :: r) :=
  pda_of (fun X G => pa_cons (pe_slot G hN hv hd hcd) (tA_ok G) rfl) (ta_box hΓ hr)
/-- the pure ones -/
theorem pda_one {x : α} (h : PD S Γ k e c (· = x)) (hs : ∀ env : Env, starEach [e] env = (false, eval e env) :: starEach [] env) : PDA S Γ (k + 0) [e] (· = [.d c x]) := (pda_cons h pda_nil hs).imp fun as ⟨y, r, h1, h2, h3⟩ => by subst h1 h2; exact h3
theorem pda_more {x : α} {l : Ctxt} (h : PD S Γ k1 e c (· = x)) (hr : PDA S Γ k2 es (· = l)) (hs : ∀ env : Env, starEach (e :: es) env = (false, eval e env) :: starEach es env) : PDA S Γ (k1 + k2) (e :: es) (· = .d c x :: l) := (pda_cons h hr hs).imp fun as ⟨y, r, h1, h2, h3⟩ => by subst h1 h2; exact h3
theorem pda_boxp {i : Nat} {x : Str} {z : Addr} {l : Ctxt} (hΓ : Γ[i]? = some (.bx z)) (hN : S.N[i]? = some x) (hv : Vis S.sc x) (hr : PDA S Γ k2 es (· = l)) (hd : (x == ("__debug__" : Str)) = false := by decide) (hcd : (x == ("__classdict__" : Str)) = false := by decide) : PDA S Γ k2 (.Name x pos :: es) (· = .bx z :: l) :=
  (pda_box hΓ hN hv hr hd hcd).imp fun as ⟨r, h2, h3⟩ => by subst h2; exact h3
theorem pdf_lst {B : Ctxt → Prop} {R : List α → Prop} (h : PDA S Γ k es B) (hi : ∀ as, B as → ∃ xs : List α, as = xs.map (fun x => Sl.d c x) ∧ xs.length ≤ 1000 ∧ R xs) : PDF S Γ k (.List es pos) c R := pdf_of (fun X G => pe_lst (tA_ok G)) (tdf_lst h hi)
theorem pdf_nil : PDF S Γ 0 (.List [] pos) c (· = []) := pdf_lst pda_nil fun as e => ⟨[], e, by simp, rfl⟩
theorem pd_tupl {kx : Nat} {B : Ctxt → Prop} {R : List α → Prop} (h : PDA S Γ k es B) (hi : ∀ as, B as → ∃ xs : List α, as = xs.map (fun x => Sl.d c x) ∧ xs.length ≤ 1000 ∧ R xs) : PD S Γ k (.Tuple es kx pos) (cTup c) R := pd_of (fun X G => pe_tup (tA_ok G)) (td_tup h hi)
theorem pd_t2 {kx : Nat} (ha : PD S Γ k1 a c1 P1) (hb : PD S Γ k2 b c2 P2) (hs : ∀ env : Env, starEach [a, b] env = (false, eval a env) :: starEach [b] env) (hs2 : ∀ env : Env, starEach [b] env = (false, eval b env) :: starEach [] env) : PD S Γ (k1 + k2) (.Tuple [a, b] kx pos) (cT2 c1 c2) (fun z => P1 z.1 ∧ P2 z.2) :=
  pd_of (fun X G => pe_tup (pa_cons (tE_ok G) (pa_cons (tE_ok G) pa_nil (hs2 _)) (hs _))) (td_t2 ha hb)
theorem pd_t3 {kx : Nat} (ha : PD S Γ k1 a c1 P1) (hb : PD S Γ k2 b c2 P2) (hd : PD S Γ k3 d c3 P3) (hs : ∀ env : Env, starEach [a, b, d] env = (false, eval a env) :: starEach [b, d] env) (hs2 : ∀ env : Env, starEach [b, d] env = (false, eval b env) :: starEach [d] env) (hs3 : ∀ env : Env, starEach [d] env = (false, eval d env) :: starEach [] env) :
    PD S Γ (k1 + k2 + k3) (.Tuple [a, b, d] kx pos) (cT3 c1 c2 c3) (fun z => P1 z.1 ∧ P2 z.2.1 ∧ P3 z.2.2) :=
  pd_of (fun X G => pe_tup (pa_cons (tE_ok G) (pa_cons (tE_ok G) (pa_cons (tE_ok G) pa_nil (hs3 _)) (hs2 _)) (hs _))) (td_t3 ha hb hd)
theorem pd_t2' {kx : Nat} {x : α} {y : β} (ha : PD S Γ k1 a c1 (· = x)) (hb : PD S Γ k2 b c2 (· = y)) (hs : ∀ env : Env, starEach [a, b] env = (false, eval a env) :: starEach [b] env) (hs2 : ∀ env : Env, starEach [b] env = (false, eval b env) :: starEach [] env) : PD S Γ (k1 + k2) (.Tuple [a, b] kx pos) (cT2 c1 c2) (· = (x, y)) :=
  (pd_t2 ha hb hs hs2).imp fun z ⟨h1, h2⟩ => by cases z; subst h1 h2; rfl
theorem pd_t3' {kx : Nat} {x : α} {y : β} {z : γ} (ha : PD S Γ k1 a c1 (· = x)) (hb : PD S Γ k2 b c2 (· = y)) (hd : PD S Γ k3 d c3 (· = z)) (hs : ∀ env : Env, starEach [a, b, d] env = (false, eval a env) :: starEach [b, d] env) (hs2 : ∀ env : Env, starEach [b, d] env = (false, eval b env) :: starEach [d] env) (hs3 : ∀ env : Env, starEach [d] env = (false, eval d env) :: starEach [] env) :
    PD S Γ (k1 + k2 + k3) (.Tuple [a, b, d] kx pos) (cT3 c1 c2 c3) (· = (x, y, z)) :=
  (pd_t3 ha hb hd hs hs2 hs3).imp fun w ⟨h1, h2, h3⟩ => by obtain ⟨w1, w2, w3⟩ := w; subst h1 h2 h3; rfl
/-! ### targets, walks, comprehensions -/
theorem fnOr (G : Good S X) {x : Str} (h : S.fn x = true ∨ S.sc.names.lookup x = some .local) : X.fn x = true ∨ X.env.scope.names.lookup x = some .local := by rw [G.fn, G.sc]; exact h
theorem pdg_name {i : Nat} {x : Str} {y : α} (nb : NoBx Γ i) (hi : S.N[i]? = some x) (hx : Loc S.sc x) (hf : S.fn x = true ∨ S.sc.names.lookup x = some .local) : PDG S (.Name x pos) c y Γ (Γ.set i (.d c y)) [i] :=
  pdg_of (fun X G => pg_name (by rw [G.N]; exact G.nd) (by rw [G.N]; exact hi) (loc G hx) (fnOr G hf)) (gd_name nb)
theorem pdg_t2 {kx : Nat} {x : α × β} {is js : List Nat} (h1 : PDG S a c1 x.1 Γ Γ1 is) (h2 : PDG S b c2 x.2 Γ1 Γ2 js) (hs : ∀ env : Env, (assignEach [a, b] env).map (·.2) = assign a env :: (assignEach [b] env).map (·.2)) (hs2 : ∀ env : Env, (assignEach [b] env).map (·.2) = assign b env :: (assignEach [] env).map (·.2))
    (hn : ∀ env : Env, (assignEach [a, b] env).length = 2) (hst : ∀ env : Env, (assignEach [a, b] env).findIdx? (·.1) = none) : PDG S (.Tuple [a, b] kx pos) (cT2 c1 c2) x Γ Γ2 (is ++ js) :=
  pdg_of (g := gTup S.K 2 (gCons (tGt S a) (gCons (tGt S b) gNil))) (fun X G => by rw [← G.K]; exact pg_tup G.calm (pgs_cons (tGt_ok G) (pgs_cons (tGt_ok G) pgs_nil (hs2 _)) (hs _)) (hn _) (hst _)) (gd_t2 h1 h2)
theorem pdg_t3 {kx : Nat} {x : α × β × γ} {is js ls : List Nat} (h1 : PDG S a c1 x.1 Γ Γ1 is) (h2 : PDG S b c2 x.2.1 Γ1 Γ2 js) (h3 : PDG S d c3 x.2.2 Γ2 Γ3 ls) (hs : ∀ env : Env, (assignEach [a, b, d] env).map (·.2) = assign a env :: (assignEach [b, d] env).map (·.2)) (hs2 : ∀ env : Env, (assignEach [b, d] env).map (·.2) = assign b env :: (assignEach [d] env).map (·.2))
    (hs3 : ∀ env : Env, (assignEach [d] env).map (·.2) = assign d env :: (assignEach [] env).map (·.2)) (hn : ∀ env : Env, (assignEach [a, b, d] env).length = 3) (hst : ∀ env : Env, (assignEach [a, b, d] env).findIdx? (·.1) = none) : PDG S (.Tuple [a, b, d] kx pos) (cT3 c1 c2 c3) x Γ Γ3 (is ++ js ++ ls) :=
  pdg_of (g := gTup S.K 3 (gCons (tGt S a) (gCons (tGt S b) (gCons (tGt S d) gNil)))) (fun X G => by rw [← G.K]; exact pg_tup G.calm (pgs_cons (tGt_ok G) (pgs_cons (tGt_ok G) (pgs_cons (tGt_ok G) pgs_nil (hs3 _)) (hs2 _)) (hs _)) (hn _) (hst _)) (gd_t3 h1 h2 h3)
theorem pdi_list {tg : Expr} {R : List α → Prop} (h : PD S Γ k e (cList c) R) : PDI S Γ k tg e c R := pdi_of (wi := iList S.K (tE S e)) (fun X G => by rw [← G.K]; exact pi_list (tE_ok G)) (tw_list h)
theorem pdi_tup {tg : Expr} {R : List α → Prop} (h : PD S Γ k e (cTup c) R) : PDI S Γ k tg e c R := pdi_of (wi := iTup S.K (tE S e)) (fun X G => by rw [← G.K]; exact pi_tup (tE_ok G)) (tw_tup h)
theorem pdi_range1 {tg : Expr} {pn : Pos} {B : Ctxt → Prop} {R : List Int → Prop} (hg : S.sc.names.lookup ("range" : Str) = some .globalImplicit) (hm : S.mg "range" = none) (h : PDA S Γ k [a] B) (hi : ∀ as, B as → ∃ j : Int, as = [.d cInt j] ∧ -4611686018427387904 ≤ j ∧ j ≤ 1000000 ∧ R (rangeL 0 j.toNat))
    (hs : ∀ env : Env, starEach [a] env = [(false, eval a env)]) : PDI S Γ k tg (.Call (.Name "range" pn) [a] [] pos) cInt R := pdi_of (fun X G => pi_range1 (glb G hg) (by rw [G.mg]; exact hm) (tA_ok G) (hs _)) (tw_range1 h hi)
theorem pdi_range2 {tg : Expr} {pn : Pos} {B : Ctxt → Prop} {R : List Int → Prop} (hg : S.sc.names.lookup ("range" : Str) = some .globalImplicit) (hm : S.mg "range" = none) (h : PDA S Γ k [a, b] B)
    (hi : ∀ as, B as → ∃ i j : Int, as = [.d cInt i, .d cInt j] ∧ -1000000000 ≤ i ∧ i ≤ 1000000000 ∧ -1000000000 ≤ j ∧ j ≤ 1000000000 ∧ j - i ≤ 1000000 ∧ R (rangeL i (j - i).toNat))
    (hs : ∀ env : Env, starEach [a, b] env = [(false, eval a env), (false, eval b env)]) (hs2 : ∀ env : Env, starEach [b] env = [(false, eval b env)]) : PDI S Γ k tg (.Call (.Name "range" pn) [a, b] [] pos) cInt R := pdi_of (fun X G => pi_range2 (glb G hg) (by rw [G.mg]; exact hm) (tA_ok G) (hs _) (hs2 _)) (tw_range2 h hi)
theorem tts_nil : TDT (tTs S []) Γ 0 (· = true) := fun O n σ Hf H hn s Q q => ⟨tYes, fun X G => pts_nil, tt_yes O n σ Hf H hn s Q q⟩
theorem tts_one {P : Bool → Prop} (h : PDT S Γ k e P) : TDT (tTs S [e]) Γ k P := fun O n σ Hf H hn s Q q => ⟨tT S e, fun X G => pts_one (tT_ok G), h O n σ Hf H hn s Q q⟩
abbrev lcRd (S : Stc) (tg iter : Expr) (ifs : List Expr) (elt : Expr) (scope : Scope) (own : List (Str × Nat)) : TE := tLc (tI S tg iter) (tGt (S.blk scope) tg) (tTs (S.blk scope) ifs) (tE (S.blk scope) elt) (own.map (·.2))
theorem pe_lcR (G : Good S X) {elt tg iter : Expr} {ifs : List Expr} {scope : Scope} {own : List (Str × Nat)} (ok : blkC S.N S.sc scope own = true) (hs : ∀ (env : Env) x, foldedSetIterable iter env x = pure x) : PE X (.ListComp elt [⟨tg, iter, ifs, 0⟩] scope pos) (lcRd S tg iter ifs elt scope own) :=
  pe_lc G.calm (by rw [G.N]; exact G.nd) (tI_ok G) (blkOk_by (by rw [G.N, G.sc]; exact ok)) (fun s H C cl fp => tGt_ok (G.blk scope s H C cl fp)) (fun s H C cl fp => tTs_ok (G.blk scope s H C cl fp)) (fun s H C cl fp => tE_ok (G.blk scope s H C cl fp)) (hs _)
theorem pdf_lc {elt tg iter : Expr} {ifs : List Expr} {scope : Scope} {own : List (Str × Nat)} {R : List β → Prop} (ok : blkC S.N S.sc scope own = true) (hs : ∀ (env : Env) x, foldedSetIterable iter env x = pure x) (h : TDF (lcRd S tg iter ifs elt scope own) Γ k c' R) : PDF S Γ k (.ListComp elt [⟨tg, iter, ifs, 0⟩] scope pos) c' R :=
  pdf_of (fun X G => pe_lcR G ok hs) h
/-! ### statements -/
variable {st : Stmt} {sts sts2 : List Stmt} {N1 : Ctxt → Prop}
theorem phs_nil (h : p.N Γ) : PHs S Γ 0 [] p := phs_of (fun X G => pss_nil) (hs_next h)
theorem phs_cons (h1 : PH S Γ k1 st { p with N := N1 }) (h2 : ∀ Γ1, N1 Γ1 → PHs S Γ1 k2 sts p) : PHs S Γ (k1 + k2) (st :: sts) p := phs_of (fun X G => pss_cons (tS1_ok G) (tSs_ok G)) (hs_seq h1 h2)
theorem phs_one (h1 : PH S Γ k1 st p) : PHs S Γ k1 [st] p := phs_of (fun X G => pss_one (tS1_ok G)) h1
theorem ph_ret (h : PD S Γ k e c P) (hr : ∀ H v x, P x → c.rep H v x → ∃ y, p.R y ∧ p.c.rep H v y) : PH S Γ k (.Return (some e) pos) p := ph_of (fun X G => ps_ret (tE_ok G)) (hs_ret h hr)
theorem ph_ret' {R' : ρ → Prop} (h : PD S Γ k e p.c R') (hr : ∀ x, R' x → p.R x) : PH S Γ k (.Return (some e) pos) p := ph_ret h fun H v x px r => ⟨x, hr x px, r⟩
theorem ph_ret_l {i : Nat} {x : Str} {xs : List α} (hΓ : Γ[i]? = some (.l c xs)) (nb : NoBx Γ i) (hN : S.N[i]? = some x) (hv : Vis S.sc x) (hr : ∀ H v, (cList c).rep H v xs → ∃ y, p.R y ∧ p.c.rep H v y) (hd : (x == ("__debug__" : Str)) = false := by decide) (hcd : (x == ("__classdict__" : Str)) = false := by decide) : PH S Γ 0 (.Return (some (.Name x pos')) pos) p :=
  ph_of (fun X G => ps_ret (pe_slot G hN hv hd hcd)) (hs_ret_l hΓ nb hr)
theorem ph_if {b' : Bool → Prop} (h : PDT S Γ k1 e b') (ha : b' true → PHs S Γ k2 sts p) (hb : b' false → PHs S Γ k3 sts2 p) : PH S Γ (k1 + max k2 k3) (.If e sts sts2 pos) p := ph_of (fun X G => ps_if (tT_ok G) (tSs_ok G) (tSs_ok G)) (hs_if h ha hb)
theorem ph_set {i : Nat} {x : Str} (h : PD S Γ k e c P) (nb : NoBx Γ i) (hp : ∀ y, P y → p.N (Γ.set i (.d c y))) (hi : S.N[i]? = some x) (hx : Loc S.sc x) (hs : ∀ env : Env, env.scope = S.sc → swapsWith e (some (.Name x pos')) pos.line env = pure false) (hf : S.fn x = true ∨ S.sc.names.lookup x = some .local) : PH S Γ k (.Assign [.Name x pos'] e pos) p :=
  ph_of (fun X G => ps_set (by rw [G.N]; exact G.nd) (by rw [G.N]; exact hi) (loc G hx) (tE_ok G) (hs _ G.sc) (fnOr G hf)) (hs_set h nb hp)
theorem ph_setL {i : Nat} {x : Str} {R : List α → Prop} (h : PDF S Γ k e c R) (nb : NoBx Γ i) (hp : ∀ y, R y → p.N (Γ.set i (.l c y))) (hi : S.N[i]? = some x) (hx : Loc S.sc x) (hs : ∀ env : Env, env.scope = S.sc → swapsWith e (some (.Name x pos')) pos.line env = pure false) (hf : S.fn x = true ∨ S.sc.names.lookup x = some .local) : PH S Γ k (.Assign [.Name x pos'] e pos) p :=
  ph_of (fun X G => ps_set (by rw [G.N]; exact G.nd) (by rw [G.N]; exact hi) (loc G hx) (tE_ok G) (hs _ G.sc) (fnOr G hf)) (hs_setL h nb hp)
theorem ps_lcR (G : Good S X) {i : Nat} {y : Str} {py spos : Pos} {elt tg iter : Expr} {ifs : List Expr} {scope : Scope} {own : List (Str × Nat)} (hi : S.N[i]? = some y) (hyl : S.sc.names.lookup y = some .local) (hl : (py.line == pos.line) = true) (hk : S.sc.kind = .function)
    (ha : (scope.names.any fun (n, k) => n == y && (k == .local || k == .cell)) = false) (ok : blkC S.N S.sc scope own = true) (hs : ∀ (env : Env) x, foldedSetIterable iter env x = pure x) : PS X (.Assign [.Name y py] (.ListComp elt [⟨tg, iter, ifs, 0⟩] scope pos) spos) (tAsg (lcRd S tg iter ifs elt scope own) (gName i)) :=
  ps_setLc G.calm (by rw [G.N]; exact G.nd) (by rw [G.N]; exact hi) (by rw [G.sc]; exact hyl) (sw_true (by rw [G.sc]; exact hk) (by rw [G.sc]; exact hyl) hl ha) (tI_ok G) (blkOk_by (by rw [G.N, G.sc]; exact ok))
    (fun s H C cl fp => tGt_ok (G.blk scope s H C cl fp)) (fun s H C cl fp => tTs_ok (G.blk scope s H C cl fp)) (fun s H C cl fp => tE_ok (G.blk scope s H C cl fp)) (hs _)
/-- x = [..], x a plain local: as data, as a list of one's own -/
theorem ph_setLc {i : Nat} {y : Str} {py spos : Pos} {elt tg iter : Expr} {ifs : List Expr} {scope : Scope} {own : List (Str × Nat)} {R : List β → Prop} (h : TDF (lcRd S tg iter ifs elt scope own) Γ k c' R) (nb : NoBx Γ i) (hp : ∀ y, R y → p.N (Γ.set i (.d (cList c') y))) (hi : S.N[i]? = some y) (hyl : S.sc.names.lookup y = some .local) (hl : (py.line == pos.line) = true) (hk : S.sc.kind = .function)
    (ha : (scope.names.any fun (n, k) => n == y && (k == .local || k == .cell)) = false) (ok : blkC S.N S.sc scope own = true) (hs : ∀ (env : Env) x, foldedSetIterable iter env x = pure x) : PH S Γ k (.Assign [.Name y py] (.ListComp elt [⟨tg, iter, ifs, 0⟩] scope pos) spos) p :=
  ph_of (fun X G => ps_lcR G hi hyl hl hk ha ok hs) (hs_set h.td nb hp)
theorem ph_for {tg iter : Expr} {X' : List α → Prop} {kn : Nat} (I : List α → List α → Ctxt → Prop) (hw : PDI S Γ k tg iter c X') (h0 : ∀ xs, X' xs → I xs [] Γ) (hk : ∀ xs, X' xs → xs.length * kk ≤ kn)
    (hs : ∀ xs, X' xs → ∀ pre x post Γ1, xs = pre ++ x :: post → I xs pre Γ1 → ∃ Γ2 is, PDG S tg c x Γ1 Γ2 is ∧ PHs S Γ2 kk sts { N := I xs (pre ++ [x]), ct := I xs (pre ++ [x]), bk := p.N, c := p.c, R := p.R })
    (hd : ∀ xs Γ1, X' xs → I xs xs Γ1 → p.N Γ1) (hfs : ∀ (env : Env) x, foldedSetIterable iter env x = pure x) : PH S Γ (k + kn) (.For tg iter sts [] pos) p :=
  ph_of (fun X G => ps_for (by rw [G.nox]; exact PassesOwn.never) G.calm (tI_ok G) (tGt_ok G) (tSs_ok G) (hfs _)) (hs_for I hw h0 hk hs hd)
/-- .. the names at vs are forgotten between the turns -/
theorem ph_forV {tg iter : Expr} {X' : List α → Prop} {kn : Nat} (vs : List Nat) (I : List α → List α → Ctxt → Prop) (hw : PDI S Γ k tg iter c X') (h0 : ∀ xs, X' xs → I xs [] Γ) (hk : ∀ xs, X' xs → xs.length * kk ≤ kn)
    (hs : ∀ xs, X' xs → ∀ pre x post Γ1, xs = pre ++ x :: post → I xs pre Γ1 → ∃ Γ2 is, PDG S tg c x Γ1 Γ2 is ∧ PHs S Γ2 kk sts { N := fun Γ' => NoBxs Γ' vs ∧ I xs (pre ++ [x]) (wipeC Γ' vs), ct := I xs (pre ++ [x]), bk := p.N, c := p.c, R := p.R })
    (hd : ∀ xs Γ1, X' xs → I xs xs Γ1 → p.N Γ1) (hfs : ∀ (env : Env) x, foldedSetIterable iter env x = pure x) : PH S Γ (k + kn) (.For tg iter sts [] pos) p :=
  ph_for I hw h0 hk (fun xs hx pre x post Γ1 e hI => by
    obtain ⟨Γ2, is, g, h⟩ := hs xs hx pre x post Γ1 e hI
    exact ⟨Γ2, is, g, HS.forget (p := { N := I xs (pre ++ [x]), ct := I xs (pre ++ [x]), bk := p.N, c := p.c, R := p.R }) vs h fun Γ' z => z⟩) hd hfs
theorem ph_append {i : Nat} {x : Str} {xs : List α} {p1 p2 : Pos} (hΓ : Γ[i]? = some (.l c xs)) (nb : NoBx Γ i) (he : PD S Γ k e c P) (lb : xs.length + 1 ≤ LB) (hp : ∀ y, P y → p.N (Γ.set i (.l c (xs ++ [y])))) (hN : S.N[i]? = some x) (hv : Vis S.sc x)
    (hfew : ∀ env : Env, ((backTo p2 (starEach [e] env)).all (fun x => !x.1) && (backToKw p2 (keywordEach [] env)).all (fun x => x.1.isSome) && decide ([e].length + ([] : List Keyword).length + (if ([] : List Keyword).isEmpty then 0 else 1) < 30)) = true)
    (hline : (p1.endLine == p2.line) = true) (hs : ∀ env : Env, starEach [e] env = (false, eval e env) :: starEach [] env) (hsw : ∀ env : Env, swapsWith (.Call (.Attribute (.Name x pos') "append" p1) [e] [] p2) none pos.line env = pure false) (hd : (x == ("__debug__" : Str)) = false := by decide) (hcd : (x == ("__classdict__" : Str)) = false := by decide) :
    PH S Γ k (.Expr (.Call (.Attribute (.Name x pos') "append" p1) [e] [] p2) pos) p :=
  ph_of (ts := tDrop (tBM S.K "list" rAppend (tVar i) (tCons (tE S e) tNil))) (fun X G => by
    rw [← G.K]
    exact ps_expr (pe_bm PySem.F.plainAttrs_list PySem.F.slot_list_append PySem.F.type_list_append mt_append (pe_slot G hN hv hd hcd) (pa_cons (tE_ok G) pa_nil (hs _)) rfl (hfew _) hline (hs _) rfl) (hsw _)) (hs_append hΓ nb he lb hp)
end
end DL

set_option Elab.async false
set_option linter.all false
set_option maxRecDepth 100000
set_option maxHeartbeats 2000000
namespace DL
open PySem PySem.Spec L2
/-! ### data that can be compared at any depth -/
structure EqC {α : Type} [DecidableEq α] (c : Cod α) where
  D : α → PyData
  n : Nat
  dp : ∀ (K : PySem.W.Frag) (H : Hp) v x, c.rep H v x → Dp K H v (D x)
  lay : ∀ x, (D x).canLay0 = true
  dep : ∀ x, (D x).depth ≤ n
  eqv : ∀ x y, PyData.eqv (D x) (D y) = decide (x = y)
def eInt : EqC cInt := ⟨.int, 1, fun _ _ _ _ h => by obtain rfl := h; exact .int _, fun _ => rfl, fun _ => by simp [PyData.depth], fun x y => by simp only [PyData.eqv]; exact Bool.beq_eq_decide_eq x y⟩
def eBool : EqC cBool := ⟨.bool, 1, fun _ _ _ _ h => by obtain rfl := h; exact .bl _, fun _ => rfl, fun _ => by simp [PyData.depth], fun x y => by simp only [PyData.eqv]; exact Bool.beq_eq_decide_eq x y⟩
theorem dpAll_of {α : Type} {c : Cod α} {D : α → PyData} {K : PySem.W.Frag} {H : Hp} (h : ∀ v x, c.rep H v x → Dp K H v (D x)) : ∀ {vs : List V} {xs : List α}, Paired (c.rep H) vs xs → DpAll K H vs (xs.map D)
  | _, _, .nil => .nil
  | _, _, .cons r t => .cons (h _ _ r) (dpAll_of h t)
theorem layAll {α : Type} {D : α → PyData} (h : ∀ x, (D x).canLay0 = true) : ∀ xs : List α, PyData.canLayAll0 (xs.map D) = true
  | [] => rfl
  | x :: xs => by simp [PyData.canLayAll0, h x, layAll h xs]
theorem depAll {α : Type} {D : α → PyData} {n : Nat} (h : ∀ x, (D x).depth ≤ n) : ∀ xs : List α, PyData.depthAll (xs.map D) ≤ n
  | [] => by simp [PyData.depthAll]
  | x :: xs => by
    have h1 := h x
    have h2 := depAll h xs
    simp only [List.map_cons, PyData.depthAll]
    omega
theorem eqvAll_dec {α : Type} [DecidableEq α] {D : α → PyData} (h : ∀ x y, PyData.eqv (D x) (D y) = decide (x = y)) : ∀ xs ys : List α, PyData.eqvAll (xs.map D) (ys.map D) = decide (xs = ys)
  | [], [] => by simp [PyData.eqvAll]
  | [], _ :: _ => by simp [PyData.eqvAll]
  | _ :: _, [] => by simp [PyData.eqvAll]
  | x :: xs, y :: ys => by
    simp only [List.map_cons, PyData.eqvAll, h x y, eqvAll_dec h xs ys]
    by_cases e1 : x = y <;> by_cases e2 : xs = ys <;> simp [e1, e2]
def eList {α : Type} [DecidableEq α] {c : Cod α} (e : EqC c) : EqC (cList c) := ⟨fun xs => .list (xs.map e.D), e.n + 1, fun K H v xs ⟨a, vs, h1, h2, h3, _⟩ => by
    subst h1; exact .lst (SqL.of h2) (dpAll_of (fun v x r => e.dp K H v x r) h3),
  fun xs => layAll e.lay xs, fun xs => by simp only [PyData.depth]; exact Nat.succ_le_succ (depAll e.dep xs), fun xs ys => by simp only [PyData.eqv]; exact eqvAll_dec e.eqv xs ys⟩
def eTup {α : Type} [DecidableEq α] {c : Cod α} (e : EqC c) : EqC (cTup c) := ⟨fun xs => .tuple (xs.map e.D), e.n + 1, fun K H v xs ⟨a, vs, h1, h2, h3, _⟩ => by
    subst h1; exact .tup (SqT.of h2) (dpAll_of (fun v x r => e.dp K H v x r) h3),
  fun xs => layAll e.lay xs, fun xs => by simp only [PyData.depth]; exact Nat.succ_le_succ (depAll e.dep xs), fun xs ys => by simp only [PyData.eqv]; exact eqvAll_dec e.eqv xs ys⟩
def eT2 {α β : Type} [DecidableEq α] [DecidableEq β] {c : Cod α} {d : Cod β} (e : EqC c) (f : EqC d) : EqC (cT2 c d) := ⟨fun x => .tuple [e.D x.1, f.D x.2], max e.n f.n + 1, fun K H v x ⟨a, u, w, h1, h2, h3, h4⟩ => by
    subst h1; exact .tup (SqT.of h2) (.cons (e.dp K H _ _ h3) (.cons (f.dp K H _ _ h4) .nil)),
  fun x => by simp [PyData.canLay0, PyData.canLayAll0, e.lay, f.lay], fun x => by
    have h1 := e.dep x.1; have h2 := f.dep x.2
    simp only [PyData.depth, PyData.depthAll]; omega, fun x y => by
    simp only [PyData.eqv, PyData.eqvAll, e.eqv, f.eqv]
    obtain ⟨x1, x2⟩ := x; obtain ⟨y1, y2⟩ := y
    by_cases e1 : x1 = y1 <;> by_cases e2 : x2 = y2 <;> simp [e1, e2]⟩
def eT3 {α β γ : Type} [DecidableEq α] [DecidableEq β] [DecidableEq γ] {c : Cod α} {d : Cod β} {g : Cod γ} (e : EqC c) (f : EqC d) (l : EqC g) : EqC (cT3 c d g) := ⟨fun x => .tuple [e.D x.1, f.D x.2.1, l.D x.2.2], max e.n (max f.n l.n) + 1, fun K H v x ⟨a, u, w, y, h1, h2, h3, h4, h5⟩ => by
    subst h1; exact .tup (SqT.of h2) (.cons (e.dp K H _ _ h3) (.cons (f.dp K H _ _ h4) (.cons (l.dp K H _ _ h5) .nil))),
  fun x => by simp [PyData.canLay0, PyData.canLayAll0, e.lay, f.lay, l.lay], fun x => by
    have h1 := e.dep x.1; have h2 := f.dep x.2.1; have h3 := l.dep x.2.2
    simp only [PyData.depth, PyData.depthAll]; omega, fun x y => by
    simp only [PyData.eqv, PyData.eqvAll, e.eqv, f.eqv, l.eqv]
    obtain ⟨x1, x2, x3⟩ := x; obtain ⟨y1, y2, y3⟩ := y
    by_cases e1 : x1 = y1 <;> by_cases e2 : x2 = y2 <;> by_cases e3 : x3 = y3 <;> simp [e1, e2, e3]⟩
abbrev cI3 : Cod (Int × Int × Int) := cT3 cInt cInt cInt
abbrev eI3 : EqC cI3 := eT3 eInt eInt eInt
section
variable {S : Stc} {X : Cx}
variable {Γ Γ1 Γ2 Γ3 : Ctxt} {k k1 k2 k3 kk kt ke : Nat} {A α β γ ρ : Type} {c : Cod α} {c' : Cod β} {cr : Cod ρ} {c1 : Cod α} {c2 : Cod β} {c3 : Cod γ} {P P1 : α → Prop} {P2 : β → Prop} {P3 : γ → Prop} {te to ti : TE} {tt : TT} {t u : TS} {p : Po ρ} {ta tx : TA} {e a b d : Expr} {es : List Expr} {pos pos' pn : Pos}
theorem rd_eqD [DecidableEq α] {K : PySem.W.Frag} {x y : α} (q : EqC c) (hn : q.n ≤ 64) : RD (rEqD K) c x c y cBool (· = decide (x = y)) := fun Hf H v u e h1 h2 Q k =>
  ⟨_, _, q.dp K H _ _ (c.mono e h1), q.dp K H _ _ (c.mono e h2), by unfold SeqAt.shaped; rw [q.lay, Bool.true_and]; exact decide_eq_true (Nat.le_trans (q.dep x) hn), by unfold SeqAt.shaped; rw [q.lay, Bool.true_and]; exact decide_eq_true (Nat.le_trans (q.dep y) hn), by
    rw [q.eqv]; exact k _ Hf H _ rfl rfl Fr.refl e⟩
theorem rd_neD [DecidableEq α] {K : PySem.W.Frag} {x y : α} (q : EqC c) (hn : q.n ≤ 64) : RD (rNeD K) c x c y cBool (· = !decide (x = y)) := fun Hf H v u e h1 h2 Q k =>
  ⟨_, _, q.dp K H _ _ (c.mono e h1), q.dp K H _ _ (c.mono e h2), by unfold SeqAt.shaped; rw [q.lay, Bool.true_and]; exact decide_eq_true (Nat.le_trans (q.dep x) hn), by unfold SeqAt.shaped; rw [q.lay, Bool.true_and]; exact decide_eq_true (Nat.le_trans (q.dep y) hn), by
    rw [q.eqv]; exact k _ Hf H _ rfl rfl Fr.refl e⟩
theorem op_eqDG {K : PySem.W.Frag} (hK : S.K = K) : ∀ X, Good S X → OpR X (compareOp .Eq) (rEqD K) := fun X G => by rw [← hK, ← G.K]; exact op_eqD G.room.units
theorem op_neDG {K : PySem.W.Frag} (hK : S.K = K) : ∀ X, Good S X → OpR X (compareOp .NotEq) (rNeD K) := fun X G => by rw [← hK, ← G.K]; exact op_neD G.room.units
/-- ints in a list, a tuple -/
theorem inV_ints (i : Int) : ∀ ns : List Int, inV (.int i) (ns.map V.int) = decide (i ∈ ns)
  | [] => by simp [inV]
  | n :: ns => by
    have ih := inV_ints i ns
    unfold inV at ih ⊢
    rw [List.map_cons, List.any_cons, ih]
    simp only [eqV, List.mem_cons]
    by_cases e : n = i
    · subst e; simp
    · have e2 : ¬ i = n := fun z => e z.symm
      simp [e, e2]
theorem ints_of_paired : ∀ {vs : List V} {ns : List Int} {H : Hp}, Paired (cInt.rep H) vs ns → vs = ns.map V.int
  | _, _, _, .nil => rfl
  | _, _, _, .cons r t => by obtain rfl := r; rw [ints_of_paired t]; rfl
theorem bools_of_paired : ∀ {vs : List V} {ns : List Bool} {H : Hp}, Paired (cBool.rep H) vs ns → vs = ns.map V.bl
  | _, _, _, .nil => rfl
  | _, _, _, .cons r t => by obtain rfl := r; rw [bools_of_paired t]; rfl
theorem flat_ints : ∀ ns : List Int, (ns.map V.int).all flatV = true
  | [] => rfl
  | n :: ns => by simp [flatV]
theorem rd_inI {K : PySem.W.Frag} {neg : Bool} {x : Int} {xs : List Int} : RD (rIn K neg) cInt x (cList cInt) xs cBool (· = if neg then !decide (x ∈ xs) else decide (x ∈ xs)) := fun Hf H v u e h1 ⟨a, vs, h2, h3, h4, _⟩ Q k => by
  obtain rfl := h1
  have := ints_of_paired h4
  subst this
  refine ⟨a, xs.map V.int, h2, .inl (SqL.of (e _ _ h3)), rfl, flat_ints xs, ?_⟩
  rw [inV_ints]
  exact k _ Hf H _ rfl rfl Fr.refl e
theorem rd_inIT {K : PySem.W.Frag} {neg : Bool} {x : Int} {xs : List Int} : RD (rIn K neg) cInt x (cTup cInt) xs cBool (· = if neg then !decide (x ∈ xs) else decide (x ∈ xs)) := fun Hf H v u e h1 ⟨a, vs, h2, h3, h4, _⟩ Q k => by
  obtain rfl := h1
  have := ints_of_paired h4
  subst this
  refine ⟨a, xs.map V.int, h2, .inr (SqT.of (e _ _ h3)), rfl, flat_ints xs, ?_⟩
  rw [inV_ints]
  exact k _ Hf H _ rfl rfl Fr.refl e
theorem op_inG : ∀ X, Good S X → OpR X (compareOp .In) (rIn S.K false) := fun X G => by rw [← G.K]; exact op_in_seq
theorem op_notInG : ∀ X, Good S X → OpR X (compareOp .NotIn) (rIn S.K true) := fun X G => by rw [← G.K]; exact op_notIn_seq
/-- xs + ys -/
theorem tdf_cat {xs ys : List α} (ha : TD te Γ k1 (cList c) (· = xs)) (hb : TD to Γ k2 (cList c) (· = ys)) (lb : xs.length + ys.length ≤ LB) : TDF (tOp rCat te to) Γ (k1 + k2) c (· = xs ++ ys) := fun O n σ Hf H hn S Q q =>
  ha O n σ Hf H (by omega) S _ fun v Hf1 H1 x ex ⟨a, vs, e1, e2, e3, _⟩ f1 S1 => hb O (n + k1) σ Hf1 H1 (by omega) S1 _ fun u Hf2 H2 y ey ⟨b, us, g1, g2, g3, _⟩ f2 S2 => by
    subst ex ey
    have l1 := paired_len e3
    have l2 := paired_len g3
    refine ⟨a, b, vs, us, e1, g1, S2.ex _ _ (f2.ex _ _ e2), S2.ex _ _ g2, lb_line (by omega), fun p hp => ?_⟩
    have e3' : Paired (c.rep Hf2) vs x := paired_mono e3 fun _ _ z => c.mono f2.ex z
    have pap : ∀ {l1 l2 : List V} {m1 m2 : List α}, Paired (c.rep Hf2) l1 m1 → Paired (c.rep Hf2) l2 m2 → Paired (c.rep Hf2) (l1 ++ l2) (m1 ++ m2) := fun {l1 l2 m1 m2} h1 h2 => by
      induction h1 with
      | nil => exact h2
      | cons r t ih => exact .cons r ih
    exact q p (vs ++ us) Hf2 (upd H2 p (.lst (vs ++ us))) _ rfl upd_same (S2.ex.back hp) (f1.dom p (f2.dom p hp)) (pap e3' g3) (by rw [List.length_append]; omega)
      ((f1.trans f2 fun _ h => .inl h).trans (Fr.newO (M := Bx Γ) hp) fun _ z => .inl z) (by rw [← Nat.add_assoc]; exact S2.grow0 (Fr.newO hp) (S2.ex.trans (Ex.new hp)))
theorem pdf_cat {xs ys : List α} (ha : PD S Γ k1 a (cList c) (· = xs)) (hb : PD S Γ k2 b (cList c) (· = ys)) (lb : xs.length + ys.length ≤ LB) : PDF S Γ (k1 + k2) (.BinOp a .Add b pos) c (· = xs ++ ys) := pdf_of (fun X G => pe_op op_cat (tE_ok G) (tE_ok G)) (tdf_cat ha hb lb)
/-- items by place -/
theorem rd_ixL {K : PySem.W.Frag} {xs : List α} {i : Int} {Pz : α → Prop} (h : ∃ z, atI xs i = some z ∧ Pz z) : RD (rIxL K) (cList c) xs cInt i c Pz := fun Hf H v u e ⟨a, vs, h1, h2, h3, _⟩ h4 Q k => by
  obtain ⟨z, hz, pz⟩ := h
  obtain rfl := h4
  have hl := paired_len h3
  unfold atI at hz
  cases e1 : ixN xs.length i with
  | none => rw [e1] at hz; cases hz
  | some j =>
    rw [e1] at hz
    have hz' : xs[j]? = some z := hz
    have hj : j < vs.length := by rw [hl]; exact (List.getElem?_eq_some_iff.mp hz').1
    have hv : vs[j]? = some (vs[j]'hj) := List.getElem?_eq_getElem hj
    exact ⟨a, vs, i, vs[j]'hj, h1, rfl, SqL.of (e _ _ h2), by unfold atI; rw [hl, e1]; exact hv, k z Hf H _ pz (paired_get h3 hv hz') Fr.refl e⟩
theorem rd_ixT {K : PySem.W.Frag} {xs : List α} {i : Int} {Pz : α → Prop} (h : ∃ z, atI xs i = some z ∧ Pz z) : RD (rIxT K) (cTup c) xs cInt i c Pz := fun Hf H v u e ⟨a, vs, h1, h2, h3, _⟩ h4 Q k => by
  obtain ⟨z, hz, pz⟩ := h
  obtain rfl := h4
  have hl := paired_len h3
  unfold atI at hz
  cases e1 : ixN xs.length i with
  | none => rw [e1] at hz; cases hz
  | some j =>
    rw [e1] at hz
    have hz' : xs[j]? = some z := hz
    have hj : j < vs.length := by rw [hl]; exact (List.getElem?_eq_some_iff.mp hz').1
    have hv : vs[j]? = some (vs[j]'hj) := List.getElem?_eq_getElem hj
    exact ⟨a, vs, i, vs[j]'hj, h1, rfl, SqT.of (e _ _ h2), by unfold atI; rw [hl, e1]; exact hv, k z Hf H _ pz (paired_get h3 hv hz') Fr.refl e⟩
theorem rd_ix3_0 {K : PySem.W.Frag} {x : α × β × γ} : RD (rIxT K) (cT3 c1 c2 c3) x cInt 0 c1 (· = x.1) := fun Hf H v u e ⟨a, w1, w2, w3, h1, h2, h3, h4, h5⟩ h6 Q k => by
  obtain rfl := h6
  exact ⟨a, [w1, w2, w3], 0, w1, h1, rfl, SqT.of (e _ _ h2), rfl, k _ Hf H _ rfl h3 Fr.refl e⟩
theorem rd_ix3_1 {K : PySem.W.Frag} {x : α × β × γ} : RD (rIxT K) (cT3 c1 c2 c3) x cInt 1 c2 (· = x.2.1) := fun Hf H v u e ⟨a, w1, w2, w3, h1, h2, h3, h4, h5⟩ h6 Q k => by
  obtain rfl := h6
  exact ⟨a, [w1, w2, w3], 1, w2, h1, rfl, SqT.of (e _ _ h2), rfl, k _ Hf H _ rfl h4 Fr.refl e⟩
theorem rd_ix3_2 {K : PySem.W.Frag} {x : α × β × γ} : RD (rIxT K) (cT3 c1 c2 c3) x cInt 2 c3 (· = x.2.2) := fun Hf H v u e ⟨a, w1, w2, w3, h1, h2, h3, h4, h5⟩ h6 Q k => by
  obtain rfl := h6
  exact ⟨a, [w1, w2, w3], 2, w3, h1, rfl, SqT.of (e _ _ h2), rfl, k _ Hf H _ rfl h5 Fr.refl e⟩
theorem rd_ix2_0 {K : PySem.W.Frag} {x : α × β} : RD (rIxT K) (cT2 c1 c2) x cInt 0 c1 (· = x.1) := fun Hf H v u e ⟨a, w1, w2, h1, h2, h3, h4⟩ h6 Q k => by
  obtain rfl := h6
  exact ⟨a, [w1, w2], 0, w1, h1, rfl, SqT.of (e _ _ h2), rfl, k _ Hf H _ rfl h3 Fr.refl e⟩
theorem rd_ix2_1 {K : PySem.W.Frag} {x : α × β} : RD (rIxT K) (cT2 c1 c2) x cInt 1 c2 (· = x.2) := fun Hf H v u e ⟨a, w1, w2, h1, h2, h3, h4⟩ h6 Q k => by
  obtain rfl := h6
  exact ⟨a, [w1, w2], 1, w2, h1, rfl, SqT.of (e _ _ h2), rfl, k _ Hf H _ rfl h4 Fr.refl e⟩
theorem pd_ixR {r : R2} (hr : ∀ X, Good S X → IxR X r) (ha : PD S Γ k1 a c1 P1) (hb : PD S Γ k2 b c2 P2) (hrd : ∀ x y, P1 x → P2 y → RD r c1 x c2 y c3 P3) (hs : PlainIx b) : PD S Γ (k1 + k2) (.Subscript a b pos) c3 P3 := pd_of (fun X G => pe_ix (hr X G) (tE_ok G) (tE_ok G) hs) (td_op ha hb hrd)
theorem ixLG : ∀ X, Good S X → IxR X (rIxL S.K) := fun X G => by rw [← G.K]; exact ix_list
theorem ixTG : ∀ X, Good S X → IxR X (rIxT S.K) := fun X G => by rw [← G.K]; exact ix_tup
/-! ### calls of built-ins by values -/
def RC1 {α γ : Type} (r : List V → Hp → VK → Prop) (c1 : Cod α) (x : α) (c : Cod γ) (P : γ → Prop) : Prop :=
  ∀ (Hf H : Hp) (v : V), Ex Hf H → c1.rep Hf v x → ∀ Q : VK, (∀ z Hf' H' w, P z → c.rep Hf' w z → Fr (fun _ => False) Hf H Hf' H' → Ex Hf' H' → Q w H') → r [v] H Q
def RC1F {α γ : Type} (r : List V → Hp → VK → Prop) (c1 : Cod α) (x : α) (c : Cod γ) (P : List γ → Prop) : Prop :=
  ∀ (Hf H : Hp) (v : V), Ex Hf H → c1.rep Hf v x → ∀ Q : VK, (∀ p vs zs, P zs → H p = none → Paired (c.rep Hf) vs zs → vs.length ≤ LB → Q (.ref p) (upd H p (.lst vs))) → r [v] H Q
theorem td_cb {r : List V → Hp → VK → Prop} (h : TD te Γ k c1 P1) (hr : ∀ x, P1 x → RC1 r c1 x c3 P3) : TD (tCB r (tCons te tNil)) Γ k c3 P3 := fun O n σ Hf H hn S Q q =>
  h O n σ Hf H hn S _ fun v Hf1 H1 x p1 r1 f1 S1 => hr x p1 Hf1 H1 v S1.ex r1 Q fun z Hf3 H3 w p3 r3 f3 e3 => q w Hf3 H3 z p3 r3 (f1.trans f3 fun _ h => h.elim) (S1.grow0 f3 e3)
theorem tdf_cb {r : List V → Hp → VK → Prop} {R : List γ → Prop} (h : TD te Γ k c1 P1) (hr : ∀ x, P1 x → RC1F r c1 x c3 R) : TDF (tCB r (tCons te tNil)) Γ k c3 R := fun O n σ Hf H hn S Q q =>
  h O n σ Hf H hn S _ fun v Hf1 H1 x p1 r1 f1 S1 => hr x p1 Hf1 H1 v S1.ex r1 Q fun p vs zs pz hp pr lb =>
    q p vs Hf1 _ zs pz upd_same (S1.ex.back hp) (f1.dom p hp) pr lb (f1.trans (Fr.newO (M := Bx Γ) hp) fun _ z => .inl z) (S1.grow0 (Fr.newO hp) (S1.ex.trans (Ex.new hp)))
theorem pd_b1 {r : List V → Hp → VK → Prop} {x : Str} {id : String} (hc : ∀ X, Good S X → CallR X (.builtin id) r) (hg : S.sc.names.lookup x = some .globalImplicit) (hm : S.mg x = none) (hv : bootBuiltins x = some (.builtin id)) (h : PD S Γ k e c1 P1) (hr : ∀ x, P1 x → RC1 r c1 x c3 P3)
    (he : ∀ env : Env, starEach [e] env = (false, eval e env) :: starEach [] env) (hn : x ≠ "__name__" := by decide) (hdb : (x == ("__debug__" : Str)) = false := by decide) : PD S Γ k (.Call (.Name x pn) [e] [] pos) c3 P3 :=
  pd_of (fun X G => pe_callB (hc X G) (glb G hg) (by rw [G.mg]; exact hm) hv (pa_cons (tE_ok G) pa_nil (he _)) hn hdb (he _) rfl) (td_cb h hr)
theorem pd_y1 {r : List V → Hp → VK → Prop} {x : Str} {T : String} (hc : ∀ X, Good S X → CallR X (.type T) r) (hg : S.sc.names.lookup x = some .globalImplicit) (hm : S.mg x = none) (hv : bootBuiltins x = some (.type T)) (h : PD S Γ k e c1 P1) (hr : ∀ x, P1 x → RC1 r c1 x c3 P3)
    (he : ∀ env : Env, starEach [e] env = (false, eval e env) :: starEach [] env) (hn : x ≠ "__name__" := by decide) (hdb : (x == ("__debug__" : Str)) = false := by decide) : PD S Γ k (.Call (.Name x pn) [e] [] pos) c3 P3 :=
  pd_of (fun X G => pe_callTy (hc X G) (glb G hg) (by rw [G.mg]; exact hm) hv (pa_cons (tE_ok G) pa_nil (he _)) hn hdb (he _) rfl) (td_cb h hr)
theorem pdf_b1 {r : List V → Hp → VK → Prop} {R : List γ → Prop} {x : Str} {id : String} (hc : ∀ X, Good S X → CallR X (.builtin id) r) (hg : S.sc.names.lookup x = some .globalImplicit) (hm : S.mg x = none) (hv : bootBuiltins x = some (.builtin id)) (h : PD S Γ k e c1 P1) (hr : ∀ x, P1 x → RC1F r c1 x c3 R)
    (he : ∀ env : Env, starEach [e] env = (false, eval e env) :: starEach [] env) (hn : x ≠ "__name__" := by decide) (hdb : (x == ("__debug__" : Str)) = false := by decide) : PDF S Γ k (.Call (.Name x pn) [e] [] pos) c3 R :=
  pdf_of (fun X G => pe_callB (hc X G) (glb G hg) (by rw [G.mg]; exact hm) hv (pa_cons (tE_ok G) pa_nil (he _)) hn hdb (he _) rfl) (tdf_cb h hr)
theorem pdf_y1 {r : List V → Hp → VK → Prop} {R : List γ → Prop} {x : Str} {T : String} (hc : ∀ X, Good S X → CallR X (.type T) r) (hg : S.sc.names.lookup x = some .globalImplicit) (hm : S.mg x = none) (hv : bootBuiltins x = some (.type T)) (h : PD S Γ k e c1 P1) (hr : ∀ x, P1 x → RC1F r c1 x c3 R)
    (he : ∀ env : Env, starEach [e] env = (false, eval e env) :: starEach [] env) (hn : x ≠ "__name__" := by decide) (hdb : (x == ("__debug__" : Str)) = false := by decide) : PDF S Γ k (.Call (.Name x pn) [e] [] pos) c3 R :=
  pdf_of (fun X G => pe_callTy (hc X G) (glb G hg) (by rw [G.mg]; exact hm) hv (pa_cons (tE_ok G) pa_nil (he _)) hn hdb (he _) rfl) (tdf_cb h hr)
/-- len -/
theorem rc_lenL {K : PySem.W.Frag} {xs : List α} : RC1 (fun xs H Q => ∃ p ys, xs = [.ref p] ∧ (SqL K H p ys ∨ SqT K H p ys) ∧ Q (.int ys.length) H) (cList c) xs cInt (· = (xs.length : Int)) := fun Hf H v e ⟨a, vs, h1, h2, h3, _⟩ Q q =>
  ⟨a, vs, by rw [h1], .inl (SqL.of (e _ _ h2)), q _ Hf H _ rfl (by rw [paired_len h3]; rfl) Fr.refl e⟩
theorem rc_lenT {K : PySem.W.Frag} {xs : List α} : RC1 (fun xs H Q => ∃ p ys, xs = [.ref p] ∧ (SqL K H p ys ∨ SqT K H p ys) ∧ Q (.int ys.length) H) (cTup c) xs cInt (· = (xs.length : Int)) := fun Hf H v e ⟨a, vs, h1, h2, h3, _⟩ Q q =>
  ⟨a, vs, by rw [h1], .inr (SqT.of (e _ _ h2)), q _ Hf H _ rfl (by rw [paired_len h3]; rfl) Fr.refl e⟩
theorem lenG : ∀ X, Good S X → CallR X (.builtin "len") (fun xs H Q => ∃ p ys, xs = [.ref p] ∧ (SqL S.K H p ys ∨ SqT S.K H p ys) ∧ Q (.int ys.length) H) := fun X G => by rw [← G.K]; exact call_len_seq
theorem pd_lenL {xs : List α} (hg : S.sc.names.lookup ("len" : Str) = some .globalImplicit) (hm : S.mg "len" = none) (h : PD S Γ k e (cList c) (· = xs)) (he : ∀ env : Env, starEach [e] env = (false, eval e env) :: starEach [] env) : PD S Γ k (.Call (.Name "len" pn) [e] [] pos) cInt (· = (xs.length : Int)) :=
  pd_b1 lenG hg hm PySem.boot_len h (fun x e => by subst e; exact rc_lenL) he
theorem pd_lenT {xs : List α} (hg : S.sc.names.lookup ("len" : Str) = some .globalImplicit) (hm : S.mg "len" = none) (h : PD S Γ k e (cTup c) (· = xs)) (he : ∀ env : Env, starEach [e] env = (false, eval e env) :: starEach [] env) : PD S Γ k (.Call (.Name "len" pn) [e] [] pos) cInt (· = (xs.length : Int)) :=
  pd_b1 lenG hg hm PySem.boot_len h (fun x e => by subst e; exact rc_lenT) he
/-! ### calls of one's own -/
theorem fnG {f : Addr} {fd : FuncData} {ps : List Str} {sp : Sp} {l : Nat} (F : FnOk S.prog S.w S.K S.mg S.base CX0 l f fd ps sp) (G : Good S X) : FnOk X.prog X.w X.K X.mg X.base CX0 l f fd ps sp := by rw [G.prog, G.w, G.K, G.mg, G.base]; exact F
theorem pd_call {ps : Addr → A → Ctxt} {kf : A → Nat} {pre : A → Prop} {PR : A → ρ → Prop} {B : Ctxt → Prop} {P' : ρ → Prop} {f : Addr} {fd : FuncData} {pn' : List Str} {x : Str} {l : Nat} (F : FnOk S.prog S.w S.K S.mg S.base CX0 l f fd pn' (spD ps kf pre cr PR)) (hl : l ≤ S.lv) (hg : S.sc.names.lookup x = some .globalImplicit)
    (hm : S.mg x = some (.ref f)) (hk : PySem.W.keepIn S.K (.ref f) = true) (hb : Binds S.K fd pn' []) (h : PDA S Γ k1 (e :: es) B) (hc : ∀ as, B as → ∃ a b, as = ps b a ∧ pre a ∧ kf a ≤ k2 ∧ ∀ x, PR a x → P' x)
    (he : ∀ env : Env, starEach (e :: es) env = (false, eval e env) :: starEach es env) (hpl : ∀ env : Env, (backTo pos (starEach es env)).any (·.1) = false) (hdb : (x == ("__debug__" : Str)) = false := by decide) : PD S Γ (k1 + k2) (.Call (.Name x pn) (e :: es) [] pos) cr P' :=
  pd_of (fun X G => pe_call (fnG F G) (G.room.mono hl) (glb G hg) (by rw [G.mg]; exact hm) (by rw [G.K]; exact hk) (by rw [G.K]; exact hb) .nil pass0 (tA_ok G) hdb (he _) (hpl _)) (td_call h hc)
theorem cxG {P : Program} {w : World} {K : PySem.W.Frag} {mg : Str → Option Value} {base : Heap} {N : List Str} {qual : Str} {st : Stmt} {f : Addr} {cdv : Value} {A : Around} {outer : List Env} {s : Shared} {H : Hp} {E : XK} {lv : Nat} (hr : Room lv (A.deeper (PyProof.Rows.envOfC qual (defScope st) s.heap.objs.size f cdv))) (nd : N.Nodup) :
    Good ⟨N, defScope st, K, mg, P, w, base, lv, fun _ => true, false⟩ (cxOf CX0 P w K mg base N qual (defScope st) f cdv A outer s H E).nox := ⟨rfl, rfl, rfl, rfl, rfl, rfl, rfl, rfl, hr, rfl, rfl, nd, fun h => nomatch h⟩
/-- a def keeps its promise, by its body -/
theorem fn_D {P : Program} {w : World} {K : PySem.W.Frag} {mg : Str → Option Value} {base : Heap} {x qual : Str} {st : Stmt} {f : Addr} {fd : FuncData} {N pn : List Str} {lv : Nat} {ps : Addr → A → Ctxt} {kf : A → Nat} {pre : A → Prop} {PR : A → ρ → Prop} (F : Fun K x qual st f fd) (Sc : FnScope N pn (defScope st))
    (hl : ∀ b a, (ps b a).length = pn.length) (hN : pn.length ≤ N.length) (one : ∀ b a, OneB (ps b a))
    (body : ∀ b a, pre a → PHs ⟨N, defScope st, K, mg, P, w, base, lv, fun _ => true, false⟩ (entry N (ps b a)) (kf a) (defBody st) { N := fun _ => False, bk := fun _ => False, ct := fun _ => False, c := cr, R := PR a }) :
    FnOk P w K mg base CX0 (lv + 1) f fd pn (spD ps kf pre cr PR) := by
  refine F.ok Sc (fun vs H Q E h => ?_) (fun cdv A outer s H vs Q E hr h => ?_)
  · obtain ⟨a, b, n, Hf, _, _, _, o, _⟩ := h
    rw [argsOk_len o]; exact hl b a
  · obtain ⟨a, b, n, Hf, hp, hn, ex, o, bx, q⟩ := h
    refine ⟨tSs ⟨N, defScope st, K, mg, P, w, base, lv, fun _ => true, false⟩ (defBody st), tSs_ok (cxG hr Sc.nd), ?_⟩
    exact body_ok (by rw [hl]; exact hN) (one b a) hn ex o bx q (body b a hp)
end
end DL

set_option Elab.async false
set_option linter.all false
set_option maxRecDepth 100000
set_option maxHeartbeats 2000000
namespace DL
open PySem PySem.Spec L2
section
variable {S : Stc} {X : Cx}
variable {Γ Γ1 Γ2 Γ3 : Ctxt} {k k1 k2 k3 kk kt ke : Nat} {A α β γ ρ : Type} {c : Cod α} {c' : Cod β} {cr : Cod ρ} {c1 : Cod α} {c2 : Cod β} {c3 : Cod γ} {P P1 : α → Prop} {P2 : β → Prop} {P3 : γ → Prop} {te to ti : TE} {tt : TT} {t u : TS} {p : Po ρ} {ta tx : TA} {e a b d : Expr} {es : List Expr} {pos pos' pn : Pos}
variable {x : α} {y : β} {z : γ}
/-! ### nothing is drawn, one value -/
theorem pbin {op : Operator} {r : R2} (ho : ∀ X, Good S X → OpR X (binaryOp op) r) (ha : PD S Γ 0 a c1 (· = x)) (hb : PD S Γ 0 b c2 (· = y)) (hr : RD r c1 x c2 y c3 P3) : PD S Γ 0 (.BinOp a op b pos) c3 P3 :=
  pd_bin (k1 := 0) (k2 := 0) ho ha hb fun _ _ h1 h2 => by subst h1 h2; exact hr
theorem pun {op : UnaryOp} {r : V → Hp → VK → Prop} (ho : ∀ X, Good S X → UnR X (unaryOp op) r) (ha : PD S Γ 0 a c1 (· = x)) (hr : RU1 r c1 x c3 P3) : PD S Γ 0 (.UnaryOp op a pos) c3 P3 :=
  pd_un ho ha fun _ h1 => by subst h1; exact hr
theorem pcmp {op : CmpOp} {r : R2} {P3 : Bool → Prop} (ho : ∀ X, Good S X → OpR X (compareOp op) r) (ha : PD S Γ 0 a c1 (· = x)) (hb : PD S Γ 0 b c2 (· = y)) (hr : RD r c1 x c2 y cBool P3) (hm : behindInMarks op b = false) : PD S Γ 0 (.Compare a [op] [b] pos) cBool P3 :=
  pd_cmp (k1 := 0) (k2 := 0) ho ha hb (fun _ _ h1 h2 => by subst h1 h2; exact hr) hm
theorem tcmp {op : CmpOp} {r : R2} {P3 : Bool → Prop} (ho : ∀ X, Good S X → OpR X (compareOp op) r) (ha : PD S Γ 0 a c1 (· = x)) (hb : PD S Γ 0 b c2 (· = y)) (hr : RD r c1 x c2 y cBool P3) (hm : behindInMarks op b = false) : PDT S Γ 0 (.Compare a [op] [b] pos) P3 :=
  pdt_cmp (k1 := 0) (k2 := 0) ho ha hb (fun _ _ h1 h2 => by subst h1 h2; exact hr) hm
theorem tand {x y : Bool} {rest : List Expr} (h1 : PDT S Γ 0 a (· = x)) (h2 : x = true → PDW S Γ 0 (.BoolOp .And (b :: rest) pos) (· = y)) : PDW S Γ 0 (.BoolOp .And (a :: b :: rest) pos) (· = (x && y)) := pdw_and (k1 := 0) (k2 := 0) h1 h2
theorem tor {x y : Bool} {rest : List Expr} (h1 : PDT S Γ 0 a (· = x)) (h2 : x = false → PDW S Γ 0 (.BoolOp .Or (b :: rest) pos) (· = y)) : PDW S Γ 0 (.BoolOp .Or (a :: b :: rest) pos) (· = (x || y)) := pdw_or (k1 := 0) (k2 := 0) h1 h2
theorem pand {x y : Bool} {rest : List Expr} (h1 : PD S Γ 0 a cBool (· = x)) (h2 : x = true → PD S Γ 0 (.BoolOp .And (b :: rest) pos) cBool (· = y)) : PD S Γ 0 (.BoolOp .And (a :: b :: rest) pos) cBool (· = (x && y)) := pd_and (k1 := 0) (k2 := 0) h1 h2
theorem por {x y : Bool} {rest : List Expr} (h1 : PD S Γ 0 a cBool (· = x)) (h2 : x = false → PD S Γ 0 (.BoolOp .Or (b :: rest) pos) cBool (· = y)) : PD S Γ 0 (.BoolOp .Or (a :: b :: rest) pos) cBool (· = (x || y)) := pd_or (k1 := 0) (k2 := 0) h1 h2
theorem pif {b' : Bool} {x y : α} (h : PDT S Γ 0 d (· = b')) (ha : b' = true → PD S Γ 0 a c (· = x)) (hb : b' = false → PD S Γ 0 b c (· = y)) : PD S Γ 0 (.IfExp d a b pos) c (· = if b' = true then x else y) :=
  (pd_if (k1 := 0) (k2 := 0) (k3 := 0) h (fun e => (ha e.symm).imp fun z hz => by subst e; rw [hz]; rfl) fun e => (hb e.symm).imp fun z hz => by subst e; rw [hz]; rfl)
theorem pix {r : R2} (hr : ∀ X, Good S X → IxR X r) (ha : PD S Γ 0 a c1 (· = x)) (hb : PD S Γ 0 b c2 (· = y)) (hrd : RD r c1 x c2 y c3 P3) (hs : PlainIx b) : PD S Γ 0 (.Subscript a b pos) c3 P3 :=
  pd_ixR (k1 := 0) (k2 := 0) hr ha hb (fun _ _ h1 h2 => by subst h1 h2; exact hrd) hs
theorem pt2 {kx : Nat} (ha : PD S Γ 0 a c1 (· = x)) (hb : PD S Γ 0 b c2 (· = y)) (hs : ∀ env : Env, starEach [a, b] env = (false, eval a env) :: starEach [b] env) (hs2 : ∀ env : Env, starEach [b] env = (false, eval b env) :: starEach [] env) : PD S Γ 0 (.Tuple [a, b] kx pos) (cT2 c1 c2) (· = (x, y)) := pd_t2' (k1 := 0) (k2 := 0) ha hb hs hs2
theorem pt3 {kx : Nat} (ha : PD S Γ 0 a c1 (· = x)) (hb : PD S Γ 0 b c2 (· = y)) (hd : PD S Γ 0 d c3 (· = z)) (hs : ∀ env : Env, starEach [a, b, d] env = (false, eval a env) :: starEach [b, d] env) (hs2 : ∀ env : Env, starEach [b, d] env = (false, eval b env) :: starEach [d] env) (hs3 : ∀ env : Env, starEach [d] env = (false, eval d env) :: starEach [] env) :
    PD S Γ 0 (.Tuple [a, b, d] kx pos) (cT3 c1 c2 c3) (· = (x, y, z)) := pd_t3' (k1 := 0) (k2 := 0) (k3 := 0) ha hb hd hs hs2 hs3
/-- a list, item by item -/
inductive PDL {α : Type} (S : Stc) (Γ : Ctxt) (c : Cod α) : List Expr → List α → Prop
  | nil : PDL S Γ c [] []
  | cons {e : Expr} {es : List Expr} {x : α} {xs : List α} : PD S Γ 0 e c (· = x) → PDL S Γ c es xs → (∀ env : Env, starEach (e :: es) env = (false, eval e env) :: starEach es env) → PDL S Γ c (e :: es) (x :: xs)
theorem PDL.pda {es : List Expr} {xs : List α} (h : PDL S Γ c es xs) : PDA S Γ 0 es (· = xs.map fun x => Sl.d c x) := by
  induction h with
  | nil => exact pda_nil
  | cons h _ hs ih => exact pda_more (k1 := 0) (k2 := 0) h ih hs
theorem plst {xs : List α} (h : PDL S Γ c es xs) (hl : xs.length ≤ 1000) : PDF S Γ 0 (.List es pos) c (· = xs) := pdf_lst h.pda fun as e => ⟨xs, e, hl, rfl⟩
theorem ptup {kx : Nat} {xs : List α} (h : PDL S Γ c es xs) (hl : xs.length ≤ 1000) : PD S Γ 0 (.Tuple es kx pos) (cTup c) (· = xs) := pd_tupl h.pda fun as e => ⟨xs, e, hl, rfl⟩
theorem pcat {xs ys : List α} (ha : PD S Γ 0 a (cList c) (· = xs)) (hb : PD S Γ 0 b (cList c) (· = ys)) (lb : xs.length + ys.length ≤ LB) : PDF S Γ 0 (.BinOp a .Add b pos) c (· = xs ++ ys) := pdf_cat (k1 := 0) (k2 := 0) ha hb lb
theorem pcall {ps : Addr → A → Ctxt} {kf : A → Nat} {pre : A → Prop} {g : A → ρ} {l : Ctxt} {f : Addr} {fd : FuncData} {pn' : List Str} {x : Str} {lv : Nat} (F : FnOk S.prog S.w S.K S.mg S.base CX0 lv f fd pn' (spD ps (fun _ => 0) pre cr (fun a x => x = g a))) (hl : lv ≤ S.lv) (hg : S.sc.names.lookup x = some .globalImplicit)
    (hm : S.mg x = some (.ref f)) (hk : PySem.W.keepIn S.K (.ref f) = true) (hb : Binds S.K fd pn' []) (h : PDA S Γ 0 (e :: es) (· = l)) (a : A) (b : Addr) (hc : l = ps b a) (hp : pre a)
    (he : ∀ env : Env, starEach (e :: es) env = (false, eval e env) :: starEach es env) (hpl : ∀ env : Env, (backTo pos (starEach es env)).any (·.1) = false) (hdb : (x == ("__debug__" : Str)) = false := by decide) : PD S Γ 0 (.Call (.Name x pn) (e :: es) [] pos) cr (· = g a) :=
  pd_call (k1 := 0) (k2 := 0) F hl hg hm hk hb h (fun as e => ⟨a, b, e.trans hc, hp, Nat.le_refl _, fun _ h => h⟩) he hpl hdb
theorem pb1 {r : List V → Hp → VK → Prop} {nm : Str} {id : String} (hc : ∀ X, Good S X → CallR X (.builtin id) r) (hg : S.sc.names.lookup nm = some .globalImplicit) (hm : S.mg nm = none) (hv : bootBuiltins nm = some (.builtin id)) (h : PD S Γ 0 e c1 (· = x)) (hr : RC1 r c1 x c3 P3)
    (he : ∀ env : Env, starEach [e] env = (false, eval e env) :: starEach [] env) (hn : nm ≠ "__name__" := by decide) (hdb : (nm == ("__debug__" : Str)) = false := by decide) : PD S Γ 0 (.Call (.Name nm pn) [e] [] pos) c3 P3 :=
  pd_b1 hc hg hm hv h (fun _ h => by subst h; exact hr) he hn hdb
theorem py1 {r : List V → Hp → VK → Prop} {nm : Str} {T : String} (hc : ∀ X, Good S X → CallR X (.type T) r) (hg : S.sc.names.lookup nm = some .globalImplicit) (hm : S.mg nm = none) (hv : bootBuiltins nm = some (.type T)) (h : PD S Γ 0 e c1 (· = x)) (hr : RC1 r c1 x c3 P3)
    (he : ∀ env : Env, starEach [e] env = (false, eval e env) :: starEach [] env) (hn : nm ≠ "__name__" := by decide) (hdb : (nm == ("__debug__" : Str)) = false := by decide) : PD S Γ 0 (.Call (.Name nm pn) [e] [] pos) c3 P3 :=
  pd_y1 hc hg hm hv h (fun _ h => by subst h; exact hr) he hn hdb
theorem pfb1 {r : List V → Hp → VK → Prop} {R : List γ → Prop} {nm : Str} {id : String} (hc : ∀ X, Good S X → CallR X (.builtin id) r) (hg : S.sc.names.lookup nm = some .globalImplicit) (hm : S.mg nm = none) (hv : bootBuiltins nm = some (.builtin id)) (h : PD S Γ 0 e c1 (· = x)) (hr : RC1F r c1 x c3 R)
    (he : ∀ env : Env, starEach [e] env = (false, eval e env) :: starEach [] env) (hn : nm ≠ "__name__" := by decide) (hdb : (nm == ("__debug__" : Str)) = false := by decide) : PDF S Γ 0 (.Call (.Name nm pn) [e] [] pos) c3 R :=
  pdf_b1 hc hg hm hv h (fun _ h => by subst h; exact hr) he hn hdb
theorem pfy1 {r : List V → Hp → VK → Prop} {R : List γ → Prop} {nm : Str} {T : String} (hc : ∀ X, Good S X → CallR X (.type T) r) (hg : S.sc.names.lookup nm = some .globalImplicit) (hm : S.mg nm = none) (hv : bootBuiltins nm = some (.type T)) (h : PD S Γ 0 e c1 (· = x)) (hr : RC1F r c1 x c3 R)
    (he : ∀ env : Env, starEach [e] env = (false, eval e env) :: starEach [] env) (hn : nm ≠ "__name__" := by decide) (hdb : (nm == ("__debug__" : Str)) = false := by decide) : PDF S Γ 0 (.Call (.Name nm pn) [e] [] pos) c3 R :=
  pdf_y1 hc hg hm hv h (fun _ h => by subst h; exact hr) he hn hdb
theorem prng1 {tg : Expr} {i : Int} (hg : S.sc.names.lookup ("range" : Str) = some .globalImplicit) (hm : S.mg "range" = none) (h : PD S Γ 0 a cInt (· = i)) (hi : -4611686018427387904 ≤ i ∧ i ≤ 1000000) (hs : ∀ env : Env, starEach [a] env = [(false, eval a env)]) : PDI S Γ 0 tg (.Call (.Name "range" pn) [a] [] pos) cInt (· = rangeL 0 i.toNat) :=
  pdi_range1 hg hm (pda_one h hs) (fun as e => ⟨i, e, hi.1, hi.2, rfl⟩) hs
theorem prng2 {tg : Expr} {i j : Int} (hg : S.sc.names.lookup ("range" : Str) = some .globalImplicit) (hm : S.mg "range" = none) (h : PD S Γ 0 a cInt (· = i)) (h' : PD S Γ 0 b cInt (· = j)) (hi : -1000000000 ≤ i ∧ i ≤ 1000000000 ∧ -1000000000 ≤ j ∧ j ≤ 1000000000 ∧ j - i ≤ 1000000) (hs : ∀ env : Env, starEach [a, b] env = [(false, eval a env), (false, eval b env)]) (hs2 : ∀ env : Env, starEach [b] env = [(false, eval b env)]) :
    PDI S Γ 0 tg (.Call (.Name "range" pn) [a, b] [] pos) cInt (· = rangeL i (j - i).toNat) :=
  pdi_range2 hg hm (pda_more (k1 := 0) (k2 := 0) h (pda_one h' hs2) fun env => by rw [hs, hs2]) (fun as e => ⟨i, j, e, hi.1, hi.2.1, hi.2.2.1, hi.2.2.2.1, hi.2.2.2.2, rfl⟩) hs hs2
/-! ### comprehensions: filter and map -/
theorem tdf_lcT {elt tg iter : Expr} {ifs : List Expr} {scope : Scope} {own : List (Str × Nat)} {xs : List α} {f : α → β} {q : α → Bool} (hw : PDI S Γ k tg iter c (· = xs)) (nv : NoBxs Γ (own.map (·.2)))
    (hs : ∀ x, x ∈ xs → ∃ Γ1 is, PDG (S.blk scope) tg c x (wipeC Γ (own.map (·.2))) Γ1 is ∧ (∀ i ∈ is, i ∈ own.map (·.2)) ∧ TDT (tTs (S.blk scope) ifs) Γ1 0 (· = q x) ∧ (q x = true → PD (S.blk scope) Γ1 0 elt c' (· = f x))) :
    TDF (lcRd S tg iter ifs elt scope own) Γ k c' (· = (xs.filter q).map f) := tdf_lc' f q hw (noBxs_mem nv) hs
theorem tdf_lcN {elt tg iter : Expr} {scope : Scope} {own : List (Str × Nat)} {xs : List α} {f : α → β} (hw : PDI S Γ k tg iter c (· = xs)) (nv : NoBxs Γ (own.map (·.2)))
    (hs : ∀ x, x ∈ xs → ∃ Γ1 is, PDG (S.blk scope) tg c x (wipeC Γ (own.map (·.2))) Γ1 is ∧ (∀ i ∈ is, i ∈ own.map (·.2)) ∧ PD (S.blk scope) Γ1 0 elt c' (· = f x)) :
    TDF (lcRd S tg iter [] elt scope own) Γ k c' (· = xs.map f) := (tdf_lcT (q := fun _ => true) hw nv fun x hx => by
    obtain ⟨Γ1, is, h1, h2, h3⟩ := hs x hx
    exact ⟨Γ1, is, h1, h2, tts_nil, fun _ => h3⟩).imp fun ys e => by rw [e]; congr 1; simp
theorem plcT (own : List (Str × Nat)) {elt tg iter : Expr} {ifs : List Expr} {scope : Scope} {xs : List α} {f : α → β} {q : α → Bool} (hw : PDI S Γ k tg iter c (· = xs)) (nv : NoBxs Γ (own.map (·.2))) (ok : blkC S.N S.sc scope own = true) (hfs : ∀ (env : Env) x, foldedSetIterable iter env x = pure x)
    (hs : ∀ x, x ∈ xs → ∃ Γ1 is, PDG (S.blk scope) tg c x (wipeC Γ (own.map (·.2))) Γ1 is ∧ (∀ i ∈ is, i ∈ own.map (·.2)) ∧ TDT (tTs (S.blk scope) ifs) Γ1 0 (· = q x) ∧ (q x = true → PD (S.blk scope) Γ1 0 elt c' (· = f x))) :
    PDF S Γ k (.ListComp elt [⟨tg, iter, ifs, 0⟩] scope pos) c' (· = (xs.filter q).map f) := pdf_lc ok hfs (tdf_lcT hw nv hs)
theorem plcN (own : List (Str × Nat)) {elt tg iter : Expr} {scope : Scope} {xs : List α} {f : α → β} (hw : PDI S Γ k tg iter c (· = xs)) (nv : NoBxs Γ (own.map (·.2))) (ok : blkC S.N S.sc scope own = true) (hfs : ∀ (env : Env) x, foldedSetIterable iter env x = pure x)
    (hs : ∀ x, x ∈ xs → ∃ Γ1 is, PDG (S.blk scope) tg c x (wipeC Γ (own.map (·.2))) Γ1 is ∧ (∀ i ∈ is, i ∈ own.map (·.2)) ∧ PD (S.blk scope) Γ1 0 elt c' (· = f x)) :
    PDF S Γ k (.ListComp elt [⟨tg, iter, [], 0⟩] scope pos) c' (· = xs.map f) := pdf_lc ok hfs (tdf_lcN hw nv hs)
/-! ### blocks -/
variable {st : Stmt} {sts sts2 rest : List Stmt} {N1 : Ctxt → Prop}
theorem bset (i : Nat) {nm : Str} (h : PD S Γ k e c P) (nb : NoBx Γ i) (hi : S.N[i]? = some nm) (hx : Loc S.sc nm) (hs : ∀ env : Env, env.scope = S.sc → swapsWith e (some (.Name nm pos')) pos.line env = pure false) (hf : S.fn nm = true ∨ S.sc.names.lookup nm = some .local) (hr : ∀ x, P x → PHs S (Γ.set i (.d c x)) k2 rest p) : PHs S Γ (k + k2) (.Assign [.Name nm pos'] e pos :: rest) p :=
  phs_cons (N1 := fun G => ∃ x, P x ∧ G = Γ.set i (.d c x)) (ph_set h nb (fun y hy => ⟨y, hy, rfl⟩) hi hx hs hf) fun Γ1 ⟨x, hx, e⟩ => by subst e; exact hr x hx
theorem bsetL (i : Nat) {nm : Str} {R : List α → Prop} (h : PDF S Γ k e c R) (nb : NoBx Γ i) (hi : S.N[i]? = some nm) (hx : Loc S.sc nm) (hs : ∀ env : Env, env.scope = S.sc → swapsWith e (some (.Name nm pos')) pos.line env = pure false) (hf : S.fn nm = true ∨ S.sc.names.lookup nm = some .local) (hr : ∀ x, R x → PHs S (Γ.set i (.l c x)) k2 rest p) : PHs S Γ (k + k2) (.Assign [.Name nm pos'] e pos :: rest) p :=
  phs_cons (N1 := fun G => ∃ x, R x ∧ G = Γ.set i (.l c x)) (ph_setL h nb (fun y hy => ⟨y, hy, rfl⟩) hi hx hs hf) fun Γ1 ⟨x, hx, e⟩ => by subst e; exact hr x hx
theorem bsetLc (i : Nat) {nm : Str} {py : Pos} {elt tg iter : Expr} {ifs : List Expr} {scope : Scope} (own : List (Str × Nat)) {R : List β → Prop} (h : TDF (lcRd S tg iter ifs elt scope own) Γ k c' R) (nb : NoBx Γ i) (hi : S.N[i]? = some nm) (hyl : S.sc.names.lookup nm = some .local) (hl : (py.line == pos.line) = true) (hk : S.sc.kind = .function)
    (ha : (scope.names.any fun (n, k) => n == nm && (k == .local || k == .cell)) = false) (ok : blkC S.N S.sc scope own = true) (hfs : ∀ (env : Env) x, foldedSetIterable iter env x = pure x) (hr : ∀ x, R x → PHs S (Γ.set i (.d (cList c') x)) k2 rest p) : PHs S Γ (k + k2) (.Assign [.Name nm py] (.ListComp elt [⟨tg, iter, ifs, 0⟩] scope pos) pos' :: rest) p :=
  phs_cons (N1 := fun G => ∃ x, R x ∧ G = Γ.set i (.d (cList c') x)) (ph_setLc h nb (fun y hy => ⟨y, hy, rfl⟩) hi hyl hl hk ha ok hfs) fun Γ1 ⟨x, hx, e⟩ => by subst e; exact hr x hx
theorem bret {R' : ρ → Prop} (h : PD S Γ k e p.c R') (hr : ∀ x, R' x → p.R x) : PHs S Γ k [.Return (some e) pos] p := phs_one (ph_ret' h hr)
/-- if e: .. return ..; rest -/
theorem bifR {b' : Bool → Prop} (h : PDT S Γ k1 e b') (ha : b' true → PHs S Γ k2 sts { p with N := fun _ => False }) (hb : b' false → PHs S Γ k3 rest p) : PHs S Γ (k1 + k2 + k3) (.If e sts [] pos :: rest) p :=
  phs_cons (N1 := fun G => b' false ∧ G = Γ) (k1 := k1 + k2) (HS.le (ph_if (k2 := k2) (k3 := 0) h (fun q => (ha q).imp (N' := fun G => b' false ∧ G = Γ) fun _ z => z.elim) fun q => phs_nil ⟨q, rfl⟩) (by omega)) fun Γ1 ⟨q, e⟩ => by subst e; exact hb q
theorem bfor {tg iter : Expr} {X' : List α → Prop} {kn : Nat} (vs : List Nat) (I : List α → List α → Ctxt → Prop) (hw : PDI S Γ k tg iter c X') (h0 : ∀ xs, X' xs → I xs [] Γ) (hk : ∀ xs, X' xs → xs.length * kk ≤ kn)
    (hs : ∀ xs, X' xs → ∀ pre x post Γ1, xs = pre ++ x :: post → I xs pre Γ1 → ∃ Γ2 is, PDG S tg c x Γ1 Γ2 is ∧ PHs S Γ2 kk sts { N := fun Γ' => NoBxs Γ' vs ∧ I xs (pre ++ [x]) (wipeC Γ' vs), ct := I xs (pre ++ [x]), bk := fun _ => False, c := p.c, R := p.R })
    (hfs : ∀ (env : Env) x, foldedSetIterable iter env x = pure x) (hr : ∀ xs Γ1, X' xs → I xs xs Γ1 → PHs S Γ1 k2 rest p) : PHs S Γ (k + kn + k2) (.For tg iter sts [] pos :: rest) p :=
  phs_cons (N1 := fun G => ∃ xs, X' xs ∧ I xs xs G) (ph_forV vs I hw h0 hk (fun xs hx pre x post Γ1 e hI => by
    obtain ⟨Γ2, is, g, h⟩ := hs xs hx pre x post Γ1 e hI
    exact ⟨Γ2, is, g, fun O n σ Hf H hn s D q1 q2 q3 q4 => h O n σ Hf H hn s D q1 (fun _ _ _ _ z _ => z.elim) q3 q4⟩) (fun xs Γ1 hx hI => ⟨xs, hx, hI⟩) hfs) fun Γ1 ⟨xs, hx, hI⟩ => hr xs Γ1 hx hI
theorem bappend (i : Nat) {nm : Str} {xs : List α} {p1 p2 : Pos} (hΓ : Γ[i]? = some (.l c xs)) (he : PD S Γ k e c P) (lb : xs.length + 1 ≤ LB) (hN : S.N[i]? = some nm) (hv : Vis S.sc nm)
    (hfew : ∀ env : Env, ((backTo p2 (starEach [e] env)).all (fun x => !x.1) && (backToKw p2 (keywordEach [] env)).all (fun x => x.1.isSome) && decide ([e].length + ([] : List Keyword).length + (if ([] : List Keyword).isEmpty then 0 else 1) < 30)) = true)
    (hline : (p1.endLine == p2.line) = true) (hs : ∀ env : Env, starEach [e] env = (false, eval e env) :: starEach [] env) (hsw : ∀ env : Env, swapsWith (.Call (.Attribute (.Name nm pos') "append" p1) [e] [] p2) none pos.line env = pure false)
    (hr : ∀ y, P y → PHs S (Γ.set i (.l c (xs ++ [y]))) k2 rest p) (hd : (nm == ("__debug__" : Str)) = false := by decide) (hcd : (nm == ("__classdict__" : Str)) = false := by decide) :
    PHs S Γ (k + k2) (.Expr (.Call (.Attribute (.Name nm pos') "append" p1) [e] [] p2) pos :: rest) p :=
  phs_cons (N1 := fun G => ∃ y, P y ∧ G = Γ.set i (.l c (xs ++ [y]))) (ph_append hΓ (by unfold NoBx; rw [hΓ]; trivial) he lb (fun y hy => ⟨y, hy, rfl⟩) hN hv hfew hline hs hsw hd hcd) fun Γ1 ⟨x, hx, e⟩ => by subst e; exact hr x hx
theorem bretL (i : Nat) {nm : Str} {xs : List α} (hΓ : Γ[i]? = some (.l c xs)) (hN : S.N[i]? = some nm) (hv : Vis S.sc nm) (hr : ∀ H v, (cList c).rep H v xs → ∃ y, p.R y ∧ p.c.rep H v y) (hd : (nm == ("__debug__" : Str)) = false := by decide) (hcd : (nm == ("__classdict__" : Str)) = false := by decide) : PHs S Γ 0 [.Return (some (.Name nm pos')) pos] p :=
  phs_one (ph_ret_l hΓ (by unfold NoBx; rw [hΓ]; trivial) hN hv hr hd hcd)
theorem kcl : (some NameKind.cell == some NameKind.local) = false := rfl
theorem sw_cell {sc : Scope} {nm : Str} {v : Expr} {l : Nat} {pp : Pos} (h : sc.names.lookup nm = some .cell) (env : Env) (he : env.scope = sc) : swapsWith v (some (.Name nm pp)) l env = pure false := by
  have ek : env.kindOf nm = some .cell := by show env.scope.names.lookup nm = _; rw [he]; exact h
  cases v <;> first | rfl | (show (pure (env.blockKind == ScopeKind.function && env.kindOf nm == some .local && _ && _) : Sem Bool) = pure false; rw [ek, kcl, Bool.and_false, Bool.false_and, Bool.false_and])
end
end DL

set_option Elab.async false
set_option linter.all false
set_option maxRecDepth 100000
set_option maxHeartbeats 2000000
namespace DL
open PySem PySem.Spec L2
/-- a list or a tuple -/
def cSeq {α : Type} (c : Cod α) : Cod (List α) := ⟨fun H v xs => (cList c).rep H v xs ∨ (cTup c).rep H v xs, fun e h => h.imp ((cList c).mono e) ((cTup c).mono e)⟩
section
variable {S : Stc} {X : Cx}
variable {Γ Γ1 Γ2 Γ3 : Ctxt} {k k1 k2 k3 kk kt ke : Nat} {A α β γ ρ : Type} {c : Cod α} {c' : Cod β} {cr : Cod ρ} {c1 : Cod α} {c2 : Cod β} {c3 : Cod γ} {P P1 : α → Prop} {P2 : β → Prop} {P3 : γ → Prop} {te to ti : TE} {tt : TT} {t u : TS} {p : Po ρ} {ta tx : TA} {e a b d : Expr} {es : List Expr} {pos pos' pn pt : Pos}
variable {x : α} {y : β} {z : γ}
theorem TD.seqL {xs : List α → Prop} (h : TD te Γ k (cList c) xs) : TD te Γ k (cSeq c) xs := h.conv fun H v x px r => ⟨x, px, .inl r⟩
theorem TD.seqT {xs : List α → Prop} (h : TD te Γ k (cTup c) xs) : TD te Γ k (cSeq c) xs := h.conv fun H v x px r => ⟨x, px, .inr r⟩
theorem sq_seq {K : PySem.W.Frag} {Hf H : Hp} {v : V} {xs : List α} (e : Ex Hf H) (h : (cSeq c).rep Hf v xs) : ∃ a vs, v = .ref a ∧ (SqL K H a vs ∨ SqT K H a vs) ∧ Paired (c.rep Hf) vs xs ∧ vs.length ≤ LB := by
  rcases h with ⟨a, vs, h1, h2, h3, h4⟩ | ⟨a, vs, h1, h2, h3, h4⟩
  · exact ⟨a, vs, h1, .inl (SqL.of (e _ _ h2)), h3, h4⟩
  · exact ⟨a, vs, h1, .inr (SqT.of (e _ _ h2)), h3, h4⟩
abbrev rLenR (K : PySem.W.Frag) : List V → Hp → VK → Prop := fun xs H Q => ∃ p ys, xs = [.ref p] ∧ (SqL K H p ys ∨ SqT K H p ys) ∧ Q (.int ys.length) H
abbrev rListR (K : PySem.W.Frag) : List V → Hp → VK → Prop := fun xs H Q => ∃ p ys, xs = [.ref p] ∧ (SqL K H p ys ∨ SqT K H p ys) ∧ ∀ l, H l = none → Q (.ref l) (upd H l (.lst ys))
abbrev rTupR (K : PySem.W.Frag) : List V → Hp → VK → Prop := fun xs H Q => ∃ p ys, xs = [.ref p] ∧ ((SqL K H p ys ∧ ∀ l, H l = none → Q (.ref l) (upd H l (.tup ys))) ∨ (SqT K H p ys ∧ Q (.ref p) H))
theorem rc_len {K : PySem.W.Frag} {xs : List α} : RC1 (rLenR K) (cSeq c) xs cInt (· = (xs.length : Int)) := fun Hf H v e h Q q => by
  obtain ⟨a, vs, h1, h2, h3, _⟩ := sq_seq (K := K) e h
  exact ⟨a, vs, by rw [h1], h2, q _ Hf H _ rfl (by rw [paired_len h3]; rfl) Fr.refl e⟩
theorem rc_list {K : PySem.W.Frag} {xs : List α} : RC1F (rListR K) (cSeq c) xs c (· = xs) := fun Hf H v e h Q q => by
  obtain ⟨a, vs, h1, h2, h3, h4⟩ := sq_seq (K := K) e h
  exact ⟨a, vs, by rw [h1], h2, fun l hl => q l vs xs rfl hl h3 h4⟩
theorem rc_tuple {K : PySem.W.Frag} {xs : List α} : RC1 (rTupR K) (cSeq c) xs (cTup c) (· = xs) := fun Hf H v e h Q q => by
  rcases h with ⟨a, vs, h1, h2, h3, h4⟩ | ⟨a, vs, h1, h2, h3, h4⟩
  · refine ⟨a, vs, by rw [h1], .inl ⟨SqL.of (e _ _ h2), fun l hl => ?_⟩⟩
    exact q xs (upd Hf l (.tup vs)) _ _ rfl ⟨l, vs, rfl, upd_same, paired_mono h3 (fun _ _ z => c.mono (Ex.new (e.back hl)) z), h4⟩ (Fr.new e hl) (e.both (e.back hl))
  · exact ⟨a, vs, by rw [h1], .inr ⟨SqT.of (e _ _ h2), q xs Hf H _ rfl ⟨a, vs, rfl, h2, h3, h4⟩ Fr.refl e⟩⟩
theorem listG : ∀ X, Good S X → CallR X (.type "list") (rListR S.K) := fun X G => by rw [← G.K]; exact call_list_of
theorem tupG : ∀ X, Good S X → CallR X (.type "tuple") (rTupR S.K) := fun X G => by rw [← G.K]; exact call_tuple_of
variable {xs : List α}
theorem plen (hg : S.sc.names.lookup ("len" : Str) = some .globalImplicit) (hm : S.mg "len" = none) (h : PD S Γ 0 e (cSeq c) (· = xs)) (he : ∀ env : Env, starEach [e] env = (false, eval e env) :: starEach [] env) : PD S Γ 0 (.Call (.Name "len" pn) [e] [] pos) cInt (· = (xs.length : Int)) := pb1 lenG hg hm PySem.boot_len h rc_len he
theorem plist (hg : S.sc.names.lookup ("list" : Str) = some .globalImplicit) (hm : S.mg "list" = none) (h : PD S Γ 0 e (cSeq c) (· = xs)) (he : ∀ env : Env, starEach [e] env = (false, eval e env) :: starEach [] env) : PDF S Γ 0 (.Call (.Name "list" pn) [e] [] pos) c (· = xs) := pfy1 listG hg hm PyProof.Rows.boot_list h rc_list he
theorem ptuple (hg : S.sc.names.lookup ("tuple" : Str) = some .globalImplicit) (hm : S.mg "tuple" = none) (h : PD S Γ 0 e (cSeq c) (· = xs)) (he : ∀ env : Env, starEach [e] env = (false, eval e env) :: starEach [] env) : PD S Γ 0 (.Call (.Name "tuple" pn) [e] [] pos) (cTup c) (· = xs) := py1 tupG hg hm PyProof.Rows.boot_tuple h rc_tuple he
/-- walks over either -/
theorem pdi_seq {tg : Expr} {R : List α → Prop} (h : PD S Γ k e (cSeq c) R) : PDI S Γ k tg e c R := fun O n σ Hf H hn s Rr q => by
  obtain hh := h O n σ Hf H hn s
  -- the reading of e decides which rule walks
  refine ⟨fun σ H R => tE S e σ H fun v H1 => ∃ a, v = .ref a ∧ ((∃ vs, SqL S.K H1 a vs) ∧ R (Itl S.K a) H1 ∨ (∃ vs, SqT S.K H1 a vs) ∧ R (Itt S.K a) H1), fun X G => ?_, ?_⟩
  · refine ⟨fun pins s σ H R I w => ?_⟩
    refine thn ((tE_ok G).run pins s σ H _ I w) fun v s1 ⟨x, H1, I1, r1, a, ex, q1⟩ => ?_
    subst ex
    have hK := G.K
    rcases q1 with ⟨⟨vs, hs⟩, q1⟩ | ⟨⟨vs, hs⟩, q1⟩
    · have one : PE X e (fun σ H Q => tE S e σ H Q) := tE_ok G
      cases r1
      rw [← hK] at hs q1
      obtain ⟨its, rv, p, hz⟩ := I1.list hs
      refine wpAny_pyIter_list p.isList ?_
      refine ⟨s1.heap.objs.size, [s1.heap.objs.size], _, _, H1, rfl, I1.kept (t' := s1.toks) fun b o e => Heap.get?_push_of_some _ e, turn_list a _, ⟨_, Heap.get?_push_size _ rfl, rfl, rfl⟩, fun b hb => ?_, q1⟩
      have e : b = s1.heap.objs.size := by simpa using hb
      subst e
      exact I1.fpOk (Nat.le_refl _) (I1.hok.fresh (Nat.le_refl _))
    · cases r1
      rw [← hK] at hs q1
      obtain ⟨its, rv, p, hz⟩ := I1.tuple hs
      refine wpAny_pyIter_tuple (show s1.heap.IsTuple a its.toArray from p) ?_
      refine ⟨s1.heap.objs.size, [s1.heap.objs.size], _, _, H1, rfl, I1.kept (t' := s1.toks) fun b o e => Heap.get?_push_of_some _ e, turn_tuple a _, ⟨_, Heap.get?_push_size _ rfl, rfl, rfl⟩, fun b hb => ?_, q1⟩
      have e : b = s1.heap.objs.size := by simpa using hb
      subst e
      exact I1.fpOk (Nat.le_refl _) (I1.hok.fresh (Nat.le_refl _))
  · refine hh _ fun v Hf' H' xs px r f s' => ?_
    rcases r with ⟨a, vs, h1, h2, h3, h4⟩ | ⟨a, vs, h1, h2, h3, h4⟩
    · refine ⟨a, h1, .inl ⟨⟨vs, SqL.of (s'.ex _ _ h2)⟩, q _ Hf' H' xs px ?_ (by rw [← paired_len h3]; exact h4) f s'⟩⟩
      have hl := paired_len h3
      exact ⟨fun Hf2 H2 i e1 e2 hi => ⟨vs, vs[i]'(by omega), SqL.of (e2 _ _ (e1 _ _ h2)), List.getElem?_eq_getElem (by omega)⟩, fun Hf2 H2 e1 e2 => ⟨vs, SqL.of (e2 _ _ (e1 _ _ h2)), by omega⟩, fun Hf2 H2 i w H1 x e1 e2 hy hx => by
        obtain ⟨rfl, hy⟩ := hy
        exact ⟨Hf2, c.mono e1 (paired_get h3 (hy vs (SqL.of (e2 _ _ (e1 _ _ h2)))) hx), Fr.refl, e2⟩⟩
    · refine ⟨a, h1, .inr ⟨⟨vs, SqT.of (s'.ex _ _ h2)⟩, q _ Hf' H' xs px ?_ (by rw [← paired_len h3]; exact h4) f s'⟩⟩
      have hl := paired_len h3
      exact ⟨fun Hf2 H2 i e1 e2 hi => ⟨vs, vs[i]'(by omega), SqT.of (e2 _ _ (e1 _ _ h2)), List.getElem?_eq_getElem (by omega)⟩, fun Hf2 H2 e1 e2 => ⟨vs, SqT.of (e2 _ _ (e1 _ _ h2)), by omega⟩, fun Hf2 H2 i w H1 x e1 e2 hy hx => by
        obtain ⟨rfl, hy⟩ := hy
        exact ⟨Hf2, c.mono e1 (paired_get h3 (hy vs (SqT.of (e2 _ _ (e1 _ _ h2)))) hx), Fr.refl, e2⟩⟩
end
end DL

set_option Elab.async false
set_option linter.all false
set_option maxRecDepth 100000
set_option maxHeartbeats 2000000
namespace DL
open PySem PySem.Spec L2 StX
section
variable {S : Stc} {X : Cx}
variable {Γ Γ1 Γ2 Γ3 : Ctxt} {k k1 k2 k3 kk kt ke : Nat} {A α β γ ρ : Type} {c : Cod α} {c' : Cod β} {cr : Cod ρ} {c1 : Cod α} {c2 : Cod β} {c3 : Cod γ} {P P1 : α → Prop} {P2 : β → Prop} {P3 : γ → Prop} {te to ti : TE} {tt : TT} {t u : TS} {p : Po ρ} {ta tx : TA} {e a b d : Expr} {es : List Expr} {pos pos' pn pt : Pos}
variable {x : α} {y : β} {z : γ} {xs : List α}
/-! ### isinstance -/
/-- the class of such data -/
def TyC {α : Type} (K : PySem.W.Frag) (c : Cod α) (x : α) (t : Value) : Prop := ∀ H v, c.rep H v x → TyX K H v t
variable {K : PySem.W.Frag}
theorem ty_int {i : Int} : TyC K cInt i (.type "int") := fun H v h => by obtain rfl := h; exact .base (.int i)
theorem ty_bool {i : Bool} : TyC K cBool i (.type "bool") := fun H v h => by obtain rfl := h; exact .base (.bl i)
theorem ty_str {i : Str} : TyC K cStr i (.type "str") := fun H v h => by obtain rfl := h; exact .base (.str i)
theorem ty_list : TyC K (cList c) xs (.type "list") := fun H v ⟨a, vs, h1, h2, _⟩ => by subst h1; exact .base (.lst h2)
theorem ty_tup : TyC K (cTup c) xs (.type "tuple") := fun H v ⟨a, vs, h1, h2, _⟩ => by subst h1; exact .base (.tup h2)
theorem ty_t2 {w : α × β} : TyC K (cT2 c1 c2) w (.type "tuple") := fun H v ⟨a, _, _, h1, h2, _⟩ => by subst h1; exact .base (.tup h2)
theorem ty_t3 {w : α × β × γ} : TyC K (cT3 c1 c2 c3) w (.type "tuple") := fun H v ⟨a, _, _, _, h1, h2, _⟩ => by subst h1; exact .base (.tup h2)
structure OwnC (K : PySem.W.Frag) (C : Addr) : Prop where
  cl : Cls K C
  ha : PySem.W.findIn K (.ref C) "__class__" = some (some (.builtin "object.__class__"))
  hn : PySem.W.specialIn K (.builtin "object.__class__") "__get__" = some (some (.builtin "getset_descriptor.__get__"))
  ht : PySem.W.takesIn K (.builtin "object.__class__") = some true
  hm : PySem.W.mroIn K C (.type "object") = some true
theorem ty_ins {C : Addr} {ω : Type} {F : Hp → List (Str × V) → ω → Prop} {hm : ∀ {H H' fs y}, Ex H H' → F H fs y → F H' fs y} {y : ω} (o : OwnC K C) : TyC K (cIns C F hm) y (.ref C) := fun H v ⟨a, dx, fs, h1, h2, _⟩ => by subst h1; exact .base (.ins h2 o.cl o.ha o.hn o.ht o.hm)
/-- isinstance(e, T), T the name of a built-in type or of an own class -/
theorem pisi {T : Str} {cv : V} {u ty : Value} {r : Bool} {p1 p2 : Pos} (hg : S.sc.names.lookup ("isinstance" : Str) = some .globalImplicit) (hm : S.mg "isinstance" = none) (h : PD S Γ 0 e c (· = x)) (hT : ∀ X, Good S X → PE X (.Name T p2) (tC cv)) (hc : ClsV cv u) (ht : TyC S.K c x ty) (hk : PySem.W.kitOne S.K ty u = some r)
    (he : ∀ env : Env, starEach [e, .Name T p2] env = (false, eval e env) :: starEach [.Name T p2] env) : PD S Γ 0 (.Call (.Name "isinstance" p1) [e, .Name T p2] [] pos) cBool (· = r) :=
  pd_of (te := tCB (rIsi S.K) (tCons (tE S e) (tCons (tC cv) tNil))) (fun X G => by
    rw [← G.K]
    exact pe_callB call_isi (glb G hg) (by rw [G.mg]; exact hm) (by decide +kernel) (pa_cons (tE_ok G) (pa_cons (hT X G) pa_nil) (he _)) (by decide) (by decide) (he _) rfl)
    fun O n σ Hf H hn s Q q => h O n σ Hf H hn s _ fun v Hf' H' y py r' f s' => by
      subst py
      exact ⟨v, cv, ty, u, r, rfl, hc, ht _ _ (c.mono s'.ex r'), hk, q _ Hf' H' r rfl rfl f s'⟩
theorem nmTy {T : Str} {n : String} {p2 : Pos} (hg : S.sc.names.lookup T = some .globalImplicit) (hm : S.mg T = none) (hv : bootBuiltins T = some (.type n)) (hn : T ≠ "__name__" := by decide) (hd : (T == ("__debug__" : Str)) = false := by decide) : ∀ X, Good S X → PE X (.Name T p2) (tC (.ty n)) :=
  fun X G => pe_bltn (glb G hg) (by rw [G.mg]; exact hm) hv rfl hn hd
theorem nmOwn {T : Str} {C : Addr} {p2 : Pos} (hg : S.sc.names.lookup T = some .globalImplicit) (hm : S.mg T = some (.ref C)) (hd : (T == ("__debug__" : Str)) = false := by decide) : ∀ X, Good S X → PE X (.Name T p2) (tC (.ref C)) :=
  fun X G => pe_glob (glb G hg) (by rw [G.mg]; exact hm) rfl hd
/-- isinstance(e, (list, tuple)) -/
theorem pisiLT {p1 p2 p3 p4 : Pos} {kx : Nat} {ty : Value} {r : Bool} (hg : S.sc.names.lookup ("isinstance" : Str) = some .globalImplicit) (hm : S.mg "isinstance" = none) (hgl : S.sc.names.lookup ("list" : Str) = some .globalImplicit) (hml : S.mg "list" = none) (hgt : S.sc.names.lookup ("tuple" : Str) = some .globalImplicit) (hmt : S.mg "tuple" = none)
    (h : PD S Γ 0 e c (· = x)) (ht : TyC S.K c x ty) (hk : PySem.W.kitAny S.K ty [.type "list", .type "tuple"] = some r)
    (he : ∀ env : Env, starEach [e, .Tuple [.Name "list" p2, .Name "tuple" p3] kx p4] env = (false, eval e env) :: starEach [.Tuple [.Name "list" p2, .Name "tuple" p3] kx p4] env) :
    PD S Γ 0 (.Call (.Name "isinstance" p1) [e, .Tuple [.Name "list" p2, .Name "tuple" p3] kx p4] [] pos) cBool (· = r) :=
  pd_of (te := tCB (rIsiT S.K) (tCons (tE S e) (tCons (tTup (tCons (tC (.ty "list")) (tCons (tC (.ty "tuple")) tNil))) tNil))) (fun X G => by
    rw [← G.K]
    exact pe_callB call_isiT (glb G hg) (by rw [G.mg]; exact hm) (by decide +kernel) (pa_cons (tE_ok G) (pa_cons (pe_tup (pa_cons (nmTy hgl hml PyProof.Rows.boot_list (by decide) (by decide) X G) (pa_cons (nmTy hgt hmt PyProof.Rows.boot_tuple (by decide) (by decide) X G) pa_nil))) pa_nil) (he _)) (by decide) (by decide) (he _) rfl)
    fun O n σ Hf H hn s Q q => h O n σ Hf H hn s _ fun v Hf' H' y py r' f s' => by
      subst py
      refine ⟨by show 2 ≤ sizeLine; decide, fun tp htp => ?_⟩
      refine ⟨v, tp, [.ty "list", .ty "tuple"], ty, [.type "list", .type "tuple"], r, rfl, upd_same, .cons (.ty _) (.cons (.ty _) .nil), ht _ _ (c.mono (s'.ex.trans (Ex.new htp)) r'), hk, ?_⟩
      exact q _ (upd Hf' tp (.tup [.ty "list", .ty "tuple"])) _ r rfl rfl (f.trans (Fr.new (M := Bx Γ) s'.ex htp) fun _ z => .inl z) (s'.new htp)
theorem kLT_list : PySem.W.kitAny K (.type "list") [.type "list", .type "tuple"] = some true := kitAny_cons (b := true) (kit_ty (by decide +kernel)) (fun h => by cases h) fun _ => rfl
theorem kLT_tuple : PySem.W.kitAny K (.type "tuple") [.type "list", .type "tuple"] = some true := kitAny_cons (b := false) (kit_ty (by decide +kernel)) (fun _ => kitAny_cons (b := true) (kit_ty (by decide +kernel)) (fun h => by cases h) fun _ => rfl) (fun h => by cases h)
theorem kLT_int : PySem.W.kitAny K (.type "int") [.type "list", .type "tuple"] = some false := kitAny_cons (b := false) (kit_ty (by decide +kernel)) (fun _ => kitAny_cons (b := false) (kit_ty (by decide +kernel)) (fun _ => rfl) (fun h => by cases h)) (fun h => by cases h)
/-! ### all, any, sum, abs, max, min -/
theorem rc_all {K : PySem.W.Frag} {bs : List Bool} : RC1 (rAll K) (cList cBool) bs cBool (· = bs.all id) := fun Hf H v e ⟨a, vs, h1, h2, h3, _⟩ Q q => by
  have := bools_of_paired h3
  subst this
  exact ⟨a, bs, by rw [h1], SqL.of (e _ _ h2), q _ Hf H _ rfl rfl Fr.refl e⟩
theorem rc_any {K : PySem.W.Frag} {bs : List Bool} : RC1 (rAny K) (cList cBool) bs cBool (· = bs.any id) := fun Hf H v e ⟨a, vs, h1, h2, h3, _⟩ Q q => by
  have := bools_of_paired h3
  subst this
  exact ⟨a, bs, by rw [h1], SqL.of (e _ _ h2), q _ Hf H _ rfl rfl Fr.refl e⟩
theorem rc_sum {K : PySem.W.Frag} {ns : List Int} : RC1 (rSum K) (cList cInt) ns cInt (· = ns.sum) := fun Hf H v e ⟨a, vs, h1, h2, h3, _⟩ Q q => by
  have := ints_of_paired h3
  subst this
  exact ⟨a, ns, by rw [h1], SqL.of (e _ _ h2), q _ Hf H _ rfl rfl Fr.refl e⟩
theorem allG : ∀ X, Good S X → CallR X (.builtin "all") (rAll S.K) := fun X G => by rw [← G.K]; exact cr_all G.calm
theorem anyG : ∀ X, Good S X → CallR X (.builtin "any") (rAny S.K) := fun X G => by rw [← G.K]; exact cr_any G.calm
theorem sumG : ∀ X, Good S X → CallR X (.builtin "sum") (rSum S.K) := fun X G => by rw [← G.K]; exact cr_sum G.calm
theorem pall {bs : List Bool} (hg : S.sc.names.lookup ("all" : Str) = some .globalImplicit) (hm : S.mg "all" = none) (h : PD S Γ 0 e (cList cBool) (· = bs)) (he : ∀ env : Env, starEach [e] env = (false, eval e env) :: starEach [] env) : PD S Γ 0 (.Call (.Name "all" pn) [e] [] pos) cBool (· = bs.all id) := pb1 allG hg hm PyProof.Rows.boot_all h rc_all he
theorem pany {bs : List Bool} (hg : S.sc.names.lookup ("any" : Str) = some .globalImplicit) (hm : S.mg "any" = none) (h : PD S Γ 0 e (cList cBool) (· = bs)) (he : ∀ env : Env, starEach [e] env = (false, eval e env) :: starEach [] env) : PD S Γ 0 (.Call (.Name "any" pn) [e] [] pos) cBool (· = bs.any id) := pb1 anyG hg hm PyProof.Rows.boot_any h rc_any he
theorem psum {bs : List Int} (hg : S.sc.names.lookup ("sum" : Str) = some .globalImplicit) (hm : S.mg "sum" = none) (h : PD S Γ 0 e (cList cInt) (· = bs)) (he : ∀ env : Env, starEach [e] env = (false, eval e env) :: starEach [] env) : PD S Γ 0 (.Call (.Name "sum" pn) [e] [] pos) cInt (· = bs.sum) := pb1 sumG hg hm PyProof.Rows.boot_sum h rc_sum he
/-! ### sorted -/
theorem paired_ints {H : Hp} : ∀ ns : List Int, Paired (cInt.rep H) (ns.map V.int) ns
  | [] => .nil
  | _ :: ns => .cons rfl (paired_ints ns)
theorem rc_sortI {K : PySem.W.Frag} {ns : List Int} : RC1F (rSortedI K) (cList cInt) ns cInt (fun ys => ys.Perm ns ∧ ys.Pairwise (· ≤ ·)) := fun Hf H v e ⟨a, vs, h1, h2, h3, h4⟩ Q q => by
  have := ints_of_paired h3
  subst this
  refine ⟨a, ns, by rw [h1], SqL.of (e _ _ h2), fun ns' p hp hs hn => q p _ ns' ⟨hp, hs⟩ hn (paired_ints ns') ?_⟩
  rw [List.length_map, hp.length_eq]
  rw [List.length_map] at h4; exact h4
theorem sortIG : ∀ X, Good S X → CallR X (.builtin "sorted") (rSortedI S.K) := fun X G => by rw [← G.K]; exact cr_sortedI
theorem psortI {ns : List Int} (hg : S.sc.names.lookup ("sorted" : Str) = some .globalImplicit) (hm : S.mg "sorted" = none) (h : PD S Γ 0 e (cList cInt) (· = ns)) (he : ∀ env : Env, starEach [e] env = (false, eval e env) :: starEach [] env) : PDF S Γ 0 (.Call (.Name "sorted" pn) [e] [] pos) cInt (fun ys => ys.Perm ns ∧ ys.Pairwise (· ≤ ·)) := pfb1 sortIG hg hm PyProof.Rows.boot_sorted h rc_sortI he
/-! ### chains of comparisons of ints -/
theorem pchain {op op' : CmpOp} {g g' : Int → Int → Bool} {i j l : Int} (ho : ∀ X : Cx, OpR X (compareOp op) (rI0 fun i j => .bl (g i j))) (ho' : ∀ X : Cx, OpR X (compareOp op') (rI0 fun i j => .bl (g' i j))) (ha : PD S Γ 0 a cInt (· = i)) (hb : PD S Γ 0 b cInt (· = j)) (hd : PD S Γ 0 d cInt (· = l)) (hm : lastMarks [op, op'] [b, d] = false) :
    PD S Γ 0 (.Compare a [op, op'] [b, d] pos) cBool (· = (g i j && g' j l)) :=
  pd_of (fun X G => pe_chain (ho X) (ho' X) (tE_ok G) (tE_ok G) (tE_ok G) hm) fun O n σ Hf H hn s Q q => ha O n σ Hf H hn s _ fun v Hf1 H1 x1 p1 r1 f1 s1 => hb O n σ Hf1 H1 hn s1 _ fun v2 Hf2 H2 x2 p2 r2 f2 s2 => by
    subst p1 p2
    obtain rfl := r1
    obtain rfl := r2
    refine ⟨x1, x2, rfl, rfl, g x1 x2, rfl, ?_⟩
    cases hg : g x1 x2 with
    | true =>
      refine iteT (hd O n σ Hf2 H2 hn s2 _ fun v3 Hf3 H3 x3 p3 r3 f3 s3 => ?_)
      subst p3
      obtain rfl := r3
      exact ⟨x2, x3, rfl, rfl, q _ Hf3 H3 (g' x2 x3) (by rw [hg, Bool.true_and]) rfl ((f1.trans f2 fun _ z => .inl z).trans f3 fun _ z => .inl z) s3⟩
    | false => exact iteF (q _ Hf2 H2 false (by rw [hg, Bool.false_and]) rfl (f1.trans f2 fun _ z => .inl z) s2)
/-! ### tuples put together -/
theorem pap {F : V → α → Prop} : ∀ {l1 l2 : List V} {m1 m2 : List α}, Paired F l1 m1 → Paired F l2 m2 → Paired F (l1 ++ l2) (m1 ++ m2)
  | _, _, _, _, .nil, h => h
  | _, _, _, _, .cons r t, h => .cons r (pap t h)
theorem rd_catT {K : PySem.W.Frag} {xs ys : List α} (lb : xs.length + ys.length ≤ LB) : RD (rCatA K) (cTup c) xs (cTup c) ys (cTup c) (· = xs ++ ys) := fun Hf H v u e ⟨a, vs, h1, h2, h3, h4⟩ ⟨b, us, g1, g2, g3, g4⟩ Q q => by
  have l1 := paired_len h3
  have l2 := paired_len g3
  refine ⟨a, b, vs, us, h1, g1, SqT.of (e _ _ h2), SqT.of (e _ _ g2), lb_line (by omega), fun z => ?_, fun _ z => ?_, fun _ _ p hp => ?_⟩
  · subst z
    cases h3
    exact q ys Hf H _ (by simp) ⟨b, us, rfl, g2, g3, g4⟩ Fr.refl e
  · subst z
    cases g3
    exact q xs Hf H _ (by simp) ⟨a, vs, rfl, h2, h3, h4⟩ Fr.refl e
  · exact q _ (upd Hf p (.tup (vs ++ us))) _ _ rfl ⟨p, vs ++ us, rfl, upd_same, paired_mono (pap h3 g3) (fun _ _ z => c.mono (Ex.new (e.back hp)) z), by rw [List.length_append]; omega⟩ (Fr.new e hp) (e.both (e.back hp))
theorem catTG : ∀ X, Good S X → OpR X (binaryOp .Add) (rCatA S.K) := fun X G => by rw [← G.K]; exact op_catA
/-! ### in a list of data at any depth -/
theorem rd_inD [DecidableEq α] {K : PySem.W.Frag} {x : α} {xs : List α} (q : EqC c) (hn : q.n ≤ 63) : RD (rInD K) c x (cList c) xs cBool (· = decide (x ∈ xs)) := fun Hf H v u e h1 h2 Q k => by
  have hd : (eList q).n ≤ 64 := by show q.n + 1 ≤ 64; omega
  refine ⟨q.D x, xs.map q.D, q.dp K H _ _ (c.mono e h1), (eList q).dp K H _ _ ((cList c).mono e h2), by unfold SeqAt.shaped; rw [q.lay, Bool.true_and]; exact decide_eq_true (Nat.le_trans (q.dep x) (by omega)), by unfold SeqAt.shaped; rw [show (PyData.list (xs.map q.D)).canLay0 = true from (eList q).lay xs, Bool.true_and]; exact decide_eq_true (Nat.le_trans ((eList q).dep xs) hd), ?_⟩
  have : ((xs.map q.D).any fun z => PyData.eqv z (q.D x)) = decide (x ∈ xs) := by
    rw [List.any_map]
    have : ∀ l : List α, (l.any ((fun z => PyData.eqv z (q.D x)) ∘ q.D)) = decide (x ∈ l) := fun l => by
      induction l with
      | nil => simp
      | cons y l ih =>
        rw [List.any_cons, ih]
        show (PyData.eqv (q.D y) (q.D x) || _) = _
        rw [q.eqv]
        by_cases e1 : y = x
        · subst e1; simp
        · have e2 : ¬ x = y := fun z => e1 z.symm
          simp [e1, e2]
    exact this xs
  rw [this]
  exact k _ Hf H _ rfl rfl Fr.refl e
theorem inDG (hl : True) : ∀ X, Good S X → OpR X (compareOp .In) (rInD S.K) := fun X G => by rw [← G.K]; exact op_inD (by have := G.room.un; omega)
/-! ### xs[::-1] -/
theorem prev {kx : Nat} {p1 p2 p3 : Pos} (h : PD S Γ 0 e (cList c) (· = xs)) : PDF S Γ 0 (.Subscript e (.Slice none none (some (.UnaryOp .USub (.Constant (.int 1) kx p1) p2)) p3) pos) c (· = xs.reverse) :=
  pdf_of (te := tRevL S.K (tE S e)) (fun X G => by rw [← G.K]; exact pe_revL (tE_ok G)) fun O n σ Hf H hn s Q q => h O n σ Hf H hn s _ fun v Hf' H' y py ⟨a, vs, h1, h2, h3, h4⟩ f s' => by
    subst py
    refine ⟨a, vs, h1, SqL.of (s'.ex _ _ h2), fun p hp => ?_⟩
    have pr : ∀ {l : List V} {m : List α}, Paired (c.rep Hf') l m → Paired (c.rep Hf') l.reverse m.reverse := fun {l m} w => by
      induction w with
      | nil => exact .nil
      | cons r t ih => rw [List.reverse_cons, List.reverse_cons]; exact Paired.snoc ih r
    exact q p vs.reverse Hf' _ _ rfl upd_same (s'.ex.back hp) (f.dom p hp) (pr h3) (by rw [List.length_reverse]; exact h4) (f.trans (Fr.newO (M := Bx Γ) hp) fun _ z => .inl z) (s'.grow0 (Fr.newO hp) (s'.ex.trans (Ex.new hp)))
/-! ### [*xs, e, ..] -/
theorem ta_star {Bs : Ctxt → Prop} {xs : List α} (h : TD te Γ k1 (cSeq c) (· = xs)) (hr : TDA tx Γ k2 Bs) : TDA (tStar S.K te tx) Γ (k1 + k2) (fun as => ∃ r, Bs r ∧ as = xs.map (fun x => Sl.d c x) ++ r) := fun O n σ Hf H hn s Q q =>
  h O n σ Hf H (by omega) s _ fun v Hf1 H1 x ex r f1 S1 => by
    subst ex
    obtain ⟨a, vs, h1, h2, h3, h4⟩ := sq_seq (K := S.K) S1.ex r
    refine ⟨a, vs, h1, h2.symm, hr O (n + k1) σ Hf1 H1 (by omega) S1 _ fun us Hf2 H2 as b o hb f2 S2 => ?_⟩
    have ap : ∀ {l : List V} {m : List α}, Paired (c.rep Hf2) l m → ArgsOk Hf2 (l ++ us) (m.map (fun x => Sl.d c x) ++ as) := fun {l m} w => by
      induction w with
      | nil => exact o
      | cons r t ih => exact ⟨r, ih⟩
    exact q (vs ++ us) Hf2 H2 _ ⟨as, b, rfl⟩ (ap (paired_mono h3 fun _ _ z => c.mono f2.ex z)) (fun a' h' => by
      rcases List.mem_append.mp h' with e | e
      · obtain ⟨_, _, e⟩ := List.mem_map.mp e
        cases e
      · exact hb a' e) (f1.trans f2 fun _ z => .inl z) (by rw [← Nat.add_assoc]; exact S2)
theorem pda_star {Bs : Ctxt → Prop} {xs : List α} {sp : Pos} (h : PD S Γ k1 e (cSeq c) (· = xs)) (hr : PDA S Γ k2 es Bs) (hs : ∀ env : Env, starEach (.Starred e sp :: es) env = (true, eval e env) :: starEach es env) : PDA S Γ (k1 + k2) (.Starred e sp :: es) (fun as => ∃ r, Bs r ∧ as = xs.map (fun x => Sl.d c x) ++ r) :=
  pda_of (ta := tStar S.K (tE S e) (tA S es)) (fun X G => by rw [← G.K]; exact pa_star (tE_ok G) (tA_ok G) (hs _)) (ta_star h hr)
/-- [*xs, *ys] -/
theorem pstar2 {xs ys : List α} {p1 p2 : Pos} (ha : PD S Γ 0 a (cSeq c) (· = xs)) (hb : PD S Γ 0 b (cSeq c) (· = ys)) (hs : ∀ env : Env, starEach [.Starred a p1, .Starred b p2] env = (true, eval a env) :: starEach [.Starred b p2] env) (hs2 : ∀ env : Env, starEach [.Starred b p2] env = (true, eval b env) :: starEach [] env) (hl : xs.length + ys.length ≤ 1000) :
    PDF S Γ 0 (.List [.Starred a p1, .Starred b p2] pos) c (· = xs ++ ys) :=
  pdf_lst (pda_star (k1 := 0) (k2 := 0) ha (pda_star (k1 := 0) (k2 := 0) hb pda_nil hs2) hs) fun as ⟨r, ⟨r2, e2, e3⟩, e⟩ => ⟨xs ++ ys, by subst e2; rw [e, e3, List.map_append, List.append_nil], by rw [List.length_append]; exact hl, rfl⟩
end
end DL

set_option Elab.async false
set_option linter.all false
set_option maxRecDepth 100000
set_option maxHeartbeats 4000000
namespace DL
open PySem PySem.Spec L2
open PyProof.Rows (IntsAre)
section
variable {w : World} {P : Program} {A : Around} {s : Shared} {E : Value → Shared → Prop}
/-! ### a class of the library called: what its two own functions do -/
/-- the making function's code, then the filling one's -/
theorem tcall {T nw ini : String} {xs : List Value} {Q M : Value → Shared → Prop} (t : TypeCalled T nw ini) (ok : checkTypeCall T ⟨xs, []⟩ = pure ())
    (new : codeAny (model P w) A.in1 (.call (.builtin nw) ⟨.type T :: xs, []⟩) (wants M E) s)
    (fill : ∀ o s1, M o s1 → s1.TypeIs o T ∧ codeAny (model P w) A.in1 (.call (.builtin ini) ⟨o :: xs, []⟩) (wants (fun r s2 => r = .none ∧ Q o s2) E) s1) :
    wpAny (model P w) A (call (.type T) xs) Q E s := by
  have m1 := t.made; have m2 := t.sub; have m3 := t.notType; have m4 := t.canCreate
  rcases t.mro with ⟨c0, cs, m5⟩
  apply wpAny_call
  apply codeAny_of_tree
  show wpAny _ _ (callAny (.type T) ⟨xs, []⟩) _ _ _
  apply wpAny_pure
  constructor
  · exact Code.quiet_builtin _ (by decide +kernel)
  apply codeAny_builtin F.entry_type_call
  rw [Around.under_plain (weight_type_call_type T xs []) rfl]
  repeat any_goals first | assumption | wp_step
  apply codeAny_mono new
  rintro (e | (v | _ | _ | _)) s1 q
  all_goals first | exact q | exact q.elim | skip
  rename_i v
  obtain ⟨ty, f⟩ := fill v s1 q
  have b := t.init.bind v
  have l := t.init.lookup
  repeat any_goals first | assumption | wp_step
  apply codeAny_mono f
  intro r2 s2 z
  match r2, z with
  | .error _, z => exact z
  | .ok (.ret r), z =>
    have y : r = .none ∧ Q v s2 := z
    rw [y.1]
    have fin := y.2
    repeat any_goals first | assumption | wp_step
/-! ### set(xs) of a list of ints -/
/-- what a set just made is -/
abbrev nset (w : World) : Obj := { cls := .type "set", dict := none, data := .set #[] 0 (.fresh 0 0 (!w.params.followText "set-order")) }
/-- a list of ints poured into it -/
theorem pour {D l : Addr} {h : Heap} {items : Array Value} (id : String) (ns : List Int) {Q : Unit → Shared → Prop} (quiet : A.in1.handled = none) (hs : s.heap = h.push (nset w)) (hD : D = h.objs.size) (hl : h.IsList l items) (hit : IntsAre items.toList ns) (few : ns.length + 1 < scanBound)
    (q : ∀ (h' : Heap) (tk c : Nat), SetR w h' D (fun j => decide (j ∈ ns)) c → c ≤ ns.length → (∀ b o, h.get? b = some o → h'.get? b = some o) → Q () { s with heap := h', toks := tk }) :
    wpAny (model P w) A (Builtin.Frozenset.updateFrom id D (.ref l)) Q E s := by
  have lst : s.heap.IsList l items := by rw [hs]; exact hl.push _
  have ty : s.TypeIs (.ref l) "list" := by
    obtain ⟨o, g, c, _⟩ := lst
    exact ⟨o, g, c⟩
  have lD : l < D := by
    obtain ⟨o, g, _⟩ := hl
    rw [hD]; exact Heap.lt_size g
  have sD : s.heap.objs.size = D + 1 := by rw [hs, hD, Heap.size_push]
  have nodict : (Value.type "list" == Value.type "dict") = false := by decide
  have no1 := F.sub_list_set
  have no2 := F.sub_list_frozenset
  unfold Builtin.Frozenset.updateFrom
  -- it is no set and no dict: it is walked
  have ask : wpAny (model P w) A (Builtin.Frozenset.isAnySet (.ref l)) (fun b s1 => b = false ∧ s1 = s) E s := by
    unfold Builtin.Frozenset.isAnySet
    refine wpAny_bind (wpAny_isInstance ty no1 ?_)
    exact wpAny_isInstance ty no2 ⟨rfl, rfl⟩
  refine wpAny_bind (wpAny_mono ask (fun b s1 z => ?_) fun _ _ e => e)
  rw [z.1, z.2, if_neg Bool.false_ne_true]
  refine wpAny_bind (wpAny_typeOf ty ?_)
  rw [nodict, if_neg Bool.false_ne_true]
  refine wpAny_bind (wpAny_pyIter_list lst ?_)
  rw [sD]
  -- the iterator stands behind the set
  have walk := (Walks.list (prog := P) (w := w) (A := A.in1) quiet (D + 1) l (Nat.ne_of_lt (Nat.lt_succ_of_lt lD)) items).toS
  have apart : D ∉ [D + 1, l] := by
    intro m
    rcases List.mem_cons.mp m with e | m
    · exact absurd e (Nat.ne_of_lt (Nat.lt_succ_self D))
    · exact absurd (List.mem_singleton.mp m) (Nat.ne_of_gt lD)
  have len : items.size = ns.length := by rw [← IntsAre.length hit, Array.length_toList]
  refine wpAny_bind (wpAny_runValue ?_)
  have gs : (s.heap.push { cls := .type "list_iterator", data := .fields #[.ref l, .int 0 0] }).get? D = some (nset w) :=
    Heap.get?_push_of_some _ (by rw [hs, hD]; exact Heap.get?_push_size _ rfl)
  refine set_update_ints walk D apart ns len few (fun i v e => ?_) items.size 0 _ rfl (Nat.zero_le _) ⟨⟨_, sD ▸ Heap.get?_push_size _ rfl, rfl, rfl⟩, lst.push _⟩ ⟨0, Nat.le_refl 0, setR_new_at gs⟩ fun s' c mv le R => ?_
  · -- the i-th one
    have e' : items.toList[i]? = some v := by rw [Array.getElem?_toList]; exact e
    have hi : i < ns.length := by
      rw [← IntsAre.length hit]
      exact (List.getElem?_eq_some_iff.mp e').1
    obtain ⟨t, z⟩ := IntsAre.int_at hit i v e'
    refine ⟨ns[i], t, List.getElem?_eq_getElem hi, z.trans ?_⟩
    rw [List.getD_eq_getElem?_getD, List.getElem?_eq_getElem hi]
    rfl
  · obtain ⟨h1, m⟩ : s' = { s with heap := s'.heap, toks := s'.toks } ∧ ∀ b o, h.get? b = some o → s'.heap.get? b = some o := by
      refine ⟨?_, fun b o g => mv.heap b o (fun mem => ?_) (Heap.get?_push_of_some _ (show s.heap.get? b = some o by rw [hs]; exact Heap.get?_push_of_some _ g))⟩
      · have a1 : s'.gens = s.gens := mv.gens
        have a2 := mv.drawn
        have a3 := mv.os
        cases s'
        simp only at a1 a2 a3
        rw [a1, a2, a3]
      · have bD : b < D := by rw [hD]; exact Heap.lt_size g
        rcases List.mem_cons.mp mem with e | mem
        · exact absurd e (Nat.ne_of_lt bD)
        · exact absurd (List.mem_singleton.mp mem) (Nat.ne_of_lt (Nat.lt_succ_of_lt bD))
    show wpAny _ _ (pure ()) _ _ _
    rw [h1]
    exact wpAny_pure (q _ _ c R (by rw [← len]; exact le) m)
/-- set(xs), the whole -/
theorem set_of_list {p : Addr} {vs : Array Value} {ns : List Int} {Q : Value → Shared → Prop} (calm : A.handled = none) (at_ : s.heap.IsList p vs) (num : IntsAre vs.toList ns) (few : ns.length + 1 < scanBound)
    (q : ∀ (g : Heap) (tk n : Nat), SetR w g s.heap.objs.size (fun j => decide (j ∈ ns)) n → n ≤ ns.length → (∀ b o, s.heap.get? b = some o → g.get? b = some o) → Q (.ref s.heap.objs.size) { s with heap := g, toks := tk }) :
    wpAny (model P w) A (call (.type "set") [.ref p]) Q E s := by
  refine tcall (M := fun o s1 => o = .ref s.heap.objs.size ∧ s1 = { s with heap := s.heap.push (nset w) }) F.called_set (F.typeCall_set_1 _) (code_set_led1 _ ⟨rfl, rfl⟩) ?_
  rintro _ _ ⟨rfl, rfl⟩
  have new : (s.heap.push (nset w)).get? s.heap.objs.size = some (nset w) := Heap.get?_push_size _ rfl
  refine ⟨⟨_, new, rfl⟩, codeAny_call_builtin F.called_set.init.plain F.entry_set_init (check_set_init_1 ⟨_, new, rfl⟩ ?_)⟩
  unfold Builtin.«set.__init__» noKeywords
  generalize hu : Builtin.Frozenset.updateFrom = up
  wp_walk
  subst hu
  refine pour "set.__init__" ns (by simp [calm]) rfl rfl at_ num few fun h' tk c R le k => ?_
  exact wpAny_pure ⟨rfl, q h' tk c R le k⟩
end
end DL

set_option Elab.async false
set_option linter.all false
set_option maxRecDepth 100000
set_option maxHeartbeats 4000000
namespace DL
open PySem PySem.Spec L2
/-! ### ascending, each once -/
def ins1 (x : Int) : List Int → List Int
  | [] => [x]
  | y :: r => if x < y then x :: y :: r else if x = y then y :: r else y :: ins1 x r
def asc (l : List Int) : List Int := l.foldl (fun acc x => ins1 x acc) []
theorem asc_snoc (l : List Int) (x : Int) : asc (l ++ [x]) = ins1 x (asc l) := by unfold asc; rw [List.foldl_append]; rfl
theorem mem_ins1 {x k : Int} : ∀ {l : List Int}, k ∈ ins1 x l ↔ k = x ∨ k ∈ l
  | [] => by simp [ins1]
  | y :: r => by
    unfold ins1
    split
    · simp
    · split
      · rename_i h; subst h; simp
      · rw [List.mem_cons, mem_ins1 (l := r), List.mem_cons]
        constructor
        · rintro (h | h | h)
          · exact .inr (.inl h)
          · exact .inl h
          · exact .inr (.inr h)
        · rintro (h | h | h)
          · exact .inr (.inl h)
          · exact .inl h
          · exact .inr (.inr h)
theorem ins1_up {x : Int} : ∀ {l : List Int}, l.Pairwise (· < ·) → (ins1 x l).Pairwise (· < ·)
  | [], _ => by simp [ins1]
  | y :: r, h => by
    have h' := List.pairwise_cons.mp h
    unfold ins1
    split
    · rename_i hx
      refine List.pairwise_cons.mpr ⟨fun z hz => ?_, h⟩
      rcases List.mem_cons.mp hz with e | e
      · subst e; exact hx
      · exact Int.lt_trans hx (h'.1 z e)
    · split
      · exact h
      · rename_i h1 h2
        refine List.pairwise_cons.mpr ⟨fun z hz => ?_, ins1_up h'.2⟩
        rcases mem_ins1.mp hz with e | e
        · subst e; omega
        · exact h'.1 z e
theorem ins1_len {x : Int} : ∀ {l : List Int}, l.Pairwise (· < ·) → (ins1 x l).length = if x ∈ l then l.length else l.length + 1
  | [], _ => by simp [ins1]
  | y :: r, h => by
    have h' := List.pairwise_cons.mp h
    unfold ins1
    split
    · rename_i hx
      have : ¬ x ∈ y :: r := fun z => by
        rcases List.mem_cons.mp z with e | e
        · omega
        · have := h'.1 x e; omega
      rw [if_neg this]; rfl
    · split
      · rename_i h1; subst h1; simp
      · rename_i h1 h2
        rw [List.length_cons, ins1_len h'.2]
        by_cases hr : x ∈ r
        · rw [if_pos hr, if_pos (List.mem_cons_of_mem _ hr)]; rfl
        · rw [if_neg hr, if_neg (fun z => by rcases List.mem_cons.mp z with e | e; exact h2 e; exact hr e)]; rfl
theorem foldl_up : ∀ (l acc : List Int), acc.Pairwise (· < ·) → (l.foldl (fun acc x => ins1 x acc) acc).Pairwise (· < ·)
  | [], _, h => h
  | _ :: l, _, h => foldl_up l _ (ins1_up h)
theorem asc_up (l : List Int) : (asc l).Pairwise (· < ·) := foldl_up l [] .nil
theorem foldl_mem {k : Int} : ∀ (l acc : List Int), k ∈ l.foldl (fun acc x => ins1 x acc) acc ↔ k ∈ l ∨ k ∈ acc
  | [], acc => by simp
  | x :: l, acc => by
    rw [List.foldl_cons, foldl_mem l, mem_ins1, List.mem_cons]
    constructor
    · rintro (h | h | h)
      · exact .inl (.inr h)
      · exact .inl (.inl h)
      · exact .inr h
    · rintro ((h | h) | h)
      · exact .inr (.inl h)
      · exact .inl h
      · exact .inr (.inr h)
theorem mem_asc {k : Int} {l : List Int} : k ∈ asc l ↔ k ∈ l := by unfold asc; rw [foldl_mem]; simp
theorem foldl_len : ∀ (l acc : List Int), acc.Pairwise (· < ·) → (l.foldl (fun acc x => ins1 x acc) acc).length ≤ l.length + acc.length
  | [], acc, _ => by simp
  | x :: l, acc, h => by
    rw [List.foldl_cons]
    have := foldl_len l _ (ins1_up (x := x) h)
    have := ins1_len (x := x) h
    rw [List.length_cons]
    split at this <;> omega
theorem asc_len (l : List Int) : (asc l).length ≤ l.length := by have := foldl_len l [] .nil; unfold asc; simpa using this
/-- an ascending list is the one with its members -/
theorem up_ext : ∀ {l m : List Int}, l.Pairwise (· < ·) → m.Pairwise (· < ·) → (∀ k, k ∈ l ↔ k ∈ m) → l = m
  | [], [], _, _, _ => rfl
  | [], y :: m, _, _, h => absurd ((h y).mpr List.mem_cons_self) List.not_mem_nil
  | x :: l, [], _, _, h => absurd ((h x).mp List.mem_cons_self) List.not_mem_nil
  | x :: l, y :: m, h1, h2, h => by
    have a := List.pairwise_cons.mp h1
    have b := List.pairwise_cons.mp h2
    have e : x = y := by
      rcases List.mem_cons.mp ((h x).mp List.mem_cons_self) with e | e
      · exact e
      · rcases List.mem_cons.mp ((h y).mpr List.mem_cons_self) with e2 | e2
        · exact e2.symm
        · have := b.1 x e; have := a.1 y e2; omega
    subst e
    rw [up_ext a.2 b.2 fun k => ?_]
    constructor
    · intro hk
      rcases List.mem_cons.mp ((h k).mp (List.mem_cons_of_mem _ hk)) with e | e
      · subst e; exact absurd (a.1 k hk) (Int.lt_irrefl k)
      · exact e
    · intro hk
      rcases List.mem_cons.mp ((h k).mpr (List.mem_cons_of_mem _ hk)) with e | e
      · subst e; exact absurd (b.1 k hk) (Int.lt_irrefl k)
      · exact e
theorem asc_eq {l m : List Int} (h : m.Pairwise (· < ·)) (hm : ∀ k, k ∈ m ↔ k ∈ l) : asc l = m := up_ext (asc_up l) h fun k => mem_asc.trans (hm k).symm
theorem asc_self {l : List Int} (h : l.Pairwise (· < ·)) : asc l = l := asc_eq h fun _ => Iff.rfl
theorem card_ext {l m : List Int} (h1 : l.Nodup) (h2 : m.Nodup) (h : ∀ k, k ∈ l ↔ k ∈ m) : l.length = m.length := Nat.le_antisymm (le_of h1 fun k hk => (h k).mp hk) (le_of h2 fun k hk => (h k).mpr hk)
where le_of : ∀ {l m : List Int}, l.Nodup → (∀ k, k ∈ l → k ∈ m) → l.length ≤ m.length
  | [], _, _, _ => Nat.zero_le _
  | x :: l, m, h, hs => by
    have h' := List.nodup_cons.mp h
    have hx : x ∈ m := hs x List.mem_cons_self
    have := le_of (l := l) (m := m.erase x) h'.2 fun k hk => by
      have ne : k ≠ x := fun e => h'.1 (e ▸ hk)
      exact (List.mem_erase_of_ne ne).mpr (hs k (List.mem_cons_of_mem _ hk))
    rw [List.length_erase_of_mem hx] at this
    have hp : 0 < m.length := List.length_pos_of_mem hx
    rw [List.length_cons]; omega
theorem up_nodup {l : List Int} (h : l.Pairwise (· < ·)) : l.Nodup := h.imp fun {a b} (z : a < b) => fun (e : a = b) => by omega
theorem setR_card {w : World} {h : Heap} {a : Addr} {S : Int → Bool} {n : Nat} {l : List Int} (R : SetR w h a S n) (hl : l.Nodup) (hm : ∀ k, S k = true ↔ k ∈ l) : n = l.length := by
  obtain ⟨o, es, ep, t, _, _, _, _, nd, hS, _, _, hn, _⟩ := R
  rw [← hn, ← card_ext (l := es.toList.map keyOf) nd hl fun k => (hS k).symm.trans (hm k), List.length_map, Array.length_toList]
/-! ### sets of ints, as the ascending list of their members -/
def cSet (w : World) : Cod (List Int) := ⟨fun H v xs => ∃ a S, v = .ref a ∧ H a = some (SetO w a S xs.length) ∧ (∀ k, S k = decide (k ∈ xs)) ∧ xs.Pairwise (· < ·) ∧ xs.length ≤ 1000,
  fun e ⟨a, S, h1, h2, h3⟩ => ⟨a, S, h1, e _ _ h2, h3⟩⟩
def rSetI (K : PySem.W.Frag) (w : World) : List V → Hp → VK → Prop := fun vs H Q => ∃ p ns, vs = [.ref p] ∧ (SqL K H p (ns.map V.int) ∨ SqT K H p (ns.map V.int)) ∧ ns.length ≤ 1000 ∧ ∀ l S, (∀ k, S k = decide (k ∈ asc ns)) → H l = none → Q (.ref l) (upd H l (SetO w l S (asc ns).length))
section
variable {S : Stc} {X : Cx}
variable {Γ Γ1 Γ2 Γ3 : Ctxt} {k k1 k2 k3 kk kt ke : Nat} {A α β γ ρ : Type} {c : Cod α} {c' : Cod β} {cr : Cod ρ} {c1 : Cod α} {c2 : Cod β} {c3 : Cod γ} {P P1 : α → Prop} {P2 : β → Prop} {P3 : γ → Prop} {te to ti : TE} {tt : TT} {t u : TS} {p : Po ρ} {ta tx : TA} {e a b d : Expr} {es : List Expr} {pos pos' pn pt : Pos}
variable {x : α} {y : β} {z : γ} {xs : List α} {K : PySem.W.Frag} {w : World} {ns : List Int}
theorem dec_asc {k : Int} {ns : List Int} : decide (k ∈ ns) = decide (k ∈ asc ns) := decide_eq_decide.mpr mem_asc.symm
theorem call_setI (hc : X.calm = true) : CallR X (.type "set") (rSetI X.K X.w) := by
  intro pins s σ H xs us Q I r h
  obtain ⟨l, ns, rfl, hl, hn, q⟩ := h
  rw [Vals.ref1 r]
  have hf : H s.heap.objs.size = none := I.hok.fresh (Nat.le_refl _)
  have fin : ∀ (h' : Heap) (tk c : Nat), SetR X.w h' s.heap.objs.size (fun j => decide (j ∈ ns)) c → c ≤ ns.length → (∀ b o, s.heap.get? b = some o → h'.get? b = some o) → ∃ x' H', Inv X pins σ H' { s with heap := h', toks := tk } ∧ RelV x' (.ref s.heap.objs.size) ∧ Q x' H' := fun h' tk c R _ k => by
    have ec : c = (asc ns).length := setR_card R (up_nodup (asc_up ns)) fun j => by rw [dec_asc]; exact decide_eq_true_iff
    subst ec
    exact ⟨.ref s.heap.objs.size, upd H s.heap.objs.size (SetO X.w s.heap.objs.size (fun j => decide (j ∈ ns)) (asc ns).length), I.laid (t' := tk) k (Nat.le_refl _) (setO_new R), rfl, q _ _ (fun _ => dec_asc) hf⟩
  rcases hl with hl | hl
  · obtain ⟨its, rv, pl, hz⟩ := I.list hl
    exact set_of_list (I.ok.hd hc) pl.isList (ints_of_vals rv) (by unfold scanBound; omega) fun h' tk c R hc' k => fin h' tk c R hc' k
  · obtain ⟨its, rv, pl, hz⟩ := I.tuple hl
    exact call_set_tupI ns (I.ok.hd hc) (show s.heap.IsTuple l its.toArray from pl) (ints_of_vals rv) (by unfold scanBound; omega) fun h' tk c R hc' k => fin h' tk c R hc' k
theorem setIG : ∀ X, Good S X → CallR X (.type "set") (rSetI S.K S.w) := fun X G => by rw [← G.K, ← G.w]; exact call_setI G.calm
theorem rc_setI (hn : ns.length ≤ 1000) : RC1 (rSetI K w) (cSeq cInt) ns (cSet w) (· = asc ns) := fun Hf H v e h Q q => by
  obtain ⟨a, vs, h1, h2, h3, h4⟩ := sq_seq (K := K) e h
  have := ints_of_paired h3
  subst this
  refine ⟨a, ns, by rw [h1], h2, hn, fun l S hS hl => ?_⟩
  exact q (asc ns) (upd Hf l (SetO w l S (asc ns).length)) _ _ rfl ⟨l, S, rfl, upd_same, hS, asc_up ns, Nat.le_trans (asc_len ns) hn⟩ (Fr.new e hl) (e.both (e.back hl))
/-- set(xs) -/
theorem pset (hg : S.sc.names.lookup ("set" : Str) = some .globalImplicit) (hm : S.mg "set" = none) (h : PD S Γ 0 e (cSeq cInt) (· = ns)) (hn : ns.length ≤ 1000) (he : ∀ env : Env, starEach [e] env = (false, eval e env) :: starEach [] env) : PD S Γ 0 (.Call (.Name "set" pn) [e] [] pos) (cSet S.w) (· = asc ns) :=
  py1 setIG hg hm PyProof.Rows.boot_set h (rc_setI hn) he
/-- sorted(set) -/
theorem rc_sortSet (hn : ns.length < 64) : RC1F (rSortedSet w) (cSet w) ns cInt (· = ns) := fun Hf H v e ⟨a, T, h1, h2, h3, h4, h5⟩ Q q => by
  refine ⟨a, T, ns.length, by rw [h1], e _ _ h2, hn, fun ms p hu hm hl hp => ?_⟩
  have em : ms = ns := up_ext hu h4 fun k => (hm k).trans (by rw [h3 k, decide_eq_true_iff])
  subst em
  exact q p _ ms rfl hp (paired_ints ms) (by rw [List.length_map]; exact Nat.le_trans h5 (by decide))
theorem sortSetG : ∀ X, Good S X → CallR X (.builtin "sorted") (rSortedSet S.w) := fun X G => by rw [← G.w]; exact cr_sortedSet G.calm
theorem psortSet (hg : S.sc.names.lookup ("sorted" : Str) = some .globalImplicit) (hm : S.mg "sorted" = none) (h : PD S Γ 0 e (cSet S.w) (· = ns)) (hn : ns.length < 64) (he : ∀ env : Env, starEach [e] env = (false, eval e env) :: starEach [] env) : PDF S Γ 0 (.Call (.Name "sorted" pn) [e] [] pos) cInt (· = ns) :=
  pfb1 sortSetG hg hm PyProof.Rows.boot_sorted h (rc_sortSet hn) he
/-- len(set) -/
def rLenSet (w : World) : List V → Hp → VK → Prop := fun vs H Q => ∃ (a : Addr) (T : Int → Bool) (n : Nat), vs = [V.ref a] ∧ H a = some (SetO w a T n) ∧ n ≤ 1000 ∧ Q (.int n) H
theorem cr_lenSet : CallR X (.builtin "len") (rLenSet X.w) := by
  intro pins s σ H vs us Q I r h
  obtain ⟨a, T, n, rfl, ha, hn, q⟩ := h
  obtain ⟨o, es, ep, t, ho, hex, hd, _, _, _, hb, hf, en, _⟩ := setO_get I ha
  rw [Vals.ref1 r]
  refine call_len_set ho hex hd hf (by rw [en]; omega) ⟨.int n, H, I.tok _, ⟨_, by rw [en]⟩, q⟩
theorem lenSetG : ∀ X, Good S X → CallR X (.builtin "len") (rLenSet S.w) := fun X G => by rw [← G.w]; exact cr_lenSet
theorem rc_lenSet : RC1 (rLenSet w) (cSet w) ns cInt (· = (ns.length : Int)) := fun Hf H v e ⟨a, T, h1, h2, h3, h4, h5⟩ Q q =>
  ⟨a, T, ns.length, by rw [h1], e _ _ h2, h5, q _ Hf H _ rfl rfl Fr.refl e⟩
theorem plenSet (hg : S.sc.names.lookup ("len" : Str) = some .globalImplicit) (hm : S.mg "len" = none) (h : PD S Γ 0 e (cSet S.w) (· = ns)) (he : ∀ env : Env, starEach [e] env = (false, eval e env) :: starEach [] env) : PD S Γ 0 (.Call (.Name "len" pn) [e] [] pos) cInt (· = (ns.length : Int)) :=
  pb1 lenSetG hg hm PySem.boot_len h rc_lenSet he
/-- in a set -/
theorem rd_inS {x : Int} : RD (rSIn w) cInt x (cSet w) ns cBool (· = decide (x ∈ ns)) := fun Hf H v u e h1 ⟨a, T, h2, h3, h4, _⟩ Q q => by
  obtain rfl := h1
  exact ⟨x, a, T, _, rfl, h2, e _ _ h3, q _ Hf H _ rfl (by rw [h4 x]; rfl) Fr.refl e⟩
theorem rd_notInS {x : Int} : RD (rSNotIn w) cInt x (cSet w) ns cBool (· = !decide (x ∈ ns)) := fun Hf H v u e h1 ⟨a, T, h2, h3, h4, _⟩ Q q => by
  obtain rfl := h1
  exact ⟨x, a, T, _, rfl, h2, e _ _ h3, q _ Hf H _ rfl (by rw [h4 x]; rfl) Fr.refl e⟩
theorem inSG : ∀ X, Good S X → OpR X (compareOp .In) (rSIn S.w) := fun X G => by rw [← G.w]; exact or_sin
theorem notInSG : ∀ X, Good S X → OpR X (compareOp .NotIn) (rSNotIn S.w) := fun X G => by rw [← G.w]; exact or_snotin
end
end DL

set_option Elab.async false
set_option linter.all false
set_option maxRecDepth 100000
set_option maxHeartbeats 4000000
namespace DL
open PySem PySem.Spec L2 PpSet
/-! ### the block of a comprehension, seen from the def around it -/
section
variable (X : Cx) (scope : Scope) (fp : List Addr) (H : Hp) (s : Shared)
/-- the environment of a block that starts at s -/
def blkE : Env := compEnvC scope (cellsFrom (s.heap.objs.size + 1) scope.names (cloFrom X.env.cells scope.names [])) s.heap.objs.size X.env
abbrev blkX : Cx := X.blk s H scope (blkE X scope s) fp
/-- the state in which it starts -/
def blkS : Shared := { s with heap := pushCells (s.heap.push { cls := .type "dict", data := .dict #[] }) scope.names }
end
/-- nothing of fp is tracked -/
def Loose (fp : List Addr) (H : Hp) : Prop := ∀ b ∈ fp, H b = none
section
variable {X : Cx} {scope : Scope} {fp : List Addr} {H H' : Hp} {s s' : Shared} {pins : List (Addr × Obj)} {σ σ' : Stt} {own : List (PySem.Str × Nat)}
theorem blk_fp (J : Inv (blkX X scope fp H s) [] σ' H' s') (l : Loose fp H') : ∀ b ∈ fp, FpOk (blkX X scope fp H s) [] H' b := by
  intro b m
  have z := J.ok.exf b m
  exact ⟨l b m, z.1, J.ok.exfs b m, Or.inl m, fun x c => z.2 x c, fun p hp => by cases hp⟩
/-- the def's own state again, when the block is left -/
theorem blk_out (I : Inv X pins σ H s) (hf : ∀ b ∈ fp, FpOk X pins H b) (J : Inv (blkX X scope fp H s) [] σ' H' s') :
    Inv X pins σ H' s' ∧ FpOk X pins H' s.heap.objs.size ∧ ∃ m, s'.heap.Ns s.heap.objs.size m := by
  refine ⟨I.call' (ch := fp) J.os J.base J.hok J.bare fun b m => ?_, I.fpOk (Nat.le_refl _) J.free, ?_⟩
  · obtain ⟨_, a1, _, a2, a3, a4⟩ := hf b m
    exact ⟨a2, a1, a3, a4⟩
  · exact J.loc.imp fun _ q => q.1
theorem blk_in (I : Inv X pins σ H s) (ok : BlkOk X.N X.env.scope scope own) (hN : X.N.Nodup) (hf : ∀ b ∈ fp, FpOk X pins H b) (old : ∀ b ∈ fp, b < s.heap.objs.size) :
    Inv (blkX X scope fp H s) [] (wipe σ (own.map (·.2))) H (blkS scope s) := block_start I ok hN fun b m => ⟨hf b m, old b m⟩
/-- one turn of its loop, up to the clause's tests: the item comes, goes to the target, is tested.
What is done next knows how to come back to the turn's start. -/
theorem blk_turn {tg : Expr} {ifs : List Expr} {it : Addr} {tn : Nat → Heap → Prop} {J : It} {i : Nat} {vs : List Nat} {g : TG} {tt : TT} {E : Value → Shared → Prop} {Z : Shared → Prop} {Out : Bool → Shared → Prop} {R : Stt → Bool → Hp → Prop}
    (T : Turn X.prog X.w X.K tg J fp it tn) (calm : X.calm = true) (I : Inv (blkX X scope fp H s) [] (wipe σ vs) H' s') (l : Loose fp H') (st : tn i s'.heap) (go : J.go i H')
    (pg : PG (blkX X scope fp H s) tg g) (pt : PTs (blkX X scope fp H s) ifs tt)
    (hw : ∀ x H1, J.yld i H' x H1 → g x (wipe σ vs) H1 fun σ2 H2 => wipe σ2 vs = wipe σ vs ∧ tt σ2 H2 (R σ2))
    (then_ : ∀ (σ2 : Stt) (pl : List (Addr × Obj)) (b : Bool) (H2 : Hp) (s2 : Shared), Inv (blkX X scope fp H s) pl σ2 H2 s2 → R σ2 b H2 →
      (∀ (H3 : Hp) (s3 : Shared), Inv (blkX X scope fp H s) pl σ2 H3 s3 → Inv (blkX X scope fp H s) [] (wipe σ vs) H3 s3 ∧ tn (i + 1) s3.heap ∧ Loose fp H3) → Out b s2) :
    wpAny (model X.prog X.w) X.A (pyNext (.ref it)) (fun r s1 => match r with
      | none => Z s1
      | some v => wpAny (model X.prog X.w) X.A (letOwnedTupleGo tg (.ref it) v) (fun _ s2 => wpAny (model X.prog X.w) X.A (assign tg (blkE X scope s) v) (fun _ s3 =>
          wpAny (model X.prog X.w) X.A (forIn ifs true fun c r => if r = true then do let ok ← isTrue c (blkE X scope s) (eval c (blkE X scope s)); pure (ForInStep.yield ok) else pure (ForInStep.yield r)) Out E s3) E s2) E s1) E s' := by
  have item := T.item (blkX X scope fp H s) rfl rfl rfl calm i [] s' _ H' (fun _ _ => False) I (blk_fp I l) st go
  refine thnF item ?_
  rintro _ s1 ⟨u, rfl, come⟩
  refine thnF come ?_
  rintro _ s2 ⟨x, H1, I1, rx, y, st1, l1⟩
  have obj := T.obj (i + 1) _ st1
  have set := pg.run _ s2 _ H1 x u _ (I1.pinned (blk_fp I1 l1) obj) rx (hw x H1 y)
  refine thnF set ?_
  rintro _ s3 ⟨σ2, H2, I2, keep, t⟩
  refine thnF (pt.run _ s3 σ2 H2 _ I2 t) ?_
  rintro b s4 ⟨H3, I3, r⟩
  refine then_ σ2 _ b H3 s4 I3 r ?_
  -- back to the start: the iterator's objects stood still
  intro H4 s5 I4
  have still : ∀ c ∈ fp, ∀ o, s2.heap.get? c = some o → s5.heap.get? c = some o ∧ H4 c = none := by
    intro c m o e
    have pin := I4.pin (c, o) (by simp only [List.mem_append]; exact .inr (.inr (mem_pinsAt m e)))
    exact ⟨pin.1, pin.2.1⟩
  refine ⟨(I4.unpinned (pins := [])).weak (by rw [← keep, wipe_length]) (fun j v e => (wipe_some (keep ▸ e)).1), T.keep _ _ _ st1 fun c m o e => (still c m o e).1, ?_⟩
  intro c m
  obtain ⟨o, e, _⟩ := obj c m
  exact (still c m o e).2
end
/-! ### {e for x in xs if ..}, e an int -/
/-- D: the new set; W i n: what holds ahead of turn i, n turns at most being left; Nx: what a turn is to reach -/
def tSci (w : World) (wi : TI) (g : TG) (tt : TT) (te : TE) (vs : List Nat) : TE := fun σ H Q => wi σ H fun J H1 => ∀ D, H1 D = none →
  ∃ W : Nat → Nat → Hp → Prop, (∃ n, W 0 n (upd H1 D (SetO w D (fun _ => false) 0))) ∧
    ∀ i n H2, W i n H2 → (J.stop i H2 ∧ Q (.ref D) H2) ∨
      (J.go i H2 ∧ ∃ Nx : Hp → Prop, (∀ H3, Nx H3 → ∃ n', n' < n ∧ W (i + 1) n' H3) ∧
        ∀ x H3, J.yld i H2 x H3 → g x (wipe σ vs) H3 fun σ4 H4 => wipe σ4 vs = wipe σ vs ∧ tt σ4 H4 fun b H5 =>
          if b = true then te σ4 H5 fun y H6 => ∃ (z : Int) (M : Int → Bool) (m : Nat), y = .int z ∧ H6 D = some (SetO w D M m) ∧ m + 1 < scanBound ∧ Nx (upd H6 D (SetO w D (fun j => M j || decide (j = z)) (if M z = true then m else m + 1)))
          else Nx H5)
section
variable {X : Cx} {pins : List (Addr × Obj)} {σ : Stt} {H : Hp} {s : Shared}
/-- an int goes into a set that is tracked -/
theorem put_int {E : Value → Shared → Prop} {D : Addr} {M : Int → Bool} {m : Nat} {z : Int} {k : Tok} {Q : Value → Shared → Prop} (I : Inv X pins σ H s) (at_ : H D = some (SetO X.w D M m)) (room : m + 1 < scanBound)
    (q : ∀ s', Inv X pins σ (upd H D (SetO X.w D (fun j => M j || decide (j = z)) (if M z = true then m else m + 1))) s' → Q .none s') :
    wpAny (model X.prog X.w) X.A (call (.builtin "set.add") [.ref D, .int z k]) Q E s := by
  apply setR_add (setO_get I at_) room
  intro g but R
  apply q
  refine I.write (t' := s.toks + 1) (by rw [at_]; exact True.intro) (Or.inl rfl) (fun b o n e => ?_) ?_ (setO_new R)
  · rw [but.2 b n]; exact e
  · obtain ⟨o, _, _, _, e, _⟩ := R
    exact ⟨o, e⟩
theorem pe_sci {elt tg iter : Expr} {ifs : List Expr} {scope : Scope} {own : List (PySem.Str × Nat)} {pos : Pos} {wi : TI} {g : TG} {tt : TT} {te : TE} (calm : X.calm = true) (nd : X.N.Nodup) (it_ : PI X tg iter wi) (ok : BlkOk X.N X.env.scope scope own)
    (pg : ∀ (s : Shared) (H : Hp) (C : Addr) (cl : List (PySem.Str × Addr)) (fp : List Addr), PG (X.blk s H scope (compEnvC scope cl C X.env) fp) tg g)
    (pt : ∀ (s : Shared) (H : Hp) (C : Addr) (cl : List (PySem.Str × Addr)) (fp : List Addr), PTs (X.blk s H scope (compEnvC scope cl C X.env) fp) ifs tt)
    (pe : ∀ (s : Shared) (H : Hp) (C : Addr) (cl : List (PySem.Str × Addr)) (fp : List Addr), PE (X.blk s H scope (compEnvC scope cl C X.env) fp) elt te)
    (fo : ∀ x, foldedSetIterable iter X.env x = pure x := by intro _; rfl) : PE X (.SetComp elt [⟨tg, iter, ifs, 0⟩] scope pos) (tSci X.w wi g tt te (own.map (·.2))) := by
  constructor
  intro pins s σ H Q I h
  rw [eval_SetComp]
  refine wpAny_comprehension_free (use := none) rfl fo (closure_ok fun y m e => I.ok.has _ (ok.free y m e)) ok.kind (fun y m e => (ok.uniq y m).trans (congrArg _ e)) (thn (it_.run pins s σ H _ I h) fun _ s1 w1 => thn w1 ?_)
  rintro _ s2 ⟨it, fp, tn, J, H2, rfl, I2, T, st2, f2, q⟩
  apply newSet_ok
  apply newEnv_comp
  obtain ⟨W, ⟨n0, w0⟩, turn⟩ := q s2.heap.objs.size (I2.hok.fresh (Nat.le_refl _))
  -- the set has been laid at s3
  obtain ⟨s3, e3⟩ : ∃ s3 : Shared, s3 = { s2 with heap := s2.heap.push (nset X.w) } := ⟨_, rfl⟩
  obtain ⟨H3, eH⟩ : ∃ H3 : Hp, H3 = upd H2 s2.heap.objs.size (SetO X.w s2.heap.objs.size (fun _ => false) 0) := ⟨_, rfl⟩
  rw [← eH] at w0
  have more : ∀ b o, s2.heap.get? b = some o → s3.heap.get? b = some o := fun b o e => by rw [e3]; exact Heap.get?_push_of_some _ e
  have I3 : Inv X pins σ H3 s3 := by
    rw [e3, eH]
    exact I2.laid (t' := s2.toks) (fun b o e => Heap.get?_push_of_some _ e) (Nat.le_refl _) (setO_new (setR_fresh X.w))
  have old : ∀ b ∈ fp, b < s2.heap.objs.size := fun b m => by
    obtain ⟨o, e, _⟩ := T.obj 0 _ st2 b m
    exact Heap.lt_size e
  have f3 : ∀ b ∈ fp, FpOk X pins H3 b := fun b m => by
    refine ⟨?_, (f2 b m).2⟩
    rw [eH, upd_ne (Nat.ne_of_lt (old b m))]
    exact (f2 b m).1
  have I4 := blk_in I3 ok nd f3 fun b m => by rw [e3]; exact Nat.lt_of_lt_of_le (old b m) (by rw [Heap.size_push]; exact Nat.le_succ _)
  have st4 : tn 0 (blkS scope s3).heap := T.keep _ _ _ st2 fun b _ o e => pushCells_keeps _ _ _ _ (Heap.get?_push_of_some _ (more b o e))
  have loop : codeAny (model X.prog X.w) X.A (.compLoop (.SetComp elt [⟨tg, iter, ifs, 0⟩] scope pos) 0 (.ref it) (.ref s2.heap.objs.size) (blkE X scope s3)) (compPost (model X.prog X.w) X.A X.xe none (EP X pins σ Q) (.ref s2.heap.objs.size) s3.heap.objs.size) (blkS scope s3) := by
    refine compLoopS_any (fun n t => ∃ i H', Inv (blkX X scope fp H3 s3) [] (wipe σ (own.map (·.2))) H' t ∧ tn i t.heap ∧ Loose fp H' ∧ W i n H') ?_ n0 ⟨0, H3, I4, st4, fun b m => (f3 b m).1, w0⟩
    rintro n t ⟨i, H5, I5, st5, l5, w5⟩
    rcases turn i n H5 w5 with ⟨stop, fin⟩ | ⟨go, Nx, down, step⟩
    · -- no item is left
      refine thnF (T.done (blkX X scope fp H3 s3) rfl rfl rfl calm i [] t _ H5 (fun _ _ => False) I5 (blk_fp I5 l5) st5 stop) ?_
      rintro _ t' ⟨rfl, I6⟩
      obtain ⟨I7, ⟨a0, a1, _, a2, a3, a4⟩, m, ns⟩ := blk_out I3 f3 I6
      exact ⟨m, ns, fun h' but => ⟨.ref s2.heap.objs.size, H5, I7.turned (t' := t'.toks) (fun b o ne e => by rw [but.2 b ne]; exact e) a0 a1 a2 a3 a4, rfl, fin⟩⟩
    · refine blk_turn T calm I5 l5 st5 go (pg _ _ _ _ _) (pt _ _ _ _ _) (fun x H6 y => step x H6 y) ?_
      · intro σ4 pl b H6 t6 I6 r back
        have again : ∀ (H' : Hp) (t' : Shared), Inv (blkX X scope fp H3 s3) pl σ4 H' t' → Nx H' → ∃ n', n' < n ∧ ∃ i H', Inv (blkX X scope fp H3 s3) [] (wipe σ (own.map (·.2))) H' t' ∧ tn i t'.heap ∧ Loose fp H' ∧ W i n' H' := by
          intro H' t' I' nx
          obtain ⟨n', lt, w'⟩ := down H' nx
          obtain ⟨b1, b2, b3⟩ := back H' t' I'
          exact ⟨n', lt, i + 1, H', b1, b2, b3, w'⟩
        cases b
        · exact again H6 t6 I6 r
        · refine thnF ((pe _ _ _ _ _).run _ t6 σ4 H6 _ I6 r) ?_
          rintro v t7 ⟨y, H7, I7, ry, z, M, m, rfl, hD, room, nx⟩
          obtain ⟨k, rfl⟩ : ∃ k, v = Value.int z k := ry
          exact put_int (X := blkX X scope fp H3 s3) I7 hD room fun t8 I8 => again _ t8 I8 nx
  have e4 := codeAny_compStart_set loop (T.self X.A 0 _ _ _ st4 loop)
  rw [e3] at e4
  exact e4
end
end DL

set_option Elab.async false
set_option linter.all false
set_option maxRecDepth 100000
set_option maxHeartbeats 4000000
namespace DL
open PySem PySem.Spec L2
section
variable {S : Stc} {X : Cx}
variable {Γ Γ1 Γ2 Γ3 : Ctxt} {k k1 k2 k3 kk kt ke : Nat} {A α β γ ρ : Type} {c : Cod α} {c' : Cod β} {cr : Cod ρ} {c1 : Cod α} {c2 : Cod β} {c3 : Cod γ} {P P1 : α → Prop} {P2 : β → Prop} {P3 : γ → Prop} {te to ti tk tv : TE} {tt : TT} {t u : TS} {p : Po ρ} {ta tx : TA} {e a b d : Expr} {es : List Expr} {pos pos' pn pt : Pos}
variable {x : α} {y : β} {z : γ} {xs : List α} {K : PySem.W.Frag} {w : World} {ns : List Int} {wi : TI} {g : TG}
/-! ### {f x for x in xs if b x} -/
theorem td_sc {vs : List Nat} (f : α → Int) (b : α → Bool) (hw : TW wi Γ k c (· = xs)) (hv : ∀ i ∈ vs, NoBx Γ i) (hz : xs.length ≤ 1000)
    (hs : ∀ x, x ∈ xs → ∃ Γ1 is, GD g c x (wipeC Γ vs) Γ1 is ∧ (∀ i ∈ is, i ∈ vs) ∧ TDT tt Γ1 0 (· = b x) ∧ (b x = true → TD te Γ1 0 cInt (· = f x))) :
    TD (tSci w wi g tt te vs) Γ k (cSet w) (· = asc ((xs.filter b).map f)) := fun O n σ Hf H hn s Q q =>
  hw O n σ Hf H hn s _ fun J Hf1 H1 xs' px W lb f1 S1 D hD => by
    subst px
    have hbx : ∀ a, Bx Γ a → a ≠ D := fun a ⟨i, hi⟩ z => by
      subst z
      obtain ⟨_, _, _, _, _, _, e, _⟩ := S1.at_ i _ hi
      rw [hD] at e; cases e
    have bx0 : ∀ a, Bx Γ a → Hf1 a = none ∧ BoxAt H1 a (n + k) := fun a ⟨i, hi⟩ => (S1.at_ i _ hi).2
    have ll : ∀ i, (asc (((xs'.take i).filter b).map f)).length ≤ 1000 := fun i => by
      refine Nat.le_trans (asc_len _) ?_
      rw [List.length_map]
      refine Nat.le_trans (List.length_filter_le _ _) ?_
      rw [List.length_take]; omega
    refine ⟨fun i m H' => m = xs'.length - i ∧ i ≤ xs'.length ∧ ∃ Hfi T, H' D = some (SetO w D T (asc (((xs'.take i).filter b).map f)).length) ∧ (∀ k, T k = decide (k ∈ asc (((xs'.take i).filter b).map f))) ∧ Hfi D = none ∧ Ex Hfi H' ∧ Fr (Bx Γ) Hf1 H1 Hfi H' ∧
        ∀ a, Bx Γ a → Hfi a = none ∧ BoxAt H' a (n + k),
      ⟨xs'.length, by simp, Nat.zero_le _, Hf1, fun _ => false, upd_same, fun _ => rfl, S1.ex.back hD, S1.ex.trans (Ex.new hD), Fr.newO hD, fun a ha => ⟨(bx0 a ha).1, boxAt_ex (bx0 a ha).2 fun o e => by rw [upd_ne (hbx a ha)]; exact e⟩⟩, ?_⟩
    rintro i m H' ⟨rfl, hi, Hfi, T, hDi, hT, hfD, ex, fr, hb⟩
    have Si : Sat O Hfi H' (wipe σ vs) (wipeC Γ vs) (n + k) := (S1.grow fr ex hb).wipe vs
    by_cases hlt : i < xs'.length
    · have hx : xs'[i]? = some xs'[i] := List.getElem?_eq_getElem hlt
      have ts : xs'.take (i + 1) = xs'.take i ++ [xs'[i]] := take_snoc hx
      refine .inr ⟨W.go Hfi H' i fr.ex ex hlt, fun H2 => ∃ Hfi T, H2 D = some (SetO w D T (asc (((xs'.take (i + 1)).filter b).map f)).length) ∧ (∀ k, T k = decide (k ∈ asc (((xs'.take (i + 1)).filter b).map f))) ∧ Hfi D = none ∧ Ex Hfi H2 ∧ Fr (Bx Γ) Hf1 H1 Hfi H2 ∧
        ∀ a, Bx Γ a → Hfi a = none ∧ BoxAt H2 a (n + k), fun H2 h2 => ⟨xs'.length - (i + 1), by omega, rfl, hlt, h2⟩, fun v H2 hy => ?_⟩
      obtain ⟨Hf2, rx, fy, ey⟩ := W.yld Hfi H' i v H2 _ fr.ex ex hy hx
      have S2 : Sat O Hf2 H2 (wipe σ vs) (wipeC Γ vs) (n + k) := Si.grow0 fy ey
      obtain ⟨Γ1, is, gd, hin, ht, hTt⟩ := hs xs'[i] (List.getElem_mem hlt)
      have bx1 : ∀ a, Bx Γ1 a → Bx Γ a := fun a h => (bx_wipe hv).mp (gd.2.1 a h)
      have bx2 : ∀ a, Bx Γ a → Bx Γ1 a := fun a h => by
        obtain ⟨j, hj⟩ := (bx_wipe hv).mpr h
        exact ⟨j, gd.1 j a hj⟩
      have hD2 := fy.keep _ _ hDi id
      have hfD2 : Hf2 D = none := fy.fz _ _ hDi id hfD
      refine gd.2.2 O _ _ Hf2 H2 v rx S2 _ fun σ3 S3 w3 => ⟨(w3 vs hin).trans wipe_wipe, ?_⟩
      refine ht O _ σ3 Hf2 H2 (by omega) S3 _ fun bb Hf3 H3 pb f3 S3' => ?_
      have nD1 : ¬ Bx Γ1 D := fun z => hbx D (bx1 D z) rfl
      have hD3 := f3.keep _ _ hD2 nD1
      have hfD3 : Hf3 D = none := f3.fz _ _ hD2 nD1 hfD2
      have F3 : Fr (Bx Γ) Hf1 H1 Hf3 H3 := (fr.trans fy fun _ z => z.elim).trans f3 fun a z => .inl (bx1 a z)
      cases bb with
      | true =>
        rw [if_pos rfl]
        refine hTt pb.symm O _ σ3 Hf3 H3 (by omega) S3' _ fun y Hf4 H4 yx py ry f4 S4 => ?_
        have hD4 := f4.keep _ _ hD3 nD1
        have hfD4 : Hf4 D = none := f4.fz _ _ hD3 nD1 hfD3
        have F4 : Fr (Bx Γ) Hf1 H1 Hf4 H4 := F3.trans f4 fun a z => .inl (bx1 a z)
        have ee : ((xs'.take (i + 1)).filter b).map f = ((xs'.take i).filter b).map f ++ [f xs'[i]] := by
          rw [ts, List.filter_append, List.map_append]; congr 1; simp [← pb]
        obtain rfl := ry
        subst py
        have ln := ins1_len (x := f xs'[i]) (asc_up (((xs'.take i).filter b).map f))
        have l1 := ll i
        refine ⟨f xs'[i], T, _, rfl, hD4, by unfold scanBound; omega, Hf4, fun j => T j || decide (j = f xs'[i]), ?_, fun j => ?_, hfD4, S4.ex.mut hfD4, ?_, fun a ha => ?_⟩
        · rw [upd_same, ee, asc_snoc, ln]
          have : (T (f xs'[i]) = true) = (f xs'[i] ∈ asc (((xs'.take i).filter b).map f)) := by rw [hT]; exact decide_eq_true_eq
          simp only [this]
        · show (T j || decide (j = f xs'[i])) = _
          rw [ee, asc_snoc, hT j]
          by_cases h1 : j = f xs'[i]
          · have : j ∈ ins1 (f xs'[i]) (asc (((xs'.take i).filter b).map f)) := mem_ins1.mpr (.inl h1)
            simp [h1, this, h1 ▸ this]
          · by_cases h2 : j ∈ asc (((xs'.take i).filter b).map f)
            · have : j ∈ ins1 (f xs'[i]) (asc (((xs'.take i).filter b).map f)) := mem_ins1.mpr (.inr h2)
              simp [h2, this]
            · have : ¬ j ∈ ins1 (f xs'[i]) (asc (((xs'.take i).filter b).map f)) := fun z => by
                rcases mem_ins1.mp z with z | z
                · exact h1 z
                · exact h2 z
              simp [h1, h2, this]
        · refine ⟨F4.ex, fun a o e nm => ?_, F4.fz, fun a e => ?_⟩
          · rw [upd_ne (ne_of_none e hD)]; exact F4.keep a o e nm
          · by_cases z : a = D
            · subst z; exact hD
            · rw [upd_ne z] at e; exact F4.dom a e
        · obtain ⟨j, hj⟩ := bx2 a ha
          obtain ⟨_, z1, z2⟩ := S4.at_ j _ hj
          exact ⟨z1, boxAt_ex z2 fun o e => by rw [upd_ne (hbx a ha)]; exact e⟩
      | false =>
        rw [if_neg Bool.false_ne_true]
        have ee : ((xs'.take (i + 1)).filter b).map f = ((xs'.take i).filter b).map f := by
          rw [ts, List.filter_append, List.map_append]; simp [← pb]
        refine ⟨Hf3, T, by rw [ee]; exact hD3, by rw [ee]; exact hT, hfD3, S3'.ex, F3, fun a ha => ?_⟩
        obtain ⟨j, hj⟩ := bx2 a ha
        obtain ⟨_, z1, z2⟩ := S3'.at_ j _ hj
        exact ⟨z1, z2⟩
    · have e : i = xs'.length := by omega
      subst e
      rw [List.take_length] at hDi hT
      have l1 := ll xs'.length
      rw [List.take_length] at l1
      have F : Fr (Bx Γ) Hf1 H1 (upd Hfi D (SetO w D T (asc ((xs'.filter b).map f)).length)) H' := fr.fix hD hfD hDi
      refine .inl ⟨W.stop Hfi H' fr.ex ex, q _ (upd Hfi D (SetO w D T (asc ((xs'.filter b).map f)).length)) H' _ rfl ⟨D, T, rfl, upd_same, hT, asc_up _, l1⟩ (f1.trans F fun _ z => .inl z) ?_⟩
      refine S1.grow F (ex.fix hDi) fun a ha => ?_
      obtain ⟨z1, z2⟩ := hb a ha
      exact ⟨by rw [upd_ne (hbx a ha)]; exact z1, z2⟩
/-! ### dicts with int keys -/
abbrev PDc {α : Type} (c : Cod α) (H : Hp) (ks : List (Key × V)) (kvs : List (Int × α)) : Prop := Paired (fun (p : Key × V) (q : Int × α) => p.1 = .inl q.1 ∧ c.rep H p.2 q.2) ks kvs
theorem PDc.mono {H H' : Hp} {ks : List (Key × V)} {kvs : List (Int × α)} (e : Ex H H') (h : PDc c H ks kvs) : PDc c H' ks kvs := paired_mono h fun _ _ q => ⟨q.1, c.mono e q.2⟩
def cDic {α : Type} (c : Cod α) : Cod (List (Int × α)) := ⟨fun H v kvs => ∃ a ks, v = .ref a ∧ H a = some (.dK ks) ∧ PDc c H ks kvs ∧ ks.length ≤ LB,
  fun e ⟨a, ks, h1, h2, h3, h4⟩ => ⟨a, ks, h1, e _ _ h2, h3.mono e, h4⟩⟩
/-- d[k] = v -/
def putD {α : Type} (kvs : List (Int × α)) (k : Int) (v : α) : List (Int × α) := if (kvs.any fun kv => decide (kv.1 = k)) = true then kvs.map fun kv => if kv.1 = k then (kv.1, v) else kv else kvs ++ [(k, v)]
def valD {α : Type} (kvs : List (Int × α)) (k : Int) : Option α := (kvs.find? fun kv => decide (kv.1 = k)).map (·.2)
theorem pdc_any {H : Hp} {ks : List (Key × V)} {kvs : List (Int × α)} (h : PDc c H ks kvs) (j : Int) : (ks.any fun kv => decide (kv.1 = Sum.inl j)) = kvs.any fun kv => decide (kv.1 = j) := by
  induction h with
  | nil => rfl
  | cons r t ih =>
    rw [List.any_cons, List.any_cons, ih, r.1]
    congr 1
    exact decide_eq_decide.mpr ⟨fun e => Sum.inl.inj e, fun e => by rw [e]⟩
theorem pdc_map {H : Hp} {ks : List (Key × V)} {kvs : List (Int × α)} (h : PDc c H ks kvs) (j : Int) {v : V} {x : α} (r : c.rep H v x) : PDc c H (ks.map fun kv => if kv.1 = .inl j then (kv.1, v) else kv) (kvs.map fun kv => if kv.1 = j then (kv.1, x) else kv) := by
  induction h with
  | nil => exact .nil
  | cons q t ih =>
    rw [List.map_cons, List.map_cons]
    refine .cons ?_ ih
    rename_i a b _ _
    by_cases e : b.1 = j
    · rw [if_pos e, if_pos (by rw [q.1, e])]; exact ⟨q.1, r⟩
    · rw [if_neg e, if_neg (by rw [q.1]; exact fun z => e (Sum.inl.inj z))]; exact q
theorem pdc_put {H : Hp} {ks : List (Key × V)} {kvs : List (Int × α)} (h : PDc c H ks kvs) (j : Int) {v : V} {x : α} (r : c.rep H v x) : PDc c H (putK ks (.inl j) v) (putD kvs j x) := by
  unfold putK putD
  rw [pdc_any h j]
  by_cases q : (kvs.any fun kv => decide (kv.1 = j)) = true
  · rw [if_pos q, if_pos q]; exact pdc_map h j r
  · rw [if_neg q, if_neg q]; exact Paired.snoc h ⟨rfl, r⟩
theorem pdc_val {H : Hp} {ks : List (Key × V)} {kvs : List (Int × α)} (h : PDc c H ks kvs) (j : Int) : (valD kvs j = none ∧ valV ks (Sum.inl j : Key) = none) ∨ ∃ v x, valD kvs j = some x ∧ valV ks (Sum.inl j : Key) = some v ∧ c.rep H v x := by
  induction h with
  | nil => exact .inl ⟨rfl, rfl⟩
  | cons r t ih =>
    rename_i a b _ _
    by_cases e : b.1 = j
    · refine .inr ⟨a.2, b.2, ?_, valV_pos (by rw [r.1, e]), r.2⟩
      unfold valD; rw [List.find?_cons, show decide (b.1 = j) = true from decide_eq_true e]; rfl
    · have e2 : ¬ a.1 = Sum.inl j := by rw [r.1]; exact fun z => e (Sum.inl.inj z)
      have e3 : ∀ l : List (Int × α), valD (b :: l) j = valD l j := fun l => by
        unfold valD; rw [List.find?_cons, show decide (b.1 = j) = false from decide_eq_false e]
      rw [e3, valV_neg e2]; exact ih
theorem putD_len (kvs : List (Int × α)) (j : Int) (x : α) : (putD kvs j x).length ≤ kvs.length + 1 := by
  unfold putD; split
  · rw [List.length_map]; omega
  · rw [List.length_append]; exact Nat.le_refl _
def dicOf {α : Type} (l : List (Int × α)) : List (Int × α) := l.foldl (fun d kv => putD d kv.1 kv.2) []
theorem dicOf_snoc (l : List (Int × α)) (kv : Int × α) : dicOf (l ++ [kv]) = putD (dicOf l) kv.1 kv.2 := by unfold dicOf; rw [List.foldl_append]; rfl
theorem dic_foldlen : ∀ (l d : List (Int × α)), (l.foldl (fun d kv => putD d kv.1 kv.2) d).length ≤ l.length + d.length
  | [], d => by simp
  | kv :: l, d => by
    rw [List.foldl_cons, List.length_cons]
    have := dic_foldlen l (putD d kv.1 kv.2)
    have := putD_len d kv.1 kv.2
    omega
theorem dicOf_len (l : List (Int × α)) : (dicOf l).length ≤ l.length := by have := dic_foldlen l []; unfold dicOf; simpa using this
theorem find_put (k j : Int) (x : α) : ∀ r : List (Int × α), (r.map fun kv => if kv.1 = k then (kv.1, x) else kv).find? (fun kv => decide (kv.1 = j)) = (r.find? fun kv => decide (kv.1 = j)).map fun kv => if kv.1 = k then (kv.1, x) else kv
  | [] => rfl
  | q :: r => by
    rw [List.map_cons, List.find?_cons, List.find?_cons, find_put k j x r]
    have e : (if q.1 = k then (q.1, x) else q).1 = q.1 := by split <;> rfl
    rw [e]
    cases decide (q.1 = j) <;> rfl
theorem valD_put (kvs : List (Int × α)) (k j : Int) (x : α) : valD (putD kvs k x) j = if j = k then some x else valD kvs j := by
  unfold valD putD
  by_cases h : (kvs.any fun kv => decide (kv.1 = k)) = true
  · rw [if_pos h, find_put]
    by_cases ej : j = k
    · subst ej
      rw [if_pos rfl]
      obtain ⟨kv, hk, e⟩ := List.any_eq_true.mp h
      cases hf : kvs.find? fun kv => decide (kv.1 = j) with
      | none => exact absurd e (List.find?_eq_none.mp hf kv hk)
      | some q =>
        have eq : q.1 = j := by simpa using List.find?_some hf
        show some (if q.1 = j then (q.1, x) else q).2 = some x
        rw [if_pos eq]
    · rw [if_neg ej]
      cases hf : kvs.find? fun kv => decide (kv.1 = j) with
      | none => rfl
      | some q =>
        have eq : q.1 = j := by simpa using List.find?_some hf
        show some (if q.1 = k then (q.1, x) else q).2 = some q.2
        rw [if_neg fun z => ej (eq.symm.trans z)]
  · rw [if_neg h, List.find?_append]
    have hn : ∀ kv ∈ kvs, ¬ kv.1 = k := fun kv hk e => h (List.any_eq_true.mpr ⟨kv, hk, decide_eq_true e⟩)
    by_cases ej : j = k
    · subst ej
      have : kvs.find? (fun kv => decide (kv.1 = j)) = none := List.find?_eq_none.mpr fun kv hk => by simpa using hn kv hk
      rw [this, if_pos rfl]; simp
    · rw [if_neg ej]
      have : ([(k, x)] : List (Int × α)).find? (fun kv => decide (kv.1 = j)) = none := by
        simp; exact fun z => ej z.symm
      rw [this]; simp
/-- where the keys are all different, a dict of rows is the rows -/
theorem valD_dicOf : ∀ (l : List (Int × α)) (j : Int), valD (dicOf l) j = valD l.reverse j := fun l j => by
  suffices ∀ m : List (Int × α), valD (dicOf m.reverse) j = valD m j by have := this l.reverse; rwa [List.reverse_reverse] at this
  intro m
  induction m with
  | nil => rfl
  | cons kv m ih =>
    rw [List.reverse_cons, dicOf_snoc, valD_put, ih]
    unfold valD
    rw [List.find?_cons]
    by_cases e : j = kv.1
    · rw [if_pos e, show decide (kv.1 = j) = true from decide_eq_true e.symm]; rfl
    · rw [if_neg e, show decide (kv.1 = j) = false from decide_eq_false fun z => e z.symm]
/-- {f x: h x for x in xs if b x} -/
theorem td_dc {vs : List Nat} (f : α → Int) (h : α → β) (b : α → Bool) (hw : TW wi Γ k c (· = xs)) (hv : ∀ i ∈ vs, NoBx Γ i)
    (hs : ∀ x, x ∈ xs → ∃ Γ1 is, GD g c x (wipeC Γ vs) Γ1 is ∧ (∀ i ∈ is, i ∈ vs) ∧ TDT tt Γ1 0 (· = b x) ∧ (b x = true → TD tk Γ1 0 cInt (· = f x) ∧ TD tv Γ1 0 c' (· = h x))) :
    TD (tDc wi g tt tk tv vs) Γ k (cDic c') (· = dicOf ((xs.filter b).map fun x => (f x, h x))) := fun O n σ Hf H hn s Q q =>
  hw O n σ Hf H hn s _ fun J Hf1 H1 xs' px W lb f1 S1 D hD => by
    subst px
    have hbx : ∀ a, Bx Γ a → a ≠ D := fun a ⟨i, hi⟩ z => by
      subst z
      obtain ⟨_, _, _, _, _, _, e, _⟩ := S1.at_ i _ hi
      rw [hD] at e; cases e
    have bx0 : ∀ a, Bx Γ a → Hf1 a = none ∧ BoxAt H1 a (n + k) := fun a ⟨i, hi⟩ => (S1.at_ i _ hi).2
    refine ⟨fun i m H' => m = xs'.length - i ∧ i ≤ xs'.length ∧ ∃ Hfi ks, H' D = some (.dK ks) ∧ ks.length ≤ i ∧ PDc c' Hfi ks (dicOf (((xs'.take i).filter b).map fun x => (f x, h x))) ∧ Hfi D = none ∧ Ex Hfi H' ∧ Fr (Bx Γ) Hf1 H1 Hfi H' ∧
        ∀ a, Bx Γ a → Hfi a = none ∧ BoxAt H' a (n + k),
      ⟨xs'.length, by simp, Nat.zero_le _, Hf1, [], upd_same, Nat.le_refl _, .nil, S1.ex.back hD, S1.ex.trans (Ex.new hD), Fr.newO hD, fun a ha => ⟨(bx0 a ha).1, boxAt_ex (bx0 a ha).2 fun o e => by rw [upd_ne (hbx a ha)]; exact e⟩⟩, ?_⟩
    rintro i m H' ⟨rfl, hi, Hfi, ks, hDi, hkl, hT, hfD, ex, fr, hb⟩
    have Si : Sat O Hfi H' (wipe σ vs) (wipeC Γ vs) (n + k) := (S1.grow fr ex hb).wipe vs
    by_cases hlt : i < xs'.length
    · have hx : xs'[i]? = some xs'[i] := List.getElem?_eq_getElem hlt
      have ts : xs'.take (i + 1) = xs'.take i ++ [xs'[i]] := take_snoc hx
      refine .inr ⟨W.go Hfi H' i fr.ex ex hlt, fun H2 => ∃ Hfi ks, H2 D = some (.dK ks) ∧ ks.length ≤ i + 1 ∧ PDc c' Hfi ks (dicOf (((xs'.take (i + 1)).filter b).map fun x => (f x, h x))) ∧ Hfi D = none ∧ Ex Hfi H2 ∧ Fr (Bx Γ) Hf1 H1 Hfi H2 ∧
        ∀ a, Bx Γ a → Hfi a = none ∧ BoxAt H2 a (n + k), fun H2 h2 => ⟨xs'.length - (i + 1), by omega, rfl, hlt, h2⟩, fun v H2 hy => ?_⟩
      obtain ⟨Hf2, rx, fy, ey⟩ := W.yld Hfi H' i v H2 _ fr.ex ex hy hx
      have S2 : Sat O Hf2 H2 (wipe σ vs) (wipeC Γ vs) (n + k) := Si.grow0 fy ey
      obtain ⟨Γ1, is, gd, hin, ht, hTt⟩ := hs xs'[i] (List.getElem_mem hlt)
      have bx1 : ∀ a, Bx Γ1 a → Bx Γ a := fun a h => (bx_wipe hv).mp (gd.2.1 a h)
      have bx2 : ∀ a, Bx Γ a → Bx Γ1 a := fun a h => by
        obtain ⟨j, hj⟩ := (bx_wipe hv).mpr h
        exact ⟨j, gd.1 j a hj⟩
      have hD2 := fy.keep _ _ hDi id
      have hfD2 : Hf2 D = none := fy.fz _ _ hDi id hfD
      refine gd.2.2 O _ _ Hf2 H2 v rx S2 _ fun σ3 S3 w3 => ⟨(w3 vs hin).trans wipe_wipe, ?_⟩
      refine ht O _ σ3 Hf2 H2 (by omega) S3 _ fun bb Hf3 H3 pb f3 S3' => ?_
      have nD1 : ¬ Bx Γ1 D := fun z => hbx D (bx1 D z) rfl
      have hD3 := f3.keep _ _ hD2 nD1
      have hfD3 : Hf3 D = none := f3.fz _ _ hD2 nD1 hfD2
      have F3 : Fr (Bx Γ) Hf1 H1 Hf3 H3 := (fr.trans fy fun _ z => z.elim).trans f3 fun a z => .inl (bx1 a z)
      cases bb with
      | true =>
        rw [if_pos rfl]
        obtain ⟨hk1, hk2⟩ := hTt pb.symm
        refine hk1 O _ σ3 Hf3 H3 (by omega) S3' _ fun yk Hf4 H4 kx pk rk f4 S4 => ?_
        have hD4 := f4.keep _ _ hD3 nD1
        have hfD4 : Hf4 D = none := f4.fz _ _ hD3 nD1 hfD3
        have F4 : Fr (Bx Γ) Hf1 H1 Hf4 H4 := F3.trans f4 fun a z => .inl (bx1 a z)
        refine hk2 O _ σ3 Hf4 H4 (by omega) S4 _ fun y Hf5 H5 yx py ry f5 S5 => ?_
        have hD5 := f5.keep _ _ hD4 nD1
        have hfD5 : Hf5 D = none := f5.fz _ _ hD4 nD1 hfD4
        have F5 : Fr (Bx Γ) Hf1 H1 Hf5 H5 := F4.trans f5 fun a z => .inl (bx1 a z)
        have ee : ((xs'.take (i + 1)).filter b).map (fun x => (f x, h x)) = ((xs'.take i).filter b).map (fun x => (f x, h x)) ++ [(f xs'[i], h xs'[i])] := by
          rw [ts, List.filter_append, List.map_append]; congr 1; simp [← pb]
        obtain rfl := rk
        subst pk py
        refine ⟨ks, .inl (f xs'[i]), rfl, hD5, lb_lt (by omega), Hf5, _, upd_same, ?_, ?_, hfD5, S5.ex.mut hfD5, ?_, fun a ha => ?_⟩
        · have := length_putK ks (.inl (f xs'[i]) : Key) y; omega
        · rw [ee, dicOf_snoc]
          exact pdc_put (hT.mono ((fy.ex.trans f3.ex).trans (f4.ex.trans f5.ex))) _ ry
        · refine ⟨F5.ex, fun a o e nm => ?_, F5.fz, fun a e => ?_⟩
          · rw [upd_ne (ne_of_none e hD)]; exact F5.keep a o e nm
          · by_cases z : a = D
            · subst z; exact hD
            · rw [upd_ne z] at e; exact F5.dom a e
        · obtain ⟨j, hj⟩ := bx2 a ha
          obtain ⟨_, z1, z2⟩ := S5.at_ j _ hj
          exact ⟨z1, boxAt_ex z2 fun o e => by rw [upd_ne (hbx a ha)]; exact e⟩
      | false =>
        rw [if_neg Bool.false_ne_true]
        have ee : ((xs'.take (i + 1)).filter b).map (fun x => (f x, h x)) = ((xs'.take i).filter b).map fun x => (f x, h x) := by
          rw [ts, List.filter_append, List.map_append]; simp [← pb]
        refine ⟨Hf3, ks, hD3, by omega, by rw [ee]; exact hT.mono (fy.ex.trans f3.ex), hfD3, S3'.ex, F3, fun a ha => ?_⟩
        obtain ⟨j, hj⟩ := bx2 a ha
        obtain ⟨_, z1, z2⟩ := S3'.at_ j _ hj
        exact ⟨z1, z2⟩
    · have e : i = xs'.length := by omega
      subst e
      rw [List.take_length] at hT
      have F : Fr (Bx Γ) Hf1 H1 (upd Hfi D (.dK ks)) H' := fr.fix hD hfD hDi
      refine .inl ⟨W.stop Hfi H' fr.ex ex, q _ (upd Hfi D (.dK ks)) H' _ rfl ⟨D, ks, rfl, upd_same, hT.mono (Ex.new hfD), by omega⟩ (f1.trans F fun _ z => .inl z) ?_⟩
      refine S1.grow F (ex.fix hDi) fun a ha => ?_
      obtain ⟨z1, z2⟩ := hb a ha
      exact ⟨by rw [upd_ne (hbx a ha)]; exact z1, z2⟩
end
end DL

set_option Elab.async false
set_option linter.all false
set_option maxRecDepth 100000
set_option maxHeartbeats 4000000
namespace DL
open PySem PySem.Spec L2
/-! ### sorted lists are what they are -/
theorem perm_sorted_eq {α : Type} {f : α → Int} : ∀ {l m : List α}, l.Perm m → l.Pairwise (fun a b => f a ≤ f b) → m.Pairwise (fun a b => f a ≤ f b) → (∀ a ∈ l, ∀ b ∈ l, f a = f b → a = b) → l = m
  | [], m, h, _, _, _ => by have := h.length_eq; cases m with
    | nil => rfl
    | cons => simp at this
  | x :: l, [], h, _, _, _ => by have := h.length_eq; simp at this
  | x :: l, y :: m, h, h1, h2, hi => by
    have a := List.pairwise_cons.mp h1
    have b := List.pairwise_cons.mp h2
    have hy : y ∈ x :: l := h.mem_iff.mpr List.mem_cons_self
    have hx : x ∈ y :: m := h.mem_iff.mp List.mem_cons_self
    have e : x = y := by
      rcases List.mem_cons.mp hy with e | e
      · exact e.symm
      · rcases List.mem_cons.mp hx with e2 | e2
        · exact e2
        · exact hi x List.mem_cons_self y hy (Int.le_antisymm (a.1 y e) (b.1 x e2))
    subst e
    rw [perm_sorted_eq ((List.perm_cons x).mp h) a.2 b.2 fun p hp q hq => hi p (List.mem_cons_of_mem _ hp) q (List.mem_cons_of_mem _ hq)]
def sortBy {α : Type} (f : α → Int) (l : List α) : List α := l.mergeSort fun a b => decide (f a ≤ f b)
theorem sortBy_perm {α : Type} (f : α → Int) (l : List α) : (sortBy f l).Perm l := List.mergeSort_perm l _
theorem sortBy_up {α : Type} (f : α → Int) (l : List α) : (sortBy f l).Pairwise (fun a b => f a ≤ f b) :=
  (List.pairwise_mergeSort (le := fun a b => decide (f a ≤ f b)) (fun a b c h1 h2 => by simp at h1 h2 ⊢; omega) (fun a b => by simp; omega) l).imp fun h => by simpa using h
theorem sortBy_eq {α : Type} {f : α → Int} {l m : List α} (h : m.Perm l) (hu : m.Pairwise fun a b => f a ≤ f b) (hi : ∀ a ∈ l, ∀ b ∈ l, f a = f b → a = b) : m = sortBy f l :=
  perm_sorted_eq (h.trans (sortBy_perm f l).symm) hu (sortBy_up f l) fun a ha b hb => hi a (h.mem_iff.mp ha) b (h.mem_iff.mp hb)
def sortI (l : List Int) : List Int := sortBy id l
abbrev R3 := Int × Int × Int
def code3 (r : R3) : Int := (r.1 * 64 + r.2.1) * 64 + r.2.2
def In64 (r : R3) : Prop := (0 ≤ r.1 ∧ r.1 < 64) ∧ (0 ≤ r.2.1 ∧ r.2.1 < 64) ∧ (0 ≤ r.2.2 ∧ r.2.2 < 64)
theorem code3_inj {a b : R3} (ha : In64 a) (hb : In64 b) (h : code3 a = code3 b) : a = b := by
  obtain ⟨a1, a2, a3⟩ := a
  obtain ⟨b1, b2, b3⟩ := b
  obtain ⟨⟨x1, x2⟩, ⟨x3, x4⟩, x5, x6⟩ := ha
  obtain ⟨⟨y1, y2⟩, ⟨y3, y4⟩, y5, y6⟩ := hb
  simp only [code3] at *
  have e3 : a3 = b3 := by omega
  have e2 : a2 = b2 := by omega
  have e1 : a1 = b1 := by omega
  rw [e1, e2, e3]
def sort3 (l : List R3) : List R3 := sortBy code3 l
section
variable {S : Stc} {X : Cx}
variable {Γ Γ1 Γ2 Γ3 : Ctxt} {k k1 k2 k3 kk kt ke : Nat} {A α β γ ρ : Type} {c : Cod α} {c' : Cod β} {cr : Cod ρ} {c1 : Cod α} {c2 : Cod β} {c3 : Cod γ} {P P1 : α → Prop} {P2 : β → Prop} {P3 : γ → Prop} {te to ti tk tv : TE} {tt : TT} {t u : TS} {p : Po ρ} {ta tx : TA} {e a b d o : Expr} {es : List Expr} {pos pos' pn pt apos : Pos}
variable {x : α} {y : β} {z : γ} {xs : List α} {K : PySem.W.Frag} {w : World} {ns : List Int}
theorem psortI' (hg : S.sc.names.lookup ("sorted" : Str) = some .globalImplicit) (hm : S.mg "sorted" = none) (h : PD S Γ 0 e (cList cInt) (· = ns)) (he : ∀ env : Env, starEach [e] env = (false, eval e env) :: starEach [] env) : PDF S Γ 0 (.Call (.Name "sorted" pn) [e] [] pos) cInt (· = sortI ns) :=
  pfb1 sortIG hg hm PyProof.Rows.boot_sorted h (fun Hf H v ex r Q q => rc_sortI Hf H v ex r Q fun p vs zs pz hp pr lb => q p vs zs (sortBy_eq pz.1 pz.2 fun _ _ _ _ e => e) hp pr lb) he
theorem tupI3 {Hf H : Hp} {v : V} {r : R3} (e : Ex Hf H) (h : (cT3 cInt cInt cInt).rep Hf v r) : TupI K H v [r.1, r.2.1, r.2.2] := by
  obtain ⟨a, u, w, y, h1, h2, h3, h4, h5⟩ := h
  obtain rfl := h3; obtain rfl := h4; obtain rfl := h5
  exact ⟨a, h1, SqT.of (e _ _ h2)⟩
theorem code_3 (a b c : Int) : TS.code 64 [a, b, c] = code3 (a, b, c) := by
  show a * 64 ^ 2 + (b * 64 ^ 1 + (c * 64 ^ 0 + 0)) = (a * 64 + b) * 64 + c
  rw [show (64 : Int) ^ 2 = 4096 from by decide, show (64 : Int) ^ 1 = 64 from by decide, show (64 : Int) ^ 0 = 1 from by decide]; omega
/-- a permutation of the values permutes what they are -/
theorem paired_perm {F : V → α → Prop} {us vs : List V} (h : us.Perm vs) : ∀ {xs : List α}, Paired F vs xs → ∃ ys : List α, ys.Perm xs ∧ Paired F us ys := by
  induction h with
  | nil => intro xs p; cases p; exact ⟨[], .nil, .nil⟩
  | cons u _ ih =>
    intro xs p
    cases p with
    | cons r t =>
      obtain ⟨ys, h1, h2⟩ := ih t
      exact ⟨_ :: ys, h1.cons _, .cons r h2⟩
  | swap u v l =>
    intro xs p
    cases p with
    | cons r t =>
      cases t with
      | cons r2 t => exact ⟨_ :: _ :: _, .swap .., .cons r2 (.cons r t)⟩
  | trans _ _ ih1 ih2 =>
    intro xs p
    obtain ⟨ys, h1, h2⟩ := ih2 p
    obtain ⟨zs, h3, h4⟩ := ih1 h2
    exact ⟨zs, h3.trans h1, h4⟩
theorem paired_mem2 {F : V → α → Prop} {R : V → V → Prop} {T : α → α → Prop} : ∀ {us : List V} {xs : List α}, Paired F us xs → us.Pairwise R → (∀ u v x y, x ∈ xs → y ∈ xs → F u x → F v y → R u v → T x y) → xs.Pairwise T
  | _, _, .nil, _, _ => .nil
  | _, _, .cons (b := x) r t, h, f => by
    have h' := List.pairwise_cons.mp h
    refine List.pairwise_cons.mpr ⟨fun y hy => ?_, paired_mem2 t h'.2 fun u v x y hx hy => f u v x y (List.mem_cons_of_mem _ hx) (List.mem_cons_of_mem _ hy)⟩
    obtain ⟨v, hv, rv⟩ := paired_mem t y hy
    exact f _ v _ y List.mem_cons_self (List.mem_cons_of_mem _ hy) r rv (h'.1 v hv)
where paired_mem : ∀ {us : List V} {xs : List α}, Paired F us xs → ∀ y ∈ xs, ∃ v ∈ us, F v y
  | _, _, .nil, _, h => nomatch h
  | _, _, .cons r t, y, h => by
    rcases List.mem_cons.mp h with e | e
    · subst e; exact ⟨_, List.mem_cons_self, r⟩
    · obtain ⟨v, hv, r'⟩ := paired_mem t y e
      exact ⟨v, List.mem_cons_of_mem _ hv, r'⟩
theorem paired_in {F : V → α → Prop} : ∀ {us : List V} {xs : List α}, Paired F us xs → ∀ v ∈ us, ∃ y ∈ xs, F v y
  | _, _, .nil, _, h => nomatch h
  | _, _, .cons r t, v, h => by
    rcases List.mem_cons.mp h with e | e
    · subst e; exact ⟨_, List.mem_cons_self, r⟩
    · obtain ⟨y, hy, r'⟩ := paired_in t v e
      exact ⟨y, List.mem_cons_of_mem _ hy, r'⟩
theorem rc_sort3 {rs : List R3} (hl : rs.length < 64) (hb : ∀ r ∈ rs, In64 r) : RC1F (rSortU K 3 64) (cList (cT3 cInt cInt cInt)) rs (cT3 cInt cInt cInt) (· = sort3 rs) := fun Hf H v e ⟨a, vs, h1, h2, h3, h4⟩ Q q => by
  refine ⟨a, vs, by rw [h1], SqL.of (e _ _ h2), by rw [paired_len h3]; exact hl, fun x hx => ?_, fun ys p hp hu hn => ?_⟩
  · obtain ⟨r, hr, rr⟩ := paired_in h3 x hx
    refine ⟨_, tupI3 e rr, rfl, fun m hm => ?_⟩
    obtain ⟨b1, b2, b3⟩ := hb r hr
    rcases List.mem_cons.mp hm with z | hm
    · rw [z]; exact b1
    rcases List.mem_cons.mp hm with z | hm
    · rw [z]; exact b2
    rcases List.mem_cons.mp hm with z | hm
    · rw [z]; exact b3
    · exact absurd hm List.not_mem_nil
  · obtain ⟨zs, hz, pz⟩ := paired_perm hp h3
    refine q p ys zs (sortBy_eq hz (paired_mem2 pz hu fun u v x y _ _ rx ry R => ?_) fun a ha b hb' => code3_inj (hb a ha) (hb b hb')) hn pz ?_
    · have := R _ _ (tupI3 e rx) (tupI3 e ry)
      rw [code_3, code_3] at this; exact this
    · rw [hp.length_eq]; exact h4
theorem sort3G : ∀ X, Good S X → CallR X (.builtin "sorted") (rSortU S.K 3 64) := fun X G => by rw [← G.K]; exact cr_sortT (by decide)
theorem psort3 {rs : List R3} (hg : S.sc.names.lookup ("sorted" : Str) = some .globalImplicit) (hm : S.mg "sorted" = none) (h : PD S Γ 0 e (cList (cT3 cInt cInt cInt)) (· = rs)) (hl : rs.length < 64) (hb : ∀ r ∈ rs, In64 r) (he : ∀ env : Env, starEach [e] env = (false, eval e env) :: starEach [] env) :
    PDF S Γ 0 (.Call (.Name "sorted" pn) [e] [] pos) (cT3 cInt cInt cInt) (· = sort3 rs) := pfb1 sort3G hg hm PyProof.Rows.boot_sorted h (rc_sort3 hl hb) he
/-! ### {.. for ..} -/
theorem pscT (own : List (Str × Nat)) {elt tg iter : Expr} {ifs : List Expr} {scope : Scope} {f : α → Int} {q : α → Bool} (hw : PDI S Γ k tg iter c (· = xs)) (nv : NoBxs Γ (own.map (·.2))) (hz : xs.length ≤ 1000) (ok : blkC S.N S.sc scope own = true) (hfs : ∀ (env : Env) x, foldedSetIterable iter env x = pure x)
    (hs : ∀ x, x ∈ xs → ∃ Γ1 is, PDG (S.blk scope) tg c x (wipeC Γ (own.map (·.2))) Γ1 is ∧ (∀ i ∈ is, i ∈ own.map (·.2)) ∧ TDT (tTs (S.blk scope) ifs) Γ1 0 (· = q x) ∧ (q x = true → PD (S.blk scope) Γ1 0 elt cInt (· = f x))) :
    PD S Γ k (.SetComp elt [⟨tg, iter, ifs, 0⟩] scope pos) (cSet S.w) (· = asc ((xs.filter q).map f)) :=
  pd_of (te := tSci S.w (tI S tg iter) (tGt (S.blk scope) tg) (tTs (S.blk scope) ifs) (tE (S.blk scope) elt) (own.map (·.2))) (fun X G => by
    rw [← G.w]
    exact pe_sci G.calm (by rw [G.N]; exact G.nd) (tI_ok G) (blkOk_by (by rw [G.N, G.sc]; exact ok)) (fun s H C cl fp => tGt_ok (G.blk scope s H C cl fp)) (fun s H C cl fp => tTs_ok (G.blk scope s H C cl fp)) (fun s H C cl fp => tE_ok (G.blk scope s H C cl fp)) (hfs _))
    (td_sc f q hw (noBxs_mem nv) hz hs)
theorem pscN (own : List (Str × Nat)) {elt tg iter : Expr} {scope : Scope} {f : α → Int} (hw : PDI S Γ k tg iter c (· = xs)) (nv : NoBxs Γ (own.map (·.2))) (hz : xs.length ≤ 1000) (ok : blkC S.N S.sc scope own = true) (hfs : ∀ (env : Env) x, foldedSetIterable iter env x = pure x)
    (hs : ∀ x, x ∈ xs → ∃ Γ1 is, PDG (S.blk scope) tg c x (wipeC Γ (own.map (·.2))) Γ1 is ∧ (∀ i ∈ is, i ∈ own.map (·.2)) ∧ PD (S.blk scope) Γ1 0 elt cInt (· = f x)) :
    PD S Γ k (.SetComp elt [⟨tg, iter, [], 0⟩] scope pos) (cSet S.w) (· = asc (xs.map f)) :=
  (pscT own (q := fun _ => true) hw nv hz ok hfs fun x hx => by
    obtain ⟨Γ1, is, h1, h2, h3⟩ := hs x hx
    exact ⟨Γ1, is, h1, h2, tts_nil, fun _ => h3⟩).imp fun ys e => by rw [e]; congr 2; simp
/-! ### {..: .. for ..} -/
theorem pdcT (own : List (Str × Nat)) {ek ev tg iter : Expr} {ifs : List Expr} {scope : Scope} {f : α → Int} {h : α → β} {q : α → Bool} (hw : PDI S Γ k tg iter c (· = xs)) (nv : NoBxs Γ (own.map (·.2))) (ok : blkC S.N S.sc scope own = true) (hfs : ∀ (env : Env) x, foldedSetIterable iter env x = pure x)
    (hs : ∀ x, x ∈ xs → ∃ Γ1 is, PDG (S.blk scope) tg c x (wipeC Γ (own.map (·.2))) Γ1 is ∧ (∀ i ∈ is, i ∈ own.map (·.2)) ∧ TDT (tTs (S.blk scope) ifs) Γ1 0 (· = q x) ∧ (q x = true → PD (S.blk scope) Γ1 0 ek cInt (· = f x) ∧ PD (S.blk scope) Γ1 0 ev c' (· = h x))) :
    PD S Γ k (.DictComp ek ev [⟨tg, iter, ifs, 0⟩] scope pos) (cDic c') (· = dicOf ((xs.filter q).map fun x => (f x, h x))) :=
  pd_of (te := tDc (tI S tg iter) (tGt (S.blk scope) tg) (tTs (S.blk scope) ifs) (tE (S.blk scope) ek) (tE (S.blk scope) ev) (own.map (·.2))) (fun X G =>
    pe_dc G.calm (by rw [G.N]; exact G.nd) (tI_ok G) (blkOk_by (by rw [G.N, G.sc]; exact ok)) (fun s H C cl fp => tGt_ok (G.blk scope s H C cl fp)) (fun s H C cl fp => tTs_ok (G.blk scope s H C cl fp)) (fun s H C cl fp => tE_ok (G.blk scope s H C cl fp)) (fun s H C cl fp => tE_ok (G.blk scope s H C cl fp)) (hfs _))
    (td_dc f h q hw (noBxs_mem nv) hs)
theorem pdcN (own : List (Str × Nat)) {ek ev tg iter : Expr} {scope : Scope} {f : α → Int} {h : α → β} (hw : PDI S Γ k tg iter c (· = xs)) (nv : NoBxs Γ (own.map (·.2))) (ok : blkC S.N S.sc scope own = true) (hfs : ∀ (env : Env) x, foldedSetIterable iter env x = pure x)
    (hs : ∀ x, x ∈ xs → ∃ Γ1 is, PDG (S.blk scope) tg c x (wipeC Γ (own.map (·.2))) Γ1 is ∧ (∀ i ∈ is, i ∈ own.map (·.2)) ∧ PD (S.blk scope) Γ1 0 ek cInt (· = f x) ∧ PD (S.blk scope) Γ1 0 ev c' (· = h x)) :
    PD S Γ k (.DictComp ek ev [⟨tg, iter, [], 0⟩] scope pos) (cDic c') (· = dicOf (xs.map fun x => (f x, h x))) :=
  (pdcT own (q := fun _ => true) hw nv ok hfs fun x hx => by
    obtain ⟨Γ1, is, h1, h2, h3⟩ := hs x hx
    exact ⟨Γ1, is, h1, h2, tts_nil, fun _ => h3⟩).imp fun ys e => by rw [e]; congr 2; simp
/-! ### d.get(k, x); k in d -/
theorem pdget2 {kvs : List (Int × α)} {i : Int} (ho : PD S Γ 0 o (cDic c) (· = kvs)) (he : PD S Γ 0 e cInt (· = i)) (hf : PD S Γ 0 d c (· = x)) (m : ∀ X, M2 X o "get" apos e d pos) : PD S Γ 0 (.Call (.Attribute o "get" apos) [e, d] [] pos) c (· = (valD kvs i).getD x) :=
  pd_of (fun X G => pe_dget2 (by have := G.room.un; omega) (tE_ok G) (tE_ok G) (tE_ok G) (m X)) fun O n σ Hf H hn s Q q => ho O n σ Hf H hn s _ fun v Hf1 H1 k1 p1 ⟨a, ks, h1, h2, h3, h4⟩ f1 s1 => by
    subst p1
    refine ⟨a, h1, .inl ⟨ks, .inl (s1.ex _ _ h2)⟩, ?_⟩
    refine he O n σ Hf1 H1 hn s1 _ fun v2 Hf2 H2 j p2 r2 f2 s2 => hf O n σ Hf2 H2 hn s2 _ fun v3 Hf3 H3 x' p3 r3 f3 s3 => ?_
    subst p2 p3
    obtain rfl := r2
    have e3 := s3.ex _ _ (f3.ex _ _ (f2.ex _ _ h2))
    refine ⟨valV ks (Sum.inl j : Key), DGet.k (k := Sum.inl j) e3, ?_⟩
    rcases pdc_val h3 j with ⟨z1, z2⟩ | ⟨w, y, z1, z2, z3⟩
    · rw [z2]
      exact q v3 Hf3 H3 _ (by rw [z1]; rfl) r3 ((f1.trans f2 fun _ z => .inl z).trans f3 fun _ z => .inl z) s3
    · rw [z2]
      exact q w Hf3 H3 y (by rw [z1]; rfl) (c.mono (f2.ex.trans f3.ex) z3) ((f1.trans f2 fun _ z => .inl z).trans f3 fun _ z => .inl z) s3
theorem tnotinD {kvs : List (Int × α)} {i : Int} (he : PD S Γ 0 e cInt (· = i)) (ho : PD S Γ 0 o (cDic c) (· = kvs)) (hm : behindInMarks .NotIn o = false) : PD S Γ 0 (.Compare e [.NotIn] [o] pos) cBool (· = !(valD kvs i).isSome) :=
  pd_of (fun X G => pe_cmp (pc_dnotin (by have := G.room.un; omega) (tE_ok G) (tE_ok G)) hm) fun O n σ Hf H hn s Q q => he O n σ Hf H hn s _ fun v Hf1 H1 j p1 r1 f1 s1 => ho O n σ Hf1 H1 hn s1 _ fun v2 Hf2 H2 k2 p2 ⟨a, ks, h1, h2, h3, h4⟩ f2 s2 => by
    subst p1 p2
    obtain rfl := r1
    refine ⟨a, valV ks (Sum.inl j : Key), h1, DGet.k (k := Sum.inl j) (s2.ex _ _ h2), q _ Hf2 H2 _ ?_ rfl (f1.trans f2 fun _ z => .inl z) s2⟩
    rcases pdc_val h3 j with ⟨z1, z2⟩ | ⟨w, y, z1, z2, z3⟩
    · rw [z1, z2]; rfl
    · rw [z1, z2]; rfl
theorem tinD {kvs : List (Int × α)} {i : Int} (he : PD S Γ 0 e cInt (· = i)) (ho : PD S Γ 0 o (cDic c) (· = kvs)) (hm : behindInMarks .In o = false) : PD S Γ 0 (.Compare e [.In] [o] pos) cBool (· = (valD kvs i).isSome) :=
  pd_of (fun X G => pe_cmp (pc_din (by have := G.room.un; omega) (tE_ok G) (tE_ok G)) hm) fun O n σ Hf H hn s Q q => he O n σ Hf H hn s _ fun v Hf1 H1 j p1 r1 f1 s1 => ho O n σ Hf1 H1 hn s1 _ fun v2 Hf2 H2 k2 p2 ⟨a, ks, h1, h2, h3, h4⟩ f2 s2 => by
    subst p1 p2
    obtain rfl := r1
    refine ⟨a, valV ks (Sum.inl j : Key), h1, DGet.k (k := Sum.inl j) (s2.ex _ _ h2), q _ Hf2 H2 _ ?_ rfl (f1.trans f2 fun _ z => .inl z) s2⟩
    rcases pdc_val h3 j with ⟨z1, z2⟩ | ⟨w, y, z1, z2, z3⟩
    · rw [z1, z2]; rfl
    · rw [z1, z2]; rfl
end
end DL

set_option Elab.async false
set_option linter.all false
set_option maxRecDepth 100000
set_option maxHeartbeats 4000000
namespace DL
open PySem PySem.Spec L2
/-! ### a def at its name, and its promise -/
structure Def (K : PySem.W.Frag) (mg : Str → Option Value) (x : Str) (st : Stmt) : Prop where
  ex : ∃ f fd, Fun K x x st f fd ∧ mg x = some (.ref f)
structure Cal (P : Program) (w : World) (K : PySem.W.Frag) (mg : Str → Option Value) (base : Heap) (x : Str) (pn : List Str) (lv : Nat) (sp : Sp) : Prop where
  ex : ∃ f fd, FnOk P w K mg base CX0 lv f fd pn sp ∧ mg x = some (.ref f) ∧ PySem.W.keepIn K (.ref f) = true ∧ Binds K fd pn []
/-- how the arguments bind (no defaults) -/
abbrev BindsD (st : Stmt) (x : Str) (pn : List Str) : Prop := ∀ (kV doc pm : Value) (an : Option Addr) (cdv ct : Value) (us : List Value), us.length = pn.length → bindArgs (PySem.W.fnOf x x (defArgs st) (defBody st) (defScope st) .none kV doc pm an cdv ct) ⟨us, []⟩ = pure (pn.zip us)
section
variable {P : Program} {w : World} {K : PySem.W.Frag} {mg : Str → Option Value} {base : Heap} {x : Str} {st : Stmt} {N pn : List Str} {lv : Nat}
variable {A ρ : Type} {ps : Addr → A → Ctxt} {kf : A → Nat} {pre : A → Prop} {cr : Cod ρ} {PR : A → ρ → Prop}
theorem cal_D (D : Def K mg x st) (hb : BindsD st x pn) (Sc : FnScope N pn (defScope st))
    (hl : ∀ b a, (ps b a).length = pn.length) (hN : pn.length ≤ N.length) (one : ∀ b a, OneB (ps b a))
    (body : ∀ b a, pre a → PHs ⟨N, defScope st, K, mg, P, w, base, lv, fun _ => true, false⟩ (entry N (ps b a)) (kf a) (defBody st) { N := fun _ => False, bk := fun _ => False, ct := fun _ => False, c := cr, R := PR a }) :
    Cal P w K mg base x pn (lv + 1) (spD ps kf pre cr PR) := by
  obtain ⟨f, fd, F, hm⟩ := D.ex
  exact ⟨f, fd, fn_D F Sc hl hN one body, hm, F.kp, F.binds hb⟩
/-- a def known raw -/
theorem cal_of {sp : Sp} (D : Def K mg x st) (hb : BindsD st x pn) (h : ∀ f fd, Fun K x x st f fd → FnOk P w K mg base CX0 lv f fd pn sp) : Cal P w K mg base x pn lv sp := by
  obtain ⟨f, fd, F, hm⟩ := D.ex
  exact ⟨f, fd, h f fd F, hm, F.kp, F.binds hb⟩
theorem Cal.imp {sp sp' : Sp} (C : Cal P w K mg base x pn lv sp) (h : ∀ f fd, FnOk P w K mg base CX0 lv f fd pn sp → FnOk P w K mg base CX0 lv f fd pn sp') : Cal P w K mg base x pn lv sp' := by
  obtain ⟨f, fd, F, hm, hk, hb⟩ := C.ex
  exact ⟨f, fd, h f fd F, hm, hk, hb⟩
end
section
variable {S : Stc} {Γ : Ctxt} {k k1 k2 : Nat} {A ρ : Type} {cr : Cod ρ} {e : Expr} {es : List Expr} {pos pn : Pos}
theorem pcalX {ps : Addr → A → Ctxt} {kf : A → Nat} {pre : A → Prop} {PR : A → ρ → Prop} {B : Ctxt → Prop} {P' : ρ → Prop} {pn' : List Str} {x : Str} {l : Nat} (F : Cal S.prog S.w S.K S.mg S.base x pn' l (spD ps kf pre cr PR)) (hl : l ≤ S.lv) (hg : S.sc.names.lookup x = some .globalImplicit)
    (h : PDA S Γ k1 (e :: es) B) (hc : ∀ as, B as → ∃ a b, as = ps b a ∧ pre a ∧ kf a ≤ k2 ∧ ∀ x, PR a x → P' x)
    (he : ∀ env : Env, starEach (e :: es) env = (false, eval e env) :: starEach es env) (hpl : ∀ env : Env, (backTo pos (starEach es env)).any (·.1) = false) (hdb : (x == ("__debug__" : Str)) = false := by decide) : PD S Γ (k1 + k2) (.Call (.Name x pn) (e :: es) [] pos) cr P' := by
  obtain ⟨f, fd, F, hm, hk, hb⟩ := F.ex
  exact pd_call F hl hg hm hk hb h hc he hpl hdb
/-- nothing drawn, one value -/
theorem pcal {ps : Addr → A → Ctxt} {pre : A → Prop} {g : A → ρ} {l : Ctxt} {pn' : List Str} {x : Str} {lv : Nat} (F : Cal S.prog S.w S.K S.mg S.base x pn' lv (spD ps (fun _ => 0) pre cr (fun a x => x = g a))) (hl : lv ≤ S.lv) (hg : S.sc.names.lookup x = some .globalImplicit)
    (h : PDA S Γ 0 (e :: es) (· = l)) (a : A) (b : Addr) (hc : l = ps b a) (hp : pre a)
    (he : ∀ env : Env, starEach (e :: es) env = (false, eval e env) :: starEach es env) (hpl : ∀ env : Env, (backTo pos (starEach es env)).any (·.1) = false) (hdb : (x == ("__debug__" : Str)) = false := by decide) : PD S Γ 0 (.Call (.Name x pn) (e :: es) [] pos) cr (· = g a) :=
  pcalX (k1 := 0) (k2 := 0) F hl hg h (fun as e => ⟨a, b, e.trans hc, hp, Nat.le_refl _, fun _ h => h⟩) he hpl hdb
/-! ### isinstance(e, (list, tuple)) of either -/
theorem pisiLTs {α : Type} {c : Cod α} {xs : List α} {p1 p2 p3 p4 : Pos} {kx : Nat} (hg : S.sc.names.lookup ("isinstance" : Str) = some .globalImplicit) (hm : S.mg "isinstance" = none) (hgl : S.sc.names.lookup ("list" : Str) = some .globalImplicit) (hml : S.mg "list" = none) (hgt : S.sc.names.lookup ("tuple" : Str) = some .globalImplicit) (hmt : S.mg "tuple" = none)
    (h : PD S Γ 0 e (cSeq c) (· = xs))
    (he : ∀ env : Env, starEach [e, .Tuple [.Name "list" p2, .Name "tuple" p3] kx p4] env = (false, eval e env) :: starEach [.Tuple [.Name "list" p2, .Name "tuple" p3] kx p4] env) :
    PD S Γ 0 (.Call (.Name "isinstance" p1) [e, .Tuple [.Name "list" p2, .Name "tuple" p3] kx p4] [] pos) cBool (· = true) :=
  pd_of (te := tCB (rIsiT S.K) (tCons (tE S e) (tCons (tTup (tCons (tC (.ty "list")) (tCons (tC (.ty "tuple")) tNil))) tNil))) (fun X G => by
    rw [← G.K]
    exact pe_callB call_isiT (glb G hg) (by rw [G.mg]; exact hm) (by decide +kernel) (pa_cons (tE_ok G) (pa_cons (pe_tup (pa_cons (nmTy hgl hml PyProof.Rows.boot_list (by decide) (by decide) X G) (pa_cons (nmTy hgt hmt PyProof.Rows.boot_tuple (by decide) (by decide) X G) pa_nil))) pa_nil) (he _)) (by decide) (by decide) (he _) rfl)
    fun O n σ Hf H hn s Q q => h O n σ Hf H hn s _ fun v Hf' H' y py r' f s' => by
      subst py
      refine ⟨by show 2 ≤ sizeLine; decide, fun tp htp => ?_⟩
      have r2 : (cSeq c).rep (upd H' tp (.tup [.ty "list", .ty "tuple"])) v y := (cSeq c).mono (s'.ex.trans (Ex.new htp)) r'
      obtain ⟨ty, ht, hk⟩ : ∃ ty, TyX S.K (upd H' tp (.tup [.ty "list", .ty "tuple"])) v ty ∧ PySem.W.kitAny S.K ty [.type "list", .type "tuple"] = some true := by
        rcases r2 with r2 | r2
        · exact ⟨_, ty_list (K := S.K) _ _ r2, kLT_list⟩
        · exact ⟨_, ty_tup (K := S.K) _ _ r2, kLT_tuple⟩
      refine ⟨v, tp, [.ty "list", .ty "tuple"], ty, [.type "list", .type "tuple"], true, rfl, upd_same, .cons (.ty _) (.cons (.ty _) .nil), ht, hk, ?_⟩
      exact q _ (upd Hf' tp (.tup [.ty "list", .ty "tuple"])) _ true rfl rfl (f.trans (Fr.new (M := Bx Γ) s'.ex htp) fun _ z => .inl z) (s'.new htp)
end
end DL

set_option Elab.async false
set_option linter.all false
set_option maxRecDepth 100000
set_option maxHeartbeats 4000000
namespace DL
open PySem PySem.Spec L2
/-! ### what is put into a slot: data, or a new list of one's own -/
def VOk (Hf H H0 : Hp) (v : V) : Sl → Prop
  | .un => True
  | .d c x => c.rep Hf v x
  | .l c xs => ∃ a vs, v = .ref a ∧ H a = some (.lst vs) ∧ Hf a = none ∧ H0 a = none ∧ Paired (c.rep Hf) vs xs ∧ vs.length ≤ LB
  | .bx _ => False
  | .r p => ∃ a o, v = .ref a ∧ H a = some o ∧ Hf a = none ∧ H0 a = none ∧ p.φ Hf a o
def TX (te : TE) (Γ : Ctxt) (k : Nat) (R : Sl → Prop) : Prop :=
  ∀ (O : Org) (n : Nat) (σ : Stt) (Hf H : Hp), n + k ≤ LIM → Sat O Hf H σ Γ n → ∀ Q : VK,
    (∀ v Hf' H' s, R s → VOk Hf' H' H v s → Fr (Bx Γ) Hf H Hf' H' → Sat O Hf' H' σ Γ (n + k) → Q v H') → te σ H Q
/-- no own slot holds a -/
def NoAd (σ : Stt) (Γ : Ctxt) (a : Addr) : Prop := ∀ (j : Nat) sl, Γ[j]? = some sl → sl.own = true → σ[j]? ≠ some (some (V.ref a))
section
variable {Γ Γ1 : Ctxt} {k k1 k2 k3 : Nat} {α β γ ρ : Type} {c : Cod α} {P : α → Prop} {te to ti : TE} {p : Po ρ} {R R1 R2 R3 : Sl → Prop}
variable {O : Org} {Hf H H0 Hf' H' : Hp} {σ : Stt} {n m : Nat} {s : Sl} {v : V}
theorem TD.tx (h : TD te Γ k c P) : TX te Γ k (fun s => ∃ x, P x ∧ s = .d c x) := fun O n σ Hf H hn S Q q => h O n σ Hf H hn S Q fun v Hf' H' x px r f s => q v Hf' H' _ ⟨x, px, rfl⟩ r f s
theorem TDF.tx {R : List α → Prop} (h : TDF te Γ k c R) : TX te Γ k (fun s => ∃ x, R x ∧ s = .l c x) := fun O n σ Hf H hn S Q q => h O n σ Hf H hn S Q fun a vs Hf' H' xs p1 h1 h2 h3 pr lb f s => q _ Hf' H' _ ⟨xs, p1, rfl⟩ ⟨a, vs, rfl, h1, h2, h3, pr, lb⟩ f s
theorem TD.tx' {x : α} (h : TD te Γ k c (· = x)) : TX te Γ k (· = .d c x) := fun O n σ Hf H hn S Q q => h O n σ Hf H hn S Q fun v Hf' H' y px r f s => by subst px; exact q v Hf' H' (.d c y) rfl r f s
theorem TDF.tx' {x : List α} (h : TDF te Γ k c (· = x)) : TX te Γ k (· = .l c x) := fun O n σ Hf H hn S Q q => h O n σ Hf H hn S Q fun a vs Hf' H' xs p1 h1 h2 h3 pr lb f s => by subst p1; exact q _ Hf' H' (.l c xs) rfl ⟨a, vs, rfl, h1, h2, h3, pr, lb⟩ f s
theorem VOk.keep (h : VOk Hf H H0 v s) (f : Fr (Bx Γ) Hf H Hf' H') (hb : ∀ a, Bx Γ a → H0 a ≠ none) : VOk Hf' H' H0 v s := by
  cases s with
  | un => trivial
  | d c x => exact c.mono f.ex h
  | l c xs =>
    obtain ⟨a, vs, h1, h2, h3, h4, h5, h6⟩ := h
    have nb : ¬ Bx Γ a := fun z => hb a z h4
    exact ⟨a, vs, h1, f.keep _ _ h2 nb, f.fz _ _ h2 nb h3, h4, paired_mono h5 (fun _ _ r => c.mono f.ex r), h6⟩
  | bx a => exact h
  | r p =>
    obtain ⟨a, o, h1, h2, h3, h4, h5⟩ := h
    have nb : ¬ Bx Γ a := fun z => hb a z h4
    exact ⟨a, o, h1, f.keep _ _ h2 nb, f.fz _ _ h2 nb h3, h4, p.mono f.ex h5⟩
theorem Sat.noAd (S : Sat O Hf H σ Γ n) {a : Addr} (h : H a = none) : NoAd σ Γ a := fun j sl hj ho e => by
  obtain ⟨_, o, w⟩ := S.ownAt (a := a) ⟨j, sl, hj, ho, e⟩
  rw [h] at w; cases w
theorem NoAd.set {a : Addr} (h : NoAd σ Γ a) {i : Nat} (hv : s.own = true → v ≠ .ref a) : NoAd (σ.set i (some v)) (Γ.set i s) a := fun j sl hj ho e => by
  rcases sget hj with ⟨z, z2⟩ | ⟨ne, hj⟩
  · subst z z2
    have lt : j < σ.length := by
      have := (List.getElem?_eq_some_iff.mp e).1
      rw [List.length_set] at this; exact this
    rw [List.getElem?_set_self lt] at e
    injection e with e; injection e with e
    exact hv ho e
  · rw [List.getElem?_set_ne (Ne.symm ne)] at e
    exact h j sl hj ho e
theorem Sat.setX (S : Sat O Hf H σ Γ n) {i : Nat} (h : VOk Hf H H0 v s) (hs : s ≠ .un) (na : ∀ a, v = .ref a → s.own = true → NoAd σ Γ a) (hm : ∀ a, H0 a = none → O.H a = none) : Sat O Hf H (σ.set i (some v)) (Γ.set i s) n := by
  cases s with
  | un => exact absurd rfl hs
  | d c x => exact S.set h
  | l c xs =>
    obtain ⟨a, vs, rfl, h2, h3, h4, h5, h6⟩ := h
    exact S.setL h2 h3 h5 h6 (fun j sl _ hj ho => na a rfl rfl j sl hj ho) (.inr (hm a h4))
  | bx a => exact h.elim
  | r p =>
    obtain ⟨a, o, rfl, h2, h3, h4, h5⟩ := h
    exact S.setR h2 h3 h5 (fun j sl _ hj ho => na a rfl rfl j sl hj ho) (.inr (hm a h4))
theorem own_fresh (h : VOk Hf H H0 v s) {a : Addr} (e : v = .ref a) (ho : s.own = true) : H0 a = none ∧ H a ≠ none := by
  cases s with
  | un => cases ho
  | d c x => cases ho
  | l c xs =>
    obtain ⟨b, vs, h1, h2, h3, h4, _⟩ := h
    rw [e] at h1; cases h1
    exact ⟨h4, by rw [h2]; exact fun z => by cases z⟩
  | bx a => exact h.elim
  | r p =>
    obtain ⟨b, o, h1, h2, h3, h4, _⟩ := h
    rw [e] at h1; cases h1
    exact ⟨h4, by rw [h2]; exact fun z => by cases z⟩
theorem Sat.bxSome (S : Sat O Hf H σ Γ n) (a : Addr) (h : Bx Γ a) : H a ≠ none := fun z => by
  obtain ⟨_, o, w⟩ := S.ownAt (S.bxOwn h)
  rw [z] at w; cases w
/-- x, y = a, b -/
theorem hs_par {i j : Nat} (ha : TX te Γ k1 R1) (hb : TX to Γ k2 R2) (nb : NoBx Γ i) (nb' : NoBx Γ j) (hij : i ≠ j) (h1 : ∀ s, R1 s → s ≠ .un) (h2 : ∀ s, R2 s → s ≠ .un)
    (hp : ∀ s1 s2, R1 s1 → R2 s2 → p.N ((Γ.set i s1).set j s2)) : HS (tPar i j (tCons te (tCons to tNil))) Γ (k1 + k2) p := fun O n σ Hf H hn S D q1 _ _ _ =>
  ha O n σ Hf H (by omega) S _ fun v Hf1 H1 s1 r1 v1 f1 S1 => hb O (n + k1) σ Hf1 H1 (by omega) S1 _ fun w Hf2 H2 s2 r2 v2 f2 S2 => by
    refine ⟨v, w, rfl, ?_⟩
    have v1' := v1.keep f2 S.bxSome
    have T1 := S2.setX (i := i) v1' (h1 s1 r1) (fun a e ho j' sl hj' ho' e' => S.noAd (own_fresh v1 e ho).1 j' sl hj' ho' e') (fun a z => S.fr.dom a z)
    have T2 := T1.setX (i := j) v2 (h2 s2 r2) (fun a e ho => NoAd.set (fun j' sl hj' ho' e' => S1.noAd (own_fresh v2 e ho).1 j' sl hj' ho' e') fun ho1 e1 => (own_fresh v1 e1 ho1).2 (own_fresh v2 e ho).1) (fun a z => S.fr.dom a (f1.dom a z))
    refine q1 _ Hf2 H2 _ (hp s1 s2 r1 r2) ⟨by rw [← Nat.add_assoc]; exact T2, (bxKeep_set nb).trans (bxKeep_set ?_), f1.ex.trans f2.ex⟩
    unfold NoBx at nb' ⊢
    rw [List.getElem?_set_ne hij]; exact nb'
theorem hs_par3 {i j l : Nat} (ha : TX te Γ k1 R1) (hb : TX to Γ k2 R2) (hd : TX ti Γ k3 R3) (nb : NoBx Γ i) (nb' : NoBx Γ j) (nb2 : NoBx Γ l) (hij : i ≠ j) (hil : i ≠ l) (hjl : j ≠ l) (h1 : ∀ s, R1 s → s ≠ .un) (h2 : ∀ s, R2 s → s ≠ .un) (h3 : ∀ s, R3 s → s ≠ .un)
    (hp : ∀ s1 s2 s3, R1 s1 → R2 s2 → R3 s3 → p.N (((Γ.set i s1).set j s2).set l s3)) : HS (tPar3 i j l (tCons te (tCons to (tCons ti tNil)))) Γ (k1 + k2 + k3) p := fun O n σ Hf H hn S D q1 _ _ _ =>
  ha O n σ Hf H (by omega) S _ fun v Hf1 H1 s1 r1 v1 f1 S1 => hb O (n + k1) σ Hf1 H1 (by omega) S1 _ fun w Hf2 H2 s2 r2 v2 f2 S2 => hd O (n + k1 + k2) σ Hf2 H2 (by omega) S2 _ fun u Hf3 H3 s3 r3 v3 f3 S3 => by
    refine ⟨v, w, u, rfl, ?_⟩
    have v1' := (v1.keep f2 S.bxSome).keep f3 S.bxSome
    have v2' := v2.keep f3 S1.bxSome
    have T1 := S3.setX (i := i) v1' (h1 s1 r1) (fun a e ho j' sl hj' ho' e' => S.noAd (own_fresh v1 e ho).1 j' sl hj' ho' e') (fun a z => S.fr.dom a z)
    have T2 := T1.setX (i := j) v2' (h2 s2 r2) (fun a e ho => NoAd.set (fun j' sl hj' ho' e' => S1.noAd (own_fresh v2 e ho).1 j' sl hj' ho' e') fun ho1 e1 => (own_fresh v1 e1 ho1).2 (own_fresh v2 e ho).1) (fun a z => S.fr.dom a (f1.dom a z))
    have T3 := T2.setX (i := l) v3 (h3 s3 r3) (fun a e ho => NoAd.set (NoAd.set (fun j' sl hj' ho' e' => S2.noAd (own_fresh v3 e ho).1 j' sl hj' ho' e')
      fun ho1 e1 => (own_fresh v1 e1 ho1).2 (f2.dom a (own_fresh v3 e ho).1)) fun ho1 e1 => (own_fresh v2 e1 ho1).2 (own_fresh v3 e ho).1) (fun a z => S.fr.dom a (f1.dom a (f2.dom a z)))
    refine q1 _ Hf3 H3 _ (hp s1 s2 s3 r1 r2 r3) ⟨by rw [← Nat.add_assoc, ← Nat.add_assoc]; exact T3, ((bxKeep_set nb).trans (bxKeep_set ?_)).trans (bxKeep_set ?_), (f1.ex.trans f2.ex).trans f3.ex⟩
    · unfold NoBx at nb' ⊢
      rw [List.getElem?_set_ne hij]; exact nb'
    · unfold NoBx at nb2 ⊢
      rw [List.getElem?_set_ne hjl, List.getElem?_set_ne hil]; exact nb2
/-- (x, y, ..) = e -/
theorem hs_unpack {g : TG} {x : α} {is : List Nat} (h : TD te Γ k c (· = x)) (hg : GD g c x Γ Γ1 is) (hp : p.N Γ1) : HS (tAsg te g) Γ k p := fun O n σ Hf H hn S D q1 _ _ _ =>
  h O n σ Hf H hn S _ fun v Hf' H' y py r f s => by
    subst py
    exact hg.2.2 O (n + k) σ Hf' H' v r s _ fun σ' S' _ => q1 σ' Hf' H' Γ1 hp ⟨S', hg.1, f.ex⟩
end
section
variable {S : Stc} {Γ Γ1 : Ctxt} {k k1 k2 k3 kr : Nat} {α ρ : Type} {c : Cod α} {p : Po ρ} {R1 R2 R3 : Sl → Prop} {a b d e : Expr} {pos px py pz pt pt2 : Pos} {x y z : Str} {kt kt2 : Nat} {rest : List Stmt} {s1 s2 s3 : Sl}
/-- x, y = a, b with plain local names; each value is known -/
theorem bpar (i j : Nat) (ha : TX (tE S a) Γ k1 (· = s1)) (hb : TX (tE S b) Γ k2 (· = s2)) (nb : NoBx Γ i) (nb' : NoBx Γ j) (hij : i ≠ j) (u1 : s1 ≠ .un) (u2 : s2 ≠ .un) (hi : S.N[i]? = some x) (hj : S.N[j]? = some y)
    (hx : S.sc.names.lookup x = some .local) (hy : S.sc.names.lookup y = some .local) (hs : ∀ env : Env, starEach [a, b] env = (false, eval a env) :: starEach [b] env) (hs2 : ∀ env : Env, starEach [b] env = (false, eval b env) :: starEach [] env)
    (hw : ∀ env : Env, env.scope = S.sc → swappedStores [.Tuple [.Name x px, .Name y py] kt pt] (.Tuple [a, b] kt2 pt2) env = pure (some [x, y]))
    (hsw : ∀ env : Env, env.scope = S.sc → swapsWithSole [.Tuple [.Name x px, .Name y py] kt pt] (.Tuple [a, b] kt2 pt2) pos.line env = pure false)
    (hr : PHs S ((Γ.set i s1).set j s2) kr rest p) : PHs S Γ (k1 + k2 + kr) (.Assign [.Tuple [.Name x px, .Name y py] kt pt] (.Tuple [a, b] kt2 pt2) pos :: rest) p :=
  phs_cons (N1 := fun G => G = (Γ.set i s1).set j s2) (ph_of (fun X G => ps_par G.calm (by rw [G.N]; exact G.nd) (by rw [G.N]; exact hi) (by rw [G.N]; exact hj) hij (by rw [G.sc]; exact hx) (by rw [G.sc]; exact hy) (pa_cons (tE_ok G) (pa_cons (tE_ok G) pa_nil (hs2 _)) (hs _)) (hw _ G.sc) (hsw _ G.sc))
    (hs_par ha hb nb nb' hij (fun s e => e ▸ u1) (fun s e => e ▸ u2) fun t1 t2 e1 e2 => by subst e1 e2; rfl)) fun Γ1 e => by subst e; exact hr
theorem bpar3 (i j l : Nat) (ha : TX (tE S a) Γ k1 (· = s1)) (hb : TX (tE S b) Γ k2 (· = s2)) (hd : TX (tE S d) Γ k3 (· = s3)) (nb : NoBx Γ i) (nb' : NoBx Γ j) (nb2 : NoBx Γ l) (hij : i ≠ j) (hil : i ≠ l) (hjl : j ≠ l) (u1 : s1 ≠ .un) (u2 : s2 ≠ .un) (u3 : s3 ≠ .un) (hi : S.N[i]? = some x) (hj : S.N[j]? = some y) (hl : S.N[l]? = some z)
    (hx : S.sc.names.lookup x = some .local) (hy : S.sc.names.lookup y = some .local) (hz : S.sc.names.lookup z = some .local) (hs : ∀ env : Env, starEach [a, b, d] env = (false, eval a env) :: starEach [b, d] env) (hs2 : ∀ env : Env, starEach [b, d] env = (false, eval b env) :: starEach [d] env) (hs3 : ∀ env : Env, starEach [d] env = (false, eval d env) :: starEach [] env)
    (hw : ∀ env : Env, env.scope = S.sc → swappedStores [.Tuple [.Name x px, .Name y py, .Name z pz] kt pt] (.Tuple [a, b, d] kt2 pt2) env = pure (some [x, y, z]))
    (hsw : ∀ env : Env, env.scope = S.sc → swapsWithSole [.Tuple [.Name x px, .Name y py, .Name z pz] kt pt] (.Tuple [a, b, d] kt2 pt2) pos.line env = pure false)
    (hr : PHs S (((Γ.set i s1).set j s2).set l s3) kr rest p) : PHs S Γ (k1 + k2 + k3 + kr) (.Assign [.Tuple [.Name x px, .Name y py, .Name z pz] kt pt] (.Tuple [a, b, d] kt2 pt2) pos :: rest) p :=
  phs_cons (N1 := fun G => G = ((Γ.set i s1).set j s2).set l s3) (ph_of (fun X G => ps_par3 G.calm (by rw [G.N]; exact G.nd) (by rw [G.N]; exact hi) (by rw [G.N]; exact hj) (by rw [G.N]; exact hl) hij hil hjl (by rw [G.sc]; exact hx) (by rw [G.sc]; exact hy) (by rw [G.sc]; exact hz) (pa_cons (tE_ok G) (pa_cons (tE_ok G) (pa_cons (tE_ok G) pa_nil (hs3 _)) (hs2 _)) (hs _)) (hw _ G.sc) (hsw _ G.sc))
    (hs_par3 ha hb hd nb nb' nb2 hij hil hjl (fun s e => e ▸ u1) (fun s e => e ▸ u2) (fun s e => e ▸ u3) fun t1 t2 t3 e1 e2 e3 => by subst e1 e2 e3; rfl)) fun Γ1 e => by subst e; exact hr
/-- (x, y, z) = e -/
theorem bunpack {tg : Expr} {x : α} {is : List Nat} (h : PD S Γ k e c (· = x)) (hg : PDG S tg c x Γ Γ1 is) (hs : ∀ env : Env, swapsWithSole [tg] e pos.line env = pure false) (hw : ∀ env : Env, swappedStores [tg] e env = pure none) (h1 : ∀ env : Env, (assignEach [tg] env).map (·.2) = [assign tg env])
    (hr : PHs S Γ1 kr rest p) : PHs S Γ (k + kr) (.Assign [tg] e pos :: rest) p :=
  phs_cons (N1 := fun G => G = Γ1) (ph_of (fun X G => ps_asg (tE_ok G) (tGt_ok G) (hs _) (hw _) (h1 _)) (hs_unpack h hg rfl)) fun Γ1 e => by subst e; exact hr
end
end DL

set_option Elab.async false
set_option linter.all false
set_option maxRecDepth 100000
set_option maxHeartbeats 4000000
namespace DL
open PySem PySem.Spec L2
section
variable {Γ Γ1 : Ctxt} {k k1 k2 k3 : Nat} {α β γ ρ : Type} {c : Cod α} {P : α → Prop} {te to ti : TE} {p : Po ρ}
variable {O : Org} {Hf H H0 Hf' H' : Hp} {σ : Stt} {n m : Nat} {s : Sl} {v : V}
/-- x = y.pop(e) -/
theorem hs_setPop {K : PySem.W.Frag} {i j : Nat} {xs : List α} {Pi : Int → Prop} (hij : i ≠ j) (h' : Γ[j]? = some (.l c xs)) (nb : NoBx Γ i) (nb' : NoBx Γ j) (hi : TD ti Γ k cInt Pi) (lb' : xs.length ≤ LB)
    (hp : ∀ z, Pi z → ∃ (l : Nat) (y : α), z = (l : Int) ∧ xs[l]? = some y ∧ p.N ((Γ.set j (.l c (xs.eraseIdx l))).set i (.d c y))) :
    HS (tAsg (tBM K "list" rPopAt (tVar j) (tCons ti tNil)) (gName i)) Γ k p := fun O n σ Hf H hn S D q1 _ _ _ => by
  obtain ⟨b, us, e1, e2, e3, e4, e5⟩ := S.at_ j _ h'
  refine ⟨.ref b, e1, .inl ⟨rfl, us, SqL.of e2⟩, ?_⟩
  refine hi O n σ Hf H hn S _ fun v Hf' H' z pz rz f s => ?_
  obtain ⟨l, y, rfl, hl, pn⟩ := hp z pz
  obtain rfl : v = .int (l : Int) := rz
  have hll : l < xs.length := (List.getElem?_eq_some_iff.mp hl).1
  obtain ⟨b', us', w1, w2, w3, w4, w5⟩ := s.at_ j _ h'
  rw [e1] at w1
  injection w1 with w1; injection w1 with w1; injection w1 with w1
  subst w1
  have hul := paired_len w4
  have hu : us'[l]? = some (us'[l]'(by omega)) := List.getElem?_eq_getElem (by omega)
  unfold LB at lb'
  refine ⟨b, us', (l : Int), l, us'[l]'(by omega), rfl, rfl, w2, by omega, by omega, ixN_seqI (by omega), hu, ?_⟩
  have s2 := s.wr h' e1 (paired_erase l w4) (by rw [List.length_eraseIdx]; split <;> omega)
  have nb2 : NoBx (Γ.set j (.l c (xs.eraseIdx l))) i := by
    unfold NoBx at nb ⊢
    rw [List.getElem?_set_ne (Ne.symm hij)]; exact nb
  exact q1 _ Hf' _ _ pn ⟨s2.set (paired_get w4 hu hl), (bxKeep_set nb').trans (bxKeep_set nb2), f.ex⟩
end
section
variable {S : Stc} {Γ Γ1 : Ctxt} {k k1 k2 k3 kr : Nat} {α ρ : Type} {c : Cod α} {P : α → Prop} {p : Po ρ} {a b d e : Expr} {pos pos' pos2 px py pz pt : Pos} {nm nm2 : Str} {rest : List Stmt} {p1 p2 p3 p4 : Pos}
/-- x[e] = v -/
theorem bsetItem (i : Nat) {xs : List α} {y : α} {z : Int} (hΓ : Γ[i]? = some (.l c xs)) (he : PD S Γ 0 e c (· = y)) (hi : PD S Γ 0 a cInt (· = z)) (j : Nat) (hj : ixN xs.length z = some j) (hN : S.N[i]? = some nm) (hv : Vis S.sc nm)
    (ha : ∀ (env : Env) v, assign (.Subscript (.Name nm pos') a pos2) env v = (do
      let ov ← holding [v] (eval (.Name nm pos') env)
      let iv ← holding [v, ov] (eval a env)
      standAt pos2
      holding [v, ov, iv] (setItem ov iv v)
      release [v, ov, iv] []))
    (hs : ∀ env : Env, swapsWithSole [.Subscript (.Name nm pos') a pos2] e pos.line env = pure false) (hw : ∀ env : Env, swappedStores [.Subscript (.Name nm pos') a pos2] e env = pure none) (h1 : ∀ env : Env, (assignEach [.Subscript (.Name nm pos') a pos2] env).map (·.2) = [assign (.Subscript (.Name nm pos') a pos2) env])
    (hr : PHs S (Γ.set i (.l c (xs.set j y))) kr rest p) (hd : (nm == ("__debug__" : Str)) = false := by decide) (hcd : (nm == ("__classdict__" : Str)) = false := by decide) :
    PHs S Γ (0 + kr) (.Assign [.Subscript (.Name nm pos') a pos2] e pos :: rest) p :=
  phs_cons (N1 := fun G => G = Γ.set i (.l c (xs.set j y))) (ph_of (fun X G => ps_asg (tE_ok G) (pg_sub (pe_slot G hN hv hd hcd) (tE_ok G) set_list (ha _)) (hs _) (hw _) (h1 _))
    (hs_setItem (k1 := 0) (k2 := 0) hΓ (by unfold NoBx; rw [hΓ]; trivial) he hi fun y' z' e1 e2 => by subst e1 e2; exact ⟨j, hj, rfl⟩)) fun Γ1 e => by subst e; exact hr
/-- what must be seen of o.m(e) -/
abbrev FewOk (p2 : Pos) (e : Expr) : Prop := ∀ env : Env, ((backTo p2 (starEach [e] env)).all (fun x => !x.1) && (backToKw p2 (keywordEach [] env)).all (fun x => x.1.isSome) && decide ([e].length + ([] : List Keyword).length + (if ([] : List Keyword).isEmpty then 0 else 1) < 30)) = true
/-- y.append(x.pop(e)) -/
theorem bappendPop (i j : Nat) {xs ys : List α} {Pi : Int → Prop} (hij : i ≠ j) (h : Γ[i]? = some (.l c ys)) (h' : Γ[j]? = some (.l c xs)) (hi : PD S Γ k e cInt Pi) (lb : ys.length + 1 ≤ LB) (lb' : xs.length ≤ LB) (hN : S.N[i]? = some nm) (hN2 : S.N[j]? = some nm2) (hv : Vis S.sc nm) (hv2 : Vis S.sc nm2)
    (hfew : FewOk p2 (.Call (.Attribute (.Name nm2 pos2) "pop" p3) [e] [] p4)) (hfew2 : FewOk p4 e) (hline : (p1.endLine == p2.line) = true) (hline2 : (p3.endLine == p4.line) = true) (hs : ∀ env : Env, starEach [e] env = (false, eval e env) :: starEach [] env)
    (hs2 : ∀ env : Env, starEach [.Call (.Attribute (.Name nm2 pos2) "pop" p3) [e] [] p4] env = (false, eval (.Call (.Attribute (.Name nm2 pos2) "pop" p3) [e] [] p4) env) :: starEach [] env)
    (hsw : ∀ env : Env, swapsWith (.Call (.Attribute (.Name nm pos') "append" p1) [.Call (.Attribute (.Name nm2 pos2) "pop" p3) [e] [] p4] [] p2) none pos.line env = pure false)
    (hr : ∀ z, Pi z → ∃ (l : Nat) (y : α), z = (l : Int) ∧ xs[l]? = some y ∧ PHs S ((Γ.set j (.l c (xs.eraseIdx l))).set i (.l c (ys ++ [y]))) kr rest p)
    (hd : (nm == ("__debug__" : Str)) = false := by decide) (hcd : (nm == ("__classdict__" : Str)) = false := by decide) (hd2 : (nm2 == ("__debug__" : Str)) = false := by decide) (hcd2 : (nm2 == ("__classdict__" : Str)) = false := by decide) :
    PHs S Γ (k + kr) (.Expr (.Call (.Attribute (.Name nm pos') "append" p1) [.Call (.Attribute (.Name nm2 pos2) "pop" p3) [e] [] p4] [] p2) pos :: rest) p :=
  phs_cons (N1 := fun G => PHs S G kr rest p) (ph_of (ts := tDrop (tBM S.K "list" rAppend (tVar i) (tCons (tBM S.K "list" rPopAt (tVar j) (tCons (tE S e) tNil)) tNil))) (fun X G => by
    rw [← G.K]
    exact ps_expr (pe_bm PySem.F.plainAttrs_list PySem.F.slot_list_append PySem.F.type_list_append mt_append (pe_slot G hN hv hd hcd) (pa_cons (pe_bm PySem.F.plainAttrs_list PySem.F.slot_list_pop PySem.F.type_list_pop mt_popAt (pe_slot G hN2 hv2 hd2 hcd2) (pa_cons (tE_ok G) pa_nil (hs _)) rfl (hfew2 _) hline2 (hs _) rfl) pa_nil (hs2 _)) rfl (hfew _) hline (hs2 _) rfl) (hsw _))
    (hs_appendPop hij h h' (by unfold NoBx; rw [h]; trivial) (by unfold NoBx; rw [h']; trivial) hi lb lb' fun z hz => hr z hz)) fun Γ1 e => e
/-- x = y.pop(e) -/
theorem bsetPop (i j : Nat) {xs : List α} {Pi : Int → Prop} (hij : i ≠ j) (h' : Γ[j]? = some (.l c xs)) (nb : NoBx Γ i) (hi : PD S Γ k e cInt Pi) (lb' : xs.length ≤ LB) (hN : S.N[i]? = some nm) (hN2 : S.N[j]? = some nm2) (hx : Loc S.sc nm) (hv2 : Vis S.sc nm2)
    (hfew2 : FewOk p4 e) (hline2 : (p3.endLine == p4.line) = true) (hs : ∀ env : Env, starEach [e] env = (false, eval e env) :: starEach [] env)
    (hsw : ∀ env : Env, env.scope = S.sc → swapsWith (.Call (.Attribute (.Name nm2 pos2) "pop" p3) [e] [] p4) (some (.Name nm pos')) pos.line env = pure false) (hf : S.fn nm = true ∨ S.sc.names.lookup nm = some .local)
    (hr : ∀ z, Pi z → ∃ (l : Nat) (y : α), z = (l : Int) ∧ xs[l]? = some y ∧ PHs S ((Γ.set j (.l c (xs.eraseIdx l))).set i (.d c y)) kr rest p)
    (hd2 : (nm2 == ("__debug__" : Str)) = false := by decide) (hcd2 : (nm2 == ("__classdict__" : Str)) = false := by decide) :
    PHs S Γ (k + kr) (.Assign [.Name nm pos'] (.Call (.Attribute (.Name nm2 pos2) "pop" p3) [e] [] p4) pos :: rest) p :=
  phs_cons (N1 := fun G => PHs S G kr rest p) (ph_of (ts := tAsg (tBM S.K "list" rPopAt (tVar j) (tCons (tE S e) tNil)) (gName i)) (fun X G => by
    rw [← G.K]
    exact ps_set (by rw [G.N]; exact G.nd) (by rw [G.N]; exact hN) (loc G hx) (pe_bm PySem.F.plainAttrs_list PySem.F.slot_list_pop PySem.F.type_list_pop mt_popAt (pe_slot G hN2 hv2 hd2 hcd2) (pa_cons (tE_ok G) pa_nil (hs _)) rfl (hfew2 _) hline2 (hs _) rfl) (hsw _ G.sc) (fnOr G hf))
    (hs_setPop hij h' nb (by unfold NoBx; rw [h']; trivial) hi lb' fun z hz => hr z hz)) fun Γ1 e => e
variable {α' β' γ' : Type} {ca : Cod α'} {cb : Cod β'} {cg : Cod γ'} {K : PySem.W.Frag} {pn : Pos}
theorem rc_len3 {x : α' × β' × γ'} : RC1 (rLenR K) (cT3 ca cb cg) x cInt (· = 3) := fun Hf H v e ⟨a, w1, w2, w3, h1, h2, _⟩ Q q => ⟨a, [w1, w2, w3], by rw [h1], .inr (SqT.of (e _ _ h2)), q 3 Hf H _ rfl rfl Fr.refl e⟩
theorem rc_len2 {x : α' × β'} : RC1 (rLenR K) (cT2 ca cb) x cInt (· = 2) := fun Hf H v e ⟨a, w1, w2, h1, h2, _⟩ Q q => ⟨a, [w1, w2], by rw [h1], .inr (SqT.of (e _ _ h2)), q 2 Hf H _ rfl rfl Fr.refl e⟩
theorem plen3 {x : α' × β' × γ'} (hg : S.sc.names.lookup ("len" : Str) = some .globalImplicit) (hm : S.mg "len" = none) (h : PD S Γ 0 e (cT3 ca cb cg) (· = x)) (he : ∀ env : Env, starEach [e] env = (false, eval e env) :: starEach [] env) : PD S Γ 0 (.Call (.Name "len" pn) [e] [] pos) cInt (· = 3) := pb1 lenG hg hm PySem.boot_len h rc_len3 he
theorem plen2 {x : α' × β'} (hg : S.sc.names.lookup ("len" : Str) = some .globalImplicit) (hm : S.mg "len" = none) (h : PD S Γ 0 e (cT2 ca cb) (· = x)) (he : ∀ env : Env, starEach [e] env = (false, eval e env) :: starEach [] env) : PD S Γ 0 (.Call (.Name "len" pn) [e] [] pos) cInt (· = 2) := pb1 lenG hg hm PySem.boot_len h rc_len2 he
/-! ### calls by arity -/
variable {cr : Cod ρ} {x1 : Str} {pn1 : List Str} {lv : Nat} {e1 e2 e3 : Expr}
theorem pcal1 {pre : α' → Prop} {g : α' → ρ} {x : α'} (F : Cal S.prog S.w S.K S.mg S.base x1 pn1 lv (spP (fun (a : α') => [.d ca a]) pre cr g)) (hl : lv ≤ S.lv) (hg : S.sc.names.lookup x1 = some .globalImplicit) (h1 : PD S Γ 0 e1 ca (· = x)) (hp : pre x)
    (he : ∀ env : Env, starEach [e1] env = (false, eval e1 env) :: starEach [] env) (hpl : ∀ env : Env, (backTo pos (starEach [] env)).any (·.1) = false) (hdb : (x1 == ("__debug__" : Str)) = false := by decide) : PD S Γ 0 (.Call (.Name x1 pn) [e1] [] pos) cr (· = g x) :=
  pcal F hl hg (pda_one h1 he) x 0 rfl hp he hpl hdb
theorem pcal2 {pre : α' × β' → Prop} {g : α' × β' → ρ} {x : α'} {y : β'} (F : Cal S.prog S.w S.K S.mg S.base x1 pn1 lv (spP (fun (a : α' × β') => [.d ca a.1, .d cb a.2]) pre cr g)) (hl : lv ≤ S.lv) (hg : S.sc.names.lookup x1 = some .globalImplicit) (h1 : PD S Γ 0 e1 ca (· = x)) (h2 : PD S Γ 0 e2 cb (· = y)) (hp : pre (x, y))
    (he : ∀ env : Env, starEach [e1, e2] env = (false, eval e1 env) :: starEach [e2] env) (he2 : ∀ env : Env, starEach [e2] env = (false, eval e2 env) :: starEach [] env) (hpl : ∀ env : Env, (backTo pos (starEach [e2] env)).any (·.1) = false) (hdb : (x1 == ("__debug__" : Str)) = false := by decide) : PD S Γ 0 (.Call (.Name x1 pn) [e1, e2] [] pos) cr (· = g (x, y)) :=
  pcal F hl hg (pda_more (k1 := 0) (k2 := 0) h1 (pda_one h2 he2) he) (x, y) 0 rfl hp he hpl hdb
theorem pcal3 {pre : α' × β' × γ' → Prop} {g : α' × β' × γ' → ρ} {x : α'} {y : β'} {z : γ'} (F : Cal S.prog S.w S.K S.mg S.base x1 pn1 lv (spP (fun (a : α' × β' × γ') => [.d ca a.1, .d cb a.2.1, .d cg a.2.2]) pre cr g)) (hl : lv ≤ S.lv) (hg : S.sc.names.lookup x1 = some .globalImplicit) (h1 : PD S Γ 0 e1 ca (· = x)) (h2 : PD S Γ 0 e2 cb (· = y)) (h3 : PD S Γ 0 e3 cg (· = z)) (hp : pre (x, y, z))
    (he : ∀ env : Env, starEach [e1, e2, e3] env = (false, eval e1 env) :: starEach [e2, e3] env) (he2 : ∀ env : Env, starEach [e2, e3] env = (false, eval e2 env) :: starEach [e3] env) (he3 : ∀ env : Env, starEach [e3] env = (false, eval e3 env) :: starEach [] env) (hpl : ∀ env : Env, (backTo pos (starEach [e2, e3] env)).any (·.1) = false) (hdb : (x1 == ("__debug__" : Str)) = false := by decide) :
    PD S Γ 0 (.Call (.Name x1 pn) [e1, e2, e3] [] pos) cr (· = g (x, y, z)) :=
  pcal F hl hg (pda_more (k1 := 0) (k2 := 0) h1 (pda_more (k1 := 0) (k2 := 0) h2 (pda_one h3 he3) he2) he) (x, y, z) 0 rfl hp he hpl hdb
end
end DL

set_option Elab.async false
set_option linter.all false
set_option maxRecDepth 100000
set_option maxHeartbeats 4000000
namespace DL
open PySem PySem.Spec L2
theorem ixN_at {n : Nat} {i : Int} (h : 0 ≤ i ∧ i < (n : Int)) : ixN n i = some i.toNat := by
  unfold ixN; rw [if_pos h.1, if_pos h.2]
theorem atI_at {α : Type} [Inhabited α] {xs : List α} {i : Int} (h : 0 ≤ i ∧ i < (xs.length : Int)) : atI xs i = some (xs.getD i.toNat default) := by
  unfold atI
  rw [ixN_at h]
  have hj : i.toNat < xs.length := by omega
  show xs[i.toNat]? = _
  rw [List.getD_eq_getElem?_getD, List.getElem?_eq_getElem hj]; rfl
section
variable {K : PySem.W.Frag} {α : Type} [Inhabited α] {c : Cod α} {xs : List α} {i : Int}
theorem rd_ixLd (h : 0 ≤ i ∧ i < (xs.length : Int)) : RD (rIxL K) (cList c) xs cInt i c (· = xs.getD i.toNat default) := rd_ixL ⟨_, atI_at h, rfl⟩
theorem rd_ixTd (h : 0 ≤ i ∧ i < (xs.length : Int)) : RD (rIxT K) (cTup c) xs cInt i c (· = xs.getD i.toNat default) := rd_ixT ⟨_, atI_at h, rfl⟩
end
section
variable {Γ : Ctxt} {α : Type} {c : Cod α} {te to : TE} {kvs : List (Int × α)} {i : Int}
theorem td_notinD (he : TD te Γ 0 cInt (· = i)) (ho : TD to Γ 0 (cDic c) (· = kvs)) : TD (tDNotIn te to) Γ 0 cBool (· = !(valD kvs i).isSome) := fun O n σ Hf H hn s Q q => he O n σ Hf H hn s _ fun v Hf1 H1 j p1 r1 f1 s1 => ho O n σ Hf1 H1 hn s1 _ fun v2 Hf2 H2 k2 p2 ⟨a, ks, h1, h2, h3, h4⟩ f2 s2 => by
    subst p1 p2
    obtain rfl := r1
    refine ⟨a, valV ks (Sum.inl j : Key), h1, DGet.k (k := Sum.inl j) (s2.ex _ _ h2), q _ Hf2 H2 _ ?_ rfl (f1.trans f2 fun _ z => .inl z) s2⟩
    rcases pdc_val h3 j with ⟨z1, z2⟩ | ⟨w, y, z1, z2, z3⟩
    · rw [z1, z2]; rfl
    · rw [z1, z2]; rfl
theorem td_inD (he : TD te Γ 0 cInt (· = i)) (ho : TD to Γ 0 (cDic c) (· = kvs)) : TD (tDIn te to) Γ 0 cBool (· = (valD kvs i).isSome) := fun O n σ Hf H hn s Q q => he O n σ Hf H hn s _ fun v Hf1 H1 j p1 r1 f1 s1 => ho O n σ Hf1 H1 hn s1 _ fun v2 Hf2 H2 k2 p2 ⟨a, ks, h1, h2, h3, h4⟩ f2 s2 => by
    subst p1 p2
    obtain rfl := r1
    refine ⟨a, valV ks (Sum.inl j : Key), h1, DGet.k (k := Sum.inl j) (s2.ex _ _ h2), q _ Hf2 H2 _ ?_ rfl (f1.trans f2 fun _ z => .inl z) s2⟩
    rcases pdc_val h3 j with ⟨z1, z2⟩ | ⟨w, y, z1, z2, z3⟩
    · rw [z1, z2]; rfl
    · rw [z1, z2]; rfl
variable {S : Stc} {e o : Expr} {pos : Pos}
theorem ttnotinD (he : PD S Γ 0 e cInt (· = i)) (ho : PD S Γ 0 o (cDic c) (· = kvs)) (hm : behindInMarks .NotIn o = false) : PDT S Γ 0 (.Compare e [.NotIn] [o] pos) (· = !(valD kvs i).isSome) :=
  pdt_of (fun X G => pt_cmp (pc_dnotin (by have := G.room.un; omega) (tE_ok G) (tE_ok G)) hm) (tt_B (td_notinD he ho))
theorem ttinD (he : PD S Γ 0 e cInt (· = i)) (ho : PD S Γ 0 o (cDic c) (· = kvs)) (hm : behindInMarks .In o = false) : PDT S Γ 0 (.Compare e [.In] [o] pos) (· = (valD kvs i).isSome) :=
  pdt_of (fun X G => pt_cmp (pc_din (by have := G.room.un; omega) (tE_ok G) (tE_ok G)) hm) (tt_B (td_inD he ho))
end
section
variable {S : Stc} {Γ Γ1 : Ctxt} {k k1 k2 k3 kr : Nat} {ρ : Type} {p : Po ρ} {e : Expr} {pos : Pos} {sts sts2 rest : List Stmt}
/-- if e: ..; rest — where both ways lead to one context -/
theorem bifS {b' : Bool → Prop} {N1 : Ctxt → Prop} (h : PDT S Γ k1 e b') (ha : b' true → PHs S Γ k2 sts { p with N := N1 }) (hb : b' false → PHs S Γ k3 sts2 { p with N := N1 }) (hr : ∀ Γ1, N1 Γ1 → PHs S Γ1 kr rest p) : PHs S Γ (k1 + max k2 k3 + kr) (.If e sts sts2 pos :: rest) p :=
  phs_cons (N1 := N1) (ph_if h ha hb) hr
end
end DL

set_option Elab.async false
set_option linter.all false
set_option maxRecDepth 100000
set_option maxHeartbeats 4000000
namespace DL
open PySem PySem.Spec L2
theorem rgV_paired {H : Hp} (a b : Int) : Paired (cInt.rep H) (rgV a b) (rangeL a (b - a).toNat) := by
  have : rgV a b = (rangeL a (b - a).toNat).map V.int := by unfold rgV rangeL; rw [List.map_map]; rfl
  rw [this]; exact paired_ints _
section
variable {S : Stc} {Γ : Ctxt} {k : Nat} {a b : Expr} {i j : Int} {pos pos' pn pn' : Pos}
theorem plrg1 (hg : S.sc.names.lookup ("list" : Str) = some .globalImplicit) (hm : S.mg "list" = none) (hg2 : S.sc.names.lookup ("range" : Str) = some .globalImplicit) (hm2 : S.mg "range" = none) (h : PD S Γ 0 a cInt (· = j)) (hj : j ≤ 1000000 ∧ 0 ≤ j)
    (hs : ∀ env : Env, starEach [a] env = (false, eval a env) :: starEach [] env) (hs2 : ∀ env : Env, starEach [.Call (.Name "range" pn) [a] [] pos] env = (false, eval (.Call (.Name "range" pn) [a] [] pos) env) :: starEach [] env) :
    PDF S Γ 0 (.Call (.Name "list" pn') [.Call (.Name "range" pn) [a] [] pos] [] pos') cInt (· = rangeL 0 j.toNat) :=
  pdf_of (te := tLstRg (tRg1 (tE S a))) (fun X G => pe_listRg G.calm (glb G hg) (by rw [G.mg]; exact hm) (prg_1 (glb G hg2) (by rw [G.mg]; exact hm2) (tE_ok G) (hs _)) (hs2 _)) fun O n σ Hf H hn s Q q => h O n σ Hf H hn s _ fun v Hf' H' y py r f s' => by
    subst py
    obtain rfl := r
    refine ⟨y, rfl, RgOk.of_le (by omega) (by omega) (by omega) (by omega), fun p hp => ?_⟩
    have pr : Paired (cInt.rep Hf') (rgV 0 y) (rangeL 0 y.toNat) := by have := rgV_paired (H := Hf') 0 y; rwa [Int.sub_zero] at this
    exact q p (rgV 0 y) Hf' (upd H' p (.lst (rgV 0 y))) _ rfl upd_same (s'.ex.back hp) (f.dom p hp) pr (by rw [rgV_length]; unfold LB; omega) (f.trans (Fr.newO (M := Bx Γ) hp) fun _ z => .inl z) (s'.grow0 (Fr.newO hp) (s'.ex.trans (Ex.new hp)))
theorem plrg2 (hg : S.sc.names.lookup ("list" : Str) = some .globalImplicit) (hm : S.mg "list" = none) (hg2 : S.sc.names.lookup ("range" : Str) = some .globalImplicit) (hm2 : S.mg "range" = none) (h : PD S Γ 0 a cInt (· = i)) (h' : PD S Γ 0 b cInt (· = j)) (hj : -1000000 ≤ i ∧ i ≤ 1000000 ∧ -1000000 ≤ j ∧ j ≤ 1000000 ∧ j - i ≤ 1000000)
    (hs : ∀ env : Env, starEach [a, b] env = (false, eval a env) :: starEach [b] env) (hs1 : ∀ env : Env, starEach [b] env = (false, eval b env) :: starEach [] env) (hs3 : ∀ env : Env, (backTo pos (starEach [b] env)).any (·.1) = false) (hs2 : ∀ env : Env, starEach [.Call (.Name "range" pn) [a, b] [] pos] env = (false, eval (.Call (.Name "range" pn) [a, b] [] pos) env) :: starEach [] env) :
    PDF S Γ 0 (.Call (.Name "list" pn') [.Call (.Name "range" pn) [a, b] [] pos] [] pos') cInt (· = rangeL i (j - i).toNat) :=
  pdf_of (te := tLstRg (tRg2 (tE S a) (tE S b))) (fun X G => pe_listRg G.calm (glb G hg) (by rw [G.mg]; exact hm) (prg_2 (glb G hg2) (by rw [G.mg]; exact hm2) (tE_ok G) (tE_ok G) (hs _) (hs1 _) (hs3 _)) (hs2 _)) fun O n σ Hf H hn s Q q => h O n σ Hf H hn s _ fun v Hf1 H1 y py r f1 s1 => h' O n σ Hf1 H1 hn s1 _ fun v2 Hf' H' z pz r2 f2 s' => by
    subst py pz
    obtain rfl := r
    obtain rfl := r2
    have f := f1.trans f2 fun _ z => .inl z
    refine ⟨y, z, rfl, rfl, ⟨by omega, by omega, by omega, by omega, by omega⟩, fun p hp => ?_⟩
    exact q p (rgV y z) Hf' (upd H' p (.lst (rgV y z))) _ rfl upd_same (s'.ex.back hp) (f.dom p hp) (rgV_paired y z) (by rw [rgV_length]; unfold LB; omega) (f.trans (Fr.newO (M := Bx Γ) hp) fun _ z => .inl z) (s'.grow0 (Fr.newO hp) (s'.ex.trans (Ex.new hp)))
end
end DL

set_option Elab.async false
set_option linter.all false
set_option maxRecDepth 100000
set_option maxHeartbeats 4000000
namespace DL
open PySem PySem.Spec L2
/-! ### own classes -/
structure Kls (K : PySem.W.Frag) (mg : Str → Option Value) (x : Str) (C : Addr) : Prop where
  cl : Cls K C
  own : OwnC K C
  mgC : mg x = some (.ref C)
  isC : PySem.W.kitOne K (.ref C) (.ref C) = some true
structure MDef (K : PySem.W.Frag) (C : Addr) (m qual : Str) (st : Stmt) : Prop where
  ex : ∃ f fd, Fun K m qual st f fd ∧ Meth K C m f
structure MCal (P : Program) (w : World) (K : PySem.W.Frag) (mg : Str → Option Value) (base : Heap) (C : Addr) (m : Str) (pn : List Str) (lv : Nat) (sp : Sp) : Prop where
  ex : ∃ f fd, FnOk P w K mg base CX0 lv f fd pn sp ∧ Meth K C m f ∧ Binds K fd pn []
/-- __init__ -/
structure ICal (P : Program) (w : World) (K : PySem.W.Frag) (mg : Str → Option Value) (base : Heap) (C : Addr) (pn : List Str) (lv : Nat) (sp : Sp) : Prop where
  ex : ∃ f fd, FnOk P w K mg base CX0 lv f fd pn sp ∧ Mk K C f ∧ Binds K fd pn []
abbrev BindsM (st : Stmt) (m qual : Str) (pn : List Str) : Prop := ∀ (kV doc pm : Value) (an : Option Addr) (cdv ct : Value) (us : List Value), us.length = pn.length → bindArgs (PySem.W.fnOf m qual (defArgs st) (defBody st) (defScope st) .none kV doc pm an cdv ct) ⟨us, []⟩ = pure (pn.zip us)
section
variable {P : Program} {w : World} {K : PySem.W.Frag} {mg : Str → Option Value} {base : Heap} {m qual : Str} {st : Stmt} {N pn : List Str} {lv : Nat} {C : Addr}
variable {A ρ : Type} {ps : Addr → A → Ctxt} {kf : A → Nat} {pre : A → Prop} {cr : Cod ρ} {PR : A → ρ → Prop}
theorem mcal_D (D : MDef K C m qual st) (hb : BindsM st m qual pn) (Sc : FnScope N pn (defScope st))
    (hl : ∀ b a, (ps b a).length = pn.length) (hN : pn.length ≤ N.length) (one : ∀ b a, OneB (ps b a))
    (body : ∀ b a, pre a → PHs ⟨N, defScope st, K, mg, P, w, base, lv, fun _ => true, false⟩ (entry N (ps b a)) (kf a) (defBody st) { N := fun _ => False, bk := fun _ => False, ct := fun _ => False, c := cr, R := PR a }) :
    MCal P w K mg base C m pn (lv + 1) (spD ps kf pre cr PR) := by
  obtain ⟨f, fd, F, hm⟩ := D.ex
  exact ⟨f, fd, fn_D F Sc hl hN one body, hm, F.binds hb⟩
theorem mcal_of {sp : Sp} (D : MDef K C m qual st) (hb : BindsM st m qual pn) (h : ∀ f fd, Fun K m qual st f fd → FnOk P w K mg base CX0 lv f fd pn sp) : MCal P w K mg base C m pn lv sp := by
  obtain ⟨f, fd, F, hm⟩ := D.ex
  exact ⟨f, fd, h f fd F, hm, F.binds hb⟩
end
section
variable {S : Stc} {Γ : Ctxt} {k k1 k2 : Nat} {A ρ α β ω : Type} {cr : Cod ρ} {c ca : Cod α} {cb : Cod β} {e e1 o : Expr} {es : List Expr} {pos pn apos : Pos} {C : Addr} {F : Hp → List (Str × V) → ω → Prop} {hm : ∀ {H H' fs y}, Ex H H' → F H fs y → F H' fs y} {x m : Str} {pn' : List Str} {lv : Nat}
/-- o.f -/
theorem pfld {f : Str} {y : ω → α} {z : ω} (h : PD S Γ k e (cIns C F hm) (· = z)) (hC : Cls S.K C) (hN : NoAttr S.K C f) (hf : ∀ H fs y0, F H fs y0 → ∃ v, fs.lookup f = some v ∧ c.rep H v (y y0)) (hb : ∀ env : Env, attributeBase e f env (eval e env) = eval e env) : PD S Γ k (.Attribute e f pos) c (· = y z) :=
  (pd_of (te := tFld S.K (tE S e) f) (fun X G => by rw [← G.K]; exact pe_fld (tE_ok G) (hb _)) (td_fld h hC hN hf)).imp fun x ⟨z', h1, h2⟩ => by subst h1; exact h2
/-- how the text of a method call without arguments, with one, is read -/
abbrev MTree0 (o : Expr) (m : Str) (apos pos : Pos) (pl : Env → Sem Bool) : Prop := ∀ env : Env, eval (.Call (.Attribute o m apos) [] [] pos) env = (do
      let ov ← eval o env
      standAt apos.atName
      let (f, first) ← holding [ov] (getMethod ov m (pl env))
      callWith pos f first (backTo pos (starEach [] env)) (backToKw pos (keywordEach [] env)))
abbrev MTree (o : Expr) (m : Str) (apos pos : Pos) (es : List Expr) (kws : List Keyword) (pl : Env → Sem Bool) : Prop := ∀ env : Env, eval (.Call (.Attribute o m apos) es kws pos) env = (do
      let ov ← eval o env
      standAt apos.atName
      let (f, first) ← holding [ov] (getMethod ov m (pl env))
      callWith pos f first (backTo pos (starEach es env)) (backToKw pos (keywordEach kws env)))
theorem pm0 {pre : ω → Prop} {g : ω → ρ} {y : ω} {pl : Env → Sem Bool} (M : MCal S.prog S.w S.K S.mg S.base C m pn' lv (spP (fun a => [.d (cIns C F hm) a]) pre cr g)) (hC : Cls S.K C) (hl : lv ≤ S.lv) (ho : PD S Γ 0 o (cIns C F hm) (· = y)) (hno : ∀ H fs y0, F H fs y0 → fs.lookup m = none) (hp : pre y) (ht : MTree0 o m apos pos pl) :
    PD S Γ 0 (.Call (.Attribute o m apos) [] [] pos) cr (· = g y) := by
  obtain ⟨f, fd, Fn, Mt, hb⟩ := M.ex
  exact pd_of (fun X G => pe_meth0 (pl := pl X.env) (tE_ok G) (by rw [G.K]; exact hC) (by rw [G.K]; exact Mt) (fnG Fn G) (G.room.mono hl) (by rw [G.K]; exact hb) .nil pass0 (ht _))
    (td_meth (k := 0) (k1 := 0) (k2 := 0) ho hno ta_nil fun y' as h1 h2 => ⟨y', 0, by subst h2; rfl, by subst h1; exact hp, Nat.le_refl _, fun x hx => by subst h1; exact hx⟩)
theorem pm1 {pre : ω × α → Prop} {g : ω × α → ρ} {y : ω} {z : α} {pl : Env → Sem Bool} (M : MCal S.prog S.w S.K S.mg S.base C m pn' lv (spP (fun (a : ω × α) => [.d (cIns C F hm) a.1, .d ca a.2]) pre cr g)) (hC : Cls S.K C) (hl : lv ≤ S.lv) (ho : PD S Γ 0 o (cIns C F hm) (· = y)) (he : PD S Γ 0 e ca (· = z)) (hno : ∀ H fs y0, F H fs y0 → fs.lookup m = none) (hp : pre (y, z))
    (hs : ∀ env : Env, starEach [e] env = (false, eval e env) :: starEach [] env) (hpl : ∀ env : Env, (backTo pos (starEach [] env)).any (·.1) = false) (ht : MTree o m apos pos [e] [] pl) : PD S Γ 0 (.Call (.Attribute o m apos) [e] [] pos) cr (· = g (y, z)) := by
  obtain ⟨f, fd, Fn, Mt, hb⟩ := M.ex
  exact pd_of (fun X G => pe_meth (pl := pl X.env) (tE_ok G) (by rw [G.K]; exact hC) (by rw [G.K]; exact Mt) (fnG Fn G) (G.room.mono hl) (by rw [G.K]; exact hb) .nil pass0 (tA_ok G) (hs _) (hpl _) (ht _))
    (td_meth (k := 0) (k1 := 0) (k2 := 0) ho hno (pda_one he hs) fun y' as h1 h2 => ⟨(y', z), 0, by subst h2; rfl, by subst h1; exact hp, Nat.le_refl _, fun x hx => by subst h1; exact hx⟩)
/-- C(e) -/
theorem pmake1 {pre : α → Prop} {Pi : α → ω → Prop} {h : α → ω} {z : α} (I : ICal S.prog S.w S.K S.mg S.base C pn' lv (spI C (fun a => [.d ca a]) pre F Pi)) (hl : lv + 1 ≤ S.lv) (hg : S.sc.names.lookup x = some .globalImplicit) (hmg : S.mg x = some (.ref C)) (he : PD S Γ 0 e ca (· = z)) (hp : pre z) (hh : ∀ y, Pi z y → y = h z)
    (hs : ∀ env : Env, starEach [e] env = (false, eval e env) :: starEach [] env) (hpl : ∀ env : Env, (backTo pos (starEach [] env)).any (·.1) = false) (hdb : (x == ("__debug__" : Str)) = false := by decide) : PD S Γ 0 (.Call (.Name x pn) [e] [] pos) (cIns C F hm) (· = h z) := by
  obtain ⟨f, fd, Fn, Mk1, hb⟩ := I.ex
  exact pd_of (fun X G => pe_make (by rw [G.K]; exact Mk1) (fnG Fn G) (G.room.mono hl) (glb G hg) (by rw [G.mg]; exact hmg) (by rw [G.K]; exact hb) .nil pass0 (tA_ok G) hdb (hs _) (hpl _))
    (td_make (k1 := 0) (pda_one he hs) fun as h1 => by subst h1; exact ⟨trivial, z, rfl, hp, fun y hy => hh y hy⟩)
/-- own ==, where both are the same -/
def REq (C : Addr) {ω : Type} (F : Hp → List (Str × V) → ω → Prop) : Addr → Addr → Hp → Prop := fun a b H => ∃ y dx dy fs gs, H a = some (.ins C dx fs) ∧ H b = some (.ins C dy gs) ∧ F H fs y ∧ F H gs y
theorem spEq_of {vs : List V} {H : Hp} {Q : VK} {E : XK} [DecidableEq ω] (hm : ∀ {H H' fs y}, Ex H H' → F H fs y → F H' fs y) (h : spEq (REq C F) vs H Q E) : spP (fun (a : ω × ω) => [.d (cIns C F hm) a.1, .d (cIns C F hm) a.2]) (fun _ => True) cBool (fun a => decide (a.1 = a.2)) vs H Q E := by
  obtain ⟨a, b, rfl, ⟨y, dx, dy, fs, gs, h1, h2, h3, h4⟩, q⟩ := h
  refine ⟨(y, y), 0, 0, H, trivial, Nat.zero_le _, Ex.rfl', ⟨⟨a, dx, fs, rfl, h1, h3⟩, ⟨b, dy, gs, rfl, h2, h4⟩, trivial⟩, fun z hz => by simp at hz, fun v Hf' H' x px r f _ _ => ?_⟩
  have : x = true := px.trans (decide_eq_true rfl)
  subst this
  obtain rfl := r
  exact q H' fun a o e => f.keep a o e (by simp)
/-- what the own == of a class needs -/
structure EqK (P : Program) (w : World) (K : PySem.W.Frag) (mg : Str → Option Value) (base : Heap) (C : Addr) (lv : Nat) {ω : Type} (F : Hp → List (Str × V) → ω → Prop) : Prop where
  ex : ∃ f fd pn, FnOk P w K mg base CX0 lv f fd pn (spEq (REq C F)) ∧ PySem.W.findIn K (.ref C) "__eq__" = some (some (.ref f)) ∧ PySem.W.isFn K (.ref f) = true ∧ Binds K fd pn []
theorem rd_eqOwn {y : ω} : RD (rEqG (DIns C (REq C F))) (cIns C F hm) y (cIns C F hm) y cBool (· = true) := fun Hf H v u e ⟨a, dx, fs, h1, h2, h3⟩ ⟨b, dy, gs, g1, g2, g3⟩ Q q => by
  subst h1 g1
  refine ⟨⟨a, b, dx, dy, fs, gs, rfl, rfl, e _ _ h2, e _ _ g2, y, dx, dy, fs, gs, e _ _ h2, e _ _ g2, hm e h3, hm e g3⟩, fun H' ex => q true Hf H' _ rfl rfl ⟨Ex.rfl', fun a o z _ => ex a o z, fun _ _ _ _ z => z, fun a z => ?_⟩ (e.trans ex)⟩
  cases w : H a with
  | none => rfl
  | some o => rw [ex a o w] at z; cases z
theorem eqOwnG (E : EqK S.prog S.w S.K S.mg S.base C lv F) (hl : lv ≤ S.lv) : ∀ X, Good S X → OpR X (compareOp .Eq) (rEqG (DIns C (REq C F))) := fun X G => by
  obtain ⟨f, fd, pn, Fn, h1, h2, h3⟩ := E.ex
  exact op_eqG (rcG_ins (fnG Fn G) (by rw [G.K]; exact h1) (by rw [G.K]; exact h2) (by rw [G.K]; exact h3) pass0) (G.room.mono hl)
/-- a == b, both the same -/
theorem peqOwn {a b : Expr} {y : ω} (E : EqK S.prog S.w S.K S.mg S.base C lv F) (hl : lv ≤ S.lv) (ha : PD S Γ 0 a (cIns C F hm) (· = y)) (hb : PD S Γ 0 b (cIns C F hm) (· = y)) (hmk : behindInMarks .Eq b = false) : PD S Γ 0 (.Compare a [.Eq] [b] pos) cBool (· = true) :=
  pcmp (eqOwnG E hl) ha hb rd_eqOwn hmk
theorem teqOwn {a b : Expr} {y : ω} (E : EqK S.prog S.w S.K S.mg S.base C lv F) (hl : lv ≤ S.lv) (ha : PD S Γ 0 a (cIns C F hm) (· = y)) (hb : PD S Γ 0 b (cIns C F hm) (· = y)) (hmk : behindInMarks .Eq b = false) : PDT S Γ 0 (.Compare a [.Eq] [b] pos) (· = true) :=
  tcmp (eqOwnG E hl) ha hb rd_eqOwn hmk
end
end DL

set_option Elab.async false
set_option linter.all false
set_option maxRecDepth 100000
set_option maxHeartbeats 4000000
namespace DL
open PySem PySem.Spec L2
section
variable {P : Program} {w : World} {K : PySem.W.Frag} {mg : Str → Option Value} {base : Heap} {m qual : Str} {st : Stmt} {N pn : List Str} {lv : Nat} {C : Addr} {ω A α β ρ : Type} {F : Hp → List (Str × V) → ω → Prop}
theorem map_un {ps : Ctxt} {b : Addr} (h : NoB ps) : ∀ z, ¬ Sl.bx z ∈ ps := fun z hz => by
  obtain ⟨i, hi⟩ := List.getElem?_of_mem hz
  exact noB_at h hi
theorem noB_one : ∀ {l : Ctxt}, NoB l → OneB l
  | [], _ => trivial
  | .bx z :: r, h => h.elim
  | .un :: r, h => noB_one (l := r) h
  | .d c x :: r, h => noB_one (l := r) h
  | .l c x :: r, h => noB_one (l := r) h
  | .r p :: r, h => noB_one (l := r) h
/-- __init__ of one attribute: first some statements that may leave, then self.f = e -/
theorem init1 {psi : A → Ctxt} {pre : A → Prop} {fn : Str} {g : A → α} {cv : Cod α} {h : A → ω} {s0 : Stmt} {ev : Expr} {p1 p2 p3 : Pos} {f : Addr} {fd : FuncData} (Fu : Fun K m qual st f fd) (Sc : FnScope N pn (defScope st)) (hbody : defBody st = [s0, .Assign [.Attribute (.Name "self" p1) fn p2] ev p3])
    (hN0 : N[0]? = some ("self" : Str)) (hv0 : Vis (defScope st) ("self" : Str)) (hl : ∀ a, (psi a).length + 1 = pn.length) (hN : pn.length ≤ N.length) (nb : ∀ a, NoB (psi a)) (hC : Cls K C) (hNo : NoAttr K C fn) (hF : ∀ H y a, pre a → cv.rep H y (g a) → F H [(fn, y)] (h a))
    (hs : ∀ env : Env, swapsWith ev (some (.Attribute (.Name "self" p1) fn p2)) p3.line env = pure false)
    (h0 : ∀ (x : Addr) (a : A), pre a → PH (ρ := Unit) ⟨N, defScope st, K, mg, P, w, base, lv, fun _ => true, false⟩ (entry N (.d cV (.ref x) :: psi a)) 0 s0 { N := fun G => G = entry N (.d cV (.ref x) :: psi a), bk := fun _ => False, ct := fun _ => False, c := cNon, R := fun _ => False })
    (h1 : ∀ (x : Addr) (a : A), pre a → PD ⟨N, defScope st, K, mg, P, w, base, lv, fun _ => true, false⟩ (entry N (.d cV (.ref x) :: psi a)) 0 ev cv (· = g a)) :
    FnOk P w K mg base CX0 (lv + 1) f fd pn (spI C psi pre F (fun a y => y = h a)) := by
  refine Fu.ok Sc (fun vs H Q E h => ?_) (fun cdv Ar outer s H vs Q E hr hsp => ?_)
  · obtain ⟨a, x, dx, ws, Hf, _, rfl, _, _, _, o, _⟩ := h
    rw [List.length_cons, argsOk_len o]; exact hl a
  · obtain ⟨a, x, dx, ws, Hf, hp, rfl, hx, hfx, ex, o, q⟩ := hsp
    have G := cxG (P := P) (w := w) (K := K) (mg := mg) (base := base) (qual := qual) (st := st) (f := f) (cdv := cdv) (A := Ar) (outer := outer) (s := s) (H := H) (E := E) (lv := lv) hr Sc.nd
    rw [hbody]
    refine ⟨_, pss_cons (tS1_ok G) (pss_one (ps_fld (pe_slot G hN0 hv0 (by decide) (by decide)) (tE_ok G) (hs _))), ?_⟩
    have o1 : ArgsOk Hf (.ref x :: ws) (.d cV (.ref x) :: psi a) := ⟨rfl, o⟩
    have S0 : Sat ⟨fun z => Sl.bx z ∈ (.d cV (.ref x) :: psi a : Ctxt), Hf, H⟩ Hf H (start N (.ref x :: ws)) (entry N (.d cV (.ref x) :: psi a)) 0 :=
      sat_entry (by rw [List.length_cons, hl a]; exact hN) o1 (by
        show OneB (psi a)
        exact noB_one (nb a)) ex fun z hz => by
          rcases List.mem_cons.mp hz with e | e
          · cases e
          · exact absurd e (map_un (b := 0) (nb a) z)
    have noM : ∀ z, ¬ Sl.bx z ∈ (.d cV (.ref x) :: psi a : Ctxt) := fun z hz => by
      rcases List.mem_cons.mp hz with e | e
      · cases e
      · exact map_un (b := 0) (nb a) z e
    refine h0 x a hp _ 0 _ Hf H (Nat.zero_le _) S0 _ (fun σ1 Hf1 H1 Γ1 eΓ f1 => ?_) (fun _ _ _ _ z _ => z.elim) (fun _ _ _ _ z _ => z.elim) fun _ _ _ _ _ _ z _ _ => z.elim
    subst eΓ
    refine h1 x a hp _ 0 σ1 Hf1 H1 (Nat.zero_le _) f1.sat _ fun y Hf2 H2 z pz rz f2 S2 => ?_
    subst pz
    have e0 : (entry N (.d cV (.ref x) :: psi a))[0]? = some (Sl.d cV (.ref x)) := rfl
    obtain ⟨v0, hv, hr0⟩ := S2.at_ 0 _ e0
    obtain rfl : v0 = .ref x := hr0
    refine ⟨.ref x, hv, x, C, dx, [], rfl, S2.fr.keep x _ hx (noM x), hC, hNo, by decide, ?_⟩
    have fx2 : Hf2 x = none := S2.fr.fz x _ hx (noM x) hfx
    refine q Hf2 _ [(fn, y)] (h a) rfl upd_same fx2 (hF Hf2 y a hp rz) ⟨S2.fr.ex, fun b u e ne => ?_, fun b u e ne z => S2.fr.fz b u e (noM b) z, fun b e => ?_⟩ (S2.ex.mut fx2)
    · rw [upd_ne ne]; exact S2.fr.keep b u e (noM b)
    · by_cases z : b = x
      · subst z; rw [upd_same] at e; cases e
      · rw [upd_ne z] at e; exact S2.fr.dom b e
end
end DL

set_option Elab.async false
set_option linter.all false
set_option maxRecDepth 100000
set_option maxHeartbeats 4000000
namespace DL
open PySem PySem.Spec L2
/-! ### x.m(..): the thing first, then its method, then the arguments -/
abbrev getDot (env : Env) (o : Expr) (m : PySem.Str) (q : Pos) (pl : Sem Bool) (k : Value → List Value → Sem Value) : Sem Value := do
  let whose ← eval o env
  standAt q.atName
  let (g, fx) ← holding [whose] (getMethod whose m pl)
  k g fx
/-- what is known of the thing, where it is an instance with that method -/
def AtIns (C : Addr) (m : PySem.Str) (R : VK) : VK := fun x H => ∃ a dx fs, x = .ref a ∧ H a = some (.ins C dx fs) ∧ fs.lookup m = none ∧ R x H
theorem dot_ins {X : Cx} {o : Expr} {m : PySem.Str} {apos pos : Pos} {args : List Expr} {kws : List Keyword} {pl : Sem Bool} {C f : Addr} {ta : TE} {pins : List (Addr × Obj)} {σ : Stt} {H : Hp} {s : Shared} {Q : Value → Shared → Prop} {R : VK}
    (he : PE X o ta) (c : Cls X.K C) (hm : Meth X.K C m f) (ht : eval (.Call (.Attribute o m apos) args kws pos) X.env = getDot X.env o m apos pl fun g fx => callWith pos g fx (backTo pos (starEach args X.env)) (backToKw pos (keywordEach kws X.env)))
    (I : Inv X pins σ H s) (h : ta σ H (AtIns C m R)) (go : ∀ a H1 s1, Inv X pins σ H1 s1 → R (.ref a) H1 → wpAny (model X.prog X.w) X.A (callWith pos (.ref f) [.ref a] (backTo pos (starEach args X.env)) (backToKw pos (keywordEach kws X.env))) Q X.xe s1) :
    wpAny (model X.prog X.w) X.A (eval (.Call (.Attribute o m apos) args kws pos) X.env) Q X.xe s := by
  apply PySem.W.methodCall_KW (pl := pl) (he := ht)
  refine thn (he.run pins s σ H _ I h) ?_
  rintro u s1 ⟨_, H1, I1, r, a, dx, fs, rfl, at_, free, q⟩
  rw [show u = Value.ref a from r]
  exact getmeth_ok I1 at_ c hm free (go a H1 s1 I1 q)
/-! ### B.__init__(self, ..), B an own class of exceptions without own __init__ -/
structure BaseI (K : PySem.W.Frag) (mg : Str → Option Value) (x : Str) (B : Addr) : Prop where
  mgB : mg x = some (.ref B)
  sp : PySem.W.specialIn K (.ref B) "__getattribute__" = some (some (.builtin "type.__getattribute__"))
  rd : PySem.W.readsIn K B (.type "type") = true
  ini : PySem.W.findCls K (.ref B) (.type "type") "__init__" = some (.val (.builtin "ValueError.__init__"))
section
variable {X : Cx} {x : Str} {B : Addr} {e : Expr} {es : List Expr} {ta : TA} {p p1 p2 pos : Pos}
theorem pe_oinit {pl : Sem Bool} (hg : Gl X x) (b : BaseI X.K X.mg x B) (ha : PA X (e :: es) ta) (hd : (x == ("__debug__" : Str)) = false)
    (hc : eval (.Call (.Attribute (.Name x p1) "__init__" p2) (e :: es) [] pos) X.env = getDot X.env (.Name x p1) "__init__" p2 pl fun g fx => callWith pos g fx (backTo pos (starEach (e :: es) X.env)) (backToKw pos (keywordEach [] X.env)))
    (he : starEach (e :: es) X.env = (false, eval e X.env) :: starEach es X.env) (hpl : (backTo pos (starEach es X.env)).any (·.1) = false) :
    PE X (.Call (.Attribute (.Name x p1) "__init__" p2) (e :: es) [] pos) (tVeI X.K ta) := by
  constructor
  intro pins s σ H Q I h
  apply PySem.W.methodCall_KW (ld_glob I hg b.mgB ?_ hd) hc
  refine PySem.W.method_cls I.kIn b.sp (PySem.W.cls_value I.kIn b.rd b.ini (by decide +kernel) ?_)
  refine PyProof.Rows.callWith_method1 (thn (ha.run pos pins _ σ H _ (I.tok _) h) ?_) he hpl
  rintro us s1 ⟨_, H1, I1, r, a, C, ws, rfl, few, T, at_, q⟩
  match us, r with
  | u :: more, .cons r0 rest =>
    rw [show u = Value.ref a from r0]
    have n : more.length ≤ sizeLine := Nat.le_trans (by rw [← Paired.length rest]; exact few) (by rw [sizeLine_eq]; omega)
    exact oinit_ok T I1 at_ n fun s2 I2 => ⟨.non, H1, I2, rfl, q⟩
end
/-! ### o.m(k = v) -/
def tMethK (C : Addr) (m : Str) (sp : Sp) (gV : List V → List V → List V) (E : XK) (ta : TE) (tk : TA) : TE := fun σ H Q => ta σ H fun x H1 => ∃ a dx fs, x = .ref a ∧ H1 a = some (.ins C dx fs) ∧ fs.lookup m = none ∧
  tk σ H1 fun zs H2 => sp (gV [x] zs) H2 Q E
section
variable {X : Cx} {CX : CXT} {k : Nat} {f C : Addr} {fd : FuncData} {ps ks : List Str} {sp : Sp} {E : XK} {m : Str} {pos apos : Pos} {o : Expr} {kws : List Keyword} {ta : TE} {tk : TA} {g : List Value → List Value → List Value} {gV : List V → List V → List V}
theorem pe_methK {pl : Sem Bool} (he : PE X o ta) (c : Cls X.K C) (hm : Meth X.K C m f) (F : FnOk X.prog X.w X.K X.mg X.base CX k f fd ps sp) (hr : Room k X.A) (hb : KBinds X.K fd ps ks g gV) (hx : Passes CX X E) (hkw : PK X kws tk)
    (hall : (backToKw pos (keywordEach kws X.env)).all (·.1.isSome) = true) (hks : (backToKw pos (keywordEach kws X.env)).filterMap (·.1) = ks)
    (hpl : ((backTo pos (starEach [] X.env)).any (·.1) || (backToKw pos (keywordEach kws X.env)).any (·.1.isNone)) = false)
    (ht : eval (.Call (.Attribute o m apos) [] kws pos) X.env = getDot X.env o m apos pl fun g fx => callWith pos g fx (backTo pos (starEach [] X.env)) (backToKw pos (keywordEach kws X.env))) :
    PE X (.Call (.Attribute o m apos) [] kws pos) (tMethK C m sp gV E ta tk) := by
  constructor
  intro pins s σ H Q I h
  refine dot_ins (R := fun x H1 => tk σ H1 fun zs H2 => sp (gV [x] zs) H2 Q E) he c hm ht I h fun a H1 s1 I1 q => PySem.W.callWith_KW0 (h₀ := X.base) I.ok.mod.kin hm.kp hall ?_ hpl
  apply thn (hkw.run pos pins s1 σ H1 _ I1 q)
  rintro ws s2 ⟨zs, H2, I2, rz, q2⟩
  refine ⟨I2.kIn, ?_⟩
  rw [hks]
  exact run_fnk (us := [.ref a]) (vs := [.ref a]) F hr hb hx I2 (.cons rfl .nil) rz q2
end
/-- self and one keyword -/
def g2 {α : Type} : List α → List α → List α
  | [a], [b] => [a, b]
  | _, _ => []
theorem kb2 {K : PySem.W.Frag} {fd : FuncData} {p1 p2 : Str} (h : ∀ a b : Value, bindArgs fd ⟨[a], [p2].zip [b]⟩ = pure ([p1, p2].zip [a, b])) : KBinds K fd [p1, p2] [p2] g2 g2 where
  to := fun s us ws _ hl => by
    match us, ws, hl with
    | [a], [b], _ => exact .of_eq (h a b)
    | [], _, hl => cases hl
    | _ :: _ :: _, [], hl => cases hl
    | _ :: _ :: _, _ :: _, hl => cases hl
    | [_], [], hl => cases hl
    | [_], _ :: _ :: _, hl => cases hl
  rel := fun {vs us zs ws} h1 h2 => by
    cases h1 with
    | nil => exact .nil
    | cons r t =>
      cases t with
      | nil =>
        cases h2 with
        | nil => exact .nil
        | cons r2 t2 => cases t2 with
          | nil => exact .cons r (.cons r2 .nil)
          | cons _ _ => exact .nil
      | cons _ _ => exact .nil
end DL

set_option Elab.async false
set_option linter.all false
set_option maxRecDepth 100000
set_option maxHeartbeats 4000000
namespace DL
open PySem PySem.Spec L2
theorem ps_nox {X : Cx} {st : Stmt} {t : TS} (h : PS X.nox st t) : PS X st t := ⟨fun pins s σ H D I hw =>
  wpAny_mono (h.run pins s σ H D (I.wish _) hw) (fun _ _ q => q.unwish) fun _ _ z => False.elim z⟩
theorem pa_nox {X : Cx} {es : List Expr} {t : TA} (h : PA X.nox es t) : PA X es t := ⟨fun pos pins s σ H Q I hw =>
  wpAny_mono (h.run pos pins s σ H Q (I.wish _) hw) (fun _ _ ⟨v, H', I', r, q⟩ => ⟨v, H', I'.unwish, r, q⟩) fun _ _ z => False.elim z⟩
theorem cxGX {CX : CXT} {P : Program} {w : World} {K : PySem.W.Frag} {mg : Str → Option Value} {base : Heap} {N : List Str} {qual : Str} {st : Stmt} {f : Addr} {cdv : Value} {A : Around} {outer : List Env} {s : Shared} {H : Hp} {E : XK} {lv : Nat} (hr : Room lv (A.deeper (PyProof.Rows.envOfC qual (defScope st) s.heap.objs.size f cdv))) (nd : N.Nodup) :
    Good ⟨N, defScope st, K, mg, P, w, base, lv, fun _ => true, false⟩ (cxOf CX P w K mg base N qual (defScope st) f cdv A outer s H E).nox := ⟨rfl, rfl, rfl, rfl, rfl, rfl, rfl, rfl, hr, rfl, rfl, nd, fun h => nomatch h⟩
section
variable {S : Stc} {Γ : Ctxt} {k : Nat} {β ρ : Type} {c' : Cod β} {p : Po ρ} {pos : Pos}
/-- x = [..], x a plain local: as a list of one's own -/
theorem ph_setLcL {i : Nat} {y : Str} {py spos : Pos} {elt tg iter : Expr} {ifs : List Expr} {scope : Scope} (own : List (Str × Nat)) {R : List β → Prop} (h : TDF (lcRd S tg iter ifs elt scope own) Γ k c' R) (nb : NoBx Γ i) (hp : ∀ y, R y → p.N (Γ.set i (.l c' y))) (hi : S.N[i]? = some y) (hyl : S.sc.names.lookup y = some .local) (hl : (py.line == pos.line) = true) (hk : S.sc.kind = .function)
    (ha : (scope.names.any fun (n, k) => n == y && (k == .local || k == .cell)) = false) (ok : blkC S.N S.sc scope own = true) (hs : ∀ (env : Env) x, foldedSetIterable iter env x = pure x) : PH S Γ k (.Assign [.Name y py] (.ListComp elt [⟨tg, iter, ifs, 0⟩] scope pos) spos) p :=
  ph_of (fun X G => ps_lcR G hi hyl hl hk ha ok hs) (hs_setL h nb hp)
end
end DL

set_option Elab.async false
set_option linter.all false
set_option maxRecDepth 100000
set_option maxHeartbeats 4000000
namespace DL
open PySem PySem.Spec L2
/-! ### a list of two unlike things -/
def cL2 {α β : Type} (c : Cod α) (d : Cod β) : Cod (α × β) := ⟨fun H v x => ∃ a u w, v = .ref a ∧ H a = some (.lst [u, w]) ∧ c.rep H u x.1 ∧ d.rep H w x.2,
  fun e ⟨a, u, w, h1, h2, h3, h4⟩ => ⟨a, u, w, h1, e _ _ h2, c.mono e h3, d.mono e h4⟩⟩
/-- one text -/
def cS1 (t : Str) : Cod Unit := ⟨fun _ v _ => v = .str t, fun _ h => h⟩
def eS1 (t : Str) (h : (PyData.str t).canLay0 = true) : EqC (cS1 t) := ⟨fun _ => .str t, 1, fun _ _ _ _ h => by obtain rfl := h; exact .str _, fun _ => h, fun _ => by simp [PyData.depth], fun x y => by simp [PyData.eqv]⟩
theorem pd_S1 {S : Stc} {Γ : Ctxt} {t : Str} {j : Nat} {pos : Pos} : PD S Γ 0 (.Constant (.str t) j pos) (cS1 t) (· = ()) := pd_of (fun X G => pe_str) (td_c fun _ => rfl)
theorem rd_eqS1 {s t : Str} : RD rEq (cS1 s) () (cS1 t) () cBool (· = decide (s = t)) := fun Hf H v u e h1 h2 Q q => by
  obtain rfl := h1; obtain rfl := h2
  exact ⟨rfl, q _ Hf H _ rfl (by show V.bl _ = V.bl _; congr 1; exact decide_eq_decide.mpr ⟨fun h => V.str.inj h, fun h => by rw [h]⟩) Fr.refl e⟩
theorem rd_neS1 {s t : Str} : RD rNe (cS1 s) () (cS1 t) () cBool (· = !decide (s = t)) := fun Hf H v u e h1 h2 Q q => by
  obtain rfl := h1; obtain rfl := h2
  exact ⟨rfl, q _ Hf H _ rfl (by show V.bl _ = V.bl _; congr 2; exact decide_eq_decide.mpr ⟨fun h => V.str.inj h, fun h => by rw [h]⟩) Fr.refl e⟩
def eL2 {α β : Type} [DecidableEq α] [DecidableEq β] {c : Cod α} {d : Cod β} (e : EqC c) (f : EqC d) : EqC (cL2 c d) := ⟨fun x => .list [e.D x.1, f.D x.2], max e.n f.n + 1, fun K H v x ⟨a, u, w, h1, h2, h3, h4⟩ => by
    subst h1; exact .lst (SqL.of h2) (.cons (e.dp K H _ _ h3) (.cons (f.dp K H _ _ h4) .nil)),
  fun x => by simp [PyData.canLay0, PyData.canLayAll0, e.lay, f.lay], fun x => by
    have h1 := e.dep x.1; have h2 := f.dep x.2
    simp only [PyData.depth, PyData.depthAll]; omega, fun x y => by
    simp only [PyData.eqv, PyData.eqvAll, e.eqv, f.eqv]
    obtain ⟨x1, x2⟩ := x; obtain ⟨y1, y2⟩ := y
    by_cases e1 : x1 = y1 <;> by_cases e2 : x2 = y2 <;> simp [e1, e2]⟩
section
variable {Γ : Ctxt} {k1 k2 : Nat} {α β : Type} {c1 : Cod α} {c2 : Cod β} {P1 : α → Prop} {P2 : β → Prop} {ta tb : TE} {x : α} {y : β}
theorem td_lst2 (ha : TD ta Γ k1 c1 P1) (hb : TD tb Γ k2 c2 P2) : TD (tLst (tCons ta (tCons tb tNil))) Γ (k1 + k2) (cL2 c1 c2) (fun z => P1 z.1 ∧ P2 z.2) := fun O n σ Hf H hn S Q q =>
  ha O n σ Hf H (by omega) S _ fun v Hf1 H1 x p1 r1 f1 S1 => hb O (n + k1) σ Hf1 H1 (by omega) S1 _ fun u Hf2 H2 y p2 r2 f2 S2 =>
    ⟨by show 2 ≤ sizeLine; decide, fun p hp => q _ (upd Hf2 p (.lst [v, u])) _ (x, y) ⟨p1, p2⟩
      ⟨p, v, u, rfl, upd_same, c1.mono (f2.ex.trans (Ex.new (S2.ex.back hp))) r1, c2.mono (Ex.new (S2.ex.back hp)) r2⟩
      ((f1.trans f2 fun _ h => .inl h).trans (Fr.new (M := Bx Γ) S2.ex hp) fun _ z => .inl z) (by rw [← Nat.add_assoc]; exact S2.new hp)⟩
variable {S : Stc} {a b e : Expr} {pos : Pos}
theorem plst2 (ha : PD S Γ 0 a c1 (· = x)) (hb : PD S Γ 0 b c2 (· = y)) (hs : ∀ env : Env, starEach [a, b] env = (false, eval a env) :: starEach [b] env) (hs2 : ∀ env : Env, starEach [b] env = (false, eval b env) :: starEach [] env) : PD S Γ 0 (.List [a, b] pos) (cL2 c1 c2) (· = (x, y)) :=
  (pd_of (fun X G => pe_lst (pa_cons (tE_ok G) (pa_cons (tE_ok G) pa_nil (hs2 _)) (hs _))) (td_lst2 (k1 := 0) (k2 := 0) ha hb)).imp fun z ⟨h1, h2⟩ => by cases z; subst h1 h2; rfl
theorem rd_ixL2_0 {K : PySem.W.Frag} {x : α × β} : RD (rIxL K) (cL2 c1 c2) x cInt 0 c1 (· = x.1) := fun Hf H v u e ⟨a, w1, w2, h1, h2, h3, h4⟩ h6 Q k => by
  obtain rfl := h6
  exact ⟨a, [w1, w2], 0, w1, h1, rfl, SqL.of (e _ _ h2), rfl, k _ Hf H _ rfl h3 Fr.refl e⟩
theorem rd_ixL2_1 {K : PySem.W.Frag} {x : α × β} : RD (rIxL K) (cL2 c1 c2) x cInt 1 c2 (· = x.2) := fun Hf H v u e ⟨a, w1, w2, h1, h2, h3, h4⟩ h6 Q k => by
  obtain rfl := h6
  exact ⟨a, [w1, w2], 1, w2, h1, rfl, SqL.of (e _ _ h2), rfl, k _ Hf H _ rfl h4 Fr.refl e⟩
end
/-! ### try that runs through -/
theorem Good.nx {S : Stc} {X : Cx} (G : Good S X) : Good S X.nox := ⟨G.N, G.sc, G.K, G.mg, G.prog, G.w, G.base, G.calm, G.room, G.fn, rfl, G.nd, G.gd⟩
theorem ph_try_thru {S : Stc} {Γ : Ctxt} {k : Nat} {ρ : Type} {p : Po ρ} {body : List Stmt} {h₀ : ExceptHandler} {hs : List ExceptHandler} {pos : Pos} (h : PHs S Γ k body p) : PH S Γ k (.Try body (h₀ :: hs) [] [] pos) p :=
  ph_of (fun X G => ps_try_thru0 (tSs_ok G.nx)) h
/-! ### methods with a keyword -/
structure MCalK (P : Program) (w : World) (K : PySem.W.Frag) (mg : Str → Option Value) (base : Heap) (C : Addr) (m : Str) (pn ks : List Str) (lv : Nat) (sp : Sp) : Prop where
  ex : ∃ f fd, FnOk P w K mg base CX0 lv f fd pn sp ∧ Meth K C m f ∧ KBinds K fd pn ks g2 g2
section
variable {S : Stc} {Γ : Ctxt} {α ω ρ : Type} {cr : Cod ρ} {ca : Cod α} {e o : Expr} {pos apos kpos : Pos} {C : Addr} {F : Hp → List (Str × V) → ω → Prop} {hm : ∀ {H H' fs y}, Ex H H' → F H fs y → F H' fs y} {m kn : Str} {pn' : List Str} {lv : Nat}
theorem td_methK {te ti : TE} {g : ω × α → ρ} {pre : ω × α → Prop} {y : ω} {z : α} {E : XK} (ho : TD te Γ 0 (cIns C F hm) (· = y)) (hno : ∀ H fs y0, F H fs y0 → fs.lookup m = none) (he : TD ti Γ 0 ca (· = z)) (hp : pre (y, z)) :
    TD (tMethK C m (spP (fun (a : ω × α) => [.d (cIns C F hm) a.1, .d ca a.2]) pre cr g) g2 E te (tCons ti tNil)) Γ 0 cr (· = g (y, z)) := fun O n σ Hf H hn s Q q =>
  ho O n σ Hf H hn s _ fun v Hf1 H1 y' py r1 f1 s1 => by
    subst py
    obtain ⟨a, dx, fs, e1, e2, e3⟩ := id r1
    refine ⟨a, dx, fs, e1, s1.ex _ _ e2, hno _ _ _ e3, ?_⟩
    refine he O n σ Hf1 H1 hn s1 _ fun u Hf2 H2 z' pz r2 f2 s2 => ?_
    subst pz
    refine ⟨(y', z'), 0, n, Hf2, hp, hn, s2.ex, ⟨(cIns C F hm).mono f2.ex r1, r2, trivial⟩, fun w hw => by simp at hw, fun w Hf3 H3 x px r f3 ex3 _ => ?_⟩
    have f3' : Fr (fun _ => False) Hf2 H2 Hf3 H3 := f3.mono fun w hw => by simp at hw
    exact q w Hf3 H3 x px r ((f1.trans f2 fun _ z => .inl z).trans f3' fun _ z => z.elim) (s2.grow0 f3' ex3)
theorem pm1k {pre : ω × α → Prop} {g : ω × α → ρ} {y : ω} {z : α} {pl : Env → Sem Bool} (M : MCalK S.prog S.w S.K S.mg S.base C m pn' [kn] lv (spP (fun (a : ω × α) => [.d (cIns C F hm) a.1, .d ca a.2]) pre cr g)) (hC : Cls S.K C) (hl : lv ≤ S.lv) (ho : PD S Γ 0 o (cIns C F hm) (· = y)) (he : PD S Γ 0 e ca (· = z)) (hno : ∀ H fs y0, F H fs y0 → fs.lookup m = none) (hp : pre (y, z))
    (hall : ∀ env : Env, (backToKw pos (keywordEach [⟨some kn, e, kpos⟩] env)).all (·.1.isSome) = true) (hks : ∀ env : Env, (backToKw pos (keywordEach [⟨some kn, e, kpos⟩] env)).filterMap (·.1) = [kn])
    (hpl : ∀ env : Env, ((backTo pos (starEach [] env)).any (·.1) || (backToKw pos (keywordEach [⟨some kn, e, kpos⟩] env)).any (·.1.isNone)) = false) (ht : MTree o m apos pos [] [⟨some kn, e, kpos⟩] pl) : PD S Γ 0 (.Call (.Attribute o m apos) [] [⟨some kn, e, kpos⟩] pos) cr (· = g (y, z)) := by
  obtain ⟨f, fd, Fn, Mt, hb⟩ := M.ex
  exact pd_of (fun X G => pe_methK (pl := pl X.env) (tE_ok G) (by rw [G.K]; exact hC) (by rw [G.K]; exact Mt) (fnG Fn G) (G.room.mono hl) (by rw [G.K]; exact hb) pass0 (pk_cons (tE_ok G) pk_nil) (hall _) (hks _) (hpl _) (ht _)) (td_methK ho hno he hp)
end
/-! ### .. that may raise -/
def tMethKS (C : Addr) (m : Str) (sp : Sp) (gV : List V → List V → List V) (E : Stt → XK) (ta : TE) (tk : TA) : TE := fun σ H Q => ta σ H fun x H1 => ∃ a dx fs, x = .ref a ∧ H1 a = some (.ins C dx fs) ∧ fs.lookup m = none ∧
  tk σ H1 fun zs H2 => sp (gV [x] zs) H2 Q (E σ)
section
variable {X : Cx} {CX : CXT} {k : Nat} {f C : Addr} {fd : FuncData} {ps ks : List Str} {sp : Sp} {E : Stt → XK} {m : Str} {pos apos : Pos} {o : Expr} {kws : List Keyword} {ta : TE} {tk : TA} {g : List Value → List Value → List Value} {gV : List V → List V → List V}
theorem run_fnkS {pins : List (Addr × Obj)} {σ : Stt} {H : Hp} {s : Shared} {Q : VK} {us ws : List Value} {vs zs : List V} (F : FnOk X.prog X.w X.K X.mg X.base CX k f fd ps sp) (hr : Room k X.A) (hb : KBinds X.K fd ps ks g gV) (hx : PassesAt CX X σ (E σ))
    (I : Inv X pins σ H s) (r : Vals vs us) (rz : Vals zs ws) (h : sp (gV vs zs) H Q (E σ)) : wpAny (model X.prog X.w) X.A (call (.ref f) us (ks.zip ws)) (EP X pins σ Q) X.xe s := by
  have r2 := hb.rel r rz
  have hl : (g us ws).length = ps.length := by rw [← r2.length]; exact F.len _ _ _ _ h
  refine wpAny_call (codeAny_mono (F.run X.A X.stack s H ⟨us, ks.zip ws⟩ (g us ws) (gV vs zs) Q (E σ) hr I.env0 (hb.to s us ws I.kIn hl) r2 h) fun r s' hq => ?_)
  cases r with
  | error e => exact hx pins H s e s' I hq
  | ok fl =>
    cases fl with
    | ret u => exact I.after hq
    | next => exact False.elim hq
    | brk => exact False.elim hq
    | cont => exact False.elim hq
theorem pe_methKS {pl : Sem Bool} (he : PE X o ta) (c : Cls X.K C) (hm : Meth X.K C m f) (F : FnOk X.prog X.w X.K X.mg X.base CX k f fd ps sp) (hr : Room k X.A) (hb : KBinds X.K fd ps ks g gV) (hx : ∀ σ, PassesAt CX X σ (E σ)) (hkw : PK X kws tk)
    (hall : (backToKw pos (keywordEach kws X.env)).all (·.1.isSome) = true) (hks : (backToKw pos (keywordEach kws X.env)).filterMap (·.1) = ks)
    (hpl : ((backTo pos (starEach [] X.env)).any (·.1) || (backToKw pos (keywordEach kws X.env)).any (·.1.isNone)) = false)
    (ht : eval (.Call (.Attribute o m apos) [] kws pos) X.env = getDot X.env o m apos pl fun g fx => callWith pos g fx (backTo pos (starEach [] X.env)) (backToKw pos (keywordEach kws X.env))) :
    PE X (.Call (.Attribute o m apos) [] kws pos) (tMethKS C m sp gV E ta tk) := by
  constructor
  intro pins s σ H Q I h
  refine dot_ins (R := fun x H1 => tk σ H1 fun zs H2 => sp (gV [x] zs) H2 Q (E σ)) he c hm ht I h fun a H1 s1 I1 q => PySem.W.callWith_KW0 (h₀ := X.base) I.ok.mod.kin hm.kp hall ?_ hpl
  apply thn (hkw.run pos pins s1 σ H1 _ I1 q)
  rintro ws s2 ⟨zs, H2, I2, rz, q2⟩
  refine ⟨I2.kIn, ?_⟩
  rw [hks]
  exact run_fnkS (us := [.ref a]) (vs := [.ref a]) F hr hb (hx σ) I2 (.cons rfl .nil) rz q2
end
end DL

set_option Elab.async false
set_option linter.all false
set_option maxRecDepth 100000
set_option maxHeartbeats 4000000
namespace DL
open PySem PySem.Spec L2
section
variable {S : Stc} {Γ Γ1 : Ctxt} {k k1 k2 k3 kr : Nat} {α ρ : Type} {c : Cod α} {p : Po ρ} {R1 R2 R3 : Sl → Prop} {a b d e : Expr} {pos px py pz pt pt2 : Pos} {x y z : Str} {kt kt2 : Nat} {rest : List Stmt}
/-- x, y = a, b with plain local names -/
theorem bparP (i j : Nat) (ha : TX (tE S a) Γ k1 R1) (hb : TX (tE S b) Γ k2 R2) (nb : NoBx Γ i) (nb' : NoBx Γ j) (hij : i ≠ j) (u1 : ∀ s, R1 s → s ≠ .un) (u2 : ∀ s, R2 s → s ≠ .un) (hi : S.N[i]? = some x) (hj : S.N[j]? = some y)
    (hx : S.sc.names.lookup x = some .local) (hy : S.sc.names.lookup y = some .local) (hs : ∀ env : Env, starEach [a, b] env = (false, eval a env) :: starEach [b] env) (hs2 : ∀ env : Env, starEach [b] env = (false, eval b env) :: starEach [] env)
    (hw : ∀ env : Env, env.scope = S.sc → swappedStores [.Tuple [.Name x px, .Name y py] kt pt] (.Tuple [a, b] kt2 pt2) env = pure (some [x, y]))
    (hsw : ∀ env : Env, env.scope = S.sc → swapsWithSole [.Tuple [.Name x px, .Name y py] kt pt] (.Tuple [a, b] kt2 pt2) pos.line env = pure false)
    (hr : ∀ s1 s2, R1 s1 → R2 s2 → PHs S ((Γ.set i s1).set j s2) kr rest p) : PHs S Γ (k1 + k2 + kr) (.Assign [.Tuple [.Name x px, .Name y py] kt pt] (.Tuple [a, b] kt2 pt2) pos :: rest) p :=
  phs_cons (N1 := fun G => ∃ s1 s2, R1 s1 ∧ R2 s2 ∧ G = (Γ.set i s1).set j s2) (ph_of (fun X G => ps_par G.calm (by rw [G.N]; exact G.nd) (by rw [G.N]; exact hi) (by rw [G.N]; exact hj) hij (by rw [G.sc]; exact hx) (by rw [G.sc]; exact hy) (pa_cons (tE_ok G) (pa_cons (tE_ok G) pa_nil (hs2 _)) (hs _)) (hw _ G.sc) (hsw _ G.sc))
    (hs_par ha hb nb nb' hij u1 u2 fun t1 t2 e1 e2 => ⟨t1, t2, e1, e2, rfl⟩)) fun Γ1 ⟨s1, s2, h1, h2, e⟩ => by subst e; exact hr s1 s2 h1 h2
theorem HS.ctx {ts : TS} {Γ' : Ctxt} (e : Γ = Γ') (h : HS ts Γ' k p) : HS ts Γ k p := by subst e; exact h
theorem nun {P : α → Prop} : ∀ s : Sl, (∃ x, P x ∧ s = .d c x) → s ≠ .un := fun s ⟨x, _, e⟩ z => by rw [e] at z; cases z
theorem nunL {P : List α → Prop} : ∀ s : Sl, (∃ x, P x ∧ s = .l c x) → s ≠ .un := fun s ⟨x, _, e⟩ z => by rw [e] at z; cases z
variable {A1 B1 : Bool → Prop} {es : List Expr}
theorem pd_orG (h1 : PD S Γ k1 a cBool A1) (h2 : A1 false → PD S Γ k2 (.BoolOp .Or (b :: es) pos) cBool B1) : PD S Γ (k1 + k2) (.BoolOp .Or (a :: b :: es) pos) cBool (fun r => (r = true ∧ A1 true) ∨ (A1 false ∧ B1 r)) := pd_of (fun X G => pe_or (tE_ok G) (tE_ok G)) (td_orV h1 h2)
theorem pd_andG (h1 : PD S Γ k1 a cBool A1) (h2 : A1 true → PD S Γ k2 (.BoolOp .And (b :: es) pos) cBool B1) : PD S Γ (k1 + k2) (.BoolOp .And (a :: b :: es) pos) cBool (fun r => (r = false ∧ A1 false) ∨ (A1 true ∧ B1 r)) := pd_of (fun X G => pe_and (tE_ok G) (tE_ok G)) (td_andV h1 h2)
theorem pdw_orG (h1 : PDT S Γ k1 a A1) (h2 : A1 false → PDW S Γ k2 (.BoolOp .Or (b :: es) pos) B1) : PDW S Γ (k1 + k2) (.BoolOp .Or (a :: b :: es) pos) (fun r => (r = true ∧ A1 true) ∨ (A1 false ∧ B1 r)) := pdw_of (fun X G => pw_or (tT_ok G) (tWt_ok G)) (tt_or h1 h2)
theorem pdw_andG (h1 : PDT S Γ k1 a A1) (h2 : A1 true → PDW S Γ k2 (.BoolOp .And (b :: es) pos) B1) : PDW S Γ (k1 + k2) (.BoolOp .And (a :: b :: es) pos) (fun r => (r = false ∧ A1 false) ∨ (A1 true ∧ B1 r)) := pdw_of (fun X G => pw_and (tT_ok G) (tWt_ok G)) (tt_and h1 h2)
end
end DL

set_option Elab.async false
set_option linter.all false
set_option maxRecDepth 100000
set_option maxHeartbeats 4000000
namespace DL
open PySem PySem.Spec L2
section
variable {Γ : Ctxt} {k k1 k2 k3 : Nat} {ρ : Type} {te ta tb : TE} {tt : TT} {p : Po ρ} {R R1 : Sl → Prop}
theorem TX.le (h : TX te Γ k R) (l : k ≤ k2) : TX te Γ k2 R := fun O n σ Hf H hn S Q q => h O n σ Hf H (by omega) S Q fun v Hf' H' s r vo f st => q v Hf' H' s r vo f (st.le (by omega))
theorem hs_setX {i : Nat} (h : TX te Γ k R) (nb : NoBx Γ i) (u : ∀ s, R s → s ≠ .un) (hp : ∀ s, R s → p.N (Γ.set i s)) : HS (tAsg te (gName i)) Γ k p := fun O n σ Hf H hn S D q1 _ _ _ =>
  h O n σ Hf H hn S _ fun v Hf1 H1 s1 r1 v1 f1 S1 => q1 _ Hf1 H1 _ (hp s1 r1) ⟨S1.setX v1 (u s1 r1) (fun a e ho j' sl hj' ho' e' => S.noAd (own_fresh v1 e ho).1 j' sl hj' ho' e') (fun a z => S.fr.dom a z), bxKeep_set nb, f1.ex⟩
end
section
variable {S : Stc} {Γ : Ctxt} {k k1 k2 k3 kr : Nat} {ρ : Type} {p : Po ρ} {e a b d : Expr} {pos pos' : Pos} {rest : List Stmt} {s : Sl} {nm : Str}
theorem vo_back {Hf H Hf1 H1 Hf' H' : Hp} {M : Addr → Prop} {v : V} {x : Sl} (vo : VOk Hf' H' H1 v x) (f1 : Fr M Hf H Hf1 H1) : VOk Hf' H' H v x := by
  cases x with
  | un => trivial
  | d c x => exact vo
  | l c xs =>
    obtain ⟨a, vs, h1, h2, h3, h4, h5⟩ := vo
    exact ⟨a, vs, h1, h2, h3, f1.dom a h4, h5⟩
  | bx a => exact vo
  | r p =>
    obtain ⟨a, o, h1, h2, h3, h4, h5⟩ := vo
    exact ⟨a, o, h1, h2, h3, f1.dom a h4, h5⟩
theorem tx_of {te : TE} {R : Sl → Prop} (ht : ∀ X, Good S X → PE X e te) (h : TX te Γ k R) : TX (tE S e) Γ k R := fun O n σ Hf H hn s Q q => ⟨te, ht, h O n σ Hf H hn s Q q⟩
theorem txIf {b' : Bool} (h : PDT S Γ 0 d (· = b')) (ha : b' = true → TX (tE S a) Γ 0 (· = s)) (hb : b' = false → TX (tE S b) Γ 0 (· = s)) : TX (tE S (.IfExp d a b pos)) Γ 0 (· = s) :=
  tx_of (fun X G => pe_ifExp (tT_ok G) (tE_ok G) (tE_ok G)) fun O n σ Hf H hn st Q q => h O n σ Hf H hn st _ fun c Hf1 H1 pc f1 s1 => by
    subst pc
    cases c with
    | true =>
      rw [if_pos rfl]
      exact ha rfl O n σ Hf1 H1 hn s1 Q fun v Hf' H' x r vo f s' => q v Hf' H' x r (by subst r; exact vo_back vo f1) (f1.trans f fun _ z => .inl z) s'
    | false =>
      rw [if_neg Bool.false_ne_true]
      exact hb rfl O n σ Hf1 H1 hn s1 Q fun v Hf' H' x r vo f s' => q v Hf' H' x r (by subst r; exact vo_back vo f1) (f1.trans f fun _ z => .inl z) s'
theorem bsetX (i : Nat) (h : TX (tE S e) Γ k (· = s)) (nb : NoBx Γ i) (u : s ≠ .un) (hi : S.N[i]? = some nm) (hx : Loc S.sc nm) (hs : ∀ env : Env, env.scope = S.sc → swapsWith e (some (.Name nm pos')) pos.line env = pure false) (hf : S.fn nm = true ∨ S.sc.names.lookup nm = some .local) (hr : PHs S (Γ.set i s) k2 rest p) : PHs S Γ (k + k2) (.Assign [.Name nm pos'] e pos :: rest) p :=
  phs_cons (N1 := fun G => G = Γ.set i s) (ph_of (fun X G => ps_set (by rw [G.N]; exact G.nd) (by rw [G.N]; exact hi) (loc G hx) (tE_ok G) (hs _ G.sc) (fnOr G hf)) (hs_setX h nb (fun t e => e ▸ u) fun t e => by subst e; rfl)) fun Γ1 e => by subst e; exact hr
end
end DL

set_option Elab.async false
set_option linter.all false
set_option maxRecDepth 100000
set_option maxHeartbeats 4000000
namespace DL
open PySem PySem.Spec L2
/-! ### objects that no slot owns: frozen, changed, by hand -/
section
variable {O : Org} {Hf H H' : Hp} {σ : Stt} {Γ : Ctxt} {n : Nat} {a : Addr} {o : HO}
def NoOwn (Γ : Ctxt) : Prop := ∀ s ∈ Γ, s.own = false
theorem NoOwn.at (h : NoOwn Γ) {i : Nat} {s : Sl} (e : Γ[i]? = some s) : s.own = false := h s (List.mem_of_getElem? e)
theorem slOk_no {Hf H Hf' H' : Hp} {n : Nat} {ov : Option (Option V)} {s : Sl} (hs : s.own = false) (e : Ex Hf Hf') (h : SlOk Hf H n ov s) : SlOk Hf' H' n ov s := by
  cases s with
  | un => trivial
  | d c x => obtain ⟨v, h1, h2⟩ := h; exact ⟨v, h1, c.mono e h2⟩
  | l c xs => cases hs
  | bx a => cases hs
  | r p => cases hs
theorem Sat.reFr (S : Sat O Hf H σ Γ n) (no : NoOwn Γ) {Hf' : Hp} (ex : Ex Hf' H') (e : Ex Hf Hf') (fr : Fr O.M O.Hf O.H Hf' H') : Sat O Hf' H' σ Γ n :=
  ⟨S.len, ex, fun i s h => slOk_no (no.at h) e (S.at_ i s h), S.sep, fr, S.mine⟩
theorem Sat.fzRaw (S : Sat O Hf H σ Γ n) (no : NoOwn Γ) (h1 : Hf a = none) (h2 : H a = some o) (h3 : O.H a = none) : Sat O (upd Hf a o) H σ Γ n :=
  S.reFr no (S.ex.fix h2) (Ex.new h1) ⟨S.fr.ex.trans (Ex.new h1), S.fr.keep, fun b u e nm z => by rw [upd_ne (ne_of_none e h3)]; exact S.fr.fz b u e nm z, S.fr.dom⟩
theorem Sat.mutRaw (S : Sat O Hf H σ Γ n) (no : NoOwn Γ) (h1 : Hf a = none) (h3 : O.H a = none) : Sat O Hf (upd H a o) σ Γ n :=
  S.reFr no (S.ex.mut h1) Ex.rfl' ⟨S.fr.ex, fun b u e nm => by rw [upd_ne (ne_of_none e h3)]; exact S.fr.keep b u e nm, S.fr.fz, fun b e => by
    by_cases z : b = a
    · subst z; exact h3
    · rw [upd_ne z] at e; exact S.fr.dom b e⟩
theorem Sat.heap (S : Sat O Hf H σ Γ n) (no : NoOwn Γ) (k : Ex H H') (d : ∀ x, H' x = none → H x = none) : Sat O Hf H' σ Γ n :=
  S.reFr no (S.ex.trans k) Ex.rfl' ⟨S.fr.ex, fun b u e nm => k b u (S.fr.keep b u e nm), S.fr.fz, fun b e => S.fr.dom b (d b e)⟩
theorem NoOwn.bx (h : NoOwn Γ) (x : Addr) : ¬ Bx Γ x := fun ⟨i, e⟩ => by have := h.at e; cases this
theorem NoOwn.owns (h : NoOwn Γ) (x : Addr) : ¬ Owns σ Γ x := fun ⟨i, s, h1, h2, _⟩ => by rw [h.at h1] at h2; cases h2
theorem set_same {α : Type} : ∀ {l : List α} {i : Nat} {x : α}, l[i]? = some x → l.set i x = l
  | [], _, _, h => by simp at h
  | y :: l, 0, x, h => by simp at h; rw [h]; rfl
  | y :: l, i + 1, x, h => by
    show y :: l.set i x = y :: l
    rw [set_same (by simpa using h)]
theorem Sat.recode {α : Type} (S : Sat O Hf H σ Γ n) {i : Nat} {v : V} {c : Cod α} {x : α} (e : σ[i]? = some (some v)) (r : c.rep Hf v x) : Sat O Hf H σ (Γ.set i (.d c x)) n := by
  have := S.set (i := i) r
  rwa [set_same e] at this
end
end DL
namespace DL
open PySem PySem.Spec L2
theorem HS.run {ρ : Type} {ts : TS} {Γ : Ctxt} {p : Po ρ} {O : Org} {n : Nat} {σ : Stt} {Hf H : Hp} {D : Ends} (h : HS ts Γ 0 p) (S : Sat O Hf H σ Γ n) (hn : n + 0 ≤ LIM) (q1 : ∀ σ' Hf' H' Γ', p.N Γ' → Fin O Γ Hf Hf' H' σ' Γ' (n + 0) → D.nx σ' H') (q2 : ∀ σ' Hf' H' Γ', p.bk Γ' → Fin O Γ Hf Hf' H' σ' Γ' (n + 0) → D.bk σ' H')
    (q3 : ∀ σ' Hf' H' Γ', p.ct Γ' → Fin O Γ Hf Hf' H' σ' Γ' (n + 0) → D.ct σ' H') (q4 : ∀ v σ' Hf' H' Γ' x, p.R x → p.c.rep Hf' v x → Fin O Γ Hf Hf' H' σ' Γ' (n + 0) → D.rt v H') : ts D σ H := h O n σ Hf H hn S D q1 q2 q3 q4
theorem TDT.run {tt : TT} {Γ : Ctxt} {P : Bool → Prop} {O : Org} {n : Nat} {σ : Stt} {Hf H : Hp} {Q : Bool → Hp → Prop} (h : TDT tt Γ 0 P) (S : Sat O Hf H σ Γ n) (hn : n + 0 ≤ LIM) (q : ∀ b Hf' H', P b → Fr (Bx Γ) Hf H Hf' H' → Sat O Hf' H' σ Γ (n + 0) → Q b H') : tt σ H Q := h O n σ Hf H hn S Q q
end DL

set_option Elab.async false
set_option linter.all false
set_option maxRecDepth 100000
set_option maxHeartbeats 2000000
namespace DL
open PySem PySem.Spec L2
/-! ### a list or a tuple of the heap or of K (a default) -/
theorem Rd.ex {Hf H : Hp} {a : Addr} {u : HO} (e : Ex Hf H) (h : Rd Hf a u) : Rd H a u := by
  rcases h with h | ⟨o, h⟩
  · exact .inl (e _ _ h)
  · exact .inr ⟨o, e _ _ h⟩
theorem SqL.ex {K : PySem.W.Frag} {Hf H : Hp} {a : Addr} {vs : List V} (e : Ex Hf H) (h : SqL K Hf a vs) : SqL K H a vs := by
  rcases h with h | h
  · exact .inl (DL.Rd.ex e h)
  · exact .inr h
theorem SqT.ex {K : PySem.W.Frag} {Hf H : Hp} {a : Addr} {vs : List V} (e : Ex Hf H) (h : SqT K Hf a vs) : SqT K H a vs := by
  rcases h with h | h
  · exact .inl (DL.Rd.ex e h)
  · exact .inr h
def cSq {α : Type} (K : PySem.W.Frag) (c : Cod α) : Cod (List α) := ⟨fun H v xs => ∃ a vs, v = .ref a ∧ (SqL K H a vs ∨ SqT K H a vs) ∧ Paired (c.rep H) vs xs ∧ vs.length ≤ LB,
  fun e ⟨a, vs, h1, h2, h3, h4⟩ => ⟨a, vs, h1, h2.imp (DL.SqL.ex e) (DL.SqT.ex e), paired_mono h3 (fun _ _ z => c.mono e z), h4⟩⟩
section
variable {S : Stc} {X : Cx}
variable {Γ Γ1 Γ2 Γ3 : Ctxt} {k k1 k2 k3 kk kt ke : Nat} {A α β γ ρ : Type} {c : Cod α} {te to ti : TE} {e a b d o : Expr} {es : List Expr} {pos pos' pn pt : Pos} {K : PySem.W.Frag} {w : World} {ns : List Int}
variable {x : α} {y : β} {z : γ} {xs : List α}
theorem TD.sq {xs : List α → Prop} (h : TD te Γ k (cSeq c) xs) : TD te Γ k (cSq K c) xs := h.conv fun H v x px r => ⟨x, px, sq_seq (fun _ _ z => z) r⟩
theorem sq_sq {Hf H : Hp} {v : V} {xs : List α} (e : Ex Hf H) (h : (cSq K c).rep Hf v xs) : ∃ a vs, v = .ref a ∧ (SqL K H a vs ∨ SqT K H a vs) ∧ Paired (c.rep Hf) vs xs ∧ vs.length ≤ LB := by
  obtain ⟨a, vs, h1, h2, h3, h4⟩ := h
  exact ⟨a, vs, h1, h2.imp (DL.SqL.ex e) (DL.SqT.ex e), h3, h4⟩
theorem rc_listK {xs : List α} : RC1F (rListR K) (cSq K c) xs c (· = xs) := fun Hf H v e h Q q => by
  obtain ⟨a, vs, h1, h2, h3, h4⟩ := sq_sq e h
  exact ⟨a, vs, by rw [h1], h2, fun l hl => q l vs xs rfl hl h3 h4⟩
theorem plistK (hg : S.sc.names.lookup ("list" : Str) = some .globalImplicit) (hm : S.mg "list" = none) (h : PD S Γ 0 e (cSq S.K c) (· = xs)) (he : ∀ env : Env, starEach [e] env = (false, eval e env) :: starEach [] env) : PDF S Γ 0 (.Call (.Name "list" pn) [e] [] pos) c (· = xs) := pfy1 listG hg hm PyProof.Rows.boot_list h rc_listK he
theorem rc_setIK (hn : ns.length ≤ 1000) : RC1 (rSetI K w) (cSq K cInt) ns (cSet w) (· = asc ns) := fun Hf H v e h Q q => by
  obtain ⟨a, vs, h1, h2, h3, h4⟩ := sq_sq (K := K) e h
  have := ints_of_paired h3
  subst this
  refine ⟨a, ns, by rw [h1], h2, hn, fun l S hS hl => ?_⟩
  exact q (asc ns) (upd Hf l (SetO w l S (asc ns).length)) _ _ rfl ⟨l, S, rfl, upd_same, hS, asc_up ns, Nat.le_trans (asc_len ns) hn⟩ (Fr.new e hl) (e.both (e.back hl))
theorem psetK (hg : S.sc.names.lookup ("set" : Str) = some .globalImplicit) (hm : S.mg "set" = none) (h : PD S Γ 0 e (cSq S.K cInt) (· = ns)) (hn : ns.length ≤ 1000) (he : ∀ env : Env, starEach [e] env = (false, eval e env) :: starEach [] env) : PD S Γ 0 (.Call (.Name "set" pn) [e] [] pos) (cSet S.w) (· = asc ns) :=
  py1 setIG hg hm PyProof.Rows.boot_set h (rc_setIK hn) he
theorem sq_ty {H : Hp} {v : V} {xs : List α} (h : (cSq K c).rep H v xs) : ∃ ty, TyX K H v ty ∧ PySem.W.kitAny K ty [.type "list", .type "tuple"] = some true := by
  obtain ⟨a, vs, rfl, h2, _, _⟩ := h
  rcases h2 with h2 | h2
  · rcases h2 with (h2 | ⟨o, h2⟩) | ⟨o, its, n, h2, hc, _⟩
    · exact ⟨_, .base (.lst h2), kLT_list⟩
    · exact ⟨_, .base (.frz h2), kLT_list⟩
    · exact ⟨_, .kList h2 hc, kLT_list⟩
  · rcases h2 with (h2 | ⟨o, h2⟩) | ⟨o, its, n, h2, hc, _⟩
    · exact ⟨_, .base (.tup h2), kLT_tuple⟩
    · exact ⟨_, .fTuple h2, kLT_tuple⟩
    · exact ⟨_, .kTuple h2 hc, kLT_tuple⟩
theorem pisiLTK {p1 p2 p3 p4 : Pos} {kx : Nat} (hg : S.sc.names.lookup ("isinstance" : Str) = some .globalImplicit) (hm : S.mg "isinstance" = none) (hgl : S.sc.names.lookup ("list" : Str) = some .globalImplicit) (hml : S.mg "list" = none) (hgt : S.sc.names.lookup ("tuple" : Str) = some .globalImplicit) (hmt : S.mg "tuple" = none)
    (h : PD S Γ 0 e (cSq S.K c) (· = xs))
    (he : ∀ env : Env, starEach [e, .Tuple [.Name "list" p2, .Name "tuple" p3] kx p4] env = (false, eval e env) :: starEach [.Tuple [.Name "list" p2, .Name "tuple" p3] kx p4] env) :
    PD S Γ 0 (.Call (.Name "isinstance" p1) [e, .Tuple [.Name "list" p2, .Name "tuple" p3] kx p4] [] pos) cBool (· = true) :=
  pd_of (te := tCB (rIsiT S.K) (tCons (tE S e) (tCons (tTup (tCons (tC (.ty "list")) (tCons (tC (.ty "tuple")) tNil))) tNil))) (fun X G => by
    rw [← G.K]
    exact pe_callB call_isiT (glb G hg) (by rw [G.mg]; exact hm) (by decide +kernel) (pa_cons (tE_ok G) (pa_cons (pe_tup (pa_cons (nmTy hgl hml PyProof.Rows.boot_list (by decide) (by decide) X G) (pa_cons (nmTy hgt hmt PyProof.Rows.boot_tuple (by decide) (by decide) X G) pa_nil))) pa_nil) (he _)) (by decide) (by decide) (he _) rfl)
    fun O n σ Hf H hn s Q q => h O n σ Hf H hn s _ fun v Hf' H' y py r' f s' => by
      subst py
      refine ⟨by show 2 ≤ sizeLine; decide, fun tp htp => ?_⟩
      have r2 : (cSq S.K c).rep (upd H' tp (.tup [.ty "list", .ty "tuple"])) v y := (cSq S.K c).mono (s'.ex.trans (Ex.new htp)) r'
      obtain ⟨ty, ht, hk⟩ := sq_ty r2
      refine ⟨v, tp, [.ty "list", .ty "tuple"], ty, [.type "list", .type "tuple"], true, rfl, upd_same, .cons (.ty _) (.cons (.ty _) .nil), ht, hk, ?_⟩
      exact q _ (upd Hf' tp (.tup [.ty "list", .ty "tuple"])) _ true rfl rfl (f.trans (Fr.new (M := Bx Γ) s'.ex htp) fun _ z => .inl z) (s'.new htp)
theorem rd_inK {neg : Bool} {x : Int} {xs : List Int} : RD (rIn K neg) cInt x (cSq K cInt) xs cBool (· = if neg then !decide (x ∈ xs) else decide (x ∈ xs)) := fun Hf H v u e h1 h Q k => by
  obtain ⟨a, vs, h2, h3, h4, _⟩ := sq_sq e h
  obtain rfl := h1
  have := ints_of_paired h4
  subst this
  refine ⟨a, xs.map V.int, h2, h3, rfl, flat_ints xs, ?_⟩
  rw [inV_ints]
  exact k _ Hf H _ rfl rfl Fr.refl e
/-- walks over either -/
theorem pdi_sq {tg : Expr} {R : List α → Prop} (h : PD S Γ k e (cSq S.K c) R) : PDI S Γ k tg e c R := fun O n σ Hf H hn s Rr q => by
  obtain hh := h O n σ Hf H hn s
  refine ⟨fun σ H R => tE S e σ H fun v H1 => ∃ a, v = .ref a ∧ ((∃ vs, SqL S.K H1 a vs) ∧ R (Itl S.K a) H1 ∨ (∃ vs, SqT S.K H1 a vs) ∧ R (Itt S.K a) H1), fun X G => ?_, ?_⟩
  · refine ⟨fun pins s σ H R I w => ?_⟩
    refine thn ((tE_ok G).run pins s σ H _ I w) fun v s1 ⟨x, H1, I1, r1, a, ex, q1⟩ => ?_
    subst ex
    have hK := G.K
    rcases q1 with ⟨⟨vs, hs⟩, q1⟩ | ⟨⟨vs, hs⟩, q1⟩
    · cases r1
      rw [← hK] at hs q1
      obtain ⟨its, rv, p, hz⟩ := I1.list hs
      refine wpAny_pyIter_list p.isList ?_
      refine ⟨s1.heap.objs.size, [s1.heap.objs.size], _, _, H1, rfl, I1.kept (t' := s1.toks) fun b o e => Heap.get?_push_of_some _ e, turn_list a _, ⟨_, Heap.get?_push_size _ rfl, rfl, rfl⟩, fun b hb => ?_, q1⟩
      have e : b = s1.heap.objs.size := by simpa using hb
      subst e
      exact I1.fpOk (Nat.le_refl _) (I1.hok.fresh (Nat.le_refl _))
    · cases r1
      rw [← hK] at hs q1
      obtain ⟨its, rv, p, hz⟩ := I1.tuple hs
      refine wpAny_pyIter_tuple (show s1.heap.IsTuple a its.toArray from p) ?_
      refine ⟨s1.heap.objs.size, [s1.heap.objs.size], _, _, H1, rfl, I1.kept (t' := s1.toks) fun b o e => Heap.get?_push_of_some _ e, turn_tuple a _, ⟨_, Heap.get?_push_size _ rfl, rfl, rfl⟩, fun b hb => ?_, q1⟩
      have e : b = s1.heap.objs.size := by simpa using hb
      subst e
      exact I1.fpOk (Nat.le_refl _) (I1.hok.fresh (Nat.le_refl _))
  · refine hh _ fun v Hf' H' xs px r f s' => ?_
    obtain ⟨a, vs, h1, h2, h3, h4⟩ := r
    have hl := paired_len h3
    rcases h2 with h2 | h2
    · refine ⟨a, h1, .inl ⟨⟨vs, DL.SqL.ex s'.ex h2⟩, q _ Hf' H' xs px ?_ (by rw [← paired_len h3]; exact h4) f s'⟩⟩
      exact ⟨fun Hf2 H2 i e1 e2 hi => ⟨vs, vs[i]'(by omega), DL.SqL.ex e2 (DL.SqL.ex e1 h2), List.getElem?_eq_getElem (by omega)⟩, fun Hf2 H2 e1 e2 => ⟨vs, DL.SqL.ex e2 (DL.SqL.ex e1 h2), by omega⟩, fun Hf2 H2 i w H1 x e1 e2 hy hx => by
        obtain ⟨rfl, hy⟩ := hy
        exact ⟨Hf2, c.mono e1 (paired_get h3 (hy vs (DL.SqL.ex e2 (DL.SqL.ex e1 h2))) hx), Fr.refl, e2⟩⟩
    · refine ⟨a, h1, .inr ⟨⟨vs, DL.SqT.ex s'.ex h2⟩, q _ Hf' H' xs px ?_ (by rw [← paired_len h3]; exact h4) f s'⟩⟩
      exact ⟨fun Hf2 H2 i e1 e2 hi => ⟨vs, vs[i]'(by omega), DL.SqT.ex e2 (DL.SqT.ex e1 h2), List.getElem?_eq_getElem (by omega)⟩, fun Hf2 H2 e1 e2 => ⟨vs, DL.SqT.ex e2 (DL.SqT.ex e1 h2), by omega⟩, fun Hf2 H2 i w H1 x e1 e2 hy hx => by
        obtain ⟨rfl, hy⟩ := hy
        exact ⟨Hf2, c.mono e1 (paired_get h3 (hy vs (DL.SqT.ex e2 (DL.SqT.ex e1 h2))) hx), Fr.refl, e2⟩⟩
end
/-! ### a def with keyword-only parameters, its names given from outside -/
structure DefK (K : PySem.W.Frag) (mg : Str → Option Value) (x : Str) (st : Stmt) (kws : List (Str × V)) : Prop where
  ex : ∃ f fd, FunD K x x (defArgs st) (defBody st) (defScope st) [] kws f fd ∧ mg x = some (.ref f)
section
variable {A ρ : Type} {cr : Cod ρ}
theorem fn_DK {P : Program} {w : World} {K : PySem.W.Frag} {mg : Str → Option Value} {base : Heap} {x qual : Str} {st : Stmt} {kws : List (Str × V)} {f : Addr} {fd : FuncData} {N pn : List Str} {lv : Nat} {ps : Addr → A → Ctxt} {kf : A → Nat} {pre : A → Prop} {PR : A → ρ → Prop} (F : FunD K x qual (defArgs st) (defBody st) (defScope st) [] kws f fd) (Sc : FnScope N pn (defScope st))
    (hl : ∀ b a, (ps b a).length = pn.length) (hN : pn.length ≤ N.length) (one : ∀ b a, OneB (ps b a))
    (body : ∀ b a, pre a → PHs ⟨N, defScope st, K, mg, P, w, base, lv, fun _ => true, false⟩ (entry N (ps b a)) (kf a) (defBody st) { N := fun _ => False, bk := fun _ => False, ct := fun _ => False, c := cr, R := PR a }) :
    FnOk P w K mg base CX0 (lv + 1) f fd pn (spD ps kf pre cr PR) := by
  refine F.ok Sc (fun vs H Q E h => ?_) (fun cdv A outer s H vs Q E hr h => ?_)
  · obtain ⟨a, b, n, Hf, _, _, _, o, _⟩ := h
    rw [argsOk_len o]; exact hl b a
  · obtain ⟨a, b, n, Hf, hp, hn, ex, o, bx, q⟩ := h
    refine ⟨tSs ⟨N, defScope st, K, mg, P, w, base, lv, fun _ => true, false⟩ (defBody st), (tSs_ok (cxG hr Sc.nd)).nox, ?_⟩
    exact body_ok (by rw [hl]; exact hN) (one b a) hn ex o bx q (body b a hp)
end
end DL

set_option Elab.async false
set_option linter.all false
set_option maxRecDepth 100000
set_option maxHeartbeats 2000000
namespace DL
open PySem PySem.Spec L2
/-! ### calls of a def of two parameters and a keyword-only one -/
structure CalK (P : Program) (w : World) (K : PySem.W.Frag) (mg : Str → Option Value) (base : Heap) (x : Str) (st : Stmt) (p1 p2 p3 : Str) (dv : V) (lv : Nat) (sp : Sp) : Prop where
  ex : ∃ f fd, FunD K x x (defArgs st) (defBody st) (defScope st) [] [(p3, dv)] f fd ∧ FnOk P w K mg base CX0 lv f fd [p1, p2, p3] sp ∧ mg x = some (.ref f)
/-- how the three forms bind -/
structure KwB (x : Str) (st : Stmt) (p1 p2 p3 : Str) : Prop where
  d : ∀ (D : Addr) (doc pm : Value) (an : Option Addr) (cdv ct u1 u2 u3 : Value), KwChain D [(p3, u3)] (bindArgs (PySem.W.fnOf x x (defArgs st) (defBody st) (defScope st) .none (.ref D) doc pm an cdv ct) ⟨[u1, u2], []⟩) ([p1, p2, p3].zip [u1, u2, u3])
  n : ∀ (D : Addr) (doc pm : Value) (an : Option Addr) (cdv ct u1 u2 u3 : Value), KwChain D [(p3, u3)] (bindArgs (PySem.W.fnOf x x (defArgs st) (defBody st) (defScope st) .none (.ref D) doc pm an cdv ct) ⟨[], [p1, p2].zip [u1, u2]⟩) ([p1, p2, p3].zip [u1, u2, u3])
  k : ∀ (D : Addr) (doc pm : Value) (an : Option Addr) (cdv ct u1 u2 u3 : Value), KwChain D [] (bindArgs (PySem.W.fnOf x x (defArgs st) (defBody st) (defScope st) .none (.ref D) doc pm an cdv ct) ⟨[u1, u2], [p3].zip [u3]⟩) ([p1, p2, p3].zip [u1, u2, u3])
def tCallN0 (m : Nat) (sp : Sp) (gV : List V → List V → List V) (E : XK) (tk : TA) : TE := fun σ H Q => tk σ H fun zs H2 => zs.length = m ∧ sp (gV [] zs) H2 Q E
theorem pe_callN0 {X : Cx} {CX : CXT} {k : Nat} {f : Addr} {fd : FuncData} {ps ks : List Str} {sp : Sp} {E : XK} {x : Str} {p pos : Pos} {kws : List Keyword} {tk : TA} {g : List Value → List Value → List Value} {gV : List V → List V → List V}
    (F : FnOk X.prog X.w X.K X.mg X.base CX k f fd ps sp) (hr : Room k X.A) (hg : Gl X x) (hm : X.mg x = some (.ref f)) (hk : PySem.W.keepIn X.K (.ref f) = true) (hb : KBn X.K fd ps 0 ks g gV) (hx : Passes CX X E)
    (hkw : PK X kws tk) (hall : (backToKw pos (keywordEach kws X.env)).all (·.1.isSome) = true) (hks : (backToKw pos (keywordEach kws X.env)).filterMap (·.1) = ks)
    (hdb : (x == ("__debug__" : Str)) = false)
    (hpl : ((backTo pos (starEach [] X.env)).any (·.1) || (backToKw pos (keywordEach kws X.env)).any (·.1.isNone)) = false) :
    PE X (.Call (.Name x p) [] kws pos) (tCallN0 ks.length sp gV E tk) := by
  refine ⟨fun pins s σ H Q I h => ?_⟩
  refine wpAny_Call_Name_kw (ld_glob I hg hm ?_ hdb)
  refine PySem.W.callWith_KW0 (h₀ := X.base) I.ok.mod.kin hk hall ?_ hpl
  refine thn (hkw.run pos pins s σ H _ I h) fun ws s2 ⟨zs, H2, I2, rz, l2, q2⟩ => ⟨I2.kIn, ?_⟩
  rw [hks]
  exact run_fnN (us := []) (vs := []) F hr hb hx I2 .nil rz rfl l2 q2
section
variable {S : Stc} {Γ : Ctxt} {α β γ ρ : Type} {c1 : Cod α} {c2 : Cod β} {c3 : Cod γ} {cr : Cod ρ} {x : α} {y : β} {z : γ} {pre : α × β × γ → Prop} {g : α × β × γ → ρ} {e1 e2 e3 : Expr} {pos pn k1 k2 : Pos} {xn p1 p2 p3 : Str} {st : Stmt} {dv : V} {lv : Nat} {t1 t2 t3 : TE} {E : XK}
abbrev sp3 (c1 : Cod α) (c2 : Cod β) (c3 : Cod γ) (pre : α × β × γ → Prop) (cr : Cod ρ) (g : α × β × γ → ρ) : Sp := spP (fun (a : α × β × γ) => [.d c1 a.1, .d c2 a.2.1, .d c3 a.2.2]) pre cr g
theorem sp3_of {O : Org} {n : Nat} {σ : Stt} {Hf H Hf1 H1 : Hp} {Q : V → Hp → Prop} {v1 v2 v3 : V} (hp : pre (x, y, z)) (hn : n + 0 ≤ LIM) (r1 : c1.rep Hf1 v1 x) (r2 : c2.rep Hf1 v2 y) (r3 : c3.rep Hf1 v3 z) (f : Fr (Bx Γ) Hf H Hf1 H1) (s : Sat O Hf1 H1 σ Γ (n + 0))
    (q : ∀ v Hf' H' w, w = g (x, y, z) → cr.rep Hf' v w → Fr (Bx Γ) Hf H Hf' H' → Sat O Hf' H' σ Γ (n + 0) → Q v H') : sp3 c1 c2 c3 pre cr g [v1, v2, v3] H1 Q E := by
  refine ⟨(x, y, z), 0, n, Hf1, hp, hn, s.ex, ⟨r1, r2, r3, trivial⟩, fun w hw => by simp at hw, fun w Hf3 H3 u px r f3 ex3 _ => ?_⟩
  have f3' : Fr (fun _ => False) Hf1 H1 Hf3 H3 := f3.mono fun w hw => by simp at hw
  exact q w Hf3 H3 u px r (f.trans f3' fun _ z => z.elim) (s.grow0 f3' ex3)
/-- f(e1, e2): the keyword-only one lacks -/
theorem pck0 (C : CalK S.prog S.w S.K S.mg S.base xn st p1 p2 p3 dv lv (sp3 c1 c2 c3 pre cr g)) (B : KwB xn st p1 p2 p3) (hl : lv ≤ S.lv) (hg : S.sc.names.lookup xn = some .globalImplicit) (h1 : PD S Γ 0 e1 c1 (· = x)) (h2 : PD S Γ 0 e2 c2 (· = y)) (hz : ∀ H, c3.rep H dv z) (hp : pre (x, y, z))
    (hs1 : ∀ env : Env, starEach [e1, e2] env = (false, eval e1 env) :: starEach [e2] env) (hs2 : ∀ env : Env, starEach [e2] env = (false, eval e2 env) :: starEach [] env) (hpl : ∀ env : Env, (backTo pos (starEach [e2] env)).any (·.1) = false) (hdb : (xn == ("__debug__" : Str)) = false := by decide) :
    PD S Γ 0 (.Call (.Name xn pn) [e1, e2] [] pos) cr (· = g (x, y, z)) := by
  obtain ⟨f, fd, F, Fo, hm⟩ := C.ex
  obtain ⟨ds, vd, bd⟩ := F.binds0 2 (by simp) rfl fun D doc pm an cdv ct us ks l1 l2 => match us, ks, l1, l2 with
    | [u1, u2], [u3], _, _ => B.d D doc pm an cdv ct u1 u2 u3
  exact pd_of (te := tCall (sp3 c1 c2 c3 pre cr g) [dv] E0 (tCons (tE S e1) (tCons (tE S e2) tNil))) (fun X G => pe_call (fnG Fo G) (G.room.mono hl) (glb G hg) (by rw [G.mg]; exact hm) (by rw [G.K]; exact F.kp) (by rw [G.K]; exact bd) vd pass0 (pa_cons (tE_ok G) (pa_cons (tE_ok G) pa_nil (hs2 _)) (hs1 _)) hdb (hs1 _) (hpl _))
    fun O n σ Hf H hn s Q q => h1 O n σ Hf H hn s _ fun v1 Hf1 H1 x' px r1 f1 s1 => by
      subst px
      refine h2 O n σ Hf1 H1 hn s1 _ fun v2 Hf2 H2 y' py r2 f2 s2 => ?_
      subst py
      exact sp3_of (E := E0) hp hn (c1.mono f2.ex r1) r2 (hz _) (f1.trans f2 fun _ z => .inl z) s2 q
/-- f(p1 = e1, p2 = e2) -/
theorem pckN (C : CalK S.prog S.w S.K S.mg S.base xn st p1 p2 p3 dv lv (sp3 c1 c2 c3 pre cr g)) (B : KwB xn st p1 p2 p3) (hl : lv ≤ S.lv) (hg : S.sc.names.lookup xn = some .globalImplicit) (h1 : PD S Γ 0 e1 c1 (· = x)) (h2 : PD S Γ 0 e2 c2 (· = y)) (hz : ∀ H, c3.rep H dv z) (hp : pre (x, y, z))
    (hall : ∀ env : Env, (backToKw pos (keywordEach [⟨some p1, e1, k1⟩, ⟨some p2, e2, k2⟩] env)).all (·.1.isSome) = true) (hks : ∀ env : Env, (backToKw pos (keywordEach [⟨some p1, e1, k1⟩, ⟨some p2, e2, k2⟩] env)).filterMap (·.1) = [p1, p2])
    (hpl : ∀ env : Env, ((backTo pos (starEach [] env)).any (·.1) || (backToKw pos (keywordEach [⟨some p1, e1, k1⟩, ⟨some p2, e2, k2⟩] env)).any (·.1.isNone)) = false) (hdb : (xn == ("__debug__" : Str)) = false := by decide) :
    PD S Γ 0 (.Call (.Name xn pn) [] [⟨some p1, e1, k1⟩, ⟨some p2, e2, k2⟩] pos) cr (· = g (x, y, z)) := by
  obtain ⟨f, fd, F, Fo, hm⟩ := C.ex
  obtain ⟨mv, bd⟩ := F.kbinds0 0 [p1, p2] [(p3, dv)] (fun us mv ws => us ++ (ws ++ mv)) (by simp) (fun q h => h) (fun r1 r2 r3 => r1.append (r3.append r2)) fun D doc pm an cdv ct us mv ws l1 l2 l3 => match us, mv, ws, l1, l2, l3 with
    | [], [u3], [u1, u2], _, _, _ => B.n D doc pm an cdv ct u1 u2 u3
  exact pd_of (te := tCallN0 2 (sp3 c1 c2 c3 pre cr g) _ E0 (tCons (tE S e1) (tCons (tE S e2) tNil))) (fun X G => pe_callN0 (fnG Fo G) (G.room.mono hl) (glb G hg) (by rw [G.mg]; exact hm) (by rw [G.K]; exact F.kp) (by rw [G.K]; exact bd) pass0 (pk_cons (tE_ok G) (pk_cons (tE_ok G) pk_nil)) (hall _) (hks _) hdb (hpl _))
    fun O n σ Hf H hn s Q q => h1 O n σ Hf H hn s _ fun v1 Hf1 H1 x' px r1 f1 s1 => by
      subst px
      refine h2 O n σ Hf1 H1 hn s1 _ fun v2 Hf2 H2 y' py r2 f2 s2 => ?_
      subst py
      exact ⟨rfl, sp3_of (E := E0) hp hn (c1.mono f2.ex r1) r2 (hz _) (f1.trans f2 fun _ z => .inl z) s2 q⟩
/-- f(e1, e2, p3 = e3) -/
theorem pckK (C : CalK S.prog S.w S.K S.mg S.base xn st p1 p2 p3 dv lv (sp3 c1 c2 c3 pre cr g)) (B : KwB xn st p1 p2 p3) (hl : lv ≤ S.lv) (hg : S.sc.names.lookup xn = some .globalImplicit) (h1 : PD S Γ 0 e1 c1 (· = x)) (h2 : PD S Γ 0 e2 c2 (· = y)) (h3 : PD S Γ 0 e3 c3 (· = z)) (hp : pre (x, y, z))
    (hs1 : ∀ env : Env, starEach [e1, e2] env = (false, eval e1 env) :: starEach [e2] env) (hs2 : ∀ env : Env, starEach [e2] env = (false, eval e2 env) :: starEach [] env)
    (hall : ∀ env : Env, (backToKw pos (keywordEach [⟨some p3, e3, k1⟩] env)).all (·.1.isSome) = true) (hks : ∀ env : Env, (backToKw pos (keywordEach [⟨some p3, e3, k1⟩] env)).filterMap (·.1) = [p3])
    (hpl : ∀ env : Env, ((backTo pos (starEach [e1, e2] env)).any (·.1) || (backToKw pos (keywordEach [⟨some p3, e3, k1⟩] env)).any (·.1.isNone)) = false) (hdb : (xn == ("__debug__" : Str)) = false := by decide) :
    PD S Γ 0 (.Call (.Name xn pn) [e1, e2] [⟨some p3, e3, k1⟩] pos) cr (· = g (x, y, z)) := by
  obtain ⟨f, fd, F, Fo, hm⟩ := C.ex
  obtain ⟨mv, bd⟩ := F.kbinds0 2 [p3] [] (fun us mv ws => us ++ (ws ++ mv)) (by simp) (fun q h => nomatch h) (fun r1 r2 r3 => r1.append (r3.append r2)) fun D doc pm an cdv ct us mv ws l1 l2 l3 => match us, mv, ws, l1, l2, l3 with
    | [u1, u2], [], [u3], _, _, _ => B.k D doc pm an cdv ct u1 u2 u3
  exact pd_of (te := tCallN 2 1 (sp3 c1 c2 c3 pre cr g) _ E0 (tCons (tE S e1) (tCons (tE S e2) tNil)) (tCons (tE S e3) tNil)) (fun X G => pe_callN (fnG Fo G) (G.room.mono hl) (glb G hg) (by rw [G.mg]; exact hm) (by rw [G.K]; exact F.kp) (by rw [G.K]; exact bd) pass0 (pa_cons (tE_ok G) (pa_cons (tE_ok G) pa_nil (hs2 _)) (hs1 _)) (pk_cons (tE_ok G) pk_nil) (hall _) (hks _) hdb (hs1 _) (hpl _))
    fun O n σ Hf H hn s Q q => h1 O n σ Hf H hn s _ fun v1 Hf1 H1 x' px r1 f1 s1 => by
      subst px
      refine h2 O n σ Hf1 H1 hn s1 _ fun v2 Hf2 H2 y' py r2 f2 s2 => ?_
      subst py
      refine h3 O n σ Hf2 H2 hn s2 _ fun v3 Hf3 H3 z' pz r3 f3 s3 => ?_
      subst pz
      exact ⟨rfl, rfl, sp3_of (E := E0) hp hn (c1.mono (f2.ex.trans f3.ex) r1) (c2.mono f3.ex r2) r3 ((f1.trans f2 fun _ z => .inl z).trans f3 fun _ z => .inl z) s3 q⟩
end
end DL

set_option Elab.async false
set_option linter.all false
set_option maxRecDepth 100000
set_option maxHeartbeats 2000000
/-! ### results that nobody else has -/
namespace DL
open PySem PySem.Spec L2
theorem execs_app (l1 l2 : List Stmt) (env : Env) : execs (l1 ++ l2) env = (execs l1 env >>= fun f => match f with
    | .next => execs l2 env
    | f => pure f) := by
  induction l1 with
  | nil => simp [execs]
  | cons st l ih =>
    simp only [List.cons_append, execs, bind_assoc]
    congr 1
    funext f
    cases f <;> simp [ih]
theorem pss_app {X : Cx} {l1 l2 : List Stmt} {t u : TS} (h1 : PSs X l1 t) (h2 : PSs X l2 u) : PSs X (l1 ++ l2) (tSeq t u) := by
  refine ⟨fun pins s σ H D I h => ?_⟩
  rw [execs_app]
  refine wpAny_bind (thn (h1.run pins s σ H { D with nx := u D } I h) fun f s1 q => ?_)
  cases f with
  | next =>
    obtain ⟨σ', H', I', q⟩ := q
    exact h2.run pins s1 σ' H' D I' q
  | ret v => exact wpAny_pure q
  | brk => exact wpAny_pure q
  | cont => exact wpAny_pure q
def HSF {α : Type} (ts : TS) (Γ : Ctxt) (k : Nat) (c : Cod α) (R : List α → Prop) : Prop :=
  ∀ (O : Org) (n : Nat) (σ : Stt) (Hf H : Hp), n + k ≤ LIM → Sat O Hf H σ Γ n → ∀ D : Ends,
    (∀ a vs σ' Hf' H' Γ' xs, R xs → H' a = some (.lst vs) → Hf' a = none → (O.M a ∨ O.H a = none) → ¬ Bx Γ a → Paired (c.rep Hf') vs xs → vs.length ≤ LB → Fin O Γ Hf Hf' H' σ' Γ' (n + k) → D.rt (.ref a) H') → ts D σ H
/-- a promise of a new list -/
def spF {A α : Type} (ps : Addr → A → Ctxt) (kf : A → Nat) (pre : A → Prop) (c : Cod α) (P : A → List α → Prop) : Sp := fun vs H Q _ =>
  ∃ (a : A) (b : Addr) (n : Nat) (Hf : Hp), pre a ∧ n + kf a ≤ LIM ∧ Ex Hf H ∧ ArgsOk Hf vs (ps b a) ∧ (∀ z, Sl.bx z ∈ ps b a → Hf z = none ∧ BoxAt H z n) ∧
    ∀ r ws Hf' H' xs, P a xs → H' r = some (.lst ws) → Hf' r = none → H r = none → Paired (c.rep Hf') ws xs → ws.length ≤ LB → Fr (fun z => Sl.bx z ∈ ps b a) Hf H Hf' H' → Ex Hf' H' →
      (∀ z, Sl.bx z ∈ ps b a → Hf' z = none ∧ BoxAt H' z (n + kf a)) → Q (.ref r) H'
abbrev PHFs {α : Type} (S : Stc) (Γ : Ctxt) (k : Nat) (st : List Stmt) (c : Cod α) (R : List α → Prop) : Prop := HSF (tSs S st) Γ k c R
section
variable {O : Org} {Hf H Hf' H' : Hp} {σ : Stt} {n m : Nat} {Γ Γ1 : Ctxt} {k k1 k2 k3 : Nat} {A α β γ ρ ω : Type} {c : Cod α} {te to ti : TE} {tt : TT} {t u : TS} {ta : TA} {R R' : List α → Prop} {p : Po ρ} {N1 : Ctxt → Prop}
variable {ps : Addr → A → Ctxt} {kf : A → Nat} {pre : A → Prop} {PR : A → List α → Prop}
theorem HSF.imp (h : HSF t Γ k c R) (hp : ∀ x, R x → R' x) : HSF t Γ k c R' := fun O n σ Hf H hn S D q => h O n σ Hf H hn S D fun a vs σ' Hf' H' Γ' xs r => q a vs σ' Hf' H' Γ' xs (hp xs r)
theorem HSF.le (h : HSF t Γ k c R) (l : k ≤ k2) : HSF t Γ k2 c R := fun O n σ Hf H hn S D q => h O n σ Hf H (by omega) S D fun a vs σ' Hf' H' Γ' xs r h1 h2 h3 h4 h5 h6 f => q a vs σ' Hf' H' Γ' xs r h1 h2 h3 h4 h5 h6 (f.le (by omega))
theorem hsf_ret (h : TDF te Γ k c R) : HSF (tRet te) Γ k c R := fun O n σ Hf H hn S D q => h O n σ Hf H hn S _ fun a vs Hf' H' xs r h1 h2 h3 h4 h5 f s =>
  q a vs σ Hf' H' Γ xs r h1 h2 (.inr (S.fr.dom a h3)) (fun b => S.bxSome a b h3) h4 h5 ⟨s, .refl, f.ex⟩
theorem hsf_ret_l {i : Nat} {xs : List α} (h : Γ[i]? = some (.l c xs)) (hr : R xs) : HSF (tRet (tVar i)) Γ 0 c R := fun O n σ Hf H hn S D q => by
  obtain ⟨a, vs, h1, h2, h3, h4, h5⟩ := S.at_ i _ h
  exact ⟨.ref a, h1, q a vs σ Hf H Γ xs hr h2 h3 (S.mine a ⟨i, _, h, rfl, h1⟩) (S.lNe h h1) h4 h5 ⟨S, .refl, Ex.rfl'⟩⟩
theorem hsf_seq {c0 : Cod ρ} (h1 : HS t Γ k1 { N := N1, bk := fun _ => False, ct := fun _ => False, c := c0, R := fun _ => False }) (h2 : ∀ Γ1, N1 Γ1 → HSF u Γ1 k2 c R) : HSF (tSeq t u) Γ (k1 + k2) c R := fun O n σ Hf H hn S D q => by
  refine h1 O n σ Hf H (by omega) S { D with nx := u D } (fun σ1 Hf1 H1 Γ1 n1 f1 => ?_) (fun _ _ _ _ z _ => z.elim) (fun _ _ _ _ z _ => z.elim) (fun _ _ _ _ _ _ z _ _ => z.elim)
  refine h2 Γ1 n1 O (n + k1) σ1 Hf1 H1 (by omega) f1.sat D fun a vs σ' Hf' H' Γ' xs r e1 e2 e3 e4 e5 e6 f => ?_
  exact q a vs σ' Hf' H' Γ' xs r e1 e2 e3 (fun ⟨i, hi⟩ => e4 ⟨i, f1.bx i a hi⟩) e5 e6 ⟨by rw [← Nat.add_assoc]; exact f.sat, f1.bx.trans f.bx, f1.ex.trans f.ex⟩
theorem hsf_if {b : Bool → Prop} (ht : TDT tt Γ k1 b) (ha : b true → HSF t Γ k2 c R) (hb : b false → HSF u Γ k3 c R) : HSF (tIfS tt t u) Γ (k1 + max k2 k3) c R := fun O n σ Hf H hn S D q => by
  refine ht O n σ Hf H (by omega) S _ fun r Hf1 H1 pr f1 s1 => ?_
  have go : ∀ {v : TS} {kk : Nat}, HSF v Γ kk c R → kk ≤ max k2 k3 → v D σ H1 := fun {v kk} hv hk => hv O (n + k1) σ Hf1 H1 (by omega) s1 D fun a vs σ' Hf' H' Γ' xs r e1 e2 e3 e4 e5 e6 f =>
    q a vs σ' Hf' H' Γ' xs r e1 e2 e3 e4 e5 e6 ((⟨f.sat, f.bx, f1.ex.trans f.ex⟩ : Fin O Γ Hf Hf' H' σ' Γ' (n + k1 + kk)).le (by omega))
  cases r with
  | true => exact go (ha pr) (Nat.le_max_left _ _)
  | false => exact go (hb pr) (Nat.le_max_right _ _)
theorem tdf_call {B : Ctxt → Prop} {P' : List α → Prop} {E : XK} (h : TDA ta Γ k1 B) (hc : ∀ as, B as → ∃ a b, as = ps b a ∧ pre a ∧ kf a ≤ k2 ∧ ∀ x, PR a x → P' x) : TDF (tCall (spF ps kf pre c PR) [] E ta) Γ (k1 + k2) c P' := fun O n σ Hf H hn S Q q =>
  h O n σ Hf H (by omega) S _ fun vs Hf1 H1 as b o hb f s => by
    obtain ⟨a, bb, e, pa, hk, hp⟩ := hc as b
    subst e
    refine ⟨a, bb, n + k1, Hf1, pa, by omega, s.ex, by rw [List.append_nil]; exact o, fun z hz => ?_, fun r ws Hf' H' xs px e1 e2 e3 e4 e5 f2 ex bx => ?_⟩
    · obtain ⟨i, hi⟩ := hb z hz
      exact (s.at_ i _ hi).2
    · obtain ⟨F, S2⟩ := s.called hb f2 ex bx
      exact q r ws Hf' H' xs (hp xs px) e1 e2 (f.dom r e3) e4 e5 (f.trans F fun _ z => .inl z) (S2.le (by omega))
variable {C : Addr} {F : Hp → List (Str × V) → ω → Prop} {hm : ∀ {H H' fs y}, Ex H H' → F H fs y → F H' fs y} {K : PySem.W.Frag} {k1' : Cod ω}
theorem tdf_meth {m : Str} {B : Ctxt → Prop} {P' : List α → Prop} {Py : ω → Prop} {E : XK} (ho : TD te Γ k k1' Py) (hl : ∀ H fs y0, F H fs y0 → fs.lookup m = none) (h : TDA ta Γ k1 B) (hc : ∀ y as, Py y → B as → ∃ a b, .d k1' y :: as = ps b a ∧ pre a ∧ kf a ≤ k2 ∧ ∀ x, PR a x → P' x)
    (ek : k1' = cIns C F hm := by rfl) : TDF (tMeth C m (spF ps kf pre c PR) [] E te ta) Γ (k + k1 + k2) c P' := fun O n σ Hf H hn S Q q => by
  subst ek
  refine ho O n σ Hf H (by omega) S _ fun v Hf0 H0 y py ry f0 s0 => ?_
  obtain ⟨a, dx, fs, e1, e2, e3⟩ := id ry
  refine ⟨a, dx, fs, e1, s0.ex _ _ e2, hl _ _ _ e3, ?_⟩
  refine h O (n + k) σ Hf0 H0 (by omega) s0 _ fun vs Hf1 H1 as b o hb f s => ?_
  obtain ⟨a', bb, e, pa, hk, hp⟩ := hc y as py b
  have hb' : ∀ z, Sl.bx z ∈ ps bb a' → Bx Γ z := fun z hz => by
    rw [← e] at hz
    rcases List.mem_cons.mp hz with w | w
    · cases w
    · exact hb z w
  refine ⟨a', bb, n + k + k1, Hf1, pa, by omega, s.ex, by rw [← e, List.append_nil]; exact ⟨(cIns C F hm).mono f.ex ry, o⟩, fun z hz => ?_, fun r ws Hf' H' xs px e1 e2 e3 e4 e5 f2 ex bx => ?_⟩
  · obtain ⟨i, hi⟩ := hb' z hz
    exact (s.at_ i _ hi).2
  · obtain ⟨F', S2⟩ := s.called hb' f2 ex bx
    exact q r ws Hf' H' xs (hp xs px) e1 e2 (f0.dom r (f.dom r e3)) e4 e5 ((f0.trans f fun _ z => .inl z).trans F' fun _ z => .inl z) (S2.le (by omega))
/-- the reading of a body gives the promise -/
theorem body_okF {N : List Str} {vs : List V} {Q : VK} {ts : TS} {a : A} {b : Addr} (hl : (ps b a).length ≤ N.length) (one : OneB (ps b a)) (hn : n + kf a ≤ LIM) (ex : Ex Hf H) (o : ArgsOk Hf vs (ps b a)) (bx : ∀ z, Sl.bx z ∈ ps b a → Hf z = none ∧ BoxAt H z n)
    (q : ∀ r ws Hf' H' xs, PR a xs → H' r = some (.lst ws) → Hf' r = none → H r = none → Paired (c.rep Hf') ws xs → ws.length ≤ LB → Fr (fun z => Sl.bx z ∈ ps b a) Hf H Hf' H' → Ex Hf' H' → (∀ z, Sl.bx z ∈ ps b a → Hf' z = none ∧ BoxAt H' z (n + kf a)) → Q (.ref r) H')
    (hs : HSF ts (entry N (ps b a)) (kf a) c (PR a)) : ts { nx := fun _ H' => Q .non H', rt := Q } (start N vs) H := by
  have at0 : ∀ z, Sl.bx z ∈ ps b a → ∃ i : Nat, (entry N (ps b a))[i]? = some (.bx z) := fun z hz => by
    obtain ⟨i, hi⟩ := List.getElem?_of_mem hz
    refine ⟨i, ?_⟩
    unfold entry
    rw [List.getElem?_append_left (List.getElem?_eq_some_iff.mp hi).1]; exact hi
  refine hs _ n _ Hf H hn (sat_entry hl o one ex bx) _ fun r ws σ' Hf' H' Γ' xs px e1 e2 e3 e4 e5 e6 f => ?_
  have hr : H r = none := by
    rcases e3 with e3 | e3
    · exact absurd (at0 r e3) e4
    · exact e3
  refine q r ws Hf' H' xs px e1 e2 hr e5 e6 f.sat.fr f.sat.ex fun z hz => ?_
  obtain ⟨i, hi'⟩ := at0 z hz
  exact (f.sat.at_ i _ (f.bx i z hi')).2
end
section
variable {S : Stc} {X : Cx} {Γ Γ1 : Ctxt} {k k1 k2 k3 : Nat} {A α ρ ω : Type} {c : Cod α} {R : List α → Prop} {N1 : Ctxt → Prop} {e o : Expr} {es : List Expr} {pos pos' pn apos : Pos} {l1 l2 : List Stmt} {st : Stmt}
variable {ps : Addr → A → Ctxt} {kf : A → Nat} {pre : A → Prop} {PR : A → List α → Prop}
theorem phf_of {ts : TS} {sts : List Stmt} (ht : ∀ X, Good S X → PSs X sts ts) (h : HSF ts Γ k c R) : PHFs S Γ k sts c R := fun O n σ Hf H hn s D q => ⟨ts, ht, h O n σ Hf H hn s D q⟩
/-- .. return e -/
theorem bretF (h : PDF S Γ k e c R) : PHFs S Γ k [.Return (some e) pos] c R := phf_of (fun X G => pss_one (ps_ret (tE_ok G))) (hsf_ret h)
theorem bretO (i : Nat) {x : Str} {xs : List α} (hΓ : Γ[i]? = some (.l c xs)) (hN : S.N[i]? = some x) (hv : Vis S.sc x) (hr : R xs) (hd : (x == ("__debug__" : Str)) = false := by decide) (hcd : (x == ("__classdict__" : Str)) = false := by decide) : PHFs S Γ 0 [.Return (some (.Name x pos')) pos] c R :=
  phf_of (fun X G => pss_one (ps_ret (pe_slot G hN hv hd hcd))) (hsf_ret_l hΓ hr)
/-- statements that fall through, then the rest -/
theorem bapp {c0 : Cod ρ} (l1 : List Stmt) (h1 : PHs S Γ k1 l1 { N := N1, bk := fun _ => False, ct := fun _ => False, c := c0, R := fun _ => False }) (h2 : ∀ Γ1, N1 Γ1 → PHFs S Γ1 k2 l2 c R) : PHFs S Γ (k1 + k2) (l1 ++ l2) c R :=
  phf_of (fun X G => pss_app (tSs_ok G) (tSs_ok G)) (hsf_seq h1 h2)
/-- if e: .. return; rest -/
theorem bifF {b' : Bool → Prop} {sts rest : List Stmt} (h : PDT S Γ k1 e b') (ha : b' true → PHFs S Γ k2 sts c R) (hr : b' false → PHFs S Γ k3 rest c R) (hne : rest ≠ []) (ht : ∀ X, Good S X → PSs X (.If e sts [] pos :: rest) (tIfS (tT S e) (tSs S sts) (tSs S rest))) : PHFs S Γ (k1 + max k2 k3) (.If e sts [] pos :: rest) c R :=
  phf_of ht (hsf_if h ha hr)
/-- a def keeps its promise of a new list, by its body -/
theorem fn_F {P : Program} {w : World} {K : PySem.W.Frag} {mg : Str → Option Value} {base : Heap} {x qual : Str} {st : Stmt} {f : Addr} {fd : FuncData} {N pn : List Str} {lv : Nat} (F : Fun K x qual st f fd) (Sc : FnScope N pn (defScope st))
    (hl : ∀ b a, (ps b a).length = pn.length) (hN : pn.length ≤ N.length) (one : ∀ b a, OneB (ps b a))
    (body : ∀ b a, pre a → PHFs ⟨N, defScope st, K, mg, P, w, base, lv, fun _ => true, false⟩ (entry N (ps b a)) (kf a) (defBody st) c (PR a)) :
    FnOk P w K mg base CX0 (lv + 1) f fd pn (spF ps kf pre c PR) := by
  refine F.ok Sc (fun vs H Q E h => ?_) (fun cdv A outer s H vs Q E hr h => ?_)
  · obtain ⟨a, b, n, Hf, _, _, _, o, _⟩ := h
    rw [argsOk_len o]; exact hl b a
  · obtain ⟨a, b, n, Hf, hp, hn, ex, o, bx, q⟩ := h
    refine ⟨tSs ⟨N, defScope st, K, mg, P, w, base, lv, fun _ => true, false⟩ (defBody st), tSs_ok (cxG hr Sc.nd), ?_⟩
    exact body_okF (by rw [hl]; exact hN) (one b a) hn ex o bx q (body b a hp)
theorem cal_F {P : Program} {w : World} {K : PySem.W.Frag} {mg : Str → Option Value} {base : Heap} {x : Str} {st : Stmt} {N pn : List Str} {lv : Nat} (D : Def K mg x st) (hb : BindsD st x pn) (Sc : FnScope N pn (defScope st))
    (hl : ∀ b a, (ps b a).length = pn.length) (hN : pn.length ≤ N.length) (one : ∀ b a, OneB (ps b a))
    (body : ∀ b a, pre a → PHFs ⟨N, defScope st, K, mg, P, w, base, lv, fun _ => true, false⟩ (entry N (ps b a)) (kf a) (defBody st) c (PR a)) :
    Cal P w K mg base x pn (lv + 1) (spF ps kf pre c PR) := by
  obtain ⟨f, fd, F, hm⟩ := D.ex
  exact ⟨f, fd, fn_F F Sc hl hN one body, hm, F.kp, F.binds hb⟩
theorem mcal_F {P : Program} {w : World} {K : PySem.W.Frag} {mg : Str → Option Value} {base : Heap} {m qual : Str} {st : Stmt} {N pn : List Str} {lv : Nat} {C : Addr} (D : MDef K C m qual st) (hb : BindsM st m qual pn) (Sc : FnScope N pn (defScope st))
    (hl : ∀ b a, (ps b a).length = pn.length) (hN : pn.length ≤ N.length) (one : ∀ b a, OneB (ps b a))
    (body : ∀ b a, pre a → PHFs ⟨N, defScope st, K, mg, P, w, base, lv, fun _ => true, false⟩ (entry N (ps b a)) (kf a) (defBody st) c (PR a)) :
    MCal P w K mg base C m pn (lv + 1) (spF ps kf pre c PR) := by
  obtain ⟨f, fd, F, hm⟩ := D.ex
  exact ⟨f, fd, fn_F F Sc hl hN one body, hm, F.binds hb⟩
/-- calls of such -/
theorem pcalF {B : Ctxt → Prop} {P' : List α → Prop} {pn' : List Str} {x : Str} {l : Nat} (F : Cal S.prog S.w S.K S.mg S.base x pn' l (spF ps kf pre c PR)) (hl : l ≤ S.lv) (hg : S.sc.names.lookup x = some .globalImplicit)
    (h : PDA S Γ k1 (e :: es) B) (hc : ∀ as, B as → ∃ a b, as = ps b a ∧ pre a ∧ kf a ≤ k2 ∧ ∀ x, PR a x → P' x)
    (he : ∀ env : Env, starEach (e :: es) env = (false, eval e env) :: starEach es env) (hpl : ∀ env : Env, (backTo pos (starEach es env)).any (·.1) = false) (hdb : (x == ("__debug__" : Str)) = false := by decide) : PDF S Γ (k1 + k2) (.Call (.Name x pn) (e :: es) [] pos) c P' := by
  obtain ⟨f, fd, F, hm, hk, hb⟩ := F.ex
  exact pdf_of (fun X G => pe_call (fnG F G) (G.room.mono hl) (glb G hg) (by rw [G.mg]; exact hm) (by rw [G.K]; exact hk) (by rw [G.K]; exact hb) .nil pass0 (tA_ok G) hdb (he _) (hpl _)) (tdf_call h hc)
/-- a promise of a new list of known items, of data only -/
abbrev spFP (ps : A → Ctxt) (pre : A → Prop) (c : Cod α) (f : A → List α) : Sp := spF (fun _ => ps) (fun _ => 0) pre c (fun a x => x = f a)
variable {C : Addr} {F : Hp → List (Str × V) → ω → Prop} {hm : ∀ {H H' fs y}, Ex H H' → F H fs y → F H' fs y} {β : Type} {cb : Cod β} {x m : Str} {pn' : List Str} {lv : Nat}
theorem pm0F {pre : ω → Prop} {g : ω → List α} {y : ω} {pl : Env → Sem Bool} (M : MCal S.prog S.w S.K S.mg S.base C m pn' lv (spFP (fun a => [.d (cIns C F hm) a]) pre c g)) (hC : Cls S.K C) (hl : lv ≤ S.lv) (ho : PD S Γ 0 o (cIns C F hm) (· = y)) (hno : ∀ H fs y0, F H fs y0 → fs.lookup m = none) (hp : pre y) (ht : MTree0 o m apos pos pl) :
    PDF S Γ 0 (.Call (.Attribute o m apos) [] [] pos) c (· = g y) := by
  obtain ⟨f, fd, Fn, Mt, hb⟩ := M.ex
  exact pdf_of (fun X G => pe_meth0 (pl := pl X.env) (tE_ok G) (by rw [G.K]; exact hC) (by rw [G.K]; exact Mt) (fnG Fn G) (G.room.mono hl) (by rw [G.K]; exact hb) .nil pass0 (ht _))
    (tdf_meth (k := 0) (k1 := 0) (k2 := 0) ho hno ta_nil fun y' as h1 h2 => ⟨y', 0, by subst h2; rfl, by subst h1; exact hp, Nat.le_refl _, fun x hx => by subst h1; exact hx⟩)
theorem pm1F {pre : ω × β → Prop} {g : ω × β → List α} {y : ω} {z : β} {pl : Env → Sem Bool} (M : MCal S.prog S.w S.K S.mg S.base C m pn' lv (spFP (fun (a : ω × β) => [.d (cIns C F hm) a.1, .d cb a.2]) pre c g)) (hC : Cls S.K C) (hl : lv ≤ S.lv) (ho : PD S Γ 0 o (cIns C F hm) (· = y)) (he : PD S Γ 0 e cb (· = z)) (hno : ∀ H fs y0, F H fs y0 → fs.lookup m = none) (hp : pre (y, z))
    (hs : ∀ env : Env, starEach [e] env = (false, eval e env) :: starEach [] env) (hpl : ∀ env : Env, (backTo pos (starEach [] env)).any (·.1) = false) (ht : MTree o m apos pos [e] [] pl) : PDF S Γ 0 (.Call (.Attribute o m apos) [e] [] pos) c (· = g (y, z)) := by
  obtain ⟨f, fd, Fn, Mt, hb⟩ := M.ex
  exact pdf_of (fun X G => pe_meth (pl := pl X.env) (tE_ok G) (by rw [G.K]; exact hC) (by rw [G.K]; exact Mt) (fnG Fn G) (G.room.mono hl) (by rw [G.K]; exact hb) .nil pass0 (tA_ok G) (hs _) (hpl _) (ht _))
    (tdf_meth (k := 0) (k1 := 0) (k2 := 0) ho hno (pda_one he hs) fun y' as h1 h2 => ⟨(y', z), 0, by subst h2; rfl, by subst h1; exact hp, Nat.le_refl _, fun x hx => by subst h1; exact hx⟩)
end
/-! ### a list of one's own, looked at, where what comes out holds no list -/
/-- the codec sees no list -/
def NL {α : Type} (c : Cod α) : Prop := ∀ (H H' : Hp) v x, (∀ b o, H b = some o → (∀ vs, o ≠ .lst vs) → H' b = some o) → c.rep H v x → c.rep H' v x
section
variable {α β γ ω : Type} {c : Cod α} {c1 : Cod β} {c2 : Cod γ}
theorem Flat.nl (h : Flat c) : NL c := fun H H' v x _ r => h H H' v x r
theorem nl_int : NL cInt := fun _ _ _ _ _ h => h
theorem nl_bool : NL cBool := fun _ _ _ _ _ h => h
theorem nl_str : NL cStr := fun _ _ _ _ _ h => h
theorem nl_tup (h : NL c) : NL (cTup c) := fun H H' v x k ⟨a, vs, h1, h2, h3, h4⟩ => ⟨a, vs, h1, k _ _ h2 (fun _ z => nomatch z), paired_mono h3 fun _ _ r => h H H' _ _ k r, h4⟩
theorem nl_t2 (h : NL c) (h' : NL c1) : NL (cT2 c c1) := fun H H' v x k ⟨a, u, w, h1, h2, h3, h4⟩ => ⟨a, u, w, h1, k _ _ h2 (fun _ z => nomatch z), h H H' _ _ k h3, h' H H' _ _ k h4⟩
theorem nl_t3 (h : NL c) (h' : NL c1) (h'' : NL c2) : NL (cT3 c c1 c2) := fun H H' v x k ⟨a, u, w, y, h1, h2, h3, h4, h5⟩ => ⟨a, u, w, y, h1, k _ _ h2 (fun _ z => nomatch z), h H H' _ _ k h3, h' H H' _ _ k h4, h'' H H' _ _ k h5⟩
theorem nl_ins {C : Addr} {F : Hp → List (Str × V) → ω → Prop} {hm : ∀ {H H' fs y}, Ex H H' → F H fs y → F H' fs y} (h : ∀ H H' fs y, (∀ b o, H b = some o → (∀ vs, o ≠ .lst vs) → H' b = some o) → F H fs y → F H' fs y) : NL (cIns C F hm) := fun H H' v y k ⟨a, dx, fs, h1, h2, h3⟩ => ⟨a, dx, fs, h1, k _ _ h2 (fun _ z => nomatch z), h H H' fs y k h3⟩
end
section
variable {O : Org} {Hf H Hf' H' : Hp} {σ : Stt} {n m : Nat} {Γ : Ctxt} {k : Nat} {α β : Type} {c : Cod α} {c' : Cod β} {te : TE}
theorem Sat.viewN (S : Sat O Hf H σ Γ n) {i : Nat} {c : Cod α} {xs : List α} (h : Γ[i]? = some (.l c xs)) {Q : Hp → Prop}
    (run : ∀ Hf1, Sat O Hf1 H σ (Γ.set i (.d (cList c) xs)) n → (∀ Hf1' H', Fr (Bx (Γ.set i (.d (cList c) xs))) Hf1 H Hf1' H' → Sat O Hf1' H' σ (Γ.set i (.d (cList c) xs)) m →
      (∃ Hf', (∀ b o, Hf1' b = some o → (∀ vs, o ≠ .lst vs) → Hf' b = some o) ∧ (∀ b, Hf1' b = none → Hf' b = none) ∧ Fr (Bx Γ) Hf H Hf' H' ∧ Sat O Hf' H' σ Γ m)) → Q H) : Q H := by
  obtain ⟨a, vs, h1, h2, h3, nbx, oth, rp, S'⟩ := S.freeze h
  refine run _ S' fun Hf1' H' f s => ?_
  have bxe : ∀ b, Bx Γ b → Bx (Γ.set i (.d (cList c) xs)) b := fun b ⟨j, hj⟩ => ⟨j, by
    rw [List.getElem?_set_ne (fun z => by subst z; rw [h] at hj; cases hj)]; exact hj⟩
  have bxb : ∀ b, Bx (Γ.set i (.d (cList c) xs)) b → Bx Γ b := fun b hb => boxLt hb
  have F : Fr (Bx Γ) Hf H (fun b => if b = a then none else Hf1' b) H' := by
    refine ⟨fun b o e => ?_, fun b o e nm => f.keep b o e fun z => nm (bxb b z), fun b o e nm z => ?_, f.dom⟩
    · have nb := ne_of_none e h3
      show (if b = a then none else Hf1' b) = some o
      rw [if_neg nb]; exact f.ex b o (by rw [upd_ne nb]; exact e)
    · show (if b = a then none else Hf1' b) = none
      by_cases nb : b = a
      · rw [if_pos nb]
      · rw [if_neg nb]; exact f.fz b o e (fun w => nm (bxb b w)) (by rw [upd_ne nb]; exact z)
  have ha' : Hf1' a = some (.lst vs) := f.ex a _ upd_same
  refine ⟨_, fun b o e nl => ?_, fun b z => ?_, F, S.grow F (fun b o e => ?_) fun b hb => ?_⟩
  · show (if b = a then none else Hf1' b) = some o
    have nb : b ≠ a := fun z => by
      subst z; rw [ha'] at e
      injection e with e
      exact nl vs e.symm
    rw [if_neg nb]; exact e
  · show (if b = a then none else Hf1' b) = none
    split
    · rfl
    · exact z
  · have e' : (if b = a then none else Hf1' b) = some o := e
    by_cases nb : b = a
    · rw [if_pos nb] at e'; cases e'
    · rw [if_neg nb] at e'; exact s.ex b o e'
  · obtain ⟨j, hj⟩ := bxe b hb
    obtain ⟨_, z2, z3⟩ := s.at_ j _ hj
    refine ⟨?_, z3⟩
    show (if b = a then none else Hf1' b) = none
    by_cases nb : b = a
    · rw [if_pos nb]
    · rw [if_neg nb]; exact z2
theorem td_viewN {i : Nat} {xs : List α} (h : Γ[i]? = some (.l c xs)) (fl : NL c') {P : β → Prop} (ht : TD te (Γ.set i (.d (cList c) xs)) k c' P) : TD te Γ k c' P := fun O n σ Hf H hn S Q q => by
  refine S.viewN (m := n + k) h (Q := fun H => te σ H Q) fun Hf1 S1 back => ?_
  refine ht O n σ Hf1 H hn S1 Q fun v Hf' H' x px r f s => ?_
  obtain ⟨Hf2, nl, _, F, S2⟩ := back Hf' H' f s
  exact q v Hf2 H' x px (fl _ _ _ _ nl r) F S2
/-- .. where a new list comes out -/
theorem tdf_viewN {i : Nat} {xs : List α} (h : Γ[i]? = some (.l c xs)) (fl : NL c') {P : List β → Prop} (ht : TDF te (Γ.set i (.d (cList c) xs)) k c' P) : TDF te Γ k c' P := fun O n σ Hf H hn S Q q => by
  refine S.viewN (m := n + k) h (Q := fun H => te σ H Q) fun Hf1 S1 back => ?_
  refine ht O n σ Hf1 H hn S1 Q fun a vs Hf' H' xs px e1 e2 e3 e4 e5 f s => ?_
  obtain ⟨Hf2, nl, nn, F, S2⟩ := back Hf' H' f s
  exact q a vs Hf2 H' xs px e1 (nn a e2) e3 (paired_mono e4 fun _ _ r => fl _ _ _ _ nl r) e5 F S2
end
end DL

set_option Elab.async false
set_option linter.all false
set_option maxRecDepth 100000
set_option maxHeartbeats 2000000
/-! ### own == and !=, of any two -/
namespace DL
open PySem PySem.Spec L2
section
variable {K : PySem.W.Frag} {C L x f : Addr} {h₀ : Heap} {m : Str → Option Value} {b tb : Value} {ox : Obj} {od : Option Obj} {P : Program} {w : World} {A : Around} {s : Shared} {E : Value → Shared → Prop}
/-- a special name of the class of x that is a builtin: bound to x, called -/
theorem bound_bt {M : Model} {name : Str} {id : String} {args : List Value} {Q : Option Value → Shared → Prop} (k : K.In s.heap) (I : PySem.W.InstAt s.heap x ox C od) (found : PySem.W.findIn K (.ref C) name = some (some (.builtin id)))
    (bind : ∀ self, bindSpecial (.builtin id) self = pure (.builtin id, [self])) (q : wpAny M A (call (.builtin id) (.ref x :: args)) (fun v => Q (some v)) E s) : wpAny M A (callSpecialIfBound? (.ref x) name args) Q E s := by
  have got : wpAny M A (bindSpecialIfBound? (.ref x) name) (fun r s1 => r = some (.builtin id, [.ref x]) ∧ s1 = s) E s := by
    have spec : PySem.W.Looks M s.heap (specialOf (.ref x) name) (some (.builtin id)) := I.type.andThen (PySem.W.looks_findIn k found)
    unfold bindSpecialIfBound?
    apply wpAny_bind
    apply spec.here
    dsimp only
    rw [bind]
    apply wpAny_bind
    apply wpAny_askSetting
    apply wpAny_ite
    split
    · exact wpAny_bind (wpAny_pure (wpAny_pure ⟨rfl, rfl⟩))
    · exact wpAny_tryCatch (wpAny_bind (wpAny_pure (wpAny_pure ⟨rfl, rfl⟩)))
  unfold callSpecialIfBound?
  apply wpAny_holding
  refine wpAny_bind (wpAny_mono got ?_ fun _ _ e => e)
  rintro _ _ ⟨rfl, rfl⟩
  exact wpAny_bind (wpAny_mono q (fun _ _ z => wpAny_pure z) fun _ _ e => e)
/-- object's __ne__, where the class of x has a def for == that answers with a truth -/
theorem ne_code {Q : PySem.Fin → Shared → Prop} (room : A.units < cLine) (k : K.In s.heap) (I : PySem.W.InstAt s.heap x ox C od) (found : PySem.W.findIn K (.ref C) "__eq__" = some (some (.ref f))) (fn : PySem.W.isFn K (.ref f) = true)
    (q : wpAny (model P w) A (call (.ref f) [.ref x, b]) (fun v s1 => ∃ t : Bool, v = .bool t ∧ Q (.done (.ret (.bool (!t)))) s1) E s) : wpAny (model P w) A (Builtin.«object.__ne__» ⟨[.ref x, b], []⟩) Q E s := by
  have asked : wpAny (model P w) A (callSpecialIfBound? (.ref x) "__eq__" [b]) (fun r s1 => ∃ t : Bool, r = some (.bool t) ∧ Q (.done (.ret (.bool (!t)))) s1) E s :=
    PySem.W.ifBound_K k I found fn (wpAny_mono q (fun _ _ ⟨t, e, z⟩ => ⟨t, congrArg some e, z⟩) fun _ _ e => e)
  unfold Builtin.«object.__ne__»
  repeat first | with_reducible refine wpAny_cRoomFor room ?_ | with_reducible refine wpAny_bind (wpAny_mono asked ?_ fun _ _ e => e) | wp_step
  rintro _ s1 ⟨t, rfl, z⟩
  refine wpAny_bind (m := truthy (.bool t)) (wpAny_truthy_bool ?_)
  exact wpAny_pure z
def NeBack (Q : Value → Shared → Prop) (v : Value) (s' : Shared) : Prop := ∃ r, v = .bool r ∧ Q (.bool (!r)) s'
/-- x != b, x of a class with its own == and object's != -/
theorem ne_K {Q : Value → Shared → Prop} (in_ : A.in1.units < cLine) (room : A.units < cLine) (F : PyProof.Rows.Fr h₀ L s.heap m) (k0 : K.In h₀) (I : PySem.W.InstAt s.heap x ox C od) (right : PySem.W.Looks (model P w) s.heap (typeOf b) tb) (left : PySem.W.notFirst K C tb = true)
    (ne : PySem.W.findIn K (.ref C) "__ne__" = some (some (.builtin "object.__ne__"))) (ob : PySem.W.mroIn K C (.type "object") = some true) (eq_ : PySem.W.findIn K (.ref C) "__eq__" = some (some (.ref f))) (fn : PySem.W.isFn K (.ref f) = true)
    (q : wpAny (model P w) A.in1 (call (.ref f) [.ref x, b]) (NeBack Q) E s) : wpAny (model P w) A (richCompare .NotEq (.ref x) b) Q E s := by
  have k := k0.keeps F.keep
  -- object.__ne__ of the two
  have code : wpAny (model P w) A (call (.builtin "object.__ne__") [.ref x, b]) (fun v s1 => ∃ t : Bool, v = .bool t ∧ Q (.bool t) s1) E s := by
    apply wpAny_call
    have is : PySem.W.Looks (model P w) s.heap (isInstance (.ref x) (.type "object")) true := I.type.andThen (PySem.W.looks_mroIn k ob)
    refine codeAny_call_builtin PySem.F.cmp_object.ne.plain PySem.F.cmpEntry_ne (@PySem.W.check_slot (model P w) _ _ _ "object.__ne__" "object" "__ne__" (.ref x) [b] [] _ PySem.F.cmpKind_ne PySem.F.cmpSplit_ne is (PySem.F.cmpArgs_ne _ _) ?_)
    refine ne_code in_ k I eq_ fn (wpAny_mono q ?_ fun _ _ e => e)
    rintro _ s1 ⟨r, rfl, z⟩
    exact ⟨r, rfl, !r, rfl, z⟩
  have tried : wpAny (model P w) A (tryCompare (.ref x) "__ne__" b) (fun r s1 => ∃ v, r = some v ∧ Q v s1) E s := by
    unfold tryCompare
    refine wpAny_bind (bound_bt k I ne PySem.F.cmp_object.ne.bind (wpAny_mono code ?_ fun _ _ e => e))
    rintro _ s1 ⟨t, rfl, z⟩
    exact wpAny_pure ⟨_, rfl, z⟩
  -- the right one's class is the left one's, or is not below it
  have sub : (Value.ref C != tb) = true → PySem.W.subIn K tb (.ref C) = some false := fun n => by
    have l : ((tb == Value.ref C) || (PySem.W.subIn K tb (.ref C) == some false)) = true := left
    cases e : (tb == Value.ref C)
    · rw [e, Bool.false_or] at l
      exact eq_of_beq l
    · rw [eq_of_beq e] at n
      simp at n
  unfold richCompare
  apply wpAny_holding
  apply wpAny_bind
  apply wpAny_cRoomFor room
  rw [show oneThing? .NotEq (.ref x) b = none from oneThing_ref ..]
  apply wpAny_bind
  apply I.type.here
  apply wpAny_bind
  apply right.here
  have last : ∀ {R : Option Value → Sem Value}, (∀ v, R (some v) = pure v) → wpAny (model P w) A (tryCompare (.ref x) "__ne__" b >>= R) Q E s := fun hR => by
    refine wpAny_bind (wpAny_mono tried ?_ fun _ _ e => e)
    rintro _ s1 ⟨v, rfl, z⟩
    rw [hR]
    exact wpAny_pure z
  dsimp only
  split
  · rename_i n
    apply wpAny_bind
    apply (PySem.W.looks_subIn k (sub n)).here
    exact last fun _ => rfl
  · apply wpAny_bind
    apply wpAny_pure
    exact last fun _ => rfl
end
end DL

set_option Elab.async false
set_option linter.all false
set_option maxRecDepth 100000
set_option maxHeartbeats 2000000
/-! ### own == and != of any two, len by an own def -/
namespace DL
open PySem PySem.Spec L2
section
variable {X : Cx} {n : Nat} {CX : CXT} {C f : Addr} {fd : FuncData} {ps : List Str} {sp : Sp} {E : XK} {A : Around} {pins : List (Addr × Obj)} {σ : L2.St} {H : Hp} {s : Shared}
theorem run_own {us : List Value} {vs : List V} {Q : VK} (F : FnOk X.prog X.w X.K X.mg X.base CX n f fd ps sp) (hb : Binds X.K fd ps []) (hx : Passes CX X E) (hr : Room n A) (fr : A.frames = X.A.frames) (I : Inv X pins σ H s) (r2 : Vals vs us) (hsp : sp vs H Q E) :
    wpAny (model X.prog X.w) A (call (.ref f) us) (fun u s' => ∃ v H', Inv X pins σ H' s' ∧ RelV v u ∧ Q v H') X.xe s := by
  have e0 : Env0 X.prog X.w X.K X.mg X.base A X.stack s H := by
    have e := I.env0
    exact ⟨by rw [fr]; exact e.frames, e.mod, e.bs, e.bsz, e.funs, e.frf, e.hok, e.bare⟩
  have hl := F.len _ _ _ _ hsp
  have hvl := r2.length
  refine wpAny_call (codeAny_mono (F.run A X.stack s H ⟨us, []⟩ us vs _ E hr e0 (by
    have := hb s us I.kIn (by simpa [← hvl] using hl)
    simpa using this) r2 hsp) fun r s' hq => ?_)
  cases r with
  | error e => exact hx pins σ H s e s' I hq
  | ok fl =>
    cases fl with
    | ret w =>
      obtain ⟨z, H', I', rz, q⟩ := I.after hq
      exact ⟨z, H', I', rz, q⟩
    | next => exact False.elim hq
    | brk => exact False.elim hq
    | cont => exact False.elim hq
def rCmpOwn (C : Addr) (neg : Bool) (sp : Sp) : R2 := fun x y H Q => ∃ a dx fs b, x = .ref a ∧ H a = some (.ins C dx fs) ∧ y = .ref b ∧ ((∃ dy gs, H b = some (.ins C dy gs)) ∨ ∃ xs, H b = some (.tup xs)) ∧
  sp [x, y] H (fun v H' => ∃ r, v = .bl r ∧ Q (.bl (if neg = true then !r else r)) H') E0
theorem see_right {b : Addr} (I : Inv X pins σ H s) (cl : Cls X.K C) (nt : PySem.W.subIn X.K (.type "tuple") (.ref C) = some false) (h : (∃ dy gs, H b = some (.ins C dy gs)) ∨ ∃ xs, H b = some (.tup xs)) :
    ∃ tb, PySem.W.Looks (model X.prog X.w) s.heap (typeOf (.ref b)) tb ∧ PySem.W.notFirst X.K C tb = true := by
  rcases h with ⟨dy, gs, h⟩ | ⟨xs, h⟩
  · obtain ⟨mB, J', _⟩ := ins_get I.hok h
    obtain ⟨od', J', _⟩ := J'.look
    exact ⟨_, J'.type, by simp [PySem.W.notFirst]⟩
  · obtain ⟨_, _, _, o, h1, h2, _⟩ := (show ObjOk X.prog X.w H s.heap b (.tup xs) from I.hok b _ h)
    exact ⟨.type "tuple", (PySem.W.Looks.ld h1).andThen (by rw [h2]; exact .now), by simp [PySem.W.notFirst, nt]⟩
structure EqA (P : Program) (w : World) (K : PySem.W.Frag) (mg : Str → Option Value) (base : Heap) (C : Addr) (lv : Nat) (sp : Sp) : Prop where
  ex : ∃ f fd pn, FnOk P w K mg base CX0 lv f fd pn sp ∧ PySem.W.findIn K (.ref C) "__eq__" = some (some (.ref f)) ∧ PySem.W.isFn K (.ref f) = true ∧ Binds K fd pn []
  cl : Cls K C
  ob : PySem.W.mroIn K C (.type "object") = some true
  ne : PySem.W.findIn K (.ref C) "__ne__" = some (some (.builtin "object.__ne__"))
  nt : PySem.W.subIn K (.type "tuple") (.ref C) = some false
theorem op_eqOwn (e : EqA X.prog X.w X.K X.mg X.base C n sp) (hr : Room n X.A) : OpR X (compareOp .Eq) (rCmpOwn C false sp) := by
  intro pins s σ H x y v u Q I rx ry hq
  obtain ⟨f, fd, pn, F, hs, hf, hb⟩ := e.ex
  obtain ⟨a, dx, fs, b, rfl, ha, rfl, hb', hsp⟩ := hq
  cases rx
  cases ry
  show wpAny (model X.prog X.w) X.A (richCompare .Eq (.ref a) (.ref b)) (EP X pins σ Q) X.xe s
  obtain ⟨mA, J, _⟩ := ins_get I.hok ha
  obtain ⟨od, J, _⟩ := J.look
  obtain ⟨m, hF⟩ := I.fr
  obtain ⟨tb, l, nf⟩ := see_right I e.cl e.nt hb'
  refine PySem.W.cmp_K (op := .Eq) (tb := tb) hr.units0 hF I.ok.mod.kin J l nf hs hf ?_
  refine wpAny_mono (run_own F hb pass0 hr rfl I (.cons (show RelV (.ref a) (.ref a) from rfl) (.cons (show RelV (.ref b) (.ref b) from rfl) .nil)) hsp) (fun u s' q => ?_) fun _ _ x => x
  obtain ⟨v, H', I', rv, r, rfl, q⟩ := q
  cases rv
  exact ⟨.bl r, H', I', rfl, q⟩
theorem op_neOwn (e : EqA X.prog X.w X.K X.mg X.base C n sp) (hr : Room (n + 1) X.A) : OpR X (compareOp .NotEq) (rCmpOwn C true sp) := by
  intro pins s σ H x y v u Q I rx ry hq
  obtain ⟨f, fd, pn, F, hs, hf, hb⟩ := e.ex
  obtain ⟨a, dx, fs, b, rfl, ha, rfl, hb', hsp⟩ := hq
  cases rx
  cases ry
  show wpAny (model X.prog X.w) X.A (richCompare .NotEq (.ref a) (.ref b)) (EP X pins σ Q) X.xe s
  obtain ⟨mA, J, _⟩ := ins_get I.hok ha
  obtain ⟨od, J, _⟩ := J.look
  obtain ⟨m, hF⟩ := I.fr
  obtain ⟨tb, l, nf⟩ := see_right I e.cl e.nt hb'
  refine ne_K (tb := tb) hr.in1.units0 hr.units0 hF I.ok.mod.kin J l nf e.ne e.ob hs hf ?_
  refine wpAny_mono (run_own F hb pass0 hr.in1 rfl I (.cons (show RelV (.ref a) (.ref a) from rfl) (.cons (show RelV (.ref b) (.ref b) from rfl) .nil)) hsp) (fun u s' q => ?_) fun _ _ x => x
  obtain ⟨v, H', I', rv, r, rfl, q⟩ := q
  cases rv
  exact ⟨r, rfl, .bl (!r), H', I', rfl, q⟩
/-- len(x) by the class's own def -/
def rLenOwn (C : Addr) (sp : Sp) : List V → Hp → VK → Prop := fun xs H Q => ∃ a dx fs, xs = [.ref a] ∧ H a = some (.ins C dx fs) ∧ sp [.ref a] H (fun v H' => ∃ i : Int, v = .int i ∧ 0 ≤ i ∧ i < 9223372036854775808 ∧ Q (.int i) H') E0
structure LenA (P : Program) (w : World) (K : PySem.W.Frag) (mg : Str → Option Value) (base : Heap) (C : Addr) (lv : Nat) (sp : Sp) : Prop where
  ex : ∃ f fd pn, FnOk P w K mg base CX0 lv f fd pn sp ∧ PySem.W.findIn K (.ref C) "__len__" = some (some (.ref f)) ∧ PySem.W.isFn K (.ref f) = true ∧ Binds K fd pn []
theorem cr_lenOwn (e : LenA X.prog X.w X.K X.mg X.base C n sp) (hr : Room (n + 1) X.A) : CallR X (.builtin "len") (rLenOwn C sp) := by
  intro pins s σ H xs us Q I r h
  obtain ⟨f, fd, pn, F, hs, hf, hb⟩ := e.ex
  obtain ⟨a, dx, fs, rfl, ha, hsp⟩ := h
  rw [Vals.ref1 r]
  obtain ⟨mA, J, _⟩ := ins_get I.hok ha
  obtain ⟨od, J, _⟩ := J.look
  obtain ⟨m, hF⟩ := I.fr
  refine PySem.W.len_K hF I.ok.mod.kin J hs hf ?_
  refine wpAny_mono (run_own F hb pass0 hr.in1 rfl I (.cons (show RelV (.ref a) (.ref a) from rfl) .nil) hsp) (fun u s' q => ?_) fun _ _ x => x
  obtain ⟨v, H', I', rv, i, rfl, h0, h1, q⟩ := q
  obtain ⟨t, rfl⟩ := (show ∃ t, u = Value.int i t from rv)
  exact ⟨⟨h0, h1⟩, .int i, H', I'.tok _, ⟨_, rfl⟩, q⟩
/-- repr of a truth -/
theorem cr_reprB : CallR X (.builtin "repr") (fun xs H Q => ∃ b, xs = [.bl b] ∧ Q (.str (if b = true then "True" else "False")) H) := by
  intro pins s σ H xs us Q I r h
  obtain ⟨b, rfl, q⟩ := h
  obtain ⟨u, rfl, t⟩ := vals1 r
  cases t
  exact PySem.P.repr_of_bool ⟨.str _, H, I.tok _, ⟨_, rfl⟩, q⟩
end
end DL

set_option Elab.async false
set_option linter.all false
set_option maxRecDepth 100000
set_option maxHeartbeats 2000000
/-! ### rules: own == and !=, len of one's own, repr of a truth, is, max, slices -/
namespace DL
open PySem PySem.Spec L2
section
variable {X : Cx}
theorem op_isB : OpR X (compareOp .Is) (fun x y H Q => ∃ a b, x = .bl a ∧ y = .bl b ∧ Q (.bl (decide (a = b))) H) := by
  intro pins s σ H x y v u Q I rx ry h
  obtain ⟨a, b, rfl, rfl, q⟩ := h
  cases rx
  cases ry
  have e : wpAny (model X.prog X.w) X.A (compareOp .Is (.bool a) (.bool b)) (EP X pins σ Q) X.xe s := wpAny_pure (fin_bl I q (by cases a <;> cases b <;> rfl))
  exact e
theorem reads_ints {h : Heap} : ∀ {vs : List Value} {ns : List Int}, PyProof.Rows.IntsAre vs ns → ∃ as, ReadsAll h vs (ns.map .int) as
  | _, _, .nil => ⟨_, .nil⟩
  | _, _, .cons n t r => by
    obtain ⟨as, q⟩ := reads_ints r
    exact ⟨_, .cons (.int n t) q⟩
theorem depth_ints : ∀ ns : List Int, PyData.depthAll (ns.map .int) ≤ 1
  | [] => by simp [PyData.depthAll]
  | n :: ns => by
    have := depth_ints ns
    simp only [List.map_cons, PyData.depthAll, PyData.depth]
    omega
/-- max of a tuple of ints -/
def rMaxT (K : PySem.W.Frag) : List V → Hp → VK → Prop := fun vs H Q => ∃ (a : Addr) (n : Int) (ns : List Int), vs = [V.ref a] ∧ SqT K H a ((n :: ns).map V.int) ∧ Q (.int (ns.foldl max n)) H
theorem cr_maxT (hc : X.calm = true) (hu : X.A.units + 64 < cLine) : CallR X (.builtin "max") (rMaxT X.K) := by
  intro pins s σ H vs us Q I r h
  obtain ⟨a, n, ns, rfl, hs, q⟩ := h
  obtain ⟨its, rv, hl, hz⟩ := I.tuple hs
  rw [Vals.ref1 r]
  obtain ⟨as, rd⟩ := reads_ints (h := s.heap) rv.ints
  have hd := depth_ints (n :: ns)
  refine PySem.W.max_tuple_data (x := .int n) (xs := ns.map .int) (as := as) (I.ok.hd hc) hl (by simpa using rd) ⟨fun x hx y hy => ?_, fun x hx => ?_⟩ (by show X.A.units + 1 + PyData.depthAll ((n :: ns).map .int) < cLine; omega) fun i v h' tk bs hv rd' hk => ?_
  · have hx' : x ∈ (n :: ns).map PyData.int := hx
    have hy' : y ∈ (n :: ns).map PyData.int := hy
    obtain ⟨i, _, rfl⟩ := List.mem_map.mp hx'
    obtain ⟨j, _, rfl⟩ := List.mem_map.mp hy'
    rfl
  · have hx' : x ∈ (n :: ns).map PyData.int := hx
    obtain ⟨i, _, rfl⟩ := List.mem_map.mp hx'
    exact fun z => nomatch z
  · rw [PySem.W.maxD_ints] at rd'
    cases rd' with
    | int i t => exact ⟨.int _, H, I.kept hk, ⟨_, rfl⟩, q⟩
end
end DL

set_option Elab.async false
set_option linter.all false
set_option maxRecDepth 100000
set_option maxHeartbeats 2000000
namespace DL
open PySem PySem.Spec L2
/-- truths -/
def bStr (b : Bool) : Str := if b = true then "True" else "False"
theorem bStr_inj {a b : Bool} : bStr a = bStr b ↔ a = b := by cases a <;> cases b <;> simp [bStr] <;> decide
/-- what may stand at the right of an own == -/
abbrev SeeC (C : Addr) {β : Type} (cb : Cod β) : Prop := ∀ H v y, cb.rep H v y → ∃ b, v = .ref b ∧ ((∃ dy gs, H b = some (.ins C dy gs)) ∨ ∃ xs, H b = some (.tup xs))
section
variable {α β γ ω ρ : Type} {c : Cod α} {cb : Cod β} {C : Addr} {F : Hp → List (Str × V) → ω → Prop} {hm : ∀ {H H' fs y}, Ex H H' → F H fs y → F H' fs y} {x : ω} {y : β} {K : PySem.W.Frag}
theorem see_ins : SeeC C (cIns C F hm) := fun H v y ⟨a, dx, fs, h1, h2, _⟩ => ⟨a, h1, .inl ⟨dx, fs, h2⟩⟩
theorem see_tup : SeeC C (cTup c) := fun H v y ⟨a, vs, h1, h2, _⟩ => ⟨a, h1, .inr ⟨vs, h2⟩⟩
theorem rd_cmpOwn {neg : Bool} {pre : ω × β → Prop} {g : ω × β → Bool} (see : SeeC C cb) (hp : pre (x, y)) :
    RD (rCmpOwn C neg (spP (fun (a : ω × β) => [.d (cIns C F hm) a.1, .d cb a.2]) pre cBool g)) (cIns C F hm) x cb y cBool (· = if neg = true then !g (x, y) else g (x, y)) := fun Hf H v u e h1 h2 Q q => by
  obtain ⟨a, dx, fs, e1, e2, e3⟩ := id h1
  obtain ⟨b, f1, f2⟩ := see _ _ _ h2
  refine ⟨a, dx, fs, b, e1, e _ _ e2, f1, f2.imp (fun ⟨dy, gs, z⟩ => ⟨dy, gs, e _ _ z⟩) (fun ⟨xs, z⟩ => ⟨xs, e _ _ z⟩), ?_⟩
  refine ⟨(x, y), 0, 0, Hf, hp, Nat.zero_le _, e, ⟨h1, h2, trivial⟩, fun z hz => by simp at hz, fun w Hf' H' r pr rr fr ex _ => ?_⟩
  obtain rfl := (show w = .bl r from rr)
  have pr : r = g (x, y) := pr
  exact ⟨r, rfl, q _ Hf' H' _ (by rw [pr]) rfl (fr.mono fun a h => by simp at h) ex⟩
theorem rc_lenOwn {pre : ω → Prop} {g : ω → Int} (hp : pre x) (hb : 0 ≤ g x ∧ g x < 9223372036854775808) : RC1 (rLenOwn C (spP (fun (a : ω) => [.d (cIns C F hm) a]) pre cInt g)) (cIns C F hm) x cInt (· = g x) := fun Hf H v e h1 Q q => by
  obtain ⟨a, dx, fs, e1, e2, e3⟩ := id h1
  refine ⟨a, dx, fs, by rw [e1], e _ _ e2, x, 0, 0, Hf, hp, Nat.zero_le _, e, ⟨by rw [← e1]; exact h1, trivial⟩, fun z hz => by simp at hz, fun w Hf' H' r pr rr fr ex _ => ?_⟩
  obtain rfl := (show w = .int r from rr)
  have pr : r = g x := pr
  exact ⟨r, rfl, by rw [pr]; exact hb.1, by rw [pr]; exact hb.2, q _ Hf' H' _ pr rfl (fr.mono fun a h => by simp at h) ex⟩
theorem rd_eqStr {s t : Str} : RD rEq cStr s cStr t cBool (· = decide (s = t)) := fun Hf H v u e h1 h2 Q q => by
  obtain rfl := h1; obtain rfl := h2
  exact ⟨rfl, q _ Hf H _ rfl (by show V.bl _ = V.bl _; congr 1; exact decide_eq_decide.mpr ⟨fun h => V.str.inj h, fun h => by rw [h]⟩) Fr.refl e⟩
theorem rd_neStr {s t : Str} : RD rNe cStr s cStr t cBool (· = !decide (s = t)) := fun Hf H v u e h1 h2 Q q => by
  obtain rfl := h1; obtain rfl := h2
  exact ⟨rfl, q _ Hf H _ rfl (by show V.bl _ = V.bl _; congr 2; exact decide_eq_decide.mpr ⟨fun h => V.str.inj h, fun h => by rw [h]⟩) Fr.refl e⟩
theorem rd_isB {s t : Bool} : RD (fun x y H Q => ∃ a b, x = .bl a ∧ y = .bl b ∧ Q (.bl (decide (a = b))) H) cBool s cBool t cBool (· = decide (s = t)) := fun Hf H v u e h1 h2 Q q => ⟨s, t, h1, h2, q _ Hf H _ rfl rfl Fr.refl e⟩
theorem rc_reprB {b : Bool} : RC1 (fun xs H Q => ∃ b, xs = [.bl b] ∧ Q (.str (if b = true then "True" else "False")) H) cBool b cStr (· = bStr b) := fun Hf H v e h Q q => ⟨b, by rw [show v = .bl b from h], q _ Hf H _ rfl rfl Fr.refl e⟩
theorem ints_of_tup {H Hf : Hp} {v : V} {ns : List Int} (e : Ex Hf H) (h : (cTup cInt).rep Hf v ns) : ∃ a, v = .ref a ∧ SqT K H a (ns.map V.int) := by
  obtain ⟨a, vs, h1, h2, h3, _⟩ := h
  have := ints_of_paired h3
  subst this
  exact ⟨a, h1, SqT.of (e _ _ h2)⟩
theorem rc_maxT {n : Int} {ns : List Int} : RC1 (rMaxT K) (cTup cInt) (n :: ns) cInt (· = ns.foldl max n) := fun Hf H v e h Q q => by
  obtain ⟨a, h1, h2⟩ := ints_of_tup (K := K) e h
  exact ⟨a, n, ns, by rw [h1], h2, q _ Hf H _ rfl rfl Fr.refl e⟩
end
section
variable {S : Stc} {X : Cx} {Γ : Ctxt} {k : Nat} {α β γ ω ρ : Type} {c : Cod α} {cb : Cod β} {C : Addr} {F : Hp → List (Str × V) → ω → Prop} {hm : ∀ {H H' fs y}, Ex H H' → F H fs y → F H' fs y} {x : ω} {y : β} {a b e : Expr} {pos pn p2 : Pos} {lv : Nat}
variable {pre : ω × β → Prop} {g : ω × β → Bool}
theorem eqOG {sp : Sp} (E : EqA S.prog S.w S.K S.mg S.base C lv sp) (hl : lv ≤ S.lv) : ∀ X, Good S X → OpR X (compareOp .Eq) (rCmpOwn C false sp) := fun X G => by
  refine op_eqOwn (n := lv) ?_ (G.room.mono hl)
  rw [G.prog, G.w, G.K, G.mg, G.base]; exact E
theorem neOG {sp : Sp} (E : EqA S.prog S.w S.K S.mg S.base C lv sp) (hl : lv + 1 ≤ S.lv) : ∀ X, Good S X → OpR X (compareOp .NotEq) (rCmpOwn C true sp) := fun X G => by
  refine op_neOwn (n := lv) ?_ (G.room.mono hl)
  rw [G.prog, G.w, G.K, G.mg, G.base]; exact E
theorem lenOG {sp : Sp} (E : LenA S.prog S.w S.K S.mg S.base C lv sp) (hl : lv + 1 ≤ S.lv) : ∀ X, Good S X → CallR X (.builtin "len") (rLenOwn C sp) := fun X G => by
  refine cr_lenOwn (n := lv) ?_ (G.room.mono hl)
  rw [G.prog, G.w, G.K, G.mg, G.base]; exact E
theorem peqO (E : EqA S.prog S.w S.K S.mg S.base C lv (spP (fun (a : ω × β) => [.d (cIns C F hm) a.1, .d cb a.2]) pre cBool g)) (hl : lv ≤ S.lv) (see : SeeC C cb) (ha : PD S Γ 0 a (cIns C F hm) (· = x)) (hb : PD S Γ 0 b cb (· = y)) (hp : pre (x, y)) (hk : behindInMarks .Eq b = false) : PD S Γ 0 (.Compare a [.Eq] [b] pos) cBool (· = g (x, y)) :=
  pcmp (eqOG E hl) ha hb (rd_cmpOwn see hp) hk
theorem teqO (E : EqA S.prog S.w S.K S.mg S.base C lv (spP (fun (a : ω × β) => [.d (cIns C F hm) a.1, .d cb a.2]) pre cBool g)) (hl : lv ≤ S.lv) (see : SeeC C cb) (ha : PD S Γ 0 a (cIns C F hm) (· = x)) (hb : PD S Γ 0 b cb (· = y)) (hp : pre (x, y)) (hk : behindInMarks .Eq b = false) : PDT S Γ 0 (.Compare a [.Eq] [b] pos) (· = g (x, y)) :=
  tcmp (eqOG E hl) ha hb (rd_cmpOwn see hp) hk
theorem pneO (E : EqA S.prog S.w S.K S.mg S.base C lv (spP (fun (a : ω × β) => [.d (cIns C F hm) a.1, .d cb a.2]) pre cBool g)) (hl : lv + 1 ≤ S.lv) (see : SeeC C cb) (ha : PD S Γ 0 a (cIns C F hm) (· = x)) (hb : PD S Γ 0 b cb (· = y)) (hp : pre (x, y)) (hk : behindInMarks .NotEq b = false) : PD S Γ 0 (.Compare a [.NotEq] [b] pos) cBool (· = !g (x, y)) :=
  pcmp (neOG E hl) ha hb (rd_cmpOwn see hp) hk
theorem tneO (E : EqA S.prog S.w S.K S.mg S.base C lv (spP (fun (a : ω × β) => [.d (cIns C F hm) a.1, .d cb a.2]) pre cBool g)) (hl : lv + 1 ≤ S.lv) (see : SeeC C cb) (ha : PD S Γ 0 a (cIns C F hm) (· = x)) (hb : PD S Γ 0 b cb (· = y)) (hp : pre (x, y)) (hk : behindInMarks .NotEq b = false) : PDT S Γ 0 (.Compare a [.NotEq] [b] pos) (· = !g (x, y)) :=
  tcmp (neOG E hl) ha hb (rd_cmpOwn see hp) hk
theorem plenO {pr : ω → Prop} {gl : ω → Int} (E : LenA S.prog S.w S.K S.mg S.base C lv (spP (fun (a : ω) => [.d (cIns C F hm) a]) pr cInt gl)) (hl : lv + 1 ≤ S.lv) (hg : S.sc.names.lookup ("len" : Str) = some .globalImplicit) (hmg : S.mg "len" = none) (h : PD S Γ 0 e (cIns C F hm) (· = x)) (hp : pr x) (hb : 0 ≤ gl x ∧ gl x < 9223372036854775808)
    (he : ∀ env : Env, starEach [e] env = (false, eval e env) :: starEach [] env) : PD S Γ 0 (.Call (.Name "len" pn) [e] [] pos) cInt (· = gl x) := pb1 (lenOG E hl) hg hmg PySem.boot_len h (rc_lenOwn hp hb) he
theorem prepr {z : Bool} (hg : S.sc.names.lookup ("repr" : Str) = some .globalImplicit) (hmg : S.mg "repr" = none) (h : PD S Γ 0 e cBool (· = z)) (he : ∀ env : Env, starEach [e] env = (false, eval e env) :: starEach [] env) : PD S Γ 0 (.Call (.Name "repr" pn) [e] [] pos) cStr (· = bStr z) :=
  pb1 (fun X G => cr_reprB) hg hmg (by decide +kernel) h rc_reprB he
theorem pisB {s t : Bool} (ha : PD S Γ 0 a cBool (· = s)) (hb : PD S Γ 0 b cBool (· = t)) (hk : behindInMarks .Is b = false) : PD S Γ 0 (.Compare a [.Is] [b] pos) cBool (· = decide (s = t)) := pcmp (fun X G => op_isB) ha hb rd_isB hk
theorem tisB {s t : Bool} (ha : PD S Γ 0 a cBool (· = s)) (hb : PD S Γ 0 b cBool (· = t)) (hk : behindInMarks .Is b = false) : PDT S Γ 0 (.Compare a [.Is] [b] pos) (· = decide (s = t)) := tcmp (fun X G => op_isB) ha hb rd_isB hk
theorem pmaxT {n : Int} {ns : List Int} (hg : S.sc.names.lookup ("max" : Str) = some .globalImplicit) (hmg : S.mg "max" = none) (h : PD S Γ 0 e (cTup cInt) (· = n :: ns)) (he : ∀ env : Env, starEach [e] env = (false, eval e env) :: starEach [] env) : PD S Γ 0 (.Call (.Name "max" pn) [e] [] pos) cInt (· = ns.foldl max n) :=
  pb1 (r := rMaxT S.K) (id := "max") (fun X G => by rw [← G.K]; exact cr_maxT G.calm G.room.units) hg hmg (by decide +kernel) h rc_maxT he
theorem pmax2 {i j : Int} (hg : S.sc.names.lookup ("max" : Str) = some .globalImplicit) (hmg : S.mg "max" = none) (ha : PD S Γ 0 a cInt (· = i)) (hb : PD S Γ 0 b cInt (· = j)) (he : ∀ env : Env, starEach [a, b] env = (false, eval a env) :: starEach [b] env) (he2 : ∀ env : Env, starEach [b] env = (false, eval b env) :: starEach [] env) (hpl : ∀ env : Env, (backTo pos (starEach [b] env)).any (·.1) = false) :
    PD S Γ 0 (.Call (.Name "max" pn) [a, b] [] pos) cInt (· = max i j) :=
  pd_of (fun X G => pe_callB (call_max2 G.calm) (glb G hg) (by rw [G.mg]; exact hmg) (by decide +kernel) (pa_cons (tE_ok G) (pa_cons (tE_ok G) pa_nil (he2 _)) (he _)) (by decide) (by decide) (he _) (hpl _)) fun O n σ Hf H hn s Q q => ha O n σ Hf H hn s _ fun v Hf1 H1 z pz rz f1 s1 => hb O n σ Hf1 H1 hn s1 _ fun v2 Hf' H' z2 pz2 rz2 f2 s2 => by
    subst pz pz2
    obtain rfl := rz
    obtain rfl := rz2
    refine ⟨z, z2, rfl, q _ Hf' H' _ rfl ?_ (f1.trans f2 fun _ z => .inl z) s2⟩
    show V.int _ = V.int _
    congr 1
    rw [Int.max_def]
    split <;> split <;> omega
/-! slices -/
def cutD {α : Type} (xs : List α) (lo hi : Option Int) : List α := (xs.drop (HT.sIx xs.length 0 lo)).take (HT.sIx xs.length xs.length hi - HT.sIx xs.length 0 lo)
theorem paired_cut {G : V → α → Prop} {vs : List V} {xs : List α} (h : Paired G vs xs) (lo hi : Option Int) : Paired G (cutV vs lo hi) (cutD xs lo hi) := by
  have hl := paired_len h
  unfold cutV cutD
  rw [hl]
  have dr : ∀ {vs : List V} {xs : List α} (n : Nat), Paired G vs xs → Paired G (vs.drop n) (xs.drop n) := fun {vs xs} n h => by
    induction h generalizing n with
    | nil => simp; exact .nil
    | cons r t ih => cases n with
      | zero => exact .cons r t
      | succ n => exact ih n
  have tk : ∀ {vs : List V} {xs : List α} (n : Nat), Paired G vs xs → Paired G (vs.take n) (xs.take n) := fun {vs xs} n h => by
    induction h generalizing n with
    | nil => simp; exact .nil
    | cons r t ih => cases n with
      | zero => simp; exact .nil
      | succ n => exact .cons r (ih n)
  exact tk _ (dr _ h)
inductive PPt (S : Stc) (Γ : Ctxt) : Option Expr → Option Int → Prop
  | none : PPt S Γ none none
  | some {e : Expr} {i : Int} (h : PD S Γ 0 e cInt (· = i)) : PPt S Γ (some e) (some i)
def tPt (S : Stc) : Option Expr → TO
  | none => tNoPart
  | some e => tPart (tE S e)
theorem tPt_ok (G : Good S X) : ∀ {o : Option Expr}, PO X o (tPt S o)
  | none => po_none
  | some _ => po_some (tE_ok G)
theorem PPt.run {O : Org} {n : Nat} {σ : Stt} {Hf H : Hp} {o : Option Expr} {i : Option Int} (h : PPt S Γ o i) (hn : n + 0 ≤ LIM) (s : Sat O Hf H σ Γ n) {R : Option Int → Hp → Prop} (q : ∀ Hf' H', Fr (Bx Γ) Hf H Hf' H' → Sat O Hf' H' σ Γ (n + 0) → R i H') : tPt S o σ H R := by
  cases h with
  | none => exact q Hf H Fr.refl s
  | some h =>
    refine h O n σ Hf H hn s _ fun v Hf' H' z pz rz f s' => ?_
    subst pz
    exact ⟨z, rz, q Hf' H' f s'⟩
variable {xs : List α} {lo hi : Option Expr} {l u : Option Int}
theorem pslL (h : PD S Γ 0 e (cList c) (· = xs)) (hl : PPt S Γ lo l) (hu : PPt S Γ hi u) : PDF S Γ 0 (.Subscript e (.Slice lo hi none p2) pos) c (· = cutD xs l u) :=
  pdf_of (fun X G => pe_slice (r := rSlL S.K) (by rw [← G.K]; exact sl_list) (tE_ok G) (tPt_ok G) (tPt_ok G)) fun O n σ Hf H hn s Q q => h O n σ Hf H hn s _ fun v Hf1 H1 z pz rz f1 s1 => hl.run hn s1 fun Hf2 H2 f2 s2 => hu.run hn s2 fun Hf3 H3 f3 s3 => by
    subst pz
    obtain ⟨a, vs, h1, h2, h3, h4⟩ := (cList c).mono (f2.ex.trans f3.ex) rz
    have f := (f1.trans f2 fun _ z => .inl z).trans f3 fun _ z => .inl z
    refine ⟨a, vs, h1, SqL.of (s3.ex _ _ h2), fun p hp => ?_⟩
    exact q p _ Hf3 _ _ rfl upd_same (s3.ex.back hp) (f.dom p hp) (paired_cut h3 l u) (Nat.le_trans (cutV_length vs l u) h4) (f.trans (Fr.newO (M := Bx Γ) hp) fun _ z => .inl z) (s3.grow0 (Fr.newO hp) (s3.ex.trans (Ex.new hp)))
theorem cutD_whole {α : Type} {xs : List α} {l u : Option Int} (h : HT.sIx xs.length 0 l = 0 ∧ HT.sIx xs.length xs.length u = xs.length) : cutD xs l u = xs := by
  unfold cutD
  rw [h.1, h.2]; simp
theorem pslT (h : PD S Γ 0 e (cTup c) (· = xs)) (hl : PPt S Γ lo l) (hu : PPt S Γ hi u) : PD S Γ 0 (.Subscript e (.Slice lo hi none p2) pos) (cTup c) (· = cutD xs l u) :=
  pd_of (fun X G => pe_slice (r := rSlA S.K) (by rw [← G.K]; exact sl_tupA) (tE_ok G) (tPt_ok G) (tPt_ok G)) fun O n σ Hf H hn s Q q => h O n σ Hf H hn s _ fun v Hf1 H1 z pz rz f1 s1 => hl.run hn s1 fun Hf2 H2 f2 s2 => hu.run hn s2 fun Hf3 H3 f3 s3 => by
    subst pz
    have rz' := (cTup c).mono (f2.ex.trans f3.ex) rz
    obtain ⟨a, vs, h1, h2, h3, h4⟩ := id rz'
    have f := (f1.trans f2 fun _ z => .inl z).trans f3 fun _ z => .inl z
    refine ⟨a, vs, h1, SqT.of (s3.ex _ _ h2), fun w => ?_, fun _ p hp => ?_⟩
    · rw [paired_len h3] at w
      exact q _ Hf3 H3 _ rfl (by rw [cutD_whole w, ← h1]; exact rz') f s3
    · have e1 : Ex Hf3 (upd Hf3 p (.tup (cutV vs l u))) := Ex.new (s3.ex.back hp)
      exact q _ (upd Hf3 p (.tup (cutV vs l u))) _ _ rfl ⟨p, _, rfl, upd_same, paired_mono (paired_cut h3 l u) (fun _ _ z => c.mono e1 z), Nat.le_trans (cutV_length vs l u) h4⟩ (f.trans (Fr.new (M := Bx Γ) s3.ex hp) fun _ z => .inl z) (s3.new hp)
/-- r[1:] of three ints -/
theorem t3_tup {H : Hp} {v : V} {r : Int × Int × Int} (h : (cT3 cInt cInt cInt).rep H v r) : (cTup cInt).rep H v [r.1, r.2.1, r.2.2] := by
  obtain ⟨a, u, w, y, h1, h2, h3, h4, h5⟩ := h
  exact ⟨a, _, h1, h2, .cons h3 (.cons h4 (.cons h5 .nil)), by show 3 ≤ LB; decide⟩
theorem ptail3 {r : Int × Int × Int} {kx : Nat} {p3 : Pos} (h : PD S Γ 0 e (cT3 cInt cInt cInt) (· = r)) : PD S Γ 0 (.Subscript e (.Slice (some (.Constant (.int 1) kx p3)) none none p2) pos) (cTup cInt) (· = [r.2.1, r.2.2]) :=
  pslT (xs := [r.1, r.2.1, r.2.2]) (h.conv fun H v x px rx => ⟨_, rfl, by subst px; exact t3_tup rx⟩) (.some (i := 1) pd_int) .none
end
end DL

set_option Elab.async false
set_option linter.all false
set_option maxRecDepth 100000
set_option maxHeartbeats 2000000
/-! ### sorted of a tuple of triples -/
namespace DL
open PySem PySem.Spec L2
theorem sorted_of_tup {prog : Program} {w : World} {A : Around} {E : Value → Shared → Prop} {s : Shared} {l : Addr} {vs : List Value} {d : Nat} {B : Int} {Q : Value → Shared → Prop} (ht : s.heap.IsTuple l vs.toArray) (few : vs.length < 64) (hd : 1 ≤ d) (x : TS.TupsOk s.heap d B vs)
    (h : ∀ (out : Array Value) (h1 h' : Heap) (n : Nat), out.toList.Perm vs → out.toList.Pairwise (fun u v => TS.code B (TS.intsOf s.heap u) ≤ TS.code B (TS.intsOf s.heap v)) → (∀ b o, s.heap.get? b = some o → h1.get? b = some o) → (∀ b o, h1.get? b = some o → h'.get? b = some o) →
      h'.get? h1.objs.size = some (PyProof.Rows.seqObj "list" out n) → Q (.ref h1.objs.size) { s with heap := h' }) :
    wpAny (model prog w) A (call (.builtin "sorted") [.ref l]) Q E s := by
  obtain ⟨o, ho, hc, n, hdt⟩ := id ht
  have fits : vs.length ≤ sizeLine := by rw [sizeLine_eq]; omega
  refine PySem.Calls.call_function_entry PyProof.Rows.kind_sorted PyProof.Rows.plain_sorted PyProof.Rows.entry_sorted (PyProof.Rows.args_sorted1 _) ?_
  unfold Builtin.«sorted»
  refine wpAny_bind (m := checkCount "sorted" 1 1 _) (wpAny_pure ?_)
  refine wpAny_bind (wpAny_collect_seq l (.inr rfl) ho hc hdt (fun h1 k1 => ?_) (by simpa using fits))
  refine wpAny_bind (PySem.wpAny_newList ?_ (by simpa using fits))
  have hoL : (h1.push (PyProof.Rows.seqObj "list" vs.toArray 0)).get? h1.objs.size = some (PyProof.Rows.seqObj "list" vs.toArray 0) := Heap.get?_push_size _ rfl
  have k2 : ∀ b u, s.heap.get? b = some u → (h1.push (PyProof.Rows.seqObj "list" vs.toArray 0)).get? b = some u := fun b u e => Heap.get?_push_of_some _ (k1 b u e)
  refine wpAny_bind (wpAny_holding (TS.call_sort_tups (s := { s with heap := h1.push (PyProof.Rows.seqObj "list" vs.toArray 0) }) hoL few hd (x.keeps fun b u e _ => k2 b u e) fun out a1 a2 => ?_))
  obtain ⟨ep, he⟩ := PyProof.Rows.sortedHeap_at (vs := vs) (out := out) hoL
  refine wpAny_pure ⟨_, rfl, h out h1 _ ep a1 ?_ k1 (fun b u e => ?_) he⟩
  · refine List.Pairwise.imp_of_mem (fun {u v} hu hv q => ?_) a2
    obtain ⟨n1, t1, _⟩ := x u (a1.mem_iff.mp hu)
    obtain ⟨n2, t2, _⟩ := x v (a1.mem_iff.mp hv)
    have e1 := (t1.keeps fun b o e (_ : o.cls = .type "tuple") => k2 b o e).ints
    have e2 := (t2.keeps fun b o e (_ : o.cls = .type "tuple") => k2 b o e).ints
    have q' : TS.code B (TS.intsOf (h1.push (PyProof.Rows.seqObj "list" vs.toArray 0)) u) ≤ TS.code B (TS.intsOf (h1.push (PyProof.Rows.seqObj "list" vs.toArray 0)) v) := q
    rw [e1, e2] at q'
    rw [t1.ints, t2.ints]; exact q'
  · have lt := Heap.lt_size e
    have e2 : (h1.push (PyProof.Rows.seqObj "list" vs.toArray 0)).get? b = some u := Heap.get?_push_of_some _ e
    rw [PyProof.Rows.sortedHeap_old (Nat.ne_of_lt lt) (Heap.lt_size e2)]
    exact e2
/-- sorted of a list or a tuple of triples in [0, 64) -/
def rSort3 (K : PySem.W.Frag) : List V → Hp → VK → Prop := fun vs H Q => ∃ (a : Addr) (xs : List V), vs = [V.ref a] ∧ SqT K H a xs ∧ xs.length < 64 ∧ (∀ x ∈ xs, ∃ ns, TupI K H x ns ∧ ns.length = 3 ∧ TS.Bd 64 ns) ∧
  ∀ (ys : List V) (p : Addr), ys.Perm xs → ys.Pairwise (fun x y => ∀ n m, TupI K H x n → TupI K H y m → TS.code 64 n ≤ TS.code 64 m) → H p = none → Q (.ref p) (upd H p (.lst ys))
theorem cr_sort3T {X : Cx} : CallR X (.builtin "sorted") (rSort3 X.K) := by
  intro pins s σ H vs us Q I r h
  obtain ⟨a, xs, rfl, hs, few, hx, q⟩ := h
  obtain ⟨its, rv, tup, hz⟩ := I.tuple hs
  rw [Vals.ref1 r]
  obtain ⟨e1, e2⟩ := bkV_refs rv fun x m => by
    obtain ⟨ns, ⟨t, e, _⟩, _⟩ := hx x m
    exact ⟨t, e⟩
  refine sorted_of_tup (d := 3) (B := 64) tup (by rw [← rv.length]; exact few) (by decide) (fun v hv => ?_) fun out h1 h' ep p1 p2 k1 k2 he => ?_
  · obtain ⟨t, rfl⟩ := e2 v hv
    have inx : V.ref t ∈ xs := by rw [e1]; exact List.mem_map.mpr ⟨_, hv, rfl⟩
    obtain ⟨ns, ⟨t', e, ht⟩, hn, hb⟩ := hx _ inx
    cases e
    exact ⟨ns, tupI_raw I ht, hn, hb⟩
  · have refs : ∀ u ∈ out.toList, ∃ a, u = Value.ref a := fun u hu => e2 u (p1.mem_iff.mp hu)
    have pm : (out.toList.map bkV).Perm xs := by rw [e1]; exact p1.map bkV
    have len : (out.toList.map bkV).length ≤ sizeLine := by rw [pm.length_eq]; exact hz
    have I1 : Inv X pins σ H { s with heap := h1 } := I.kept (t' := s.toks) k1
    refine ⟨.ref h1.objs.size, upd H h1.objs.size (.lst (out.toList.map bkV)), I1.laid (t' := s.toks) k2 (Nat.le_refl _) ⟨len, out.toList, ep, bkV_vals refs, he⟩, rfl, q _ _ pm ?_ (I1.hok.fresh (Nat.le_refl _))⟩
    rw [List.pairwise_map]
    refine List.Pairwise.imp (fun {u v} huv n m hn hm => ?_) p2
    obtain ⟨t, et, ht⟩ := hn
    obtain ⟨t', et', ht'⟩ := hm
    have i1 := (tupI_raw I ht).ints
    have i2 := (tupI_raw I ht').ints
    rw [← bkV_ref et] at i1
    rw [← bkV_ref et'] at i2
    rw [← i1, ← i2]
    exact huv
theorem rc_sort3T {K : PySem.W.Frag} {rs : List R3} (hl : rs.length < 64) (hb : ∀ r ∈ rs, In64 r) : RC1F (rSort3 K) (cTup (cT3 cInt cInt cInt)) rs (cT3 cInt cInt cInt) (· = sort3 rs) := fun Hf H v e ⟨a, vs, h1, h2, h3, h4⟩ Q q => by
  refine ⟨a, vs, by rw [h1], SqT.of (e _ _ h2), by rw [paired_len h3]; exact hl, fun x hx => ?_, fun ys p hp hu hn => ?_⟩
  · obtain ⟨r, hr, rr⟩ := paired_in h3 x hx
    refine ⟨_, tupI3 e rr, rfl, fun m hm => ?_⟩
    obtain ⟨b1, b2, b3⟩ := hb r hr
    simp at hm
    rcases hm with z | z | z
    · rw [z]; exact b1
    · rw [z]; exact b2
    · rw [z]; exact b3
  · obtain ⟨zs, hz, pz⟩ := paired_perm hp h3
    refine q p ys zs (sortBy_eq hz (paired_mem2 pz hu fun u v x y _ _ rx ry R => ?_) fun a ha b hb' => code3_inj (hb a ha) (hb b hb')) hn pz ?_
    · have := R _ _ (tupI3 e rx) (tupI3 e ry)
      rw [code_3, code_3] at this; exact this
    · rw [hp.length_eq]; exact h4
section
variable {S : Stc} {Γ : Ctxt} {e : Expr} {pos pn : Pos} {rs : List R3}
theorem psort3T (hg : S.sc.names.lookup ("sorted" : Str) = some .globalImplicit) (hm : S.mg "sorted" = none) (h : PD S Γ 0 e (cTup (cT3 cInt cInt cInt)) (· = rs)) (hl : rs.length < 64) (hb : ∀ r ∈ rs, In64 r) (he : ∀ env : Env, starEach [e] env = (false, eval e env) :: starEach [] env) :
    PDF S Γ 0 (.Call (.Name "sorted" pn) [e] [] pos) (cT3 cInt cInt cInt) (· = sort3 rs) := pfb1 (r := rSort3 S.K) (id := "sorted") (fun X G => by rw [← G.K]; exact cr_sort3T) hg hm PyProof.Rows.boot_sorted h (rc_sort3T hl hb) he
end
end DL

set_option Elab.async false
set_option linter.all false
set_option maxRecDepth 100000
set_option maxHeartbeats 2000000
namespace DL
open PySem PySem.Spec L2
section
variable {S : Stc} {Γ : Ctxt} {a b d : Expr} {pos : Pos}
/-- a < b < d as a test -/
theorem tchain {op op' : CmpOp} {g g' : Int → Int → Bool} {i j l : Int} (ho : ∀ X : Cx, OpR X (compareOp op) (rI0 fun i j => .bl (g i j))) (ho' : ∀ X : Cx, OpR X (compareOp op') (rI0 fun i j => .bl (g' i j))) (ha : PD S Γ 0 a cInt (· = i)) (hb : PD S Γ 0 b cInt (· = j)) (hd : PD S Γ 0 d cInt (· = l)) (hm : lastMarks [op, op'] [b, d] = false) :
    PDT S Γ 0 (.Compare a [op, op'] [b, d] pos) (· = (g i j && g' j l)) :=
  pdt_of (fun X G => pt_chain (ho X) (ho' X) (tE_ok G) (tE_ok G) (tE_ok G) hm) fun O n σ Hf H hn s Q q => ha O n σ Hf H hn s _ fun v Hf1 H1 x1 p1 r1 f1 s1 => hb O n σ Hf1 H1 hn s1 _ fun v2 Hf2 H2 x2 p2 r2 f2 s2 => by
    subst p1 p2
    obtain rfl := r1
    obtain rfl := r2
    refine ⟨x1, x2, rfl, rfl, g x1 x2, rfl, ?_⟩
    cases hg : g x1 x2 with
    | true =>
      refine iteT (hd O n σ Hf2 H2 hn s2 _ fun v3 Hf3 H3 x3 p3 r3 f3 s3 => ?_)
      subst p3
      obtain rfl := r3
      exact ⟨x2, x3, rfl, rfl, _, rfl, q _ Hf3 H3 (by rw [hg, Bool.true_and]) ((f1.trans f2 fun _ z => .inl z).trans f3 fun _ z => .inl z) s3⟩
    | false => exact iteF ⟨_, rfl, q _ Hf2 H2 (by rw [hg, Bool.false_and]) (f1.trans f2 fun _ z => .inl z) s2⟩
end
end DL

set_option Elab.async false
set_option linter.all false
set_option maxRecDepth 100000
set_option maxHeartbeats 2000000
namespace DL
open PySem PySem.Spec L2
/-! ### a promise of a new list is one of data -/
theorem spF_D {A α : Type} {ps : Addr → A → Ctxt} {kf : A → Nat} {pre : A → Prop} {c : Cod α} {P : A → List α → Prop} {vs : List V} {H : Hp} {Q : VK} {E : XK} (h : spD ps kf pre (cList c) P vs H Q E) : spF ps kf pre c P vs H Q E := by
  obtain ⟨a, b, n, Hf, hp, hn, ex, o, bx, q⟩ := h
  refine ⟨a, b, n, Hf, hp, hn, ex, o, bx, fun r ws Hf' H' xs px e1 e2 e3 e4 e5 f ex' bx' => ?_⟩
  have e0 : Ex Hf' (upd Hf' r (.lst ws)) := Ex.new e2
  refine q (.ref r) (upd Hf' r (.lst ws)) H' xs px ⟨r, ws, rfl, upd_same, paired_mono e4 (fun _ _ z => c.mono e0 z), e5⟩ (f.fix e3 e2 e1) (ex'.fix e1) fun z hz => ⟨?_, (bx' z hz).2⟩
  obtain ⟨_, _, _, _, _, w, _⟩ := bx z hz
  rw [upd_ne (ne_of_none w e3)]; exact (bx' z hz).1
section
variable {P : Program} {w : World} {K : PySem.W.Frag} {mg : Str → Option Value} {base : Heap} {C : Addr} {m x : Str} {pn : List Str} {lv : Nat} {A α : Type} {ps : Addr → A → Ctxt} {kf : A → Nat} {pre : A → Prop} {c : Cod α} {PR : A → List α → Prop}
theorem MCal.dat (M : MCal P w K mg base C m pn lv (spF ps kf pre c PR)) : MCal P w K mg base C m pn lv (spD ps kf pre (cList c) PR) := by
  obtain ⟨f, fd, F, hm, hb⟩ := M.ex
  exact ⟨f, fd, F.imp fun vs H Q E h => spF_D h, hm, hb⟩
theorem Cal.dat (M : Cal P w K mg base x pn lv (spF ps kf pre c PR)) : Cal P w K mg base x pn lv (spD ps kf pre (cList c) PR) := M.imp fun _ _ F => F.imp fun vs H Q E h => spF_D h
/-- a method of one parameter, by place and by keyword -/
structure MBoth (P : Program) (w : World) (K : PySem.W.Frag) (mg : Str → Option Value) (base : Heap) (C : Addr) (m kn : Str) (lv : Nat) (sp : Sp) : Prop where
  ex : ∃ f fd, FnOk P w K mg base CX0 lv f fd [("self" : Str), kn] sp ∧ Meth K C m f ∧ Binds K fd [("self" : Str), kn] [] ∧ KBinds K fd [("self" : Str), kn] [kn] g2 g2
theorem mboth {m kn qual : Str} {st : Stmt} {sp : Sp} (D : MDef K C m qual st) (hb : BindsM st m qual [("self" : Str), kn]) (hk : ∀ (kV doc pm : Value) (an : Option Addr) (cdv ct a b : Value), bindArgs (PySem.W.fnOf m qual (defArgs st) (defBody st) (defScope st) .none kV doc pm an cdv ct) ⟨[a], [kn].zip [b]⟩ = pure ([("self" : Str), kn].zip [a, b]))
    (h : ∀ f fd, Fun K m qual st f fd → FnOk P w K mg base CX0 lv f fd [("self" : Str), kn] sp) : MBoth P w K mg base C m kn lv sp := by
  obtain ⟨f, fd, Fu, hm⟩ := D.ex
  refine ⟨f, fd, h f fd Fu, hm, Fu.binds hb, ?_⟩
  obtain ⟨oc, od, kV, doc, pm, an, cdv, ct, osl, rfl, lk, hcd⟩ := Fu.ex
  exact kb2 fun a b => hk _ _ _ _ _ _ a b
theorem MBoth.p {m kn : Str} {sp : Sp} (M : MBoth P w K mg base C m kn lv sp) : MCal P w K mg base C m [("self" : Str), kn] lv sp := by
  obtain ⟨f, fd, F, hm, hb, _⟩ := M.ex
  exact ⟨f, fd, F, hm, hb⟩
theorem MBoth.k {m kn : Str} {sp : Sp} (M : MBoth P w K mg base C m kn lv sp) : MCalK P w K mg base C m [("self" : Str), kn] [kn] lv sp := by
  obtain ⟨f, fd, F, hm, _, hb⟩ := M.ex
  exact ⟨f, fd, F, hm, hb⟩
theorem MBoth.dat {m kn : Str} (M : MBoth P w K mg base C m kn lv (spF ps kf pre c PR)) : MBoth P w K mg base C m kn lv (spD ps kf pre (cList c) PR) := by
  obtain ⟨f, fd, F, h⟩ := M.ex
  exact ⟨f, fd, F.imp fun vs H Q E h => spF_D h, h⟩
end
/-! ### a method called where errors are caught -/
def tMethXS (C : Addr) (m : Str) (sp : Sp) (E : Stt → XK) (ta : TE) (t : TA) : TE := fun σ H Q => ta σ H fun x H1 => ∃ a dx fs, x = .ref a ∧ H1 a = some (.ins C dx fs) ∧ fs.lookup m = none ∧ t σ H1 fun vs H2 => sp (x :: vs) H2 Q (E σ)
section
variable {X : Cx} {CX : CXT} {k : Nat} {f C : Addr} {fd : FuncData} {ps ks : List Str} {sp : Sp} {E : Stt → XK} {m x : Str} {p pos apos : Pos} {o e : Expr} {es : List Expr} {kws : List Keyword} {ta : TE} {t tk : TA}
theorem pe_methXS {pl : Sem Bool} (he : PE X o ta) (c : Cls X.K C) (hm : Meth X.K C m f) (F : FnOk X.prog X.w X.K X.mg X.base CX k f fd ps sp) (hr : Room k X.A) (hb : Binds X.K fd ps []) (hx : ∀ σ, PassesAt CX X σ (E σ)) (ha : PA X (e :: es) t)
    (hst : starEach (e :: es) X.env = (false, eval e X.env) :: starEach es X.env) (hpl : (backTo pos (starEach es X.env)).any (·.1) = false)
    (ht : eval (.Call (.Attribute o m apos) (e :: es) [] pos) X.env = getDot X.env o m apos pl fun g fx => callWith pos g fx (backTo pos (starEach (e :: es) X.env)) (backToKw pos (keywordEach [] X.env))) :
    PE X (.Call (.Attribute o m apos) (e :: es) [] pos) (tMethXS C m sp E ta t) := by
  constructor
  intro pins s σ H Q I h
  refine dot_ins (R := fun x H1 => t σ H1 fun vs H2 => sp (x :: vs) H2 Q (E σ)) he c hm ht I h fun a H1 s1 I1 q => PySem.W.callWith_K (first := [.ref a]) (h₀ := X.base) I.ok.mod.kin hm.kp (thn (ha.run pos pins s1 σ H1 _ I1 q) ?_) hst hpl
  rintro us s2 ⟨vs, H2, I2, r, q2⟩
  refine ⟨I2.kIn, ?_⟩
  exact run_fnS (us := .ref a :: us) (vs := .ref a :: vs) F hr hb (hx σ) I2 (.cons rfl r) q2
/-! ### C(k = e) -/
def tMakeN0 (C : Addr) (m : Nat) (sp : Sp) (gV : List V → List V → List V) (E : XK) (tk : TA) : TE := fun σ H Q => tk σ H fun zs H2 => zs.length = m ∧
  ∀ x dx, H2 x = none → H2 dx = none → dx ≠ x → sp (gV [.ref x] zs) (upd (upd H2 dx (.own x)) x (.ins C dx [])) (fun v H3 => v = .non ∧ Q (.ref x) H3) E
theorem pe_makeN0 {E : XK} {g : List Value → List Value → List Value} {gV : List V → List V → List V} (M : Mk X.K C f) (F : FnOk X.prog X.w X.K X.mg X.base CX k f fd ps sp) (hr : Room (k + 1) X.A) (hg : Gl X x) (hm : X.mg x = some (.ref C)) (hb : KBn X.K fd ps 1 ks g gV) (hx : Passes CX X E)
    (hkw : PK X kws tk) (hall : (backToKw pos (keywordEach kws X.env)).all (·.1.isSome) = true) (hks : (backToKw pos (keywordEach kws X.env)).filterMap (·.1) = ks)
    (hdb : (x == ("__debug__" : Str)) = false)
    (hpl : ((backTo pos (starEach [] X.env)).any (·.1) || (backToKw pos (keywordEach kws X.env)).any (·.1.isNone)) = false) :
    PE X (.Call (.Name x p) [] kws pos) (tMakeN0 C ks.length sp gV E tk) := by
  refine ⟨fun pins s σ H Q I h => ?_⟩
  refine wpAny_Call_Name_kw (ld_glob I hg hm ?_ hdb)
  refine PySem.W.callWith_KW0 (h₀ := X.base) I.ok.mod.kin M.kp hall ?_ hpl
  refine thn (hkw.run pos pins s σ H _ I h) fun ws s2 ⟨zs, H2, I2, rz, l2, q2⟩ => ⟨I2.kIn, ?_⟩
  rw [hks]
  exact run_makeN (n := 0) M F hr hb hx I2 .nil rz rfl l2 q2
end
section
variable {S : Stc} {Γ : Ctxt} {k : Nat} {α ω : Type} {ca : Cod α} {P : α → Prop} {e : Expr} {pos pn kp : Pos} {C : Addr} {F : Hp → List (Str × V) → ω → Prop} {hm : ∀ {H H' fs y}, Ex H H' → F H fs y → F H' fs y} {x kn : Str} {lv : Nat}
/-- __init__ by its keyword -/
structure ICalK (P : Program) (w : World) (K : PySem.W.Frag) (mg : Str → Option Value) (base : Heap) (C : Addr) (kn : Str) (lv : Nat) (sp : Sp) : Prop where
  ex : ∃ f fd, FnOk P w K mg base CX0 lv f fd [("self" : Str), kn] sp ∧ Mk K C f ∧ KBn K fd [("self" : Str), kn] 1 [kn] g2 g2
theorem kbn2 {K : PySem.W.Frag} {fd : FuncData} {p1 p2 : Str} (h : ∀ a b : Value, bindArgs fd ⟨[a], [p2].zip [b]⟩ = pure ([p1, p2].zip [a, b])) : KBn K fd [p1, p2] 1 [p2] g2 g2 where
  to := fun s us ws _ l1 l2 => by
    match us, ws, l1, l2 with
    | [a], [b], _, _ => exact .of_eq (h a b)
  rel := (kb2 (K := K) h).rel
theorem pmakeK1 {pre : α → Prop} {Pi : α → ω → Prop} {P' : ω → Prop} (I : ICalK S.prog S.w S.K S.mg S.base C kn lv (spI C (fun a => [.d ca a]) pre F Pi)) (hl : lv + 1 ≤ S.lv) (hg : S.sc.names.lookup x = some .globalImplicit) (hmg : S.mg x = some (.ref C)) (he : PD S Γ k e ca P) (hc : ∀ z, P z → pre z ∧ ∀ y, Pi z y → P' y)
    (hall : ∀ env : Env, (backToKw pos (keywordEach [⟨some kn, e, kp⟩] env)).all (·.1.isSome) = true) (hks : ∀ env : Env, (backToKw pos (keywordEach [⟨some kn, e, kp⟩] env)).filterMap (·.1) = [kn])
    (hpl : ∀ env : Env, ((backTo pos (starEach [] env)).any (·.1) || (backToKw pos (keywordEach [⟨some kn, e, kp⟩] env)).any (·.1.isNone)) = false) (hdb : (x == ("__debug__" : Str)) = false := by decide) : PD S Γ k (.Call (.Name x pn) [] [⟨some kn, e, kp⟩] pos) (cIns C F hm) P' := by
  obtain ⟨f, fd, Fn, M, hb⟩ := I.ex
  refine pd_of (fun X G => pe_makeN0 (by rw [G.K]; exact M) (fnG Fn G) (G.room.mono hl) (glb G hg) (by rw [G.mg]; exact hmg) (by rw [G.K]; exact hb) pass0 (pk_cons (tE_ok G) pk_nil) (hall _) (hks _) hdb (hpl _)) fun O n σ Hf H hn s Q q => he O n σ Hf H hn s _ fun v Hf1 H1 z pz rz f s => ⟨rfl, fun x dx hx hdx ne => ?_⟩
  obtain ⟨hp, hh⟩ := hc z pz
  have ex0 : Ex Hf1 (upd (upd H1 dx (.own x)) x (.ins C dx [])) := s.ex.trans ((Ex.new hdx).trans (Ex.new (by rw [upd_ne ne.symm]; exact hx)))
  have fx : Hf1 x = none := s.ex.back hx
  refine ⟨z, x, dx, [v], Hf1, hp, rfl, upd_same, fx, ex0, ⟨rz, trivial⟩, fun Hf' H' fs y py hH hf hF fr ex => ⟨rfl, ?_⟩⟩
  have f1 : Fr (fun z => z = x) Hf1 H1 Hf' H' := by
    refine Fr.trans (M := fun z => z = x) (Fr.trans (M := fun z => z = x) (Hf1 := Hf1) (H1 := upd H1 dx (.own x)) (Fr.newO hdx) (Fr.newO (M := fun z => z = x) (by rw [upd_ne ne.symm]; exact hx)) fun _ z => .inl z) fr fun _ z => .inl z
  have f2 : Fr (Bx Γ) Hf1 H1 Hf' H' := f1.mono fun z e => .inr (by subst e; exact hx)
  have f3 : Fr (Bx Γ) Hf1 H1 (upd Hf' x (.ins C dx fs)) H' := f2.fix hx hf hH
  refine q _ _ _ y (hh y py) ⟨x, dx, fs, rfl, upd_same, hm (Ex.new hf) hF⟩ (f.trans f3 fun _ z => .inl z) ?_
  refine s.grow f3 (ex.fix hH) fun a' ⟨i, hi⟩ => ?_
  obtain ⟨_, z2, z3⟩ := s.at_ i _ hi
  have z4 := z3
  obtain ⟨_, _, _, _, e, _⟩ := z4
  have nx : a' ≠ x := ne_of_none e hx
  exact ⟨by rw [upd_ne nx]; exact f1.fz a' _ e nx z2, boxAt_ex z3 fun o r => f1.keep a' o r nx⟩
end
end DL

set_option Elab.async false
set_option linter.all false
set_option maxRecDepth 100000
set_option maxHeartbeats 2000000
/-! ### what is drawn: rules that tell a property of the value -/
namespace DL
open PySem PySem.Spec L2
section
variable {S : Stc} {Γ : Ctxt} {k k1 k2 k3 kn ke : Nat} {α β : Type} {c : Cod α} {c' : Cod β} {a b e : Expr} {pos pn : Pos} {P1 P2 P3 : Int → Prop} {PB : Bool → Prop} {xs : List α}
theorem paddR (ha : PD S Γ k1 a cInt P1) (hb : PD S Γ k2 b cInt P2) (hp : ∀ x y, P1 x → P2 y → P3 (x + y)) : PD S Γ (k1 + k2) (.BinOp a .Add b pos) cInt P3 :=
  pd_bin (fun _ _ => op_add) ha hb fun x y hx hy Hf H v u e h1 h2 Q q => rd_I0 (g := fun i j => i + j) Hf H v u e h1 h2 Q fun z Hf' H' w pz => q z Hf' H' w (by subst pz; exact hp x y hx hy)
theorem psubR (ha : PD S Γ k1 a cInt P1) (hb : PD S Γ k2 b cInt P2) (hp : ∀ x y, P1 x → P2 y → P3 (x - y)) : PD S Γ (k1 + k2) (.BinOp a .Sub b pos) cInt P3 :=
  pd_bin (fun _ _ => op_sub) ha hb fun x y hx hy Hf H v u e h1 h2 Q q => rd_I0 (g := fun i j => i - j) Hf H v u e h1 h2 Q fun z Hf' H' w pz => q z Hf' H' w (by subst pz; exact hp x y hx hy)
theorem pmodR (ha : PD S Γ k1 a cInt P1) (hb : PD S Γ k2 b cInt P2) (h0 : ∀ y, P2 y → 0 < y) (hp : ∀ x y, P1 x → P2 y → P3 (x % y)) : PD S Γ (k1 + k2) (.BinOp a .Mod b pos) cInt P3 :=
  pd_bin (fun _ _ => op_mod) ha hb fun x y hx hy Hf H v u e h1 h2 Q q => rd_I (C := fun _ j => 0 < j) (g := fun i j => i % j) (h0 y hy) Hf H v u e h1 h2 Q fun z Hf' H' w pz => q z Hf' H' w (by subst pz; exact hp x y hx hy)
theorem peqR (ha : PD S Γ k1 a cInt P1) (hb : PD S Γ k2 b cInt P2) (hm : behindInMarks .Eq b = false) : PD S Γ (k1 + k2) (.Compare a [.Eq] [b] pos) cBool (fun _ => True) :=
  pd_cmp (fun _ _ => op_eq) ha hb (fun x y hx hy Hf H v u e h1 h2 Q q => rd_eqI Hf H v u e h1 h2 Q fun z Hf' H' w _ => q z Hf' H' w trivial) hm
theorem pltR (ha : PD S Γ k1 a cInt P1) (hb : PD S Γ k2 b cInt P2) (hm : behindInMarks .Lt b = false) : PD S Γ (k1 + k2) (.Compare a [.Lt] [b] pos) cBool (fun _ => True) :=
  pd_cmp (fun _ _ => op_lt) ha hb (fun x y hx hy Hf H v u e h1 h2 Q q => rd_B0 (g := fun i j => decide (i < j)) Hf H v u e h1 h2 Q fun z Hf' H' w _ => q z Hf' H' w trivial) hm
/-- int of an int -/
theorem pintR (hg : S.sc.names.lookup ("int" : Str) = some .globalImplicit) (hm : S.mg "int" = none) (h : PD S Γ k e cInt P1) (he : ∀ env : Env, starEach [e] env = (false, eval e env) :: starEach [] env) : PD S Γ k (.Call (.Name "int" pn) [e] [] pos) cInt P1 :=
  pd_y1 (T := "int") (fun X G => call_int1) hg hm PyProof.Rows.boot_int h (fun x hx Hf H v e h1 Q q => .inl ⟨x, by rw [show v = .int x from h1], q x Hf H _ hx rfl Fr.refl e⟩) he
/-- xs[i], i drawn -/
theorem pixLR (ha : PD S Γ k1 a (cList c) (· = xs)) (hb : PD S Γ k2 b cInt (fun y => 0 ≤ y ∧ y < (xs.length : Int))) (hs : PlainIx b) : PD S Γ (k1 + k2) (.Subscript a b pos) c (fun z => z ∈ xs) :=
  pd_ixR ixLG ha hb (fun x y hx hy => by
    subst hx
    have hl : y.toNat < x.length := by omega
    exact rd_ixL ⟨x[y.toNat], by
      unfold atI
      rw [ixN_at hy]
      exact List.getElem?_eq_getElem hl, List.getElem_mem hl⟩) hs
/-- .. of a list that is drawn itself -/
theorem pixLP {n : Nat} {P : α → Prop} (ha : PD S Γ k1 a (cList c) (fun l => l.length = n ∧ ∀ z ∈ l, P z)) (hb : PD S Γ k2 b cInt (fun y => 0 ≤ y ∧ y < (n : Int))) (hs : PlainIx b) : PD S Γ (k1 + k2) (.Subscript a b pos) c P :=
  pd_ixR ixLG ha hb (fun x y hx hy => by
    obtain ⟨h1, h2⟩ := hx
    have hl : y.toNat < x.length := by omega
    exact rd_ixL ⟨x[y.toNat], by
      unfold atI
      rw [ixN_at (by omega)]
      exact List.getElem?_eq_getElem hl, h2 _ (List.getElem_mem hl)⟩) hs
/-- [e for x in xs], e drawn -/
theorem plcQ (own : List (Str × Nat)) {elt tg iter : Expr} {scope : Scope} {Q : β → Prop} (hw : PDI S Γ k tg iter c (· = xs)) (nv : NoBxs Γ (own.map (·.2))) (ok : blkC S.N S.sc scope own = true) (hfs : ∀ (env : Env) x, foldedSetIterable iter env x = pure x) (hk : xs.length * ke ≤ kn)
    (hs : ∀ x, x ∈ xs → ∃ Γ1 is, PDG (S.blk scope) tg c x (wipeC Γ (own.map (·.2))) Γ1 is ∧ (∀ i ∈ is, i ∈ own.map (·.2)) ∧ PD (S.blk scope) Γ1 ke elt c' Q) :
    PDF S Γ (k + kn) (.ListComp elt [⟨tg, iter, [], 0⟩] scope pos) c' (fun ys => ys.length = xs.length ∧ ∀ y ∈ ys, Q y) :=
  pdf_lc ok hfs (TDF.imp (tdf_lc (kt := 0) (ke := ke) (kn := kn) (X := (· = xs)) (fun _ pre ys => ys.length = pre.length ∧ ∀ y ∈ ys, Q y) hw (noBxs_mem nv) (fun _ _ => ⟨rfl, fun _ h => nomatch h⟩) (fun l e => by subst e; rw [Nat.zero_add]; exact hk) (fun l e pre x post ys hx hI => by
    obtain ⟨Γ1, is, h1, h2, h3⟩ := hs x (by rw [← e, hx]; simp)
    refine ⟨Γ1, is, (· = true), h1, h2, tts_nil, fun _ => h3.imp fun y hy => ⟨by rw [List.length_append, List.length_append, hI.1]; rfl, fun z hz => ?_⟩, fun h => nomatch h⟩
    rcases List.mem_append.mp hz with h | h
    · exact hI.2 z h
    · rw [List.mem_singleton.mp h]; exact hy)) fun ys ⟨l, e, h1, h2⟩ => by subst e; exact ⟨h1, h2⟩)
/-- [a, b], both drawn -/
theorem plst2R {P : α → Prop} {a b : Expr} (ha : PD S Γ k1 a c P) (hb : PD S Γ k2 b c P) (hs : ∀ env : Env, starEach [a, b] env = (false, eval a env) :: starEach [b] env) (hs2 : ∀ env : Env, starEach [b] env = (false, eval b env) :: starEach [] env) : PDF S Γ (k1 + k2) (.List [a, b] pos) c (fun l => l.length = 2 ∧ ∀ z ∈ l, P z) :=
  TDF.le (pdf_lst (pda_cons ha (pda_cons (k2 := 0) hb pda_nil hs2) hs) fun as ⟨x, r, hx, ⟨y, r2, hy, e2, e1⟩, e⟩ => ⟨[x, y], by rw [e, e1, e2]; rfl, by simp, rfl, fun z hz => by
    simp at hz
    rcases hz with z | z
    · rw [z]; exact hx
    · rw [z]; exact hy⟩) (by omega)
end
end DL

set_option Elab.async false
set_option linter.all false
set_option maxRecDepth 100000
set_option maxHeartbeats 2000000
namespace DL
open PySem PySem.Spec L2
section
variable {Γ Γ1 : Ctxt} {k k1 k2 : Nat} {α β ρ : Type} {c : Cod α} {P : α → Prop} {te to : TE} {g : TG} {p : Po ρ} {xs : List α} {R : List α → Prop}
theorem hs_unpackP (h : TD te Γ k c P) (hg : ∀ x, P x → ∃ Γ1 is, GD g c x Γ Γ1 is ∧ p.N Γ1) : HS (tAsg te g) Γ k p := fun O n σ Hf H hn S D q1 _ _ _ =>
  h O n σ Hf H hn S _ fun v Hf' H' y py r f s => by
    obtain ⟨Γ1, is, hg, hp⟩ := hg y py
    exact hg.2.2 O (n + k) σ Hf' H' v r s _ fun σ' S' _ => q1 σ' Hf' H' Γ1 hp ⟨S', hg.1, f.ex⟩
theorem tdf_catP {R' : List α → Prop} (ha : TD te Γ k1 (cList c) R) (hb : TD to Γ k2 (cList c) R') (lb : ∀ xs ys, R xs → R' ys → xs.length + ys.length ≤ LB) : TDF (tOp rCat te to) Γ (k1 + k2) c (fun zs => ∃ xs ys, R xs ∧ R' ys ∧ zs = xs ++ ys) := fun O n σ Hf H hn S Q q =>
  ha O n σ Hf H (by omega) S _ fun v Hf1 H1 x px r1 f1 S1 => hb O (n + k1) σ Hf1 H1 (by omega) S1 _ fun u Hf2 H2 y py r2 f2 S2 => by
    have l := lb x y px py
    obtain ⟨a, vs, h1, h2, h3, h4⟩ := (cList c).mono f2.ex r1
    obtain ⟨b, us, g1, g2, g3, g4⟩ := r2
    refine ⟨a, b, vs, us, h1, g1, S2.ex _ _ h2, S2.ex _ _ g2, ?_, fun p hp => ?_⟩
    · have := paired_len h3; have := paired_len g3; exact lb_line (by omega)
    · exact q p (vs ++ us) Hf2 _ _ ⟨x, y, px, py, rfl⟩ upd_same (S2.ex.back hp) (f1.dom p (f2.dom p hp)) (pap h3 g3) (by rw [List.length_append]; have := paired_len h3; have := paired_len g3; omega)
        ((f1.trans f2 fun _ z => .inl z).trans (Fr.newO (M := Bx Γ) hp) fun _ z => .inl z) (by rw [← Nat.add_assoc]; exact S2.grow0 (Fr.newO hp) (S2.ex.trans (Ex.new hp)))
end
section
variable {S : Stc} {Γ : Ctxt} {k k1 k2 kr : Nat} {α β ρ : Type} {c : Cod α} {P : α → Prop} {p : Po ρ} {a b e tg : Expr} {pos pos2 pn : Pos} {rest : List Stmt} {xs : List α} {R R' : List α → Prop}
theorem bunpackP (h : PD S Γ k e c P) (hg : ∀ x, P x → ∃ Γ1 is, PDG S tg c x Γ Γ1 is ∧ PHs S Γ1 kr rest p) (hs : ∀ env : Env, env.scope = S.sc → swapsWithSole [tg] e pos.line env = pure false) (hw : ∀ env : Env, env.scope = S.sc → swappedStores [tg] e env = pure none) (h1 : ∀ env : Env, (assignEach [tg] env).map (·.2) = [assign tg env]) :
    PHs S Γ (k + kr) (.Assign [tg] e pos :: rest) p :=
  phs_cons (N1 := fun G => PHs S G kr rest p) (ph_of (fun X G => ps_asg (tE_ok G) (tGt_ok G) (hs _ G.sc) (hw _ G.sc) (h1 _)) (hs_unpackP h hg)) fun Γ1 e => e
theorem pcatP (ha : PD S Γ k1 a (cList c) R) (hb : PD S Γ k2 b (cList c) R') (lb : ∀ xs ys, R xs → R' ys → xs.length + ys.length ≤ LB) : PDF S Γ (k1 + k2) (.BinOp a .Add b pos) c (fun zs => ∃ xs ys, R xs ∧ R' ys ∧ zs = xs ++ ys) :=
  pdf_of (fun X G => pe_op op_cat (tE_ok G) (tE_ok G)) (tdf_catP ha hb lb)
/-- [e], e drawn -/
theorem plst1R (h : PD S Γ k e c P) (hs : ∀ env : Env, starEach [e] env = (false, eval e env) :: starEach [] env) : PDF S Γ (k + 0) (.List [e] pos) c (fun l => ∃ y, P y ∧ l = [y]) :=
  pdf_lst (pda_cons (k2 := 0) h pda_nil hs) fun as ⟨x, r, hx, e2, e1⟩ => ⟨[x], by rw [e1, e2]; rfl, by simp, x, hx, rfl⟩
theorem ptupleR {PT : List α → Prop} (hg : S.sc.names.lookup ("tuple" : Str) = some .globalImplicit) (hm : S.mg "tuple" = none) (h : PD S Γ k e (cSeq c) PT) (he : ∀ env : Env, starEach [e] env = (false, eval e env) :: starEach [] env) : PD S Γ k (.Call (.Name "tuple" pn) [e] [] pos) (cTup c) PT :=
  pd_y1 (T := "tuple") tupG hg hm PyProof.Rows.boot_tuple h (fun x hx Hf H v e h1 Q q => rc_tuple Hf H v e h1 Q fun z Hf' H' w pz => q z Hf' H' w (by subst pz; exact hx)) he
end
theorem cutD_mem {α : Type} {xs : List α} {l u : Option Int} {x : α} (h : x ∈ cutD xs l u) : x ∈ xs := List.mem_of_mem_drop (List.mem_of_mem_take h)
theorem cutD_head {α : Type} {xs : List α} {j : Int} (h : 0 ≤ j ∧ j ≤ (xs.length : Int)) : cutD xs none (some j) = xs.take j.toNat := by
  have e : j = ((j.toNat : Nat) : Int) := by omega
  unfold cutD
  rw [e, HT.sIx_none, HT.sIx_nat]
  simp
  omega
theorem cutD_tail {α : Type} {xs : List α} {j : Int} (h : 0 ≤ j ∧ j ≤ (xs.length : Int)) : cutD xs (some j) none = xs.drop j.toNat := by
  have e : j = ((j.toNat : Nat) : Int) := by omega
  unfold cutD
  rw [e, HT.sIx_none, HT.sIx_nat]
  have hm : min j.toNat xs.length = j.toNat := by omega
  rw [Int.toNat_natCast, hm]
  exact List.take_of_length_le (by rw [List.length_drop]; omega)
theorem cutD_init {α : Type} {xs : List α} (h : 1 ≤ xs.length) : cutD xs none (some (-1)) = xs.take (xs.length - 1) := by
  unfold cutD HT.sIx
  simp
  omega
end DL

set_option Elab.async false
set_option linter.all false
set_option maxRecDepth 100000
set_option maxHeartbeats 2000000
namespace DL
open PySem PySem.Spec L2
section
variable {Γ : Ctxt} {k : Nat} {ρ : Type} {ts : TS} {p : Po ρ}
/-- some slots forgotten at once -/
theorem HS.drop (vs : List Nat) (nb : NoBxs Γ vs) (h : HS ts (wipeC Γ vs) k p) : HS ts Γ k p := fun O n σ Hf H hn S D q1 q2 q3 q4 =>
  h O n σ Hf H hn (S.forget vs) D (fun σ' Hf' H' Γ' a f => q1 σ' Hf' H' Γ' a ⟨f.sat, (wipeC_keep (noBxs_mem nb)).trans f.bx, f.ex⟩) (fun σ' Hf' H' Γ' a f => q2 σ' Hf' H' Γ' a ⟨f.sat, (wipeC_keep (noBxs_mem nb)).trans f.bx, f.ex⟩)
    (fun σ' Hf' H' Γ' a f => q3 σ' Hf' H' Γ' a ⟨f.sat, (wipeC_keep (noBxs_mem nb)).trans f.bx, f.ex⟩) (fun v σ' Hf' H' Γ' x a b f => q4 v σ' Hf' H' Γ' x a b ⟨f.sat, (wipeC_keep (noBxs_mem nb)).trans f.bx, f.ex⟩)
end
section
variable {S : Stc} {Γ : Ctxt} {α : Type} {c : Cod α} {a b d : Expr} {pos : Pos} {x : α} {b' : Bool}
/-- a if d else b, where it is known which -/
theorem pifT (h : PDT S Γ 0 d (· = b')) (e : b' = true) (ha : PD S Γ 0 a c (· = x)) : PD S Γ 0 (.IfExp d a b pos) c (· = x) :=
  TD.le (pd_if (k1 := 0) (k2 := 0) (k3 := 0) h (fun _ => ha) fun h => by rw [e] at h; cases h) (by decide)
theorem pifF (h : PDT S Γ 0 d (· = b')) (e : b' = false) (hb : PD S Γ 0 b c (· = x)) : PD S Γ 0 (.IfExp d a b pos) c (· = x) :=
  TD.le (pd_if (k1 := 0) (k2 := 0) (k3 := 0) h (fun h => by rw [e] at h; cases h) fun _ => hb) (by decide)
end
def forBody : Stmt → List Stmt
  | .For (body := b) .. => b
  | _ => []
end DL

set_option Elab.async false
set_option linter.all false
set_option maxRecDepth 100000
set_option maxHeartbeats 2000000
namespace DL
open PySem PySem.Spec L2
/-! ### defs that may know that nothing is being shown -/
structure FnG (P : Program) (w : World) (K : PySem.W.Frag) (mg : Str → Option Value) (base : Heap) (k : Nat) (f : Addr) (fd : FuncData) (ps : List Str) (sp : Sp) : Prop where
  len : ∀ vs H Q E, sp vs H Q E → vs.length = ps.length
  run : ∀ (A : Around) (up : List Env) (s : Shared) (H : Hp) (ar : Args) (us : List Value) (vs : List V) (Q : VK) (E : XK), A.guards = some [] → Room k A → Env0 P w K mg base A up s H → BindsTo s fd ar (ps.zip us) → Vals vs us → sp vs H Q E →
    codeAny (model P w) A (.call (.ref f) ar) (CR CX0 up P w H s Q E) s
theorem fnG_of {P : Program} {w : World} {K : PySem.W.Frag} {mg : Str → Option Value} {base : Heap} {x qual : Str} {st : Stmt} {f : Addr} {fd : FuncData} {N ps : List Str} {k : Nat} {sp : Sp} (F : Fun K x qual st f fd) (Sc : FnScope N ps (defScope st)) (len : ∀ vs H Q E, sp vs H Q E → vs.length = ps.length)
    (hb : ∀ (cdv : Value) (A : Around) (up : List Env) (s : Shared) (H : Hp) (vs : List V) (Q : VK) (E : XK), A.guards = some [] → Room k (A.deeper (PyProof.Rows.envOfC qual (defScope st) s.heap.objs.size f cdv)) → sp vs H Q E →
      ∃ t, PSs (cxOf CX0 P w K mg base N qual (defScope st) f cdv A up s H E).nox (defBody st) t ∧ t { nx := fun _ H' => Q .non H', rt := Q } (start N vs) H) : FnG P w K mg base (k + 1) f fd ps sp := by
  obtain ⟨oc, od, kV, doc, pm, an, cdv, ct, osl, rfl, lk, hcd⟩ := F.ex
  refine ⟨len, fun A up s H ar us vs Q E hg hr e0 hbi rv hsp => ?_⟩
  have vl := len _ _ _ _ hsp
  have KIn : K.In s.heap := e0.mod.kin.keeps fun b o e => (e0.bs b o e).1
  have noL : s.heap.NoLimit := e0.mod.nolimit.keeps fun b o e => (e0.bs b o e).1
  have hkd : ∀ y ∈ ps.zip us, (defScope st).names.lookup y.1 = some .local ∨ ((defScope st).names.lookup y.1 = some .cell ∧ ((cellsFrom (s.heap.objs.size + 1) (defScope st).names []).lookup y.1).isSome = true) := fun ⟨n, v⟩ hy => (Sc.par n (List.of_mem_zip hy).1).imp id fun z => ⟨z, PySem.W.cellsFrom_some _ _ _ (.inl z)⟩
  refine codeAny_call_function hr.depth (KIn _ _ lk) rfl Sc.co Sc.gen rfl (PySem.W.codeRec_of KIn hcd) (hbi _ _ _ _ ?_)
  refine wpAny_newFunctionEnv_cells Sc.kind hkd fun env he s1 ic => ?_
  subst he
  refine ⟨noL.keeps ic.toInCall.keep, codeAny_func ?_⟩
  obtain ⟨t, ht, hq⟩ := hb cdv A up s H vs Q E hg (hr.deeper _) hsp
  have I0 : Inv (cxOf CX0 P w K mg base N qual (defScope st) f cdv A up s H E) [] (start N vs) H s1 := inv_start Sc hr.hd e0 vl rv ic
  refine wpAny_mono (ht.nox.run [] s1 (start N vs) H _ I0 hq) (fun fl s' hs => ?_) fun _ _ z => z
  have fin : ∀ {σ' : L2.St} {H' : Hp} {v : V} {u : Value}, Inv (cxOf CX0 P w K mg base N qual (defScope st) f cdv A up s H E) [] σ' H' s' → RelV v u → Q v H' → CE up P w H s Q u s' := fun {σ' H' v u} J r q => ⟨v, H', J.os, J.bare, J.base, J.hok, r, q⟩
  cases fl with
  | ret u =>
    obtain ⟨_, _, _, J, r, q⟩ := hs
    exact fin J r q
  | next =>
    obtain ⟨_, _, J, q⟩ := hs
    exact fin (v := V.non) (u := Value.none) J rfl q
  | brk =>
    obtain ⟨_, _, _, q⟩ := hs
    exact q.elim
  | cont =>
    obtain ⟨_, _, _, q⟩ := hs
    exact q.elim
section
variable {X : Cx} {k : Nat} {f : Addr} {fd : FuncData} {ps : List Str} {sp : Sp} {x : Str} {p pos : Pos} {e : Expr} {es : List Expr} {t : TA} {E : XK}
theorem pe_callG (F : FnG X.prog X.w X.K X.mg X.base k f fd ps sp) (gd : X.A.guards = some []) (hr : Room k X.A) (hg : Gl X x) (hm : X.mg x = some (.ref f)) (hk : PySem.W.keepIn X.K (.ref f) = true) (hb : Binds X.K fd ps [])
    (ha : PA X (e :: es) t) (hdb : (x == ("__debug__" : Str)) = false := by decide) (he : starEach (e :: es) X.env = (false, eval e X.env) :: starEach es X.env := by rfl) (hpl : (backTo pos (starEach es X.env)).any (·.1) = false := by rfl) :
    PE X (.Call (.Name x p) (e :: es) [] pos) (tCall sp [] E t) := by
  refine ⟨fun pins s σ H Q I h => ?_⟩
  refine wpAny_Call_Name_kw (ld_glob I hg hm ?_ hdb)
  refine PySem.W.callWith_K (h₀ := X.base) I.ok.mod.kin hk (thn (ha.run pos pins s σ H _ I h) fun us s1 ⟨vs, H1, I1, r, q⟩ => ⟨I1.kIn, ?_⟩) he hpl
  have r2 : Vals (vs ++ []) (us ++ []) := r.append .nil
  have hl : (us ++ []).length = ps.length := by rw [← r2.length]; exact F.len _ _ _ _ q
  refine wpAny_call (codeAny_mono (F.run X.A X.stack s1 H1 ⟨us, []⟩ (us ++ []) (vs ++ []) Q E gd hr I1.env0 (hb s1 us I1.kIn hl) r2 q) fun r s' hq => ?_)
  cases r with
  | error e => exact False.elim hq
  | ok fl =>
    cases fl with
    | ret u => exact I1.after hq
    | next => exact False.elim hq
    | brk => exact False.elim hq
    | cont => exact False.elim hq
end
structure CalG (P : Program) (w : World) (K : PySem.W.Frag) (mg : Str → Option Value) (base : Heap) (x : Str) (pn : List Str) (lv : Nat) (sp : Sp) : Prop where
  ex : ∃ f fd, FnG P w K mg base lv f fd pn sp ∧ mg x = some (.ref f) ∧ PySem.W.keepIn K (.ref f) = true ∧ Binds K fd pn []
theorem cxGG {P : Program} {w : World} {K : PySem.W.Frag} {mg : Str → Option Value} {base : Heap} {N : List Str} {qual : Str} {st : Stmt} {f : Addr} {cdv : Value} {A : Around} {outer : List Env} {s : Shared} {H : Hp} {E : XK} {lv : Nat} (hg : A.guards = some []) (hr : Room lv (A.deeper (PyProof.Rows.envOfC qual (defScope st) s.heap.objs.size f cdv))) (nd : N.Nodup) :
    Good ⟨N, defScope st, K, mg, P, w, base, lv, fun _ => true, true⟩ (cxOf CX0 P w K mg base N qual (defScope st) f cdv A outer s H E).nox := ⟨rfl, rfl, rfl, rfl, rfl, rfl, rfl, rfl, hr, rfl, rfl, nd, fun _ => hg⟩
section
variable {P : Program} {w : World} {K : PySem.W.Frag} {mg : Str → Option Value} {base : Heap} {x : Str} {st : Stmt} {N pn : List Str} {lv : Nat}
variable {A ρ : Type} {ps : Addr → A → Ctxt} {kf : A → Nat} {pre : A → Prop} {cr : Cod ρ} {PR : A → ρ → Prop}
theorem fn_DG {f : Addr} {fd : FuncData} {qual : Str} (F : Fun K x qual st f fd) (Sc : FnScope N pn (defScope st))
    (hl : ∀ b a, (ps b a).length = pn.length) (hN : pn.length ≤ N.length) (one : ∀ b a, OneB (ps b a))
    (body : ∀ b a, pre a → PHs ⟨N, defScope st, K, mg, P, w, base, lv, fun _ => true, true⟩ (entry N (ps b a)) (kf a) (defBody st) { N := fun _ => False, bk := fun _ => False, ct := fun _ => False, c := cr, R := PR a }) :
    FnG P w K mg base (lv + 1) f fd pn (spD ps kf pre cr PR) := by
  refine fnG_of F Sc (fun vs H Q E h => ?_) (fun cdv A outer s H vs Q E hg hr h => ?_)
  · obtain ⟨a, b, n, Hf, _, _, _, o, _⟩ := h
    rw [argsOk_len o]; exact hl b a
  · obtain ⟨a, b, n, Hf, hp, hn, ex, o, bx, q⟩ := h
    refine ⟨tSs ⟨N, defScope st, K, mg, P, w, base, lv, fun _ => true, true⟩ (defBody st), tSs_ok (cxGG hg hr Sc.nd), ?_⟩
    exact body_ok (by rw [hl]; exact hN) (one b a) hn ex o bx q (body b a hp)
theorem cal_DG (D : Def K mg x st) (hb : BindsD st x pn) (Sc : FnScope N pn (defScope st))
    (hl : ∀ b a, (ps b a).length = pn.length) (hN : pn.length ≤ N.length) (one : ∀ b a, OneB (ps b a))
    (body : ∀ b a, pre a → PHs ⟨N, defScope st, K, mg, P, w, base, lv, fun _ => true, true⟩ (entry N (ps b a)) (kf a) (defBody st) { N := fun _ => False, bk := fun _ => False, ct := fun _ => False, c := cr, R := PR a }) :
    CalG P w K mg base x pn (lv + 1) (spD ps kf pre cr PR) := by
  obtain ⟨f, fd, F, hm⟩ := D.ex
  exact ⟨f, fd, fn_DG F Sc hl hN one body, hm, F.kp, F.binds hb⟩
end
section
variable {S : Stc} {Γ : Ctxt} {k1 k2 : Nat} {A ρ : Type} {cr : Cod ρ} {e : Expr} {es : List Expr} {pos pn : Pos}
theorem fnGG {f : Addr} {fd : FuncData} {pn' : List Str} {sp : Sp} {X : Cx} {l : Nat} (F : FnG S.prog S.w S.K S.mg S.base l f fd pn' sp) (G : Good S X) : FnG X.prog X.w X.K X.mg X.base l f fd pn' sp := by
  rw [G.prog, G.w, G.K, G.mg, G.base]; exact F
theorem pcalXG {ps : Addr → A → Ctxt} {kf : A → Nat} {pre : A → Prop} {PR : A → ρ → Prop} {B : Ctxt → Prop} {P' : ρ → Prop} {pn' : List Str} {x : Str} {l : Nat} (F : CalG S.prog S.w S.K S.mg S.base x pn' l (spD ps kf pre cr PR)) (gd : S.gd = true) (hl : l ≤ S.lv) (hg : S.sc.names.lookup x = some .globalImplicit)
    (h : PDA S Γ k1 (e :: es) B) (hc : ∀ as, B as → ∃ a b, as = ps b a ∧ pre a ∧ kf a ≤ k2 ∧ ∀ x, PR a x → P' x)
    (he : ∀ env : Env, starEach (e :: es) env = (false, eval e env) :: starEach es env) (hpl : ∀ env : Env, (backTo pos (starEach es env)).any (·.1) = false) (hdb : (x == ("__debug__" : Str)) = false := by decide) : PD S Γ (k1 + k2) (.Call (.Name x pn) (e :: es) [] pos) cr P' := by
  obtain ⟨f, fd, F, hm, hk, hb⟩ := F.ex
  exact pd_of (te := tCall (spD ps kf pre cr PR) [] E0 (tA S (e :: es))) (fun X G => pe_callG (fnGG F G) (G.gd gd) (G.room.mono hl) (glb G hg) (by rw [G.mg]; exact hm) (by rw [G.K]; exact hk) (by rw [G.K]; exact hb) (tA_ok G) hdb (he _) (hpl _)) (td_call h hc)
theorem pcalG {ps : Addr → A → Ctxt} {pre : A → Prop} {g : A → ρ} {l : Ctxt} {pn' : List Str} {x : Str} {lv : Nat} (F : CalG S.prog S.w S.K S.mg S.base x pn' lv (spD ps (fun _ => 0) pre cr (fun a x => x = g a))) (gd : S.gd = true) (hl : lv ≤ S.lv) (hg : S.sc.names.lookup x = some .globalImplicit)
    (h : PDA S Γ 0 (e :: es) (· = l)) (a : A) (b : Addr) (hc : l = ps b a) (hp : pre a)
    (he : ∀ env : Env, starEach (e :: es) env = (false, eval e env) :: starEach es env) (hpl : ∀ env : Env, (backTo pos (starEach es env)).any (·.1) = false) (hdb : (x == ("__debug__" : Str)) = false := by decide) : PD S Γ 0 (.Call (.Name x pn) (e :: es) [] pos) cr (· = g a) :=
  pcalXG (k1 := 0) (k2 := 0) F gd hl hg h (fun as e => ⟨a, b, e.trans hc, hp, Nat.le_refl _, fun _ h => h⟩) he hpl hdb
end
end DL

set_option Elab.async false
set_option linter.all false
set_option maxRecDepth 100000
set_option maxHeartbeats 2000000
namespace DL
open PySem PySem.Spec L2 PyProof.Rows
theorem head_G {P : Program} {w : World} {K : PySem.W.Frag} {mg mb : Str → Option Value} {k : Nat} {fa a : Addr} {fd : FuncData} {sp : Sp} {z : Shared} {us : List Value} {ns : List Int} (KZ : K.In z.heap) (gN : z.heap.Ns mainGlobals mg) (bN : z.heap.Ns builtinsNs mb) (bB : ∀ y : Str, y ≠ "__name__" → mb y = bootBuiltins y) (nL : z.heap.NoLimit) (g0 : z.gens = #[])
    (at_ : z.heap.get? a = some { cls := .type "list", data := .seq us.toArray }) (iu : IntsAre us ns) (lz : ns.length ≤ sizeLine) (rm : Room k callerA) (F : ∀ b0 : Heap, K.In b0 → b0.Ns mainGlobals mg → FnG P w K mg b0 k fa fd ["script"] sp) (bd : ∀ (y : Shared) (u : Value), BindsTo y fd ⟨[u], []⟩ [("script", u)])
    (hsp : ∀ H : Hp, SqL K H a (ns.map V.int) → sp [.ref a] H (fun v _ => v = .bl true) fun _ _ _ => False) :
    codeAny (model P w) callerA (.call (.ref fa) ⟨[.ref a], []⟩) (fun r y => r = .ok (.ret (.bool true)) ∧ OldK z.heap y.heap ∧ y.os = z.os ∧ AllBare y.gens) z := by
  have core : ∀ H : Hp, (∀ b, H b = none ∨ ∃ o xs, H b = some (.frz o (.lst xs))) → SqL K H a (ns.map V.int) → HOk P w H z.heap → (∀ b, H b ≠ none → b = a) → (H a ≠ none → K.lookup a = none) → codeAny (model P w) callerA (.call (.ref fa) ⟨[.ref a], []⟩) (fun r y => r = .ok (.ret (.bool true)) ∧ OldK z.heap y.heap ∧ y.os = z.os ∧ AllBare y.gens) z := by
    intro H only sq ok hA hK
    have nod : ∀ {b : Addr} {o : Obj} {es : Array DictEntry} {ep : Nat}, z.heap.get? b = some o → o.data = .dict es ep → H b = none := fun {b o es ep} e d => by
      by_cases q : H b = none
      · exact q
      · have eb := hA b q
        subst eb
        rw [at_] at e
        injection e with e
        rw [← e] at d
        exact absurd d (by intro c; cases c)
    have up : ∀ {b : Addr} {m : Str → Option Value}, z.heap.Ns b m → (hidT z.heap H).Ns b m := fun {b m} ⟨o, es, ep, e, d, r⟩ => ⟨o, es, ep, hidT_get e (nod e d), d, r⟩
    have KH : K.In (hidT z.heap H) := fun b o e => hidT_get (KZ b o e) (by
      by_cases q : H b = none
      · exact q
      · have eb := hA b q
        subst eb
        have := hK q
        rw [this] at e; cases e)
    have md : Mod K mg (hidT z.heap H) := ⟨KH, up gN, ⟨mb, up bN, bB⟩, let ⟨mc, h1, h2⟩ := nL; ⟨mc, up h1, h2⟩⟩
    have en : Env0 P w K mg (hidT z.heap H) callerA [] z H := ⟨rfl, md, fun _ _ e => of_hidT e, Nat.le_of_eq (hidT_size _ _), trivial, (fun _ hb => nomatch (show _ ∈ ([] : List Addr) from hb)), ok, AllBare.of_eq g0⟩
    refine codeAny_mono ((F _ KH (up gN)).run callerA [] z H ⟨[.ref a], []⟩ [.ref a] [.ref a] _ _ rfl rm en (bd z (.ref a)) (.cons rfl .nil) (hsp H sq)) fun r y h => ?_
    match r, h with
    | .ok (.ret u), ⟨v, H', os, bare, un, ok', rr, q⟩ =>
      have q : v = .bl true := q
      subst q
      obtain rfl : u = Value.bool true := rr
      refine ⟨rfl, OldK.of_keep fun b o e => ?_, os, bare⟩
      rcases only b with q | ⟨ob, xs, q⟩
      · exact un.keep b o e q (fun c => (List.not_mem_nil (show b ∈ ([] : List Addr) from c)).elim) (by simp)
      · obtain ⟨e1, _⟩ := ok b _ q
        obtain ⟨e2, _⟩ := ok' b _ (un.frzs b ob _ q)
        rw [e] at e1
        injection e1 with e1
        rw [e1]; exact e2
  cases hk : K.lookup a with
  | some o =>
    have e := KZ a o hk
    rw [at_] at e
    injection e with e
    subst e
    exact core (fun _ => none) (fun _ => .inl rfl) (.inr ⟨_, us.toArray, _, hk, rfl, rfl, rfl, by rw [List.size_toArray, iu.length]; exact lz, by simpa using vals_ints iu⟩) (fun b u c => by cases c) (fun b c => absurd rfl c) fun c => absurd rfl c
  | none =>
    refine core (fun b => if b = a then some (.frz { cls := .type "list", data := .seq us.toArray } (.lst (ns.map V.int))) else none) (fun b => ?_) (.inl (.inr ⟨{ cls := .type "list", data := .seq us.toArray }, if_pos rfl⟩)) (fun b u c => ?_) (fun b c => ?_) fun _ => hk
    · by_cases q : b = a
      · exact .inr ⟨_, _, if_pos q⟩
      · exact .inl (if_neg q)
    · by_cases q : b = a
      · have c' := (if_pos q).symm.trans c
        cases c'
        subst q
        exact ⟨at_, by rw [List.length_map]; exact lz, us, _, vals_ints iu, at_⟩
      · have c' := (if_neg q).symm.trans c
        cases c'
    · by_cases q : b = a
      · exact q
      · exact absurd (if_neg q) c
theorem walk_G {l : PySem.W.OpenLaw} {n k : Nat} {q : Program} {loose : List Str} {XP : (Str → Option Value) → Heap → Prop} {YP : World → Heap → Prop} {d : DefRec} {K : Params → PySem.W.Frag} {sp : World → Sp} (hn : l.most = some n) (hn2 : n ≤ sizeLine) (hdf : d.params.defaults = []) (rm : Room k callerA) (hY : ∀ (w : World) (h : Heap), YP w h → (K w.params).In h)
    (F : ∀ (w : World) (mg : Str → Option Value) (fa : Addr) (h : Heap), (K w.params).In h → h.Ns mainGlobals mg → mg d.name = some (.ref fa) → ∃ fd : FuncData, (∀ (s : Shared) (u : Value), BindsTo s fd ⟨[u], []⟩ [("script", u)]) ∧ ∀ b0 : Heap, (K w.params).In b0 → b0.Ns mainGlobals mg → FnG l.prog w (K w.params) mg b0 k fa fd ["script"] (sp w))
    (hsp : ∀ (w : World) (H : Hp) (a : Addr) (ns : List Int), ns.length ≤ n → SqL (K w.params) H a (ns.map V.int) → sp w [.ref a] H (fun v _ => v = .bl true) fun _ _ _ => False) : PySem.W.WalkO q loose XP YP l.row.toRowW d [] (fun f vs => PySem.call f vs) := by
  refine Att.attach_call hn hdf fun w s₀ z mg mb fa o pm cd doc a us ns G Y ho hd hcd hmg hobj hints hlen hg => ?_
  obtain ⟨fd, hb, hF⟩ := F w mg fa _ (hY w _ Y) G.T.g hmg
  exact head_G (hY w _ Y) G.T.g G.T.b G.T.builtins G.T.nolimit hg hobj hints (Nat.le_trans hlen hn2) rm hF hb (fun H hS => hsp w H a ns hlen hS)
end DL

set_option Elab.async false
set_option linter.all false
set_option maxRecDepth 100000
set_option maxHeartbeats 2000000
namespace DL
open PySem PySem.Spec L2
/-! ### repr of data at any depth -/
theorem piled_is : ∀ ts : List Str, piled ts = (ts.map (·.length)).sum + 2 * ts.length
  | [] => rfl
  | t :: ts => by
    have := piled_is ts
    rw [piled_cons, this, List.map_cons, List.sum_cons, List.length_cons]
    omega
/-- one more sign at either end -/
theorem listText_up (ts : List Str) : (listText ts).length ≤ piled ts + 2 := by
  have up := textFrom_len_le ts 0 "["
  have one : (("[" : String) : Str).length = 1 ∧ (("]" : String) : Str).length = 1 := ⟨rfl, rfl⟩
  have all : (listText ts).length = (textFrom 0 "[" ts).length + (("]" : String) : Str).length := strLen_append ..
  rw [piled_is]
  omega
theorem tupleText_up (ts : List Str) : (tupleText ts).length ≤ piled ts + 3 := by
  rw [piled_is]
  exact tupleText_len_le ts
theorem piled_up {n : Nat} : ∀ {ts : List Str}, (∀ t ∈ ts, t.length ≤ n) → piled ts ≤ (n + 2) * ts.length
  | [], _ => Nat.zero_le _
  | t :: r, h => by
    have h1 := h t List.mem_cons_self
    have h2 := piled_up (fun u hu => h u (List.mem_cons_of_mem _ hu)) (ts := r)
    rw [piled_cons, List.length_cons, Nat.mul_succ]; omega
/-- a piece that can be shown, in at most n signs -/
structure Shw (d : PyData) (n : Nat) : Prop where
  s : d.showable = true
  h : d.hasDict = false
  l : d.shown.length ≤ n
theorem shw_int {i : Int} {k : Nat} (h0 : 0 ≤ i) (hk : 0 < k) (h : i < 10 ^ k) (hz : i.natAbs.log2 < 1920) : Shw (.int i) k := ⟨by unfold PyData.showable; exact decide_eq_true hz, rfl, PyProof.Rows.toString_length_le h0 hk h⟩
theorem shownAll_map {α : Type} (D : α → PyData) : ∀ xs : List α, PyData.shownAll (xs.map D) = xs.map fun x => (D x).shown
  | [] => rfl
  | x :: xs => by rw [List.map_cons, List.map_cons, PyData.shownAll, shownAll_map D xs]
theorem showAll_map {α : Type} {D : α → PyData} {n : Nat} : ∀ {xs : List α}, (∀ x ∈ xs, Shw (D x) n) → PyData.showableAll (xs.map D) = true ∧ PyData.hasDictAll (xs.map D) = false
  | [], _ => ⟨rfl, rfl⟩
  | x :: xs, h => by
    have a := h x List.mem_cons_self
    have b := showAll_map fun y hy => h y (List.mem_cons_of_mem _ hy)
    rw [List.map_cons, PyData.showableAll, PyData.hasDictAll, a.s, a.h, b.1, b.2]; exact ⟨rfl, rfl⟩
theorem shw_list {α : Type} {D : α → PyData} {n : Nat} {xs : List α} (h : ∀ x ∈ xs, Shw (D x) n) : Shw (.list (xs.map D)) ((n + 2) * xs.length + 2) := by
  obtain ⟨a, b⟩ := showAll_map h
  refine ⟨by rw [PyData.showable]; exact a, by rw [PyData.hasDict]; exact b, ?_⟩
  rw [PyData.shown, shownAll_map]
  refine Nat.le_trans (listText_up _) (Nat.add_le_add_right ?_ 2)
  refine Nat.le_trans (piled_up (n := n) fun t ht => ?_) (by rw [List.length_map]; exact Nat.le_refl _)
  obtain ⟨x, hx, rfl⟩ := List.mem_map.mp ht
  exact (h x hx).l
theorem shw_tup {α : Type} {D : α → PyData} {n : Nat} {xs : List α} (h : ∀ x ∈ xs, Shw (D x) n) : Shw (.tuple (xs.map D)) ((n + 2) * xs.length + 3) := by
  obtain ⟨a, b⟩ := showAll_map h
  refine ⟨by rw [PyData.showable]; exact a, by rw [PyData.hasDict]; exact b, ?_⟩
  rw [PyData.shown, shownAll_map]
  refine Nat.le_trans (tupleText_up _) (Nat.add_le_add_right ?_ 3)
  refine Nat.le_trans (piled_up (n := n) fun t ht => ?_) (by rw [List.length_map]; exact Nat.le_refl _)
  obtain ⟨x, hx, rfl⟩ := List.mem_map.mp ht
  exact (h x hx).l
theorem Shw.le {d : PyData} {n m : Nat} (h : Shw d n) (l : n ≤ m) : Shw d m := ⟨h.s, h.h, Nat.le_trans h.l l⟩
def rRepr (K : PySem.W.Frag) : List V → Hp → VK → Prop := fun xs H Q => ∃ (a : Addr) (d : PyData), xs = [.ref a] ∧ Dp K H (.ref a) d ∧ d.depth ≤ 63 ∧ Shw d sizeLine ∧ Q (.str d.shown) H
theorem cr_repr {X : Cx} (hg : X.A.guards = some []) (hu : X.A.units + 64 < cLine) : CallR X (.builtin "repr") (rRepr X.K) := by
  intro pins s σ H xs us Q I r h
  obtain ⟨a, d, rfl, hd, dp, sh, q⟩ := h
  obtain ⟨u, rfl, ru⟩ := vals1 r
  cases ru
  obtain ⟨as, rd⟩ := Dp.reads I d _ _ hd (show RelV (.ref a) (.ref a) from rfl)
  refine repr_of_reads' rd sh.s (fun z => by rw [sh.h] at z; cases z) hg (by omega) (fun _ _ e => e) (fun h' u tk k => ?_) sh.l
  exact ⟨.str d.shown, H, I.kept (t' := tk) k, ⟨_, rfl⟩, q⟩
theorem rc_repr {K : PySem.W.Frag} {α : Type} [DecidableEq α] {c : Cod α} {x : α} (q : EqC c) (hn : q.n ≤ 63) (sh : Shw (q.D x) sizeLine) (hr : ∀ H v, c.rep H v x → ∃ a, v = .ref a) : RC1 (rRepr K) c x cStr (· = (q.D x).shown) := fun Hf H v e h Q k => by
  obtain ⟨a, rfl⟩ := hr _ _ h
  exact ⟨a, q.D x, rfl, q.dp K H _ _ (c.mono e h), Nat.le_trans (q.dep x) hn, sh, k _ Hf H _ rfl rfl Fr.refl e⟩
section
variable {S : Stc} {Γ : Ctxt} {e : Expr} {pos pn : Pos}
theorem preprD {α : Type} [DecidableEq α] {c : Cod α} {x : α} (q : EqC c) (gd : S.gd = true) (hg : S.sc.names.lookup ("repr" : Str) = some .globalImplicit) (hmg : S.mg "repr" = none) (h : PD S Γ 0 e c (· = x)) (hn : q.n ≤ 63) (sh : Shw (q.D x) sizeLine) (hr : ∀ H v, c.rep H v x → ∃ a, v = .ref a) (he : ∀ env : Env, starEach [e] env = (false, eval e env) :: starEach [] env) : PD S Γ 0 (.Call (.Name "repr" pn) [e] [] pos) cStr (· = (q.D x).shown) :=
  pb1 (r := rRepr S.K) (fun X G => by rw [← G.K]; exact cr_repr (G.gd gd) G.room.units) hg hmg (by decide +kernel) h (rc_repr q hn sh hr) he
theorem preprI {i : Int} (hg : S.sc.names.lookup ("repr" : Str) = some .globalImplicit) (hmg : S.mg "repr" = none) (h : PD S Γ 0 e cInt (· = i)) (hz : i.natAbs.log2 < 1920) (he : ∀ env : Env, starEach [e] env = (false, eval e env) :: starEach [] env) : PD S Γ 0 (.Call (.Name "repr" pn) [e] [] pos) cStr (· = Str.ofString (toString i)) :=
  pb1 (fun X G => SkE.call_repr_int) hg hmg (by decide +kernel) h (fun Hf H v ex r Q q => ⟨i, by rw [show v = .int i from r], hz, q _ Hf H _ rfl rfl Fr.refl ex⟩) he
end
end DL

set_option Elab.async false
set_option linter.all false
set_option maxRecDepth 100000
set_option maxHeartbeats 2000000
namespace DL
open PySem PySem.Spec L2
/-! ### enumerate(a tuple) -/
/-- the counter that stands before anything is drawn, over an iterator at p -/
abbrev enum0 (p : Addr) : Obj := { cls := .type "enumerate", data := .fields #[.none, .bool false, .ref p, rawInt 0, .none, .none] }
/-- making it: whatever v is, if iter(v) is a new object o -/
theorem enum_made {v : Value} {o : Obj} {G : Heap → Prop} (B : Begins v o G) :
    Meets (Builtin.«enumerate.__new__» ⟨[.type "enumerate", v], []⟩) fun _ R s => G s.heap ∧ R (.ok (.ret (.ref (s.heap.push o).objs.size))) { s with heap := (s.heap.push o).push (enum0 s.heap.objs.size) } := by
  apply Meets.of_wp
  rintro P w A R ⟨h, gs, dr, tk, os⟩ ⟨g, r⟩
  have sub := sub_enumerate
  have it_ : ∀ {A' : Around} {E : Value → Shared → Prop} {Q : Value → Shared → Prop}, Q (.ref h.objs.size) ⟨h.push o, gs, dr, tk, os⟩ → wpAny (model P w) A' (pyIter v) Q E ⟨h, gs, dr, tk, os⟩ := fun {A' E Q} q => B.iter P w A' E _ Q g q
  wp_walk using it_
  apply wpAny_stack_any
  intro st
  apply wpAny_pure
  split
  · rename_i c _ _ _ _ _
    cases (c == Value.type "enumerate") <;> (wp_walk using it_; exact ⟨_, rfl, r⟩)
  · wp_walk using it_
    exact ⟨_, rfl, r⟩
/-- enumerate(t): its iterator and itself are the two next objects -/
theorem enum_call {P : Program} {w : World} {A : Around} {E : Value → Shared → Prop} {s : Shared} {t : Addr} {xs : Array Value} {Q : Value → Shared → Prop} (ht : s.heap.IsTuple t xs)
    (q : ∀ g, IsEnum g (s.heap.objs.size + 1) s.heap.objs.size 0 .none → g.IsTupleIter s.heap.objs.size t 0 → (∀ b o, s.heap.get? b = some o → g.get? b = some o) → Q (.ref (s.heap.objs.size + 1)) { s with heap := g }) :
    wpAny (model P w) A (call (.type "enumerate") [.ref t]) Q E s := by
  obtain ⟨io, hio⟩ : ∃ io : Obj, io = { cls := .type "tuple_iterator", data := .fields #[.ref t, .int 0 0] } := ⟨_, rfl⟩
  have B : Begins (.ref t) io fun h => h.IsTuple t xs := hio ▸ begins_tuple t xs
  have sz : (s.heap.push io).objs.size = s.heap.objs.size + 1 := Heap.size_push ..
  have cnt : IsEnum ((s.heap.push io).push (enum0 s.heap.objs.size)) (s.heap.objs.size + 1) s.heap.objs.size 0 .none := by
    rw [← sz]
    exact Heap.get?_push_size _ rfl
  have first_ : ((s.heap.push io).push (enum0 s.heap.objs.size)).get? s.heap.objs.size = some io := Heap.get?_push_of_some _ (Heap.get?_push_size _ B.free)
  have spec := callType_new (prog := P) (w := w) (A := A) (E := E) (s := s) (Q := Q) F.called_enumerate (by decide) (F.typeCall_enumerate_1 _) (F.newCall_enumerate_1 _) (fun obj => F.args_object_init_2 obj _) F.entry_enumerate_new (enum_made B)
  refine spec ⟨ht, ?_⟩
  rw [sz]
  exact ⟨⟨_, cnt, rfl⟩, q _ cnt ⟨io, first_, by rw [hio], by rw [hio]; rfl⟩ fun b o e => Heap.get?_push_of_some _ (Heap.get?_push_of_some _ e)⟩
section
variable {X : Cx} {pins : List (Addr × Obj)} {σ : Stt} {H : Hp} {s : Shared}
/-- a new pair (an int, a value that is known), while the objects of ch turned -/
theorem pair_new {g : Heap} {ch : List Addr} {i : Int} {tk tk' : Tok} {x : V} {u : Value} (I : Inv X pins σ H s) (r : RelV x u) (mine : ∀ b ∈ ch, FpOk X pins H b) (rest : ∀ b o, b ∉ ch → s.heap.get? b = some o → g.get? b = some o)
    (at_ : g.get? s.heap.objs.size = some { cls := .type "tuple", data := .seq #[.int i tk, u] }) : Inv X pins σ (upd H s.heap.objs.size (.tup [.int i, x])) { s with heap := g, toks := tk' } := by
  refine I.turnedNew (ch := ch) rest mine (Nat.le_refl _) ?_
  have vals : Vals [.int i, x] [.int i tk, u] := .cons ⟨tk, rfl⟩ (.cons r .nil)
  exact ⟨(by decide : 2 ≤ sizeLine), _, vals, _, at_, rfl, _, rfl⟩
end
/-- the tuple at a as it stands at each turn, each item in a new pair -/
def IteT (K : PySem.W.Frag) (a : Addr) : It where
  go i H := ∃ (xs : List V) (x : V), SqT K H a xs ∧ xs[i]? = some x
  yld i H v H' := ∃ T x, v = .ref T ∧ H T = none ∧ H' = upd H T (.tup [.int (i : Nat), x]) ∧ ∀ xs, SqT K H a xs → xs[i]? = some x
  stop i H := ∃ xs : List V, SqT K H a xs ∧ xs.length = i
theorem turn_enumT {P : Program} {w : World} {K : PySem.W.Frag} {elts : List Expr} {kk : Nat} {tpos : Pos} (a e it : Addr) (ai : a ≠ it) (ea : e ≠ a) (ei : e ≠ it) :
    Turn P w K (.Tuple elts kk tpos) (IteT K a) [e, it] e (fun i h => (∃ old, IsEnum h e it ((i : Nat) : Int) old) ∧ h.IsTupleIter it a i) := by
  have two : ∀ {b : Addr}, b ∈ [e, it] → b = e ∨ b = it := fun m => (List.mem_cons.mp m).imp id List.mem_singleton.mp
  constructor
  · exact List.mem_cons_self
  · rintro i h ⟨⟨old, en⟩, o, g, _, d⟩ b m
    rcases two m with rfl | rfl
    · exact ⟨_, en, fun _ z => by cases z⟩
    · exact ⟨o, g, fun _ z => by rw [d] at z; cases z⟩
  · rintro i h h' ⟨⟨old, en⟩, ti⟩ k
    exact ⟨⟨old, k e List.mem_cons_self _ en⟩, ti.at fun o g => k it (List.mem_cons_of_mem _ List.mem_cons_self) o g⟩
  · -- an item comes
    rintro X rfl rfl rfl calm i pins s σ H E I mine ⟨⟨old, en⟩, ti⟩ ⟨xs, x, sq, hx⟩
    obtain ⟨vs, rel, tup, _⟩ := I.tuple sq
    obtain ⟨v, hv, r⟩ := rel.get hx
    have quiet : X.A.in1.handled = none := I.ok.hd calm
    have lt : i < vs.toArray.size := by
      obtain ⟨l, _⟩ := List.getElem?_eq_some_iff.mp hv
      simpa using l
    have small : ∀ b ∈ [e, it], b < s.heap.objs.size := fun b m => by
      rcases two m with rfl | rfl
      · exact Heap.lt_size en
      · obtain ⟨_, g, _⟩ := ti
        exact Heap.lt_size g
    have not_ : e ∉ [it, a] := fun m => by
      rcases List.mem_cons.mp m with z | z
      · exact ei z
      · exact ea (List.mem_singleton.mp z)
    refine wpAny_pyNext_enum_itemD (Draws.tuple quiet it a ai vs.toArray) en ⟨ti, tup⟩ lt ei not_ fun y g tk hy out st pr sz rest => ?_
    obtain rfl : v = y := by
      rw [List.getElem?_toArray, hv] at hy
      exact Option.some.inj hy
    refine ⟨_, rfl, wpAny_letOwnedTupleGo_enum (s := { s with heap := g, toks := tk + 1 }) out fun g2 en2 but => ?_⟩
    have pr2 : g2.get? s.heap.objs.size = some { cls := .type "tuple", data := .seq #[.int i tk, v] } := by
      rw [but.2 _ (Nat.ne_of_gt (small e List.mem_cons_self))]
      exact pr
    have I2 := pair_new (tk' := tk + 1) I r mine (fun b o n z => by
      have ne : b ≠ e := fun q => n (q ▸ List.mem_cons_self)
      have ni : b ≠ it := fun q => n (q ▸ List.mem_cons_of_mem _ List.mem_cons_self)
      rw [but.2 b ne]
      exact rest b o ne ni z) pr2
    refine ⟨.ref s.heap.objs.size, _, I2, rfl, ⟨s.heap.objs.size, x, rfl, I.hok.fresh (Nat.le_refl _), rfl, fun ys sy => I.tuple_inj sq sy ▸ hx⟩, ⟨⟨v, ?_⟩, st.1.at fun o z => by rw [but.2 it (Ne.symm ei)]; exact z⟩, fun b m => ?_⟩
    · rw [Int.natCast_add]
      exact en2
    · rw [upd_ne (Nat.ne_of_lt (small b m))]
      exact (mine b m).1
  · -- none is left
    rintro X rfl rfl rfl calm i pins s σ H E I mine ⟨⟨old, en⟩, ti⟩ ⟨xs, sq, len⟩
    obtain ⟨vs, rel, tup, _⟩ := I.tuple sq
    have n : vs.toArray.size = i := by
      rw [List.size_toArray, ← len]
      exact rel.length.symm
    have quiet : X.A.in1.handled = none := I.ok.hd calm
    have dr := Draws.tuple (prog := X.prog) (w := X.w) quiet it a ai vs.toArray
    refine wpAny_pyNext_enum_endD dr en (by rw [n]; exact ⟨ti, tup⟩) fun g but => ⟨rfl, ?_⟩
    obtain ⟨a0, a1, _, a2, a3, a4⟩ := mine it (List.mem_cons_of_mem _ List.mem_cons_self)
    exact I.turned (t' := s.toks) (fun b o ne z => but b o ne z) a0 a1 a2 a3 a4
  · rintro A i s Q E ⟨⟨_, en⟩, _⟩ q
    exact wpAny_pyIter_enum en q
def iEnumT (K : PySem.W.Frag) (ta : TA) : TI := fun σ H R => ta σ H fun vs H1 => ∃ a xs, vs = [.ref a] ∧ SqT K H1 a xs ∧ R (IteT K a) H1
theorem pi_enumT {X : Cx} {e : Expr} {ta : TA} {p pos tpos : Pos} {elts : List Expr} {kk : Nat} (hg : Gl X "enumerate") (hm : X.mg "enumerate" = none) (ha : PA X [e] ta) (hs : starEach [e] X.env = [(false, eval e X.env)] := by rfl) :
    PI X (.Tuple elts kk tpos) (.Call (.Name "enumerate" p) [e] [] pos) (iEnumT X.K ta) := by
  constructor
  intro pins s σ H R I h
  have args := thn (Q' := fun us s1 => wpAny (model X.prog X.w) X.A (call (.type "enumerate") us) (fun v s2 => wpAny (model X.prog X.w) X.A (pyIter v) (PIE X pins σ (.Tuple elts kk tpos) R) X.xe s2) X.xe s1) (ha.run pos pins s σ H _ I h) ?_
  · exact PyProof.Rows.Call_ (ld_blt I hg hm PyProof.Rows.boot_enumerate (PyProof.Rows.callWith_type1 args hs rfl))
  rintro us s1 ⟨vs, H1, I1, r, a, xs, rfl, sq, q⟩
  rw [Vals.ref1 r]
  obtain ⟨its, _, tup, _⟩ := I1.tuple sq
  have la : a < s1.heap.objs.size := by
    obtain ⟨_, g, _⟩ := id tup
    exact Heap.lt_size g
  refine enum_call (show s1.heap.IsTuple a its.toArray from tup) fun g en ti more => wpAny_pyIter_enum en ?_
  refine ⟨_, [s1.heap.objs.size + 1, s1.heap.objs.size], _, _, H1, rfl, I1.kept (t' := s1.toks) more, turn_enumT a _ _ (Nat.ne_of_lt la) (Nat.ne_of_gt (Nat.lt_succ_of_lt la)) (Nat.succ_ne_self _), ⟨⟨.none, en⟩, ti⟩, fun b m => ?_, q⟩
  have le : s1.heap.objs.size ≤ b := by
    rcases List.mem_cons.mp m with z | z
    · exact z ▸ Nat.le_succ _
    · exact (List.mem_singleton.mp z) ▸ Nat.le_refl _
  exact I1.fpOk le (I1.hok.fresh le)
/-! ### walks -/
section
variable {Γ : Ctxt} {k : Nat} {α β : Type} {c : Cod α} {c2 : Cod β} {S : Stc} {e e2 : Expr} {pos pn tpos : Pos} {elts : List Expr} {kk : Nat}
def enumL {α : Type} (xs : List α) : List (Int × α) := xs.zipIdx.map fun z => ((z.2 : Int), z.1)
theorem enumL_len {xs : List α} : (enumL xs).length = xs.length := by unfold enumL; rw [List.length_map, List.length_zipIdx]
theorem enumL_get {xs : List α} {i : Nat} {z : Int × α} (h : (enumL xs)[i]? = some z) : z.1 = (i : Int) ∧ xs[i]? = some z.2 := by
  unfold enumL at h
  rw [List.getElem?_map, List.getElem?_zipIdx] at h
  cases hx : xs[i]? with
  | none => rw [hx] at h; cases h
  | some x => rw [hx] at h; cases h; exact ⟨by simp, rfl⟩
theorem tw_enumT {K : PySem.W.Frag} {te : TE} {xs : List α} (h : TD te Γ k (cTup c) (· = xs)) : TW (iEnumT K (tCons te tNil)) Γ k (cT2 cInt c) (· = enumL xs) := fun O n σ Hf H hn S R q =>
  h O n σ Hf H hn S _ fun v Hf' H' ys px ⟨a, vs, e, ha, pr, lb⟩ f s => by
    subst px
    have hl := paired_len pr
    refine ⟨a, vs, by rw [e], SqT.of (s.ex _ _ ha), q _ Hf' H' _ rfl ⟨fun Hf2 H2 i e1 e2 hi => ?_, fun Hf2 H2 e1 e2 => ⟨vs, SqT.of (e2 _ _ (e1 _ _ ha)), by rw [enumL_len]; exact hl⟩, fun Hf2 H2 i w H1 x e1 e2 hy hx => ?_⟩ (by rw [enumL_len]; omega) f s⟩
    · rw [enumL_len] at hi
      exact ⟨vs, vs[i]'(by omega), SqT.of (e2 _ _ (e1 _ _ ha)), List.getElem?_eq_getElem (by omega)⟩
    · obtain ⟨T, y, rfl, hT, rfl, hy⟩ := hy
      obtain ⟨hx1, hx2⟩ := enumL_get hx
      have hTf := e2.back hT
      exact ⟨upd Hf2 T (.tup [.int (i : Nat), y]), ⟨T, .int (i : Nat), y, rfl, upd_same, by rw [hx1]; rfl, c.mono (e1.trans (Ex.new hTf)) (paired_get pr (hy vs (SqT.of (e2 _ _ (e1 _ _ ha)))) hx2)⟩, Fr.new e2 hT, e2.both hTf⟩
theorem pdi_enumT {xs : List α} (hg : S.sc.names.lookup ("enumerate" : Str) = some .globalImplicit) (hm : S.mg "enumerate" = none) (h : PD S Γ k e (cTup c) (· = xs)) (hs : ∀ env : Env, starEach [e] env = (false, eval e env) :: starEach [] env) :
    PDI S Γ k (.Tuple elts kk tpos) (.Call (.Name "enumerate" pn) [e] [] pos) (cT2 cInt c) (· = enumL xs) :=
  pdi_of (wi := iEnumT S.K (tCons (tE S e) tNil)) (fun X G => by rw [← G.K]; exact pi_enumT (glb G hg) (by rw [G.mg]; exact hm) (pa_cons (tE_ok G) pa_nil (hs _)) (hs _)) (tw_enumT h)
theorem zip_get {xs : List α} {ys : List β} {i : Nat} {z : α × β} (h : (xs.zip ys)[i]? = some z) : xs[i]? = some z.1 ∧ ys[i]? = some z.2 := by
  rw [List.getElem?_zip_eq_some] at h; exact h
theorem tw_zipT {K : PySem.W.Frag} {ta tb : TE} {xs : List α} {ys : List β} (h : TD ta Γ 0 (cTup c) (· = xs)) (h' : TD tb Γ 0 (cTup c2) (· = ys)) : TW (RZ.iZipA K (tCons ta (tCons tb tNil))) Γ 0 (cT2 c c2) (· = xs.zip ys) := fun O n σ Hf H hn S R q =>
  h O n σ Hf H hn S _ fun v Hf' H' x px r f s => by
    subst px
    refine h' O n σ Hf' H' hn s _ fun v2 Hf2 H2 y py ⟨b, us, e2, hb, pr2, lb2⟩ f2 s2 => ?_
    subst py
    obtain ⟨a, vs, e, ha, pr, lb⟩ := (cTup c).mono f2.ex r
    have hl := paired_len pr
    have hl2 := paired_len pr2
    have hz : (x.zip y).length = min x.length y.length := List.length_zip
    refine ⟨a, b, vs, us, by rw [e, e2], .inr ⟨SqT.of (s2.ex _ _ ha), SqT.of (s2.ex _ _ hb), q _ Hf2 H2 _ rfl ⟨fun Hf3 H3 i e1 e3 hi => ?_, fun Hf3 H3 e1 e3 => ⟨vs, us, SqT.of (e3 _ _ (e1 _ _ ha)), SqT.of (e3 _ _ (e1 _ _ hb)), by omega⟩, fun Hf3 H3 i w H1 z e1 e3 hy hx => ?_⟩ (by omega) (f.trans f2 fun _ z => .inl z) s2⟩⟩
    · exact ⟨vs, us, vs[i]'(by omega), us[i]'(by omega), SqT.of (e3 _ _ (e1 _ _ ha)), SqT.of (e3 _ _ (e1 _ _ hb)), List.getElem?_eq_getElem (by omega), List.getElem?_eq_getElem (by omega)⟩
    · obtain ⟨T, p, p2, rfl, hT, rfl, hy1, hy2⟩ := hy
      obtain ⟨hx1, hx2⟩ := zip_get hx
      have hTf := e3.back hT
      exact ⟨upd Hf3 T (.tup [p, p2]), ⟨T, p, p2, rfl, upd_same, c.mono (e1.trans (Ex.new hTf)) (paired_get pr (hy1 vs (SqT.of (e3 _ _ (e1 _ _ ha)))) hx1), c2.mono (e1.trans (Ex.new hTf)) (paired_get pr2 (hy2 us (SqT.of (e3 _ _ (e1 _ _ hb)))) hx2)⟩, Fr.new e3 hT, e3.both hTf⟩
theorem pdi_zipT {xs : List α} {ys : List β} (hg : S.sc.names.lookup ("zip" : Str) = some .globalImplicit) (hm : S.mg "zip" = none) (h : PD S Γ 0 e (cTup c) (· = xs)) (h' : PD S Γ 0 e2 (cTup c2) (· = ys)) (hs : ∀ env : Env, starEach [e, e2] env = (false, eval e env) :: starEach [e2] env) (hs2 : ∀ env : Env, starEach [e2] env = (false, eval e2 env) :: starEach [] env) (hpl : ∀ env : Env, (backTo pos (starEach [e2] env)).any (·.1) = false) :
    PDI S Γ 0 (.Tuple elts kk tpos) (.Call (.Name "zip" pn) [e, e2] [] pos) (cT2 c c2) (· = xs.zip ys) :=
  pdi_of (wi := RZ.iZipA S.K (tCons (tE S e) (tCons (tE S e2) tNil))) (fun X G => by rw [← G.K]; exact RZ.pi_zipA (glb G hg) (by rw [G.mg]; exact hm) (pa_cons (tE_ok G) (pa_cons (tE_ok G) pa_nil (hs2 _)) (hs _)) (hs _) (hpl _)) (tw_zipT h h')
theorem tw_revT {K : PySem.W.Frag} {te : TE} {xs : List α} (h : TD te Γ k (cTup c) (· = xs)) : TW (RT.iRevA K te) Γ k c (· = xs.reverse) := fun O n σ Hf H hn S R q =>
  h O n σ Hf H hn S _ fun v Hf' H' ys px ⟨a, vs, e, ha, pr, lb⟩ f s => by
    subst px
    have hl := paired_len pr
    refine ⟨a, vs, e, .inr ⟨SqT.of (s.ex _ _ ha), q _ Hf' H' _ rfl ⟨fun Hf2 H2 i e1 e2 hi => ?_, fun Hf2 H2 e1 e2 => ?_, fun Hf2 H2 i w H1 x e1 e2 hy hx => ?_⟩ (by rw [List.length_reverse]; omega) f s⟩⟩
    · rw [List.length_reverse] at hi
      exact ⟨by omega, vs, vs[vs.length - 1 - i]'(by omega), SqT.of (e2 _ _ (e1 _ _ ha)), List.getElem?_eq_getElem (by omega)⟩
    · show vs.length ≤ ys.reverse.length
      rw [List.length_reverse]; omega
    · obtain ⟨rfl, hy⟩ := hy
      have hi : i < ys.length := by
        have := (List.getElem?_eq_some_iff.mp hx).1
        rw [List.length_reverse] at this; exact this
      rw [List.getElem?_reverse hi] at hx
      have h1 := hy vs (SqT.of (e2 _ _ (e1 _ _ ha)))
      rw [hl] at h1
      exact ⟨Hf2, c.mono e1 (paired_get pr h1 hx), Fr.refl, e2⟩
theorem pdi_revT {tg : Expr} {xs : List α} (hg : S.sc.names.lookup ("reversed" : Str) = some .globalImplicit) (hm : S.mg "reversed" = none) (h : PD S Γ k e (cTup c) (· = xs)) (hs : ∀ env : Env, starEach [e] env = (false, eval e env) :: starEach [] env) :
    PDI S Γ k tg (.Call (.Name "reversed" pn) [e] [] pos) c (· = xs.reverse) :=
  pdi_of (wi := RT.iRevA S.K (tE S e)) (fun X G => by rw [← G.K]; exact RT.pi_revA (glb G hg) (by rw [G.mg]; exact hm) (tE_ok G) (hs _)) (tw_revT h)
end
end DL

set_option Elab.async false
set_option linter.all false
set_option maxRecDepth 100000
set_option maxHeartbeats 2000000
namespace DL
open PySem PySem.Spec L2
/-! ### a list comprehension of two clauses -/
section
variable {Γ : Ctxt} {α β γ : Type} {c : Cod α} {c1 : Cod γ} {c' : Cod β} {wi wi1 : TI} {g g1 : TG} {te : TE}
abbrev lc2L {α β γ : Type} (xs : List α) (F : α → List γ) (f : α → γ → β) : List β := xs.flatMap fun x => (F x).map (f x)
theorem lc2_take {xs : List α} {F : α → List γ} {f : α → γ → β} {i : Nat} : (lc2L (xs.take i) F f).length ≤ (lc2L xs F f).length := by
  have h : lc2L xs F f = lc2L (xs.take i) F f ++ lc2L (xs.drop i) F f := by
    unfold lc2L
    rw [← List.flatMap_append, List.take_append_drop]
  rw [h, List.length_append]; omega
theorem lc2_snoc {xs : List α} {F : α → List γ} {f : α → γ → β} {i : Nat} {x : α} (h : xs[i]? = some x) : lc2L (xs.take (i + 1)) F f = lc2L (xs.take i) F f ++ (F x).map (f x) := by
  unfold lc2L
  rw [take_snoc h, List.flatMap_append, List.flatMap_singleton]
theorem yes_if {σ : Stt} {H : Hp} {A B : Hp → Prop} (h : A H) : tYes σ H (fun b H' => if b = true then A H' else B H') := by
  show if true = true then A H else B H
  rw [if_pos rfl]; exact h
theorem tdf_lc2 {vs vs1 : List Nat} {xs : List α} (F : α → List γ) (f : α → γ → β) (no : NoOwn Γ) (hw : TW wi Γ 0 c (· = xs)) (hz : (lc2L xs F f).length ≤ LB)
    (hs : ∀ x, x ∈ xs → ∃ Γ1 is, NoOwn Γ1 ∧ GD g c x (wipeC Γ vs) Γ1 is ∧ (∀ i ∈ is, i ∈ vs) ∧ TW wi1 Γ1 0 c1 (· = F x) ∧ ∀ y, y ∈ F x → ∃ Γ2 js, GD g1 c1 y (wipeC Γ1 vs1) Γ2 js ∧ (∀ i ∈ js, i ∈ vs1) ∧ TD te Γ2 0 c' (· = f x y)) :
    TDF (tLc2 wi g tYes wi1 g1 tYes te vs vs1) Γ 0 c' (· = lc2L xs F f) := fun O n σ Hf H hn S Q q =>
  hw O n σ Hf H hn S _ fun J Hf1 H1 ys px W lb f1 S1 D hD => by
    subst px
    have nb : ∀ a, ¬ Bx Γ a := no.bx
    have hv : ∀ {Γ' : Ctxt} {ws : List Nat}, (∀ a, ¬ Bx Γ' a) → ∀ a, ¬ Bx (wipeC Γ' ws) a := fun {Γ' ws} h a ⟨i, hi⟩ => by
      rcases wipe_at (σ := []) hi with z | ⟨z, _⟩
      · cases z
      · exact h a ⟨i, z⟩
    refine ⟨fun i m H' => m = ys.length - i ∧ i ≤ ys.length ∧ ∃ Hfi acc, Paired (c'.rep Hfi) acc (lc2L (ys.take i) F f) ∧ H' D = some (.lst acc) ∧ Hfi D = none ∧ Ex Hfi H' ∧ Fr (Bx Γ) Hf1 H1 Hfi H',
      ⟨ys.length, by simp, Nat.zero_le _, Hf1, [], by rw [List.take_zero]; exact .nil, upd_same, S1.ex.back hD, S1.ex.trans (Ex.new hD), Fr.newO hD⟩, ?_⟩
    rintro i m H' ⟨rfl, hi, Hfi, acc, pr, hDi, hfD, ex, fr⟩
    have Si : Sat O Hfi H' (wipe σ vs) (wipeC Γ vs) n := (S1.grow fr ex fun a ha => (nb a ha).elim).wipe vs
    by_cases hlt : i < ys.length
    · have hx : ys[i]? = some ys[i] := List.getElem?_eq_getElem hlt
      refine .inr ⟨W.go Hfi H' i fr.ex ex hlt, fun H2 => ∃ Hfi acc, Paired (c'.rep Hfi) acc (lc2L (ys.take (i + 1)) F f) ∧ H2 D = some (.lst acc) ∧ Hfi D = none ∧ Ex Hfi H2 ∧ Fr (Bx Γ) Hf1 H1 Hfi H2, fun H2 h2 => ⟨ys.length - (i + 1), by omega, rfl, hlt, h2⟩, fun v H2 hy => ?_⟩
      obtain ⟨Hf2, rx, fy, ey⟩ := W.yld Hfi H' i v H2 _ fr.ex ex hy hx
      have S2 : Sat O Hf2 H2 (wipe σ vs) (wipeC Γ vs) n := Si.grow0 fy ey
      obtain ⟨Γ1, is, no1, gd, hin, hw1, hs1⟩ := hs ys[i] (List.getElem_mem hlt)
      have nb1 : ∀ a, ¬ Bx Γ1 a := fun a h => hv nb a (gd.2.1 a h)
      refine gd.2.2 O _ _ Hf2 H2 v rx S2 _ fun σ3 S3 w3 => ⟨(w3 vs hin).trans wipe_wipe, ?_⟩
      refine yes_if ?_
      have F2 : Fr (Bx Γ) Hf1 H1 Hf2 H2 := fr.trans fy fun _ z => z.elim
      have hD2 : H2 D = some (.lst acc) := fy.keep _ _ hDi id
      have hfD2 : Hf2 D = none := fy.fz _ _ hDi id hfD
      refine hw1 O _ σ3 Hf2 H2 hn S3 _ fun J1 Hf4 H4 zs pz W1 lb1 f4 S4 => ?_
      subst pz
      have hD4 : H4 D = some (.lst acc) := f4.keep _ _ hD2 (nb1 D)
      have hfD4 : Hf4 D = none := f4.fz _ _ hD2 (nb1 D) hfD2
      have F4 : Fr (Bx Γ) Hf1 H1 Hf4 H4 := F2.trans f4 fun a z => (nb1 a z).elim
      refine ⟨fun j k H5 => k = (F ys[i]).length - j ∧ j ≤ (F ys[i]).length ∧ ∃ Hfj acc, Paired (c'.rep Hfj) acc (lc2L (ys.take i) F f ++ ((F ys[i]).take j).map (f ys[i])) ∧ H5 D = some (.lst acc) ∧ Hfj D = none ∧ Ex Hfj H5 ∧ Ex Hf4 Hfj ∧ Fr (Bx Γ) Hf1 H1 Hfj H5,
        ⟨(F ys[i]).length, by simp, Nat.zero_le _, Hf4, acc, by rw [List.take_zero, List.map_nil, List.append_nil]; exact paired_mono pr fun _ _ z => c'.mono (fy.ex.trans f4.ex) z, hD4, hfD4, S4.ex, Ex.rfl', F4⟩, ?_⟩
      rintro j k H5 ⟨rfl, hj, Hfj, acc5, pr5, hD5, hfD5, ex5, e45, fr5⟩
      have al : acc5.length ≤ LB := by
        rw [pr5.length]
        have h1 : (lc2L (ys.take (i + 1)) F f).length ≤ (lc2L ys F f).length := lc2_take
        rw [lc2_snoc hx, List.length_append, List.length_map] at h1
        rw [List.length_append, List.length_map, List.length_take]
        omega
      by_cases hlj : j < (F ys[i]).length
      · have hxj : (F ys[i])[j]? = some (F ys[i])[j] := List.getElem?_eq_getElem hlj
        refine .inr ⟨W1.go Hfj H5 j e45 ex5 hlj, fun H6 => ∃ Hfj acc, Paired (c'.rep Hfj) acc (lc2L (ys.take i) F f ++ ((F ys[i]).take (j + 1)).map (f ys[i])) ∧ H6 D = some (.lst acc) ∧ Hfj D = none ∧ Ex Hfj H6 ∧ Ex Hf4 Hfj ∧ Fr (Bx Γ) Hf1 H1 Hfj H6, fun H6 h6 => ⟨(F ys[i]).length - (j + 1), by omega, rfl, hlj, h6⟩, fun v5 H6 hy5 => ?_⟩
        obtain ⟨Hf6, rx6, fy6, ey6⟩ := W1.yld Hfj H5 j v5 H6 _ e45 ex5 hy5 hxj
        have S5 : Sat O Hfj H5 σ3 Γ1 n := S4.reFr no1 ex5 e45 (S1.fr.trans fr5 fun a z => (nb a z).elim)
        have S6 : Sat O Hf6 H6 (wipe σ3 vs1) (wipeC Γ1 vs1) n := (S5.wipe vs1).grow0 fy6 ey6
        obtain ⟨Γ2, js, gd1, hin1, hte⟩ := hs1 (F ys[i])[j] (List.getElem_mem hlj)
        have nb2 : ∀ a, ¬ Bx Γ2 a := fun a h => hv nb1 a (gd1.2.1 a h)
        refine gd1.2.2 O _ _ Hf6 H6 v5 rx6 S6 _ fun σ7 S7 w7 => ⟨(w7 vs1 hin1).trans wipe_wipe, ?_⟩
        refine yes_if ?_
        have hD6 : H6 D = some (.lst acc5) := fy6.keep _ _ hD5 id
        have hfD6 : Hf6 D = none := fy6.fz _ _ hD5 id hfD5
        refine hte O _ σ7 Hf6 H6 hn S7 _ fun y Hf7 H7 yx py ry f7 S8 => ?_
        subst py
        have hD7 : H7 D = some (.lst acc5) := f7.keep _ _ hD6 (nb2 D)
        have hfD7 : Hf7 D = none := f7.fz _ _ hD6 (nb2 D) hfD6
        have F7 : Fr (Bx Γ) Hf1 H1 Hf7 H7 := (fr5.trans fy6 fun _ z => z.elim).trans f7 fun a z => (nb2 a z).elim
        refine ⟨acc5, hD7, lb_lt al, Hf7, acc5 ++ [y], ?_, upd_same, hfD7, S8.ex.mut hfD7, (e45.trans fy6.ex).trans f7.ex, ?_⟩
        · rw [take_snoc hxj, List.map_append, ← List.append_assoc]
          exact Paired.snoc (paired_mono pr5 fun _ _ z => c'.mono (fy6.ex.trans f7.ex) z) ry
        · refine ⟨F7.ex, fun a o e nm => ?_, F7.fz, fun a e => ?_⟩
          · rw [upd_ne (ne_of_none e hD)]; exact F7.keep a o e nm
          · by_cases z : a = D
            · subst z; exact hD
            · rw [upd_ne z] at e; exact F7.dom a e
      · have e : j = (F ys[i]).length := by omega
        subst e
        rw [List.take_length] at pr5
        refine .inl ⟨W1.stop Hfj H5 e45 ex5, Hfj, acc5, by rw [lc2_snoc hx]; exact pr5, hD5, hfD5, ex5, fr5⟩
    · have e : i = ys.length := by omega
      subst e
      rw [List.take_length] at pr
      exact .inl ⟨W.stop Hfi H' fr.ex ex, q D acc Hfi H' _ rfl hDi hfD (f1.dom D hD) pr (by rw [pr.length]; exact hz) (f1.trans fr fun _ z => .inl z) (S1.grow fr ex fun a ha => (nb a ha).elim)⟩
end
end DL

set_option Elab.async false
set_option linter.all false
set_option maxRecDepth 100000
set_option maxHeartbeats 2000000
namespace DL
open PySem PySem.Spec L2
section
variable {S : Stc} {Γ : Ctxt} {α β γ ρ ω : Type} {c : Cod α} {c1 : Cod γ} {c' : Cod β} {p : Po ρ} {pos pos' spos pn : Pos} {a b e : Expr}
abbrev lc2Rd (S : Stc) (tg iter tg1 iter1 elt : Expr) (scope : Scope) (own : List (Str × Nat)) (vs1 : List Nat) : TE := tLc2 (tI S tg iter) (tGt (S.blk scope) tg) tYes (tI (S.blk scope) tg1 iter1) (tGt (S.blk scope) tg1) tYes (tE (S.blk scope) elt) (own.map (·.2)) vs1
theorem plc2 {own : List (Str × Nat)} {vs1 : List Nat} {elt tg iter tg1 iter1 : Expr} {scope : Scope} {xs : List α} (F : α → List γ) (f : α → γ → β) (no : NoOwn Γ) (hw : PDI S Γ 0 tg iter c (· = xs)) (hz : (lc2L xs F f).length ≤ LB)
    (hs : ∀ x, x ∈ xs → ∃ Γ1 is, NoOwn Γ1 ∧ PDG (S.blk scope) tg c x (wipeC Γ (own.map (·.2))) Γ1 is ∧ (∀ i ∈ is, i ∈ own.map (·.2)) ∧ PDI (S.blk scope) Γ1 0 tg1 iter1 c1 (· = F x) ∧ ∀ y, y ∈ F x → ∃ Γ2 js, PDG (S.blk scope) tg1 c1 y (wipeC Γ1 vs1) Γ2 js ∧ (∀ i ∈ js, i ∈ vs1) ∧ PD (S.blk scope) Γ2 0 elt c' (· = f x y)) :
    TDF (lc2Rd S tg iter tg1 iter1 elt scope own vs1) Γ 0 c' (· = lc2L xs F f) := tdf_lc2 F f no hw hz hs
/-- x = [.. for .. for ..], x a plain local: as a list of one's own -/
theorem bsetLc2 (i : Nat) {y : Str} {py : Pos} {elt tg iter tg1 iter1 : Expr} {scope : Scope} {rest : List Stmt} {k2 : Nat} (own : List (Str × Nat)) (vs1 : List Nat) (hv : ∀ i ∈ vs1, i ∈ own.map (·.2)) {R : List β → Prop} (h : TDF (lc2Rd S tg iter tg1 iter1 elt scope own vs1) Γ 0 c' R) (nb : NoBx Γ i) (hi : S.N[i]? = some y) (hyl : S.sc.names.lookup y = some .local)
    (hsw : ∀ env : Env, env.scope = S.sc → swapsWith (.ListComp elt [⟨tg, iter, [], 0⟩, ⟨tg1, iter1, [], 0⟩] scope pos) (some (.Name y py)) spos.line env = pure true) (ok : blkC S.N S.sc scope own = true) (hfs : ∀ (env : Env) x, foldedSetIterable iter env x = pure x) (hfs1 : ∀ (env : Env) x, foldedSetIterable iter1 env x = pure x)
    (hr : ∀ x, R x → PHs S (Γ.set i (.l c' x)) k2 rest p) : PHs S Γ (0 + k2) (.Assign [.Name y py] (.ListComp elt [⟨tg, iter, [], 0⟩, ⟨tg1, iter1, [], 0⟩] scope pos) spos :: rest) p :=
  phs_cons (N1 := fun Γ1 => ∃ x, R x ∧ Γ1 = Γ.set i (.l c' x)) (ph_of (fun X G => ps_setLc2 (own := own) (vs1 := vs1) G.calm (by rw [G.N]; exact G.nd) (by rw [G.N]; exact hi) (by rw [G.sc]; exact hyl) (hsw _ G.sc) (tI_ok G) (blkOk_by (by rw [G.N, G.sc]; exact ok)) hv
    (fun s H C cl fp => tGt_ok (G.blk scope s H C cl fp)) (fun s H C cl fp => pts_nil) (fun s H C cl fp => tI_ok (G.blk scope s H C cl fp)) (fun s H C cl fp => tGt_ok (G.blk scope s H C cl fp)) (fun s H C cl fp => pts_nil) (fun s H C cl fp => tE_ok (G.blk scope s H C cl fp)) (hfs _) hfs1) (hs_setL h nb fun x px => ⟨x, px, rfl⟩)) fun Γ1 ⟨x, px, e⟩ => by subst e; exact hr x px
/-! ### a list times a number -/
theorem paired_rep {G : V → α → Prop} {vs : List V} {xs : List α} (h : Paired G vs xs) : ∀ n : Nat, Paired G (List.replicate n vs).flatten (List.replicate n xs).flatten
  | 0 => .nil
  | n + 1 => by
    rw [List.replicate_succ, List.replicate_succ, List.flatten_cons, List.flatten_cons]
    exact pap h (paired_rep h n)
theorem flat_one (x : α) : ∀ n : Nat, (List.replicate n [x]).flatten = List.replicate n x
  | 0 => rfl
  | n + 1 => by rw [List.replicate_succ, List.flatten_cons, flat_one x n]; rfl
theorem rd_rep {x : α} {i : Int} (h : 0 ≤ i ∧ i ≤ 1000) : RD rRep (cList c) [x] cInt i (cList c) (· = List.replicate i.toNat x) := fun Hf H v u e ⟨a, vs, h1, h2, h3, h4⟩ h5 Q q => by
  obtain rfl := h5
  have hl : vs.length = 1 := h3.length
  have hll : (List.replicate i.toNat vs).flatten.length = i.toNat := by
    have := (paired_rep h3 i.toNat).length
    rw [flat_one, List.length_replicate] at this; exact this
  refine ⟨a, i, vs, h1, rfl, e _ _ h2, by omega, by omega, by rw [hl, Nat.one_mul]; exact Nat.le_trans (by omega : i.toNat ≤ 1000) (by decide), fun p hp => ?_⟩
  have hpf := e.back hp
  refine q _ _ _ _ rfl ⟨p, _, rfl, upd_same, ?_, by rw [hll]; unfold LB; omega⟩ (Fr.new e hp) (e.both hpf)
  have pr := paired_rep (paired_mono h3 fun _ _ z => c.mono (Ex.new (o := .lst (List.replicate i.toNat vs).flatten) hpf) z) i.toNat
  rw [flat_one] at pr
  exact pr
theorem prep1 {k1 k2 : Nat} {P2 : Int → Prop} {x : α} (ha : PD S Γ k1 a (cList c) (· = [x])) (hb : PD S Γ k2 b cInt P2) (h : ∀ i, P2 i → 0 ≤ i ∧ i ≤ 1000) : PD S Γ (k1 + k2) (.BinOp a .Mult b pos) (cList c) (fun l => ∃ i, P2 i ∧ l = List.replicate i.toNat x) :=
  pd_bin (fun _ _ => op_rep) ha hb fun z i hz hi Hf H v u e r1 r2 Q q => by
    subst hz
    exact rd_rep (h i hi) Hf H v u e r1 r2 Q fun l Hf' H' w hl r f ex => q l Hf' H' w ⟨i, hi, hl⟩ r f ex
/-! ### < of tuples, in, index, min -/
theorem rd_ltT {K : PySem.W.Frag} {xs ys : List Int} : RD (rLtT K) (cTup cInt) xs (cTup cInt) ys cBool (· = HT.lexLt xs ys) := fun Hf H v u e ⟨a, vs, h1, h2, h3, _⟩ ⟨b, us, h4, h5, h6, _⟩ Q q => by
  have := ints_of_paired h3
  have := ints_of_paired h6
  subst vs us
  exact ⟨a, b, xs, ys, h1, h4, SqT.of (e _ _ h2), SqT.of (e _ _ h5), q _ Hf H _ rfl rfl Fr.refl e⟩
theorem pltT {xs ys : List Int} (ha : PD S Γ 0 a (cTup cInt) (· = xs)) (hb : PD S Γ 0 b (cTup cInt) (· = ys)) (hm : behindInMarks .Lt b = false) : PD S Γ 0 (.Compare a [.Lt] [b] pos) cBool (· = HT.lexLt xs ys) :=
  pcmp (fun X G => by rw [← G.K]; exact op_ltT G.room.units0) ha hb (rd_ltT (K := S.K)) hm
theorem rd_inSeq {K : PySem.W.Frag} {x : Int} {xs : List Int} : RD (rIn K false) cInt x (cSeq cInt) xs cBool (· = decide (x ∈ xs)) := fun Hf H v u e h1 h2 Q q => by
  rcases h2 with h | h
  · exact rd_inI (neg := false) Hf H v u e h1 h Q q
  · exact rd_inIT (neg := false) Hf H v u e h1 h Q q
theorem tinSeq {x : Int} {xs : List Int} (ha : PD S Γ 0 a cInt (· = x)) (hb : PD S Γ 0 b (cSeq cInt) (· = xs)) (hm : behindInMarks .In b = false) : PDT S Γ 0 (.Compare a [.In] [b] pos) (· = decide (x ∈ xs)) := tcmp op_inG ha hb rd_inSeq hm
abbrev rIxS (K : PySem.W.Frag) : R2 := fun x y H Q => rIxL K x y H Q ∨ rIxT K x y H Q
theorem ixSG : ∀ X, Good S X → IxR X (rIxS S.K) := fun X G => by
  intro va sl pins s σ H x y v u Q I rx ry h hs
  rcases h with h | h
  · exact ixLG X G va sl pins s σ H x y v u Q I rx ry h hs
  · exact ixTG X G va sl pins s σ H x y v u Q I rx ry h hs
theorem rd_ixSd [Inhabited α] {K : PySem.W.Frag} {xs : List α} {i : Int} (h : 0 ≤ i ∧ i < (xs.length : Int)) : RD (rIxS K) (cSeq c) xs cInt i c (· = xs.getD i.toNat default) := fun Hf H v u e h1 h2 Q q => by
  rcases h1 with z | z
  · exact .inl (rd_ixLd h Hf H v u e z h2 Q q)
  · exact .inr (rd_ixTd h Hf H v u e z h2 Q q)
theorem pmin2R {k1 k2 : Nat} {P1 P2 P3 : Int → Prop} (hg : S.sc.names.lookup ("min" : Str) = some .globalImplicit) (hmg : S.mg "min" = none) (ha : PD S Γ k1 a cInt P1) (hb : PD S Γ k2 b cInt P2) (hp : ∀ i j, P1 i → P2 j → P3 (if j < i then j else i)) (he : ∀ env : Env, starEach [a, b] env = (false, eval a env) :: starEach [b] env) (he2 : ∀ env : Env, starEach [b] env = (false, eval b env) :: starEach [] env) (hpl : ∀ env : Env, (backTo pos (starEach [b] env)).any (·.1) = false) :
    PD S Γ (k1 + k2) (.Call (.Name "min" pn) [a, b] [] pos) cInt P3 :=
  pd_of (fun X G => pe_callB (call_min2 G.calm) (glb G hg) (by rw [G.mg]; exact hmg) (by decide +kernel) (pa_cons (tE_ok G) (pa_cons (tE_ok G) pa_nil (he2 _)) (he _)) (by decide) (by decide) (he _) (hpl _)) fun O n σ Hf H hn s Q q => ha O n σ Hf H (by omega) s _ fun v Hf1 H1 z pz rz f1 s1 => hb O (n + k1) σ Hf1 H1 (by omega) s1 _ fun v2 Hf' H' z2 pz2 rz2 f2 s2 => by
    obtain rfl := rz
    obtain rfl := rz2
    exact ⟨z, z2, rfl, q _ Hf' H' _ (hp _ _ pz pz2) rfl (f1.trans f2 fun _ z => .inl z) (by rw [Nat.add_assoc] at s2; exact s2)⟩
end
/-! ### methods of two and three arguments, in order and by names from the end -/
def gs2 {α : Type} : List α → List α → List α
  | [a], [b, c] => [a, c, b]
  | _, _ => []
def gs3 {α : Type} : List α → List α → List α
  | [a], [b, c, d] => [a, d, c, b]
  | _, _ => []
theorem kbs2 {K : PySem.W.Frag} {fd : FuncData} {p1 p2 p3 : Str} (h : ∀ a b c : Value, bindArgs fd ⟨[a], [p3, p2].zip [b, c]⟩ = pure ([p1, p2, p3].zip [a, c, b])) : KBinds K fd [p1, p2, p3] [p3, p2] gs2 gs2 where
  to := fun s us ws _ hl => by
    match us, ws, hl with
    | [a], [b, c], _ => exact .of_eq (h a b c)
    | [], _, hl => cases hl
    | _ :: _ :: _, [], hl => cases hl
    | _ :: _ :: _, _ :: _, hl => cases hl
    | [_], [], hl => cases hl
    | [_], [_], hl => cases hl
    | [_], _ :: _ :: _ :: _, hl => cases hl
  rel := fun {vs us zs ws} h1 h2 => by
    match vs, us, h1, zs, ws, h2 with
    | [], [], _, _, _, _ => exact .nil
    | [_], [_], .cons r .nil, [], [], _ => exact .nil
    | [_], [_], .cons r .nil, [_], [_], _ => exact .nil
    | [_], [_], .cons r .nil, [_, _], [_, _], .cons r2 (.cons r3 .nil) => exact .cons r (.cons r3 (.cons r2 .nil))
    | [_], [_], .cons r .nil, _ :: _ :: _ :: _, _ :: _ :: _ :: _, _ => exact .nil
    | _ :: _ :: _, _ :: _ :: _, _, _, _, _ => exact .nil
theorem kbs3 {K : PySem.W.Frag} {fd : FuncData} {p1 p2 p3 p4 : Str} (h : ∀ a b c d : Value, bindArgs fd ⟨[a], [p4, p3, p2].zip [b, c, d]⟩ = pure ([p1, p2, p3, p4].zip [a, d, c, b])) : KBinds K fd [p1, p2, p3, p4] [p4, p3, p2] gs3 gs3 where
  to := fun s us ws _ hl => by
    match us, ws, hl with
    | [a], [b, c, d], _ => exact .of_eq (h a b c d)
    | [], _, hl => cases hl
    | _ :: _ :: _, [], hl => cases hl
    | _ :: _ :: _, _ :: _, hl => cases hl
    | [_], [], hl => cases hl
    | [_], [_], hl => cases hl
    | [_], [_, _], hl => cases hl
    | [_], _ :: _ :: _ :: _ :: _, hl => cases hl
  rel := fun {vs us zs ws} h1 h2 => by
    match vs, us, h1, zs, ws, h2 with
    | [], [], _, _, _, _ => exact .nil
    | [_], [_], .cons r .nil, [], [], _ => exact .nil
    | [_], [_], .cons r .nil, [_], [_], _ => exact .nil
    | [_], [_], .cons r .nil, [_, _], [_, _], _ => exact .nil
    | [_], [_], .cons r .nil, [_, _, _], [_, _, _], .cons r2 (.cons r3 (.cons r4 .nil)) => exact .cons r (.cons r4 (.cons r3 (.cons r2 .nil)))
    | [_], [_], .cons r .nil, _ :: _ :: _ :: _ :: _, _ :: _ :: _ :: _ :: _, _ => exact .nil
    | _ :: _ :: _, _ :: _ :: _, _, _, _, _ => exact .nil
structure MB2 (P : Program) (w : World) (K : PySem.W.Frag) (mg : Str → Option Value) (base : Heap) (C : Addr) (m p1 p2 : Str) (lv : Nat) (sp : Sp) : Prop where
  ex : ∃ f fd, FnOk P w K mg base CX0 lv f fd [("self" : Str), p1, p2] sp ∧ Meth K C m f ∧ Binds K fd [("self" : Str), p1, p2] [] ∧ KBinds K fd [("self" : Str), p1, p2] [p2, p1] gs2 gs2
structure MB3 (P : Program) (w : World) (K : PySem.W.Frag) (mg : Str → Option Value) (base : Heap) (C : Addr) (m p1 p2 p3 : Str) (lv : Nat) (sp : Sp) : Prop where
  ex : ∃ f fd, FnOk P w K mg base CX0 lv f fd [("self" : Str), p1, p2, p3] sp ∧ Meth K C m f ∧ Binds K fd [("self" : Str), p1, p2, p3] [] ∧ KBinds K fd [("self" : Str), p1, p2, p3] [p3, p2, p1] gs3 gs3
section
variable {P : Program} {w : World} {K : PySem.W.Frag} {mg : Str → Option Value} {base : Heap} {C : Addr} {lv : Nat}
theorem mb2 {m p1 p2 qual : Str} {st : Stmt} {sp : Sp} (D : MDef K C m qual st) (hb : BindsM st m qual [("self" : Str), p1, p2]) (hk : ∀ (kV doc pm : Value) (an : Option Addr) (cdv ct a b c : Value), bindArgs (PySem.W.fnOf m qual (defArgs st) (defBody st) (defScope st) .none kV doc pm an cdv ct) ⟨[a], [p2, p1].zip [b, c]⟩ = pure ([("self" : Str), p1, p2].zip [a, c, b]))
    (h : ∀ f fd, Fun K m qual st f fd → FnOk P w K mg base CX0 lv f fd [("self" : Str), p1, p2] sp) : MB2 P w K mg base C m p1 p2 lv sp := by
  obtain ⟨f, fd, Fu, Mt⟩ := D.ex
  refine ⟨f, fd, h f fd Fu, Mt, Fu.binds hb, ?_⟩
  obtain ⟨oc, od, kV, doc, pm, an, cdv, ct, osl, rfl, lk, hcd⟩ := Fu.ex
  exact kbs2 fun a b c => hk kV doc pm an cdv ct a b c
theorem mb3 {m p1 p2 p3 qual : Str} {st : Stmt} {sp : Sp} (D : MDef K C m qual st) (hb : BindsM st m qual [("self" : Str), p1, p2, p3]) (hk : ∀ (kV doc pm : Value) (an : Option Addr) (cdv ct a b c d : Value), bindArgs (PySem.W.fnOf m qual (defArgs st) (defBody st) (defScope st) .none kV doc pm an cdv ct) ⟨[a], [p3, p2, p1].zip [b, c, d]⟩ = pure ([("self" : Str), p1, p2, p3].zip [a, d, c, b]))
    (h : ∀ f fd, Fun K m qual st f fd → FnOk P w K mg base CX0 lv f fd [("self" : Str), p1, p2, p3] sp) : MB3 P w K mg base C m p1 p2 p3 lv sp := by
  obtain ⟨f, fd, Fu, Mt⟩ := D.ex
  refine ⟨f, fd, h f fd Fu, Mt, Fu.binds hb, ?_⟩
  obtain ⟨oc, od, kV, doc, pm, an, cdv, ct, osl, rfl, lk, hcd⟩ := Fu.ex
  exact kbs3 fun a b c d => hk kV doc pm an cdv ct a b c d
end
section
variable {S : Stc} {Γ : Ctxt} {α β γ ω ρ : Type} {cr : Cod ρ} {ca : Cod α} {cb : Cod β} {cg : Cod γ} {e e2 e3 o : Expr} {pos apos kp1 kp2 kp3 : Pos} {C : Addr} {F : Hp → List (Str × V) → ω → Prop} {hm : ∀ {H H' fs y}, Ex H H' → F H fs y → F H' fs y} {m p1 p2 p3 : Str} {lv : Nat} {x : ω} {y : α} {z : β} {u : γ} {pl : Env → Sem Bool}
theorem pm2 {pre : ω × α × β → Prop} {g : ω × α × β → ρ} (M : MB2 S.prog S.w S.K S.mg S.base C m p1 p2 lv (spP (fun (a : ω × α × β) => [.d (cIns C F hm) a.1, .d ca a.2.1, .d cb a.2.2]) pre cr g)) (hC : Cls S.K C) (hl : lv ≤ S.lv) (ho : PD S Γ 0 o (cIns C F hm) (· = x)) (h1 : PD S Γ 0 e ca (· = y)) (h2 : PD S Γ 0 e2 cb (· = z)) (hno : ∀ H fs y0, F H fs y0 → fs.lookup m = none) (hp : pre (x, y, z))
    (hs : ∀ env : Env, starEach [e, e2] env = (false, eval e env) :: starEach [e2] env) (hs2 : ∀ env : Env, starEach [e2] env = (false, eval e2 env) :: starEach [] env) (hpl : ∀ env : Env, (backTo pos (starEach [e2] env)).any (·.1) = false) (ht : MTree o m apos pos [e, e2] [] pl) : PD S Γ 0 (.Call (.Attribute o m apos) [e, e2] [] pos) cr (· = g (x, y, z)) := by
  obtain ⟨f, fd, Fn, Mt, hb, _⟩ := M.ex
  exact pd_of (fun X G => pe_meth (pl := pl X.env) (tE_ok G) (by rw [G.K]; exact hC) (by rw [G.K]; exact Mt) (fnG Fn G) (G.room.mono hl) (by rw [G.K]; exact hb) .nil pass0 (tA_ok G) (hs _) (hpl _) (ht _))
    (td_meth (k := 0) (k1 := 0) (k2 := 0) ho hno (pda_more (k1 := 0) (k2 := 0) h1 (pda_one h2 hs2) hs) fun y' as h3 h4 => ⟨(y', y, z), 0, by subst h4; rfl, by subst h3; exact hp, Nat.le_refl _, fun x hx => by subst h3; exact hx⟩)
theorem pm2F {pre : ω × α × β → Prop} {g : ω × α × β → List γ} (M : MB2 S.prog S.w S.K S.mg S.base C m p1 p2 lv (spFP (fun (a : ω × α × β) => [.d (cIns C F hm) a.1, .d ca a.2.1, .d cb a.2.2]) pre cg g)) (hC : Cls S.K C) (hl : lv ≤ S.lv) (ho : PD S Γ 0 o (cIns C F hm) (· = x)) (h1 : PD S Γ 0 e ca (· = y)) (h2 : PD S Γ 0 e2 cb (· = z)) (hno : ∀ H fs y0, F H fs y0 → fs.lookup m = none) (hp : pre (x, y, z))
    (hs : ∀ env : Env, starEach [e, e2] env = (false, eval e env) :: starEach [e2] env) (hs2 : ∀ env : Env, starEach [e2] env = (false, eval e2 env) :: starEach [] env) (hpl : ∀ env : Env, (backTo pos (starEach [e2] env)).any (·.1) = false) (ht : MTree o m apos pos [e, e2] [] pl) : PDF S Γ 0 (.Call (.Attribute o m apos) [e, e2] [] pos) cg (· = g (x, y, z)) := by
  obtain ⟨f, fd, Fn, Mt, hb, _⟩ := M.ex
  exact pdf_of (fun X G => pe_meth (pl := pl X.env) (tE_ok G) (by rw [G.K]; exact hC) (by rw [G.K]; exact Mt) (fnG Fn G) (G.room.mono hl) (by rw [G.K]; exact hb) .nil pass0 (tA_ok G) (hs _) (hpl _) (ht _))
    (tdf_meth (k := 0) (k1 := 0) (k2 := 0) ho hno (pda_more (k1 := 0) (k2 := 0) h1 (pda_one h2 hs2) hs) fun y' as h3 h4 => ⟨(y', y, z), 0, by subst h4; rfl, by subst h3; exact hp, Nat.le_refl _, fun x hx => by subst h3; exact hx⟩)
theorem pm3 {pre : ω × α × β × γ → Prop} {g : ω × α × β × γ → ρ} (M : MB3 S.prog S.w S.K S.mg S.base C m p1 p2 p3 lv (spP (fun (a : ω × α × β × γ) => [.d (cIns C F hm) a.1, .d ca a.2.1, .d cb a.2.2.1, .d cg a.2.2.2]) pre cr g)) (hC : Cls S.K C) (hl : lv ≤ S.lv) (ho : PD S Γ 0 o (cIns C F hm) (· = x)) (h1 : PD S Γ 0 e ca (· = y)) (h2 : PD S Γ 0 e2 cb (· = z)) (h3 : PD S Γ 0 e3 cg (· = u)) (hno : ∀ H fs y0, F H fs y0 → fs.lookup m = none) (hp : pre (x, y, z, u))
    (hs : ∀ env : Env, starEach [e, e2, e3] env = (false, eval e env) :: starEach [e2, e3] env) (hs2 : ∀ env : Env, starEach [e2, e3] env = (false, eval e2 env) :: starEach [e3] env) (hs3 : ∀ env : Env, starEach [e3] env = (false, eval e3 env) :: starEach [] env) (hpl : ∀ env : Env, (backTo pos (starEach [e2, e3] env)).any (·.1) = false) (ht : MTree o m apos pos [e, e2, e3] [] pl) : PD S Γ 0 (.Call (.Attribute o m apos) [e, e2, e3] [] pos) cr (· = g (x, y, z, u)) := by
  obtain ⟨f, fd, Fn, Mt, hb, _⟩ := M.ex
  exact pd_of (fun X G => pe_meth (pl := pl X.env) (tE_ok G) (by rw [G.K]; exact hC) (by rw [G.K]; exact Mt) (fnG Fn G) (G.room.mono hl) (by rw [G.K]; exact hb) .nil pass0 (tA_ok G) (hs _) (hpl _) (ht _))
    (td_meth (k := 0) (k1 := 0) (k2 := 0) ho hno (pda_more (k1 := 0) (k2 := 0) h1 (pda_more (k1 := 0) (k2 := 0) h2 (pda_one h3 hs3) hs2) hs) fun y' as h5 h4 => ⟨(y', y, z, u), 0, by subst h4; rfl, by subst h5; exact hp, Nat.le_refl _, fun x hx => by subst h5; exact hx⟩)
/-- o.m(p2 = e2, p1 = e) -/
theorem pm2k {pre : ω × α × β → Prop} {g : ω × α × β → ρ} (M : MB2 S.prog S.w S.K S.mg S.base C m p1 p2 lv (spP (fun (a : ω × α × β) => [.d (cIns C F hm) a.1, .d ca a.2.1, .d cb a.2.2]) pre cr g)) (hC : Cls S.K C) (hl : lv ≤ S.lv) (ho : PD S Γ 0 o (cIns C F hm) (· = x)) (h2 : PD S Γ 0 e2 cb (· = z)) (h1 : PD S Γ 0 e ca (· = y)) (hno : ∀ H fs y0, F H fs y0 → fs.lookup m = none) (hp : pre (x, y, z))
    (hall : ∀ env : Env, (backToKw pos (keywordEach [⟨some p2, e2, kp2⟩, ⟨some p1, e, kp1⟩] env)).all (·.1.isSome) = true) (hks : ∀ env : Env, (backToKw pos (keywordEach [⟨some p2, e2, kp2⟩, ⟨some p1, e, kp1⟩] env)).filterMap (·.1) = [p2, p1])
    (hpl : ∀ env : Env, ((backTo pos (starEach [] env)).any (·.1) || (backToKw pos (keywordEach [⟨some p2, e2, kp2⟩, ⟨some p1, e, kp1⟩] env)).any (·.1.isNone)) = false) (ht : MTree o m apos pos [] [⟨some p2, e2, kp2⟩, ⟨some p1, e, kp1⟩] pl) : PD S Γ 0 (.Call (.Attribute o m apos) [] [⟨some p2, e2, kp2⟩, ⟨some p1, e, kp1⟩] pos) cr (· = g (x, y, z)) := by
  obtain ⟨f, fd, Fn, Mt, _, hb⟩ := M.ex
  refine pd_of (fun X G => pe_methK (pl := pl X.env) (tE_ok G) (by rw [G.K]; exact hC) (by rw [G.K]; exact Mt) (fnG Fn G) (G.room.mono hl) (by rw [G.K]; exact hb) pass0 (pk_cons (tE_ok G) (pk_cons (tE_ok G) pk_nil)) (hall _) (hks _) (hpl _) (ht _)) fun O n σ Hf H hn s Q q => ?_
  refine ho O n σ Hf H hn s _ fun v Hf1 H1 y' py r1 f1 s1 => ?_
  subst py
  obtain ⟨a, dx, fs, e1, e4, e3⟩ := id r1
  refine ⟨a, dx, fs, e1, s1.ex _ _ e4, hno _ _ _ e3, ?_⟩
  refine h2 O n σ Hf1 H1 hn s1 _ fun v2 Hf2 H2 z' pz r2 f2 s2 => ?_
  refine h1 O n σ Hf2 H2 hn s2 _ fun v3 Hf3 H3 u' pu r3 f3 s3 => ?_
  subst pz pu
  refine ⟨(y', u', z'), 0, n, Hf3, hp, hn, s3.ex, ⟨(cIns C F hm).mono (f2.ex.trans f3.ex) r1, r3, cb.mono f3.ex r2, trivial⟩, fun w hw => by simp at hw, fun w Hf4 H4 x px r f4 ex4 _ => ?_⟩
  have f4' : Fr (fun _ => False) Hf3 H3 Hf4 H4 := f4.mono fun w hw => by simp at hw
  exact q w Hf4 H4 x px r (((f1.trans f2 fun _ z => .inl z).trans f3 fun _ z => .inl z).trans f4' fun _ z => z.elim) (s3.grow0 f4' ex4)
theorem pm2kF {pre : ω × α × β → Prop} {g : ω × α × β → List γ} (M : MB2 S.prog S.w S.K S.mg S.base C m p1 p2 lv (spFP (fun (a : ω × α × β) => [.d (cIns C F hm) a.1, .d ca a.2.1, .d cb a.2.2]) pre cg g)) (hC : Cls S.K C) (hl : lv ≤ S.lv) (ho : PD S Γ 0 o (cIns C F hm) (· = x)) (h2 : PD S Γ 0 e2 cb (· = z)) (h1 : PD S Γ 0 e ca (· = y)) (hno : ∀ H fs y0, F H fs y0 → fs.lookup m = none) (hp : pre (x, y, z))
    (hall : ∀ env : Env, (backToKw pos (keywordEach [⟨some p2, e2, kp2⟩, ⟨some p1, e, kp1⟩] env)).all (·.1.isSome) = true) (hks : ∀ env : Env, (backToKw pos (keywordEach [⟨some p2, e2, kp2⟩, ⟨some p1, e, kp1⟩] env)).filterMap (·.1) = [p2, p1])
    (hpl : ∀ env : Env, ((backTo pos (starEach [] env)).any (·.1) || (backToKw pos (keywordEach [⟨some p2, e2, kp2⟩, ⟨some p1, e, kp1⟩] env)).any (·.1.isNone)) = false) (ht : MTree o m apos pos [] [⟨some p2, e2, kp2⟩, ⟨some p1, e, kp1⟩] pl) : PDF S Γ 0 (.Call (.Attribute o m apos) [] [⟨some p2, e2, kp2⟩, ⟨some p1, e, kp1⟩] pos) cg (· = g (x, y, z)) := by
  obtain ⟨f, fd, Fn, Mt, _, hb⟩ := M.ex
  refine pdf_of (fun X G => pe_methK (pl := pl X.env) (tE_ok G) (by rw [G.K]; exact hC) (by rw [G.K]; exact Mt) (fnG Fn G) (G.room.mono hl) (by rw [G.K]; exact hb) pass0 (pk_cons (tE_ok G) (pk_cons (tE_ok G) pk_nil)) (hall _) (hks _) (hpl _) (ht _)) fun O n σ Hf H hn s Q q => ?_
  refine ho O n σ Hf H hn s _ fun v Hf1 H1 y' py r1 f1 s1 => ?_
  subst py
  obtain ⟨a, dx, fs, e1, e4, e3⟩ := id r1
  refine ⟨a, dx, fs, e1, s1.ex _ _ e4, hno _ _ _ e3, ?_⟩
  refine h2 O n σ Hf1 H1 hn s1 _ fun v2 Hf2 H2 z' pz r2 f2 s2 => ?_
  refine h1 O n σ Hf2 H2 hn s2 _ fun v3 Hf3 H3 u' pu r3 f3 s3 => ?_
  subst pz pu
  have F3 := (f1.trans f2 fun _ z => .inl z).trans f3 fun _ z => .inl z
  refine ⟨(y', u', z'), 0, n, Hf3, hp, hn, s3.ex, ⟨(cIns C F hm).mono (f2.ex.trans f3.ex) r1, r3, cb.mono f3.ex r2, trivial⟩, fun w hw => by simp at hw, fun w ws Hf4 H4 x px h5 h6 h7 pr lb f4 ex4 _ => ?_⟩
  have f4' : Fr (fun _ => False) Hf3 H3 Hf4 H4 := f4.mono fun w hw => by simp at hw
  exact q w ws Hf4 H4 x px h5 h6 (F3.dom _ h7) pr lb (F3.trans f4' fun _ z => z.elim) (s3.grow0 f4' ex4)
/-- o.m(p3 = e3, p2 = e2, p1 = e) -/
theorem pm3k {pre : ω × α × β × γ → Prop} {g : ω × α × β × γ → ρ} (M : MB3 S.prog S.w S.K S.mg S.base C m p1 p2 p3 lv (spP (fun (a : ω × α × β × γ) => [.d (cIns C F hm) a.1, .d ca a.2.1, .d cb a.2.2.1, .d cg a.2.2.2]) pre cr g)) (hC : Cls S.K C) (hl : lv ≤ S.lv) (ho : PD S Γ 0 o (cIns C F hm) (· = x)) (h3 : PD S Γ 0 e3 cg (· = u)) (h2 : PD S Γ 0 e2 cb (· = z)) (h1 : PD S Γ 0 e ca (· = y)) (hno : ∀ H fs y0, F H fs y0 → fs.lookup m = none) (hp : pre (x, y, z, u))
    (hall : ∀ env : Env, (backToKw pos (keywordEach [⟨some p3, e3, kp3⟩, ⟨some p2, e2, kp2⟩, ⟨some p1, e, kp1⟩] env)).all (·.1.isSome) = true) (hks : ∀ env : Env, (backToKw pos (keywordEach [⟨some p3, e3, kp3⟩, ⟨some p2, e2, kp2⟩, ⟨some p1, e, kp1⟩] env)).filterMap (·.1) = [p3, p2, p1])
    (hpl : ∀ env : Env, ((backTo pos (starEach [] env)).any (·.1) || (backToKw pos (keywordEach [⟨some p3, e3, kp3⟩, ⟨some p2, e2, kp2⟩, ⟨some p1, e, kp1⟩] env)).any (·.1.isNone)) = false) (ht : MTree o m apos pos [] [⟨some p3, e3, kp3⟩, ⟨some p2, e2, kp2⟩, ⟨some p1, e, kp1⟩] pl) : PD S Γ 0 (.Call (.Attribute o m apos) [] [⟨some p3, e3, kp3⟩, ⟨some p2, e2, kp2⟩, ⟨some p1, e, kp1⟩] pos) cr (· = g (x, y, z, u)) := by
  obtain ⟨f, fd, Fn, Mt, _, hb⟩ := M.ex
  refine pd_of (fun X G => pe_methK (pl := pl X.env) (tE_ok G) (by rw [G.K]; exact hC) (by rw [G.K]; exact Mt) (fnG Fn G) (G.room.mono hl) (by rw [G.K]; exact hb) pass0 (pk_cons (tE_ok G) (pk_cons (tE_ok G) (pk_cons (tE_ok G) pk_nil))) (hall _) (hks _) (hpl _) (ht _)) fun O n σ Hf H hn s Q q => ?_
  refine ho O n σ Hf H hn s _ fun v Hf1 H1 y' py r1 f1 s1 => ?_
  subst py
  obtain ⟨a, dx, fs, e1, e4, e5⟩ := id r1
  refine ⟨a, dx, fs, e1, s1.ex _ _ e4, hno _ _ _ e5, ?_⟩
  refine h3 O n σ Hf1 H1 hn s1 _ fun v2 Hf2 H2 z' pz r2 f2 s2 => ?_
  refine h2 O n σ Hf2 H2 hn s2 _ fun v3 Hf3 H3 u' pu r3 f3 s3 => ?_
  refine h1 O n σ Hf3 H3 hn s3 _ fun v4 Hf4 H4 t' pt r4 f4 s4 => ?_
  subst pz pu pt
  refine ⟨(y', t', u', z'), 0, n, Hf4, hp, hn, s4.ex, ⟨(cIns C F hm).mono ((f2.ex.trans f3.ex).trans f4.ex) r1, r4, cb.mono f4.ex r3, cg.mono (f3.ex.trans f4.ex) r2, trivial⟩, fun w hw => by simp at hw, fun w Hf5 H5 x px r f5 ex5 _ => ?_⟩
  have f5' : Fr (fun _ => False) Hf4 H4 Hf5 H5 := f5.mono fun w hw => by simp at hw
  exact q w Hf5 H5 x px r ((((f1.trans f2 fun _ z => .inl z).trans f3 fun _ z => .inl z).trans f4 fun _ z => .inl z).trans f5' fun _ z => z.elim) (s4.grow0 f5' ex5)
end
end DL

set_option Elab.async false
set_option linter.all false
set_option maxRecDepth 100000
set_option maxHeartbeats 4000000
namespace K01
open PySem PySem.Spec L2 DL
def top (i : Nat) : Stmt := PySem.Challenge.pw_dealbook_k01_books_and_their_texts.main.body.getD i (.Pass ⟨0, 0, 0, 0⟩)
/-- what the built-in names are in a module -/
structure Bt (mg : Str → Option Value) : Prop where
  len : mg "len" = none
  list : mg "list" = none
  tuple : mg "tuple" = none
  sorted : mg "sorted" = none
  set : mg "set" = none
  range : mg "range" = none
  isinstance : mg "isinstance" = none
  all : mg "all" = none
  int : mg "int" = none
  bool : mg "bool" = none
section
variable {P : Program} {w : World} {K : PySem.W.Frag} {mg : Str → Option Value} {base : Heap}
variable (U : Bt mg)
include U
theorem c_is_list {α : Type} {c : Cod α} (D : Def K mg "is_list" (top 9)) : Cal P w K mg base "is_list" ["value"] 1 (spP (fun (a : List α) => [.d (cSeq c) a]) (fun _ => True) cBool (fun _ => true)) := by
  refine cal_D (N := ["value"]) D (fun _ _ _ _ _ _ us hl => match us, hl with | [_], _ => rfl) ⟨rfl, rfl, rfl, by decide +kernel, rfl, by decide +kernel, by decide +kernel⟩ (fun _ _ => rfl) (by decide) (fun _ _ => trivial) fun b a hp => ?_
  exact bret (pisiLTs rfl U.isinstance rfl U.list rfl U.tuple (pd_name (i := 0) rfl rfl (.inl rfl)) (fun _ => rfl)) fun _ h => h
theorem c_is_integer (D : Def K mg "is_integer" (top 10)) : Cal P w K mg base "is_integer" ["value"] 1 (spP (fun (a : Int) => [.d cInt a]) (fun _ => True) cBool (fun _ => true)) := by
  refine cal_D (N := ["value"]) D (fun _ _ _ _ _ _ us hl => match us, hl with | [_], _ => rfl) ⟨rfl, rfl, rfl, by decide +kernel, rfl, by decide +kernel, by decide +kernel⟩ (fun _ _ => rfl) (by decide) (fun _ _ => trivial) fun b a hp => ?_
  exact bret (pand (pisi rfl U.isinstance (pd_name (i := 0) rfl rfl (.inl rfl)) (nmTy rfl U.int PyProof.Rows.boot_int) (.ty _) ty_int (r := true) (kit_ty (by decide +kernel)) (fun _ => rfl)) fun _ => (pd_one (pd_not (pisi rfl U.isinstance (pd_name (i := 0) rfl rfl (.inl rfl)) (nmTy rfl U.bool PyProof.Rows.boot_bool) (.ty _) ty_int (r := false) (kit_ty (by decide +kernel)) (fun _ => rfl))))) fun _ h => h
theorem c_is_index (D : Def K mg "is_index" (top 11)) (C_is_integer : Cal P w K mg base "is_integer" ["value"] 1 (spP (fun (a : Int) => [.d cInt a]) (fun _ => True) cBool (fun _ => true))) :
    Cal P w K mg base "is_index" ["value", "many"] 2 (spP (fun (a : Int × Int) => [.d cInt a.1, .d cInt a.2]) (fun _ => True) cBool (fun a => decide (0 ≤ a.1 ∧ a.1 < a.2))) := by
  refine cal_D (N := ["value", "many"]) D (fun _ _ _ _ _ _ us hl => match us, hl with | [_, _], _ => rfl) ⟨rfl, rfl, rfl, by decide +kernel, rfl, by decide +kernel, by decide +kernel⟩ (fun _ _ => rfl) (by decide) (fun _ _ => trivial) fun b a hp => ?_
  exact bret (pand (pcal1 C_is_integer (show (1 : Nat) ≤ 1 by decide) rfl (pd_name (i := 0) rfl rfl (.inl rfl)) trivial (fun _ => rfl) (fun _ => rfl)) fun _ => (pd_one (pchain (fun _ => op_le) (fun _ => op_lt) pd_int (pd_name (i := 0) rfl rfl (.inl rfl)) (pd_name (i := 1) rfl rfl (.inl rfl)) rfl))) fun _ h => h.trans (by simp)
abbrev P_is_list : Sp := spP (fun (a : List Int) => [.d (cSeq cInt) a]) (fun _ => True) cBool (fun _ => true)
abbrev P_is_index : Sp := spP (fun (a : Int × Int) => [.d cInt a.1, .d cInt a.2]) (fun _ => True) cBool (fun a => decide (0 ≤ a.1 ∧ a.1 < a.2))
theorem c_are_numbers (D : Def K mg "are_numbers" (top 12)) (C_is_list : Cal P w K mg base "is_list" ["value"] 1 P_is_list) (C_is_index : Cal P w K mg base "is_index" ["value", "many"] 2 P_is_index) :
    Cal P w K mg base "are_numbers" ["value", "many"] 3 (spP (fun (a : List Int × Int) => [.d (cSeq cInt) a.1, .d cInt a.2]) (fun _ => True) cBool (fun a => (a.1.map fun x => decide (0 ≤ x ∧ x < a.2)).all id)) := by
  refine cal_D (N := ["value", "many", "item"]) D (fun _ _ _ _ _ _ us hl => match us, hl with | [_, _], _ => rfl) ⟨rfl, rfl, rfl, by decide +kernel, rfl, by decide +kernel, by decide +kernel⟩ (fun _ _ => rfl) (by decide) (fun _ _ => trivial) fun b a hp => ?_
  refine bret (pand (pcal1 C_is_list (show (1 : Nat) ≤ 2 by decide) rfl (pd_name (i := 0) rfl rfl (.inl rfl)) trivial (fun _ => rfl) (fun _ => rfl)) fun _ => (pd_one (pall rfl U.all (TDF.td (plcN [("item", 2)] (pdi_seq (pd_name (i := 0) rfl rfl (.inl rfl))) trivial (by kernel_rfl) (fun _ _ => rfl) fun _ _ => ⟨_, _, (pdg_name (i := 2) trivial rfl (.inl rfl) (.inr rfl)), (fun _ h => h), (pcal2 C_is_index (show (2 : Nat) ≤ 2 by decide) rfl (pd_name (i := 2) rfl rfl (.inl rfl)) (pd_name (i := 1) rfl rfl (.inr (.inl rfl))) trivial (fun _ => rfl) (fun _ => rfl) (fun _ => rfl))⟩)) (fun _ => rfl)))) ?_
  exact fun _ h => h.trans (by simp)
def Up (a : List Int × Int) : Prop := a.1.Pairwise (· < ·) ∧ (∀ x ∈ a.1, 0 ≤ x ∧ x < a.2) ∧ a.1.length < 64
theorem c_is_lot (D : Def K mg "is_lot" (top 13)) (C_are_numbers : Cal P w K mg base "are_numbers" ["value", "many"] 3 (spP (fun (a : List Int × Int) => [.d (cSeq cInt) a.1, .d cInt a.2]) (fun _ => True) cBool (fun a => (a.1.map fun x => decide (0 ≤ x ∧ x < a.2)).all id))) :
    Cal P w K mg base "is_lot" ["value", "many"] 4 (spP (fun (a : List Int × Int) => [.d (cSeq cInt) a.1, .d cInt a.2]) Up cBool (fun a => true)) := by
  refine cal_D (N := ["value", "many"]) D (fun _ _ _ _ _ _ us hl => match us, hl with | [_, _], _ => rfl) ⟨rfl, rfl, rfl, by decide +kernel, rfl, by decide +kernel, by decide +kernel⟩ (fun _ _ => rfl) (by decide) (fun _ _ => trivial) fun b a hp => ?_
  refine bret (pand (pcal2 C_are_numbers (show (3 : Nat) ≤ 3 by decide) rfl (pd_name (i := 0) rfl rfl (.inl rfl)) (pd_name (i := 1) rfl rfl (.inl rfl)) trivial (fun _ => rfl) (fun _ => rfl) (fun _ => rfl)) fun _ => (pd_one (pcmp (op_eqDG rfl) (TDF.td (plist rfl U.list (pd_name (i := 0) rfl rfl (.inl rfl)) (fun _ => rfl))) (TDF.td (psortSet rfl U.sorted (pset rfl U.set (pd_name (i := 0) rfl rfl (.inl rfl)) ?_ (fun _ => rfl)) ?_ (fun _ => rfl))) (rd_eqD (eList eInt) (by decide)) (nomark _)))) ?_
  · have := hp.2.2; omega
  · have := asc_len a.1; have := hp.2.2; omega
  · intro x h
    refine h.trans ?_
    have h1 : asc a.1 = a.1 := asc_self hp.1
    rw [h1]
    simp only [decide_true, Bool.and_true, List.all_map, List.all_eq_true]
    intro y hy
    exact decide_eq_true (hp.2.1 y hy)
theorem c_are_places (D : Def K mg "are_places" (top 14)) (C_is_lot : Cal P w K mg base "is_lot" ["value", "many"] 4 (spP (fun (a : List Int × Int) => [.d (cSeq cInt) a.1, .d cInt a.2]) Up cBool (fun a => true))) :
    Cal P w K mg base "are_places" ["value", "many"] 5 (spP (fun (a : List Int × Int) => [.d (cSeq cInt) a.1, .d cInt a.2]) Up cBool (fun a => true)) := by
  refine cal_D (N := ["value", "many"]) D (fun _ _ _ _ _ _ us hl => match us, hl with | [_, _], _ => rfl) ⟨rfl, rfl, rfl, by decide +kernel, rfl, by decide +kernel, by decide +kernel⟩ (fun _ _ => rfl) (by decide) (fun _ _ => trivial) fun b a hp => ?_
  refine bret (pcal2 C_is_lot (show (4 : Nat) ≤ 4 by decide) rfl (pd_name (i := 0) rfl rfl (.inl rfl)) (pd_name (i := 1) rfl rfl (.inl rfl)) ?_ (fun _ => rfl) (fun _ => rfl) (fun _ => rfl)) ?_
  · exact hp
  · exact fun _ h => h
/-- the package's constants -/
structure Ko (mg : Str → Option Value) : Prop where
  places : ∃ t, mg "MOST_PLACES" = some (.int 8 t)
  wordings : ∃ t, mg "MOST_WORDINGS" = some (.int 6 t)
end
end K01

set_option Elab.async false
set_option linter.all false
set_option maxRecDepth 100000
set_option maxHeartbeats 4000000
namespace K01
open PySem PySem.Spec L2 DL
abbrev sTake : Stmt := top 28
abbrev nTake : List Str := ["box", "many", "digit", "mixed"]
theorem scTake : FnScope nTake ["box", "many"] (defScope sTake) := ⟨rfl, rfl, rfl, by decide +kernel, rfl, by decide +kernel, by decide +kernel⟩
section
variable {P : Program} {w : World} {K : PySem.W.Frag} {mg : Str → Option Value} {base : Heap}
abbrev spTake : Sp := spD (fun b (many : Int) => [.bx b, .d cInt many]) (fun _ => 1) (fun many => 0 < many ∧ many < 1073741824) cInt (fun many x => 0 ≤ x ∧ x < many)
theorem ok_take {f : Addr} {fd : FuncData} (F : Fun K "_law_take" "_law_take" sTake f fd) (mI : mg "int" = none) : FnOk P w K mg base CX0 1 f fd ["box", "many"] spTake := by
  refine F.ok scTake (fun vs H Q E h => ?_) (fun cdv A outer s H vs Q E hr h => ?_)
  · obtain ⟨a, b, n, Hf, _, _, _, o, _⟩ := h
    exact argsOk_len o
  · obtain ⟨many, b, n, Hf, ⟨m0, m1⟩, hn, ex, o, bx, q⟩ := h
    obtain ⟨hb0, g, big, m, c, hb, h1, h2, h3, h4⟩ := bx b (by simp)
    obtain ⟨v1, v2, rfl, rfl, rfl⟩ : ∃ v1 v2, vs = [v1, v2] ∧ v1 = .ref b ∧ v2 = .int many := by
      match vs, o with
      | [v1, v2], o => exact ⟨v1, v2, rfl, o.1, o.2.1⟩
    have fin : ∀ (x g' c' : Int), 0 ≤ x → x < many → 0 ≤ c' → c' ≤ c + 1 → Q (.int x) (upd H b (.lst [.int g', .bl big, .int m, .int c'])) := fun x g' c' x0 x1 c0 c1 => by
      have nb : Hf b = none := hb0
      refine q _ Hf _ x ⟨x0, x1⟩ rfl ⟨Ex.rfl', fun a o e ne => ?_, fun a o e ne z => z, fun a e => ?_⟩ (ex.mut nb) fun z hz => ?_
      · rw [upd_ne (fun z => ne (by subst z; simp))]; exact e
      · by_cases z : a = b
        · subst z; rw [upd_same] at e; cases e
        · rw [upd_ne z] at e; exact e
      · have : z = b := by simpa using hz
        subst this
        exact ⟨nb, g', big, m, c', upd_same, h1, h2, c0, by show c' ≤ ((n + 1 : Nat) : Int); omega⟩
    refine ⟨_, pss_cons (ps_if (PW.pt (pw_and (pt_val (pe_ix ix_list (pv 0) pe_int (fun _ _ => rfl))) (pw_and1 (pt_cmpR op_gt (pe_ix ix_list (pv 0) pe_int (fun _ _ => rfl)) pe_int (nomark _)))))
        (pss_cons (ps_set (i := 2) scTake.nd rfl (.inl rfl) (pe_op op_mod (pe_callTy call_int1 (by rfl) mI (by decide +kernel) (pa_cons (pe_ix ix_list (pv 0) pe_int (fun _ _ => rfl)) pa_nil)) (pv 1)))
        (pss_cons (ps_asg (pe_op op_fdiv (pe_ix ix_list (pv 0) pe_int (fun _ _ => rfl)) (pv 1)) (pg_sub (pv 0) pe_int set_list))
        (pss_one (ps_ret (pv 2))))) pss_nil)
      (pss_cons (ps_asg (pe_op op_add (pe_ix ix_list (pv 0) pe_int (fun _ _ => rfl)) pe_int) (pg_sub (pv 0) pe_int set_list))
      (pss_cons (ps_set (i := 3) scTake.nd rfl (.inl rfl) (pe_op op_mod (pe_callTy call_int1 (by rfl) mI (by decide +kernel) (pa_cons (pe_op op_pow (pe_op op_add (pe_op op_add (pe_ix ix_list (pv 0) pe_int (fun _ _ => rfl)) (pe_op op_mul pe_int (pe_ix ix_list (pv 0) pe_int (fun _ _ => rfl)))) pe_int) pe_int) pa_nil)) pe_int))
      (pss_one (ps_ret (pe_op op_mod (pe_op op_fdiv (pe_op op_mod (pe_callTy call_int1 (by rfl) mI (by decide +kernel) (pa_cons (pe_op op_pow (pe_op op_add (pe_op op_mul (pv 3) pe_int) (pe_op op_mul pe_int (pe_ix ix_list (pv 0) pe_int (fun _ _ => rfl)))) pe_int) pa_nil)) pe_int) pe_int) (pv 1)))))), ?_⟩
    have hn' : n + 1 ≤ 8589934592 := hn
    -- the rest, where no digit is left
    refine ⟨.ref b, rfl, b, _, 1, .bl big, rfl, rfl, SqL.of hb, rfl, big, rfl, ?_⟩
    have alt : ∀ {A B C : Prop}, (big = false → C) → (big = true → B) → (if big = true then B else C) := fun {A B C} hC hB => by
      cases big with
      | true => exact iteT (hB rfl)
      | false => exact iteF (hC rfl)
    refine alt (A := True) (fun eb => iteF ?r1) fun eb => ?r2
    rotate_left
    refine ⟨.ref b, rfl, b, _, 0, .int g, rfl, rfl, SqL.of hb, rfl, g, 0, rfl, rfl, _, rfl, ?_⟩
    refine ite2 (fun hg => ?_) fun _ => ?r3
    · refine ⟨.ref b, rfl, b, _, 0, .int g, rfl, rfl, SqL.of hb, rfl, .inl ⟨g, rfl, .int many, rfl, g, many, rfl, rfl, m0, ?_⟩⟩
      refine ⟨.ref b, rfl, b, _, 0, .int g, rfl, rfl, SqL.of hb, rfl, .int many, rfl, g, many, rfl, rfl, ⟨m0, m1⟩, .ref b, rfl, b, _, 0, 0, rfl, rfl, hb, rfl, ?_⟩
      exact ⟨_, rfl, fin _ (g / many) c (Int.emod_nonneg _ (by omega)) (Int.emod_lt_of_pos _ m0) h3 (by omega)⟩
    all_goals
        refine ⟨.ref b, rfl, b, _, 3, .int c, rfl, rfl, SqL.of hb, rfl, c, 1, rfl, rfl, ?_⟩
        refine ⟨.ref b, rfl, b, _, 3, 3, rfl, rfl, hb, rfl, ?_⟩
        have hb2 : (upd H b (.lst [.int g, .bl big, .int m, .int (c + 1)])) b = some (.lst [.int g, .bl big, .int m, .int (c + 1)]) := upd_same
        refine ⟨.ref b, rfl, b, _, 2, .int m, rfl, rfl, SqL.of hb2, rfl, .ref b, rfl, b, _, 3, .int (c + 1), rfl, rfl, SqL.of hb2, rfl, 15485867, c + 1, rfl, rfl, .inl ⟨by decide, by decide⟩, m, 15485867 * (c + 1), rfl, rfl, _, 179425033, rfl, rfl, _, 5, rfl, rfl, ⟨by decide, by decide, ?_⟩, .inl ⟨_, rfl, ?_⟩⟩
        · have : m + 15485867 * (c + 1) + 179425033 < 18446744073709551616 := by omega
          have : 0 ≤ m + 15485867 * (c + 1) + 179425033 := by omega
          omega
        refine ⟨_, 2147483647, rfl, rfl, (show (0 : Int) < 2147483647 by decide), ?_⟩
        have M0 : 0 ≤ ((m + 15485867 * (c + 1) + 179425033) ^ (5 : Int).toNat) % 2147483647 := Int.emod_nonneg _ (by decide)
        have M1 : ((m + 15485867 * (c + 1) + 179425033) ^ (5 : Int).toNat) % 2147483647 < 2147483647 := Int.emod_lt_of_pos _ (by decide)
        refine ⟨_, rfl, _, 48271, rfl, rfl, .inl ⟨Int.lt_of_lt_of_le (by decide) M0, Int.lt_trans M1 (by decide)⟩, .ref b, rfl, b, _, 3, .int (c + 1), rfl, rfl, SqL.of hb2, rfl, 7919, c + 1, rfl, rfl, .inl ⟨by decide, by decide⟩, _, 7919 * (c + 1), rfl, rfl, _, 3, rfl, rfl, ⟨by decide, by decide, ?_⟩, .inl ⟨_, rfl, ?_⟩⟩
        · generalize ((m + 15485867 * (c + 1) + 179425033) ^ (5 : Int).toNat) % 2147483647 = M at M0 M1 ⊢
          omega
        refine ⟨_, 2147483587, rfl, rfl, (show (0 : Int) < 2147483587 by decide), _, 64, rfl, rfl, ⟨by decide, by decide⟩, .int many, rfl, _, many, rfl, rfl, m0, ?_⟩
        exact fin _ g (c + 1) (Int.emod_nonneg _ (by omega)) (Int.emod_lt_of_pos _ m0) (by omega) (by omega)
end
end K01

set_option Elab.async false
set_option linter.all false
set_option maxRecDepth 100000
set_option maxHeartbeats 4000000
namespace K01
open PySem PySem.Spec L2 DL
/-! ### the plain law -/
abbrev atT (word : List Int) (i : Int) : Int := word.getD i.toNat default
/-- sizes of a book -/
def Pl (ns : List Int) : Prop := (1 ≤ ns.length ∧ ns.length ≤ 8) ∧ ∀ n ∈ ns, 2 ≤ n ∧ n ≤ 6
theorem atT_mem {ns : List Int} {i : Int} (h : 0 ≤ i ∧ i < (ns.length : Int)) : atT ns i ∈ ns := by
  have hl : i.toNat < ns.length := by omega
  show ns.getD i.toNat default ∈ ns
  rw [List.getD_eq_getElem?_getD, List.getElem?_eq_getElem hl]
  exact List.getElem_mem hl
theorem Pl.at {ns : List Int} (h : Pl ns) {i : Int} (hi : 0 ≤ i ∧ i < (ns.length : Int)) : 2 ≤ atT ns i ∧ atT ns i ≤ 6 := h.2 _ (atT_mem hi)
theorem mem_rangeL {lo x : Int} {n : Nat} : x ∈ rangeL lo n ↔ lo ≤ x ∧ x < lo + (n : Int) := by
  unfold rangeL
  rw [List.mem_map]
  constructor
  · rintro ⟨i, hi, rfl⟩
    have := List.mem_range.mp hi
    omega
  · intro h
    exact ⟨(x - lo).toNat, List.mem_range.mpr (by omega), by omega⟩
theorem rangeL_up {n : Nat} : (rangeL 0 n).Pairwise (· < ·) := by
  unfold rangeL
  exact List.Pairwise.map _ (fun i j (h : i < j) => by omega) List.pairwise_lt_range
/-! products -/
def prodL (ns : List Int) : Int := ns.foldl (fun f n => f * n) 1
def prodR : List Int → Int
  | [] => 1
  | n :: ns => n * prodR ns
theorem fold_prod : ∀ (ns : List Int) (f : Int), ns.foldl (fun f n => f * n) f = f * prodR ns
  | [], f => by simp [prodR]
  | n :: ns, f => by rw [List.foldl_cons, fold_prod ns, prodR, Int.mul_assoc]
theorem prodL_R (ns : List Int) : prodL ns = prodR ns := by unfold prodL; rw [fold_prod, Int.one_mul]
theorem prodL_snoc (ns : List Int) (n : Int) : prodL (ns ++ [n]) = prodL ns * n := by unfold prodL; rw [List.foldl_append]; rfl
theorem prodR_pos : ∀ {ns : List Int}, (∀ n ∈ ns, 0 < n) → 0 < prodR ns
  | [], _ => by decide
  | n :: ns, h => Int.mul_pos (h n List.mem_cons_self) (prodR_pos fun m hm => h m (List.mem_cons_of_mem _ hm))
theorem prodR_le : ∀ {ns : List Int}, (∀ n ∈ ns, 2 ≤ n ∧ n ≤ 6) → prodR ns ≤ 6 ^ ns.length
  | [], _ => by decide
  | n :: ns, h => by
    have h1 := h n List.mem_cons_self
    have h2 := prodR_le fun m hm => h m (List.mem_cons_of_mem _ hm)
    have h3 : 0 < prodR ns := prodR_pos fun m hm => by have := h m (List.mem_cons_of_mem _ hm); omega
    rw [prodR, List.length_cons, Int.pow_succ]
    have h4 : n * prodR ns ≤ 6 * prodR ns := Int.mul_le_mul_of_nonneg_right h1.2 (by omega)
    omega
theorem prod_big {ns : List Int} (h : ∀ n ∈ ns, 2 ≤ n ∧ n ≤ 6) (hl : ns.length ≤ 8) : 1 ≤ prodL ns ∧ prodL ns ≤ 1679616 := by
  rw [prodL_R]
  refine ⟨prodR_pos fun n hn => by have := h n hn; omega, Int.le_trans (prodR_le h) ?_⟩
  have : ∀ k : Nat, k ≤ 8 → (6 : Int) ^ k ≤ 1679616 := by decide
  exact this _ hl
theorem Pl.prod {ns : List Int} (h : Pl ns) : 1 ≤ prodL ns ∧ prodL ns ≤ 1679616 := prod_big h.2 h.1.2
/-! numbers of words -/
def InW : List Int → List Int → Prop
  | [], [] => True
  | w :: ws, p :: ps => (0 ≤ w ∧ w < p) ∧ InW ws ps
  | _, _ => False
def num0 : List Int → List Int → Int
  | w :: ws, p :: ps => w * prodR ps + num0 ws ps
  | _, _ => 0
theorem InW.len : ∀ {w p : List Int}, InW w p → w.length = p.length
  | [], [], _ => rfl
  | _ :: _, _ :: _, h => by rw [List.length_cons, List.length_cons, h.2.len]
theorem InW.pos : ∀ {w p : List Int}, InW w p → ∀ n ∈ p, 0 < n
  | [], [], _, _, h => nomatch h
  | _ :: _, _ :: _, h, n, hn => by
    rcases List.mem_cons.mp hn with e | e
    · rw [e]; have := h.1; omega
    · exact h.2.pos n e
theorem num0_range : ∀ {w p : List Int}, InW w p → 0 ≤ num0 w p ∧ num0 w p < prodR p
  | [], [], _ => by decide
  | w :: ws, p :: ps, h => by
    have ih := num0_range h.2
    have hp := prodR_pos h.2.pos
    rw [num0, prodR]
    have h1 : 0 ≤ w * prodR ps := Int.mul_nonneg h.1.1 (by omega)
    have h2 : w * prodR ps ≤ (p - 1) * prodR ps := Int.mul_le_mul_of_nonneg_right (by have := h.1; omega) (by omega)
    rw [Int.sub_mul, Int.one_mul] at h2
    omega
theorem num_lt : ∀ {w v p : List Int}, InW w p → InW v p → (HT.lexLt w v = true ↔ num0 w p < num0 v p)
  | [], [], [], _, _ => by rw [HT.lexLt_nil_nil]; simp [num0]
  | [], [], _ :: _, h, _ => h.elim
  | [], _ :: _, [], _, h => h.elim
  | [], _ :: _, _ :: _, h, _ => h.elim
  | _ :: _, [], [], h, _ => h.elim
  | _ :: _, [], _ :: _, _, h => h.elim
  | _ :: _, _ :: _, [], h, _ => h.elim
  | w :: ws, v :: vs, p :: ps, h1, h2 => by
    have a := num0_range h1.2
    have b := num0_range h2.2
    rw [HT.lexLt_cons, num0, num0]
    by_cases e : w = v
    · rw [if_pos e, num_lt h1.2 h2.2, e]; omega
    · rw [if_neg e, decide_eq_true_eq]
      constructor
      · intro hl
        have h3 : (w + 1) * prodR ps ≤ v * prodR ps := Int.mul_le_mul_of_nonneg_right (by omega) (by omega)
        rw [Int.add_mul, Int.one_mul] at h3
        omega
      · intro hl
        by_cases z : w < v
        · exact z
        · exfalso
          have h3 : (v + 1) * prodR ps ≤ w * prodR ps := Int.mul_le_mul_of_nonneg_right (by omega) (by omega)
          rw [Int.add_mul, Int.one_mul] at h3
          omega
theorem lex_tri : ∀ {w v : List Int}, w.length = v.length → HT.lexLt w v = false → HT.lexLt v w = false → w = v
  | [], [], _, _, _ => rfl
  | [], _ :: _, hl, _, _ => by cases hl
  | _ :: _, [], hl, _, _ => by cases hl
  | w :: ws, v :: vs, hl, h1, h2 => by
    rw [HT.lexLt_cons] at h1 h2
    by_cases e : w = v
    · rw [if_pos e] at h1
      rw [if_pos e.symm] at h2
      rw [e, lex_tri (by simpa using hl) h1 h2]
    · rw [if_neg e, decide_eq_false_iff_not] at h1
      rw [if_neg (Ne.symm e), decide_eq_false_iff_not] at h2
      omega
theorem num_inj {w v p : List Int} (h1 : InW w p) (h2 : InW v p) (e : num0 w p = num0 v p) : w = v := by
  refine lex_tri (h1.len.trans h2.len.symm) ?_ ?_
  · cases z : HT.lexLt w v with
    | false => rfl
    | true => have := (num_lt h1 h2).mp z; omega
  · cases z : HT.lexLt v w with
    | false => rfl
    | true => have := (num_lt h2 h1).mp z; omega
/-- the text of a number, from the last place -/
def digS (rs : List Int) (n : Int) : List Int × Int := rs.foldl (fun s w => (s.2 % w :: s.1, s.2 / w)) ([], n)
def textL (plain : List Int) (n : Int) : List Int := (digS plain.reverse n).1
theorem digS_snoc (rs : List Int) (w n : Int) : digS (rs ++ [w]) n = ((digS rs n).2 % w :: (digS rs n).1, (digS rs n).2 / w) := by unfold digS; rw [List.foldl_append]; rfl
theorem digS_len (rs : List Int) (n : Int) : (digS rs n).1.length = rs.length := by
  have : ∀ (rs : List Int) (s : List Int × Int), (rs.foldl (fun s w => (s.2 % w :: s.1, s.2 / w)) s).1.length = rs.length + s.1.length := fun rs => by
    induction rs with
    | nil => intro s; simp
    | cons w rs ih => intro s; rw [List.foldl_cons, ih, List.length_cons, List.length_cons]; omega
  have h := this rs ([], n)
  unfold digS
  simpa using h
theorem dig_ok : ∀ {ps : List Int} (n : Int), (∀ p ∈ ps, 0 < p) → InW (digS ps.reverse n).1 ps ∧ n = (digS ps.reverse n).2 * prodR ps + num0 (digS ps.reverse n).1 ps
  | [], n, _ => by simp [digS, InW, prodR, num0]
  | p :: ps, n, h => by
    have hp := h p List.mem_cons_self
    obtain ⟨h1, h2⟩ := dig_ok n fun q hq => h q (List.mem_cons_of_mem _ hq)
    rw [List.reverse_cons, digS_snoc]
    refine ⟨⟨⟨Int.emod_nonneg _ (by omega), Int.emod_lt_of_pos _ hp⟩, h1⟩, ?_⟩
    show n = _ / p * (p * prodR ps) + (_ % p * prodR ps + num0 _ ps)
    have e : (digS ps.reverse n).2 = (digS ps.reverse n).2 / p * p + (digS ps.reverse n).2 % p := by
      have := Int.mul_ediv_add_emod (digS ps.reverse n).2 p
      rw [Int.mul_comm] at this; exact this.symm
    rw [← Int.mul_assoc, ← Int.add_assoc, ← Int.add_mul, ← e]
    exact h2
theorem text_in {ps : List Int} (n : Int) (h : ∀ p ∈ ps, 0 < p) : InW (textL ps n) ps := (dig_ok n h).1
theorem num_text {ps : List Int} {n : Int} (h : ∀ p ∈ ps, 0 < p) (h0 : 0 ≤ n ∧ n < prodR ps) : num0 (textL ps n) ps = n := by
  obtain ⟨h1, h2⟩ := dig_ok n h
  have h3 := num0_range h1
  have hp := prodR_pos h
  have : (digS ps.reverse n).2 = 0 := by
    by_cases z : (digS ps.reverse n).2 = 0
    · exact z
    · exfalso
      rcases (by omega : (digS ps.reverse n).2 ≥ 1 ∨ (digS ps.reverse n).2 ≤ -1) with q | q
      · have := Int.mul_le_mul_of_nonneg_right q (show 0 ≤ prodR ps by omega)
        omega
      · have := Int.mul_le_mul_of_nonneg_right q (show 0 ≤ prodR ps by omega)
        omega
  rw [this, Int.zero_mul, Int.zero_add] at h2
  exact h2.symm
theorem text_num {w ps : List Int} (h : InW w ps) : textL ps (num0 w ps) = w := num_inj (text_in _ h.pos) h (num_text h.pos (num0_range h))
/-- as the loops add it up -/
def numL (word plain : List Int) : Int := (word.zip plain).foldl (fun f z => f * z.2 + z.1) 0
theorem num_fold : ∀ (w p : List Int) (f : Int), w.length = p.length → (w.zip p).foldl (fun f z => f * z.2 + z.1) f = f * prodR p + num0 w p
  | [], [], f, _ => by simp [prodR, num0]
  | w :: ws, p :: ps, f, h => by
    rw [List.zip_cons_cons, List.foldl_cons, num_fold ws ps _ (by simpa using h), prodR, num0]
    rw [Int.add_mul, Int.mul_assoc, Int.add_assoc]
theorem numL_0 {w p : List Int} (h : w.length = p.length) : numL w p = num0 w p := by unfold numL; rw [num_fold w p 0 h, Int.zero_mul, Int.zero_add]
def indexL (plain word : List Int) (is : List Int) : Int := is.foldl (fun f i => f * atT plain i + atT word i) 0
theorem indexL_snoc (plain word is : List Int) (i : Int) : indexL plain word (is ++ [i]) = indexL plain word is * atT plain i + atT word i := by unfold indexL; rw [List.foldl_append]; rfl
theorem zip_range {w p : List Int} (h : w.length = p.length) : w.zip p = (rangeL 0 p.length).map fun i => (atT w i, atT p i) := by
  refine List.ext_getElem (by rw [List.length_zip, List.length_map, rangeL_len]; omega) fun i h1 h2 => ?_
  rw [List.length_map, rangeL_len] at h2
  have hi : (rangeL 0 p.length)[i]'(by rw [rangeL_len]; exact h2) = (i : Int) := by
    have := rangeL_get (lo := 0) (n := p.length) (i := i) (List.getElem?_eq_getElem (by rw [rangeL_len]; exact h2))
    rw [this]; omega
  rw [List.getElem_zip, List.getElem_map, hi]
  unfold atT
  rw [Int.toNat_natCast, List.getD_eq_getElem?_getD, List.getD_eq_getElem?_getD, List.getElem?_eq_getElem h2, List.getElem?_eq_getElem (by omega)]
  rfl
theorem index_num {w p : List Int} (h : w.length = p.length) : indexL p w (rangeL 0 p.length) = num0 w p := by
  rw [← numL_0 h]
  unfold numL indexL
  rw [zip_range h, List.foldl_map]
theorem inW_at : ∀ {w p : List Int}, InW w p → ∀ i : Int, 0 ≤ i → i < (p.length : Int) → 0 ≤ atT w i ∧ atT w i < atT p i
  | [], [], _, i, h0, h1 => by simp at h1; omega
  | w :: ws, p :: ps, h, i, h0, h1 => by
    rw [List.length_cons] at h1
    by_cases z : i = 0
    · subst z; exact h.1
    · have e : i.toNat = (i - 1).toNat + 1 := by omega
      have := inW_at h.2 (i - 1) (by omega) (by omega)
      unfold atT at this ⊢
      rw [e]; exact this
theorem inW_of : ∀ {w p : List Int}, w.length = p.length → (∀ i : Int, 0 ≤ i → i < (p.length : Int) → 0 ≤ atT w i ∧ atT w i < atT p i) → InW w p
  | [], [], _, _ => trivial
  | w :: ws, p :: ps, hl, h => by
    refine ⟨h 0 (Int.le_refl _) (by rw [List.length_cons]; omega), inW_of (by simpa using hl) fun i h0 h1 => ?_⟩
    have := h (i + 1) (by omega) (by rw [List.length_cons]; omega)
    have e : (i + 1).toNat = i.toNat + 1 := by omega
    unfold atT at this ⊢
    rw [e] at this; exact this
theorem ext_at {a b : List Int} (hl : a.length = b.length) (h : ∀ p : Int, 0 ≤ p → p < (a.length : Int) → atT a p = atT b p) : a = b := by
  refine List.ext_getElem hl fun i h1 h2 => ?_
  have := h (i : Int) (by omega) (by omega)
  unfold atT at this
  rw [Int.toNat_natCast, List.getD_eq_getElem?_getD, List.getD_eq_getElem?_getD, List.getElem?_eq_getElem h1, List.getElem?_eq_getElem h2] at this
  exact this
/-! ### rows -/
def wordsAt (plain word spots : List Int) (i : Int) : List Int := if decide (i ∈ spots) = true then rangeL 0 (atT plain i).toNat else [atT word i]
def stepL (plain word spots : List Int) (found : List (List Int)) (i : Int) : List (List Int) := lc2L found (fun _ => wordsAt plain word spots i) fun row w => row ++ [w]
def rowsL (plain word spots is : List Int) : List (List Int) := is.foldl (stepL plain word spots) [[]]
theorem rowsL_snoc (plain word spots is : List Int) (i : Int) : rowsL plain word spots (is ++ [i]) = stepL plain word spots (rowsL plain word spots is) i := by unfold rowsL; rw [List.foldl_append]; rfl
theorem lc2_len {α β γ : Type} (f : α → γ → β) (ws : List γ) : ∀ xs : List α, (lc2L xs (fun _ => ws) f).length = xs.length * ws.length
  | [] => by simp [lc2L]
  | x :: xs => by
    have ih := lc2_len f ws xs
    unfold lc2L at ih ⊢
    rw [List.flatMap_cons, List.length_append, List.length_map, ih, List.length_cons, Nat.succ_mul]
    dsimp only
    omega
theorem rows_len (plain word spots : List Int) (is : List Int) : ((rowsL plain word spots is).length : Int) = prodR (is.map fun i => ((wordsAt plain word spots i).length : Int)) := by
  have : ∀ (is : List Int) (f : List (List Int)), ((is.foldl (stepL plain word spots) f).length : Int) = f.length * prodR (is.map fun i => ((wordsAt plain word spots i).length : Int)) := fun is => by
    induction is with
    | nil => intro f; simp [prodR]
    | cons i is ih =>
      intro f
      rw [List.foldl_cons, ih, List.map_cons, prodR]
      unfold stepL
      rw [lc2_len, Int.natCast_mul, Int.mul_assoc]
  have h := this is [[]]
  unfold rowsL
  rw [h]; simp
theorem prodR_app : ∀ a b : List Int, prodR (a ++ b) = prodR a * prodR b
  | [], b => by rw [List.nil_append, prodR, Int.one_mul]
  | x :: a, b => by rw [List.cons_append, prodR, prodR_app a b, prodR, Int.mul_assoc]
theorem words_len {plain word spots : List Int} (hp : Pl plain) {i : Int} (hi : 0 ≤ i ∧ i < (plain.length : Int)) : ((wordsAt plain word spots i).length : Int) = if decide (i ∈ spots) = true then atT plain i else 1 := by
  have := hp.at hi
  unfold wordsAt
  split
  · rw [rangeL_len]; omega
  · rfl
theorem prod_filter (plain : List Int) (q : Int → Bool) : ∀ is : List Int, prodR (is.map fun i => if q i = true then atT plain i else 1) = prodR ((is.filter q).map (atT plain))
  | [] => rfl
  | i :: is => by
    rw [List.map_cons, prodR, prod_filter plain q is, List.filter_cons]
    split
    · rw [List.map_cons, prodR]
    · rw [Int.one_mul]
/-- spots of n places -/
def Spt (spots : List Int) (n : Nat) : Prop := spots.Pairwise (· < ·) ∧ ∀ x ∈ spots, 0 ≤ x ∧ x < (n : Int)
theorem Spt.filter {spots : List Int} {n : Nat} (h : Spt spots n) : (rangeL 0 n).filter (fun i => decide (i ∈ spots)) = spots := by
  refine up_ext (rangeL_up.sublist List.filter_sublist) h.1 fun k => ?_
  rw [List.mem_filter, decide_eq_true_eq, mem_rangeL]
  constructor
  · exact fun z => z.2
  · intro z
    have := h.2 k z
    exact ⟨by omega, z⟩
theorem up_len : ∀ {n : Nat} {l : List Int}, l.Pairwise (· < ·) → (∀ x ∈ l, 0 ≤ x ∧ x < (n : Int)) → l.length ≤ n := fun {n l} h1 h2 => by
  have := (List.Sublist.length_le (List.filter_sublist (l := rangeL 0 n) (p := fun i => decide (i ∈ l))))
  rw [Spt.filter ⟨h1, h2⟩, rangeL_len] at this
  exact this
theorem Spt.len {spots : List Int} {n : Nat} (h : Spt spots n) : spots.length ≤ n := up_len h.1 h.2
def widthL (plain spots : List Int) : Int := prodL (spots.map (atT plain))
theorem rows_all {plain word spots : List Int} (hp : Pl plain) (hs : Spt spots plain.length) : ((rowsL plain word spots (rangeL 0 plain.length)).length : Int) = widthL plain spots := by
  rw [rows_len, widthL, prodL_R]
  have e : (rangeL 0 plain.length).map (fun i => ((wordsAt plain word spots i).length : Int)) = (rangeL 0 plain.length).map fun i => if decide (i ∈ spots) = true then atT plain i else 1 := List.map_congr_left fun i hi => words_len hp (by have := mem_rangeL.mp hi; omega)
  rw [e, prod_filter plain (fun i => decide (i ∈ spots)), hs.filter]
theorem rows_pre {plain word spots pre post : List Int} (hp : Pl plain) (hs : Spt spots plain.length) (e : rangeL 0 plain.length = pre ++ post) (hw : widthL plain spots ≤ 100) : (rowsL plain word spots pre).length ≤ 100 := by
  have h1 := rows_all (word := word) hp hs
  rw [rows_len, e, List.map_append, prodR_app, ← rows_len] at h1
  have h2 : 0 < prodR (post.map fun i => ((wordsAt plain word spots i).length : Int)) := prodR_pos fun n hn => by
    obtain ⟨i, hi, rfl⟩ := List.mem_map.mp hn
    have hi2 : i ∈ rangeL 0 plain.length := by rw [e]; exact List.mem_append_right _ hi
    have hi3 := mem_rangeL.mp hi2
    have hi4 : 0 ≤ i ∧ i < (plain.length : Int) := by omega
    rw [words_len hp hi4]
    have := hp.at hi4
    split <;> omega
  have h3 := Int.mul_le_mul_of_nonneg_left (show 1 ≤ prodR (post.map fun i => ((wordsAt plain word spots i).length : Int)) by omega) (show 0 ≤ ((rowsL plain word spots pre).length : Int) by omega)
  rw [Int.mul_one] at h3
  omega
theorem rows_in {plain word spots : List Int} (hp : Pl plain) (hw : InW word plain) : ∀ {is : List Int}, (∀ i ∈ is, 0 ≤ i ∧ i < (plain.length : Int)) → ∀ r ∈ rowsL plain word spots is, r.length = is.length ∧ ∀ x ∈ r, 0 ≤ x ∧ x < 6 := fun {is} => by
  have : ∀ (js : List Int) (f : List (List Int)) (n : Nat), (∀ i ∈ js, 0 ≤ i ∧ i < (plain.length : Int)) → (∀ r ∈ f, r.length = n ∧ ∀ x ∈ r, 0 ≤ x ∧ x < 6) → ∀ r ∈ js.foldl (stepL plain word spots) f, r.length = n + js.length ∧ ∀ x ∈ r, 0 ≤ x ∧ x < 6 := fun js => by
    induction js with
    | nil => intro f n _ hf; simpa using hf
    | cons i js ih =>
      intro f n hj hf
      rw [List.foldl_cons]
      have hi := hj i List.mem_cons_self
      have hpi := hp.at hi
      have := ih (stepL plain word spots f i) (n + 1) (fun j hj' => hj j (List.mem_cons_of_mem _ hj')) fun r hr => by
        unfold stepL lc2L at hr
        obtain ⟨q, hq, hr⟩ := List.mem_flatMap.mp hr
        obtain ⟨x, hx, rfl⟩ := List.mem_map.mp hr
        obtain ⟨l1, l2⟩ := hf q hq
        refine ⟨by rw [List.length_append, l1]; rfl, fun y hy => ?_⟩
        rcases List.mem_append.mp hy with z | z
        · exact l2 y z
        · rw [List.mem_singleton.mp z]
          unfold wordsAt at hx
          split at hx
          · have := mem_rangeL.mp hx; omega
          · rw [List.mem_singleton.mp hx]
            have := inW_at hw i hi.1 hi.2
            omega
      intro r hr
      obtain ⟨a, b⟩ := this r hr
      exact ⟨by rw [a, List.length_cons]; omega, b⟩
  intro h r hr
  have := this is [[]] 0 h (by simp) r hr
  simpa using this
theorem zeros_in {plain : List Int} (hp : Pl plain) : InW (List.replicate plain.length 0) plain := inW_of (by rw [List.length_replicate]) fun i h0 h1 => by
  have e : atT (List.replicate plain.length 0) i = 0 := by
    unfold atT
    rw [List.getD_eq_getElem?_getD, List.getElem?_replicate]
    split <;> rfl
  have := hp.at ⟨h0, h1⟩
  rw [e]; omega
theorem sp_range (n : Nat) : Spt (rangeL 0 n) n := ⟨rangeL_up, fun x hx => by have := mem_rangeL.mp hx; omega⟩
theorem enum_fst {α : Type} (xs : List α) : (enumL xs).map (·.1) = rangeL 0 xs.length := by
  refine List.ext_getElem (by rw [List.length_map, enumL_len, rangeL_len]) fun i h1 h2 => ?_
  rw [List.length_map, enumL_len] at h1
  have a := enumL_get (List.getElem?_eq_getElem (l := enumL xs) (i := i) (by rw [enumL_len]; exact h1))
  have b := rangeL_get (lo := 0) (n := xs.length) (i := i) (List.getElem?_eq_getElem (by rw [rangeL_len]; exact h1))
  rw [List.getElem_map, a.1, b]; omega
end K01

set_option Elab.async false
set_option linter.all false
set_option maxRecDepth 100000
set_option maxHeartbeats 2000000
namespace DL
open PySem PySem.Spec L2
/-! ### a def that ends without a return -/
section
variable {P : Program} {w : World} {K : PySem.W.Frag} {mg : Str → Option Value} {base : Heap} {x : Str} {st : Stmt} {N pn : List Str} {lv : Nat}
variable {A : Type} {ps : A → Ctxt} {pre : A → Prop}
theorem fn_N {f : Addr} {fd : FuncData} {qual : Str} (F : Fun K x qual st f fd) (Sc : FnScope N pn (defScope st))
    (hl : ∀ a, (ps a).length = pn.length) (hN : pn.length ≤ N.length) (one : ∀ a, NoB (ps a))
    (body : ∀ a, pre a → PHs (ρ := Unit) ⟨N, defScope st, K, mg, P, w, base, lv, fun _ => true, false⟩ (entry N (ps a)) 0 (defBody st) { N := fun _ => True, bk := fun _ => False, ct := fun _ => False, c := cNon, R := fun _ => False }) :
    FnOk P w K mg base CX0 (lv + 1) f fd pn (spP ps pre cNon (fun _ => ())) := by
  refine F.ok Sc (fun vs H Q E h => ?_) (fun cdv Ar outer s H vs Q E hr h => ?_)
  · obtain ⟨a, b, n, Hf, _, _, _, o, _⟩ := h
    rw [argsOk_len o]; exact hl a
  · obtain ⟨a, b, n, Hf, hp, hn, ex, o, bx, q⟩ := h
    refine ⟨tSs ⟨N, defScope st, K, mg, P, w, base, lv, fun _ => true, false⟩ (defBody st), tSs_ok (cxG hr Sc.nd), ?_⟩
    have nb : ∀ z, Sl.bx z ∉ ps a := fun z hz => by
      obtain ⟨i, hi⟩ := List.getElem?_of_mem hz
      exact noB_at (one a) hi
    have one' : OneB (ps a) := by
      have : ∀ G : Ctxt, NoB G → OneB G := fun G => by
        induction G with
        | nil => exact fun _ => trivial
        | cons s G ih =>
          intro h
          cases s with
          | bx z => exact h.elim
          | un => exact ih h
          | d c x => exact ih h
          | l c x => exact ih h
          | r p => exact ih h
      exact this _ (one a)
    have S0 : Sat ⟨fun z => Sl.bx z ∈ ps a, Hf, H⟩ Hf H (start N vs) (entry N (ps a)) n := sat_entry (by rw [hl]; exact hN) o one' ex bx
    refine body a hp _ n _ Hf H hn S0 _ (fun σ' Hf' H' Γ' _ f => q .non Hf' H' () rfl rfl f.sat.fr f.sat.ex fun z hz => (nb z hz).elim) (fun _ _ _ _ z _ => z.elim) (fun _ _ _ _ z _ => z.elim) fun _ _ _ _ _ _ z _ _ => z.elim
theorem cal_N (D : Def K mg x st) (hb : BindsD st x pn) (Sc : FnScope N pn (defScope st))
    (hl : ∀ a, (ps a).length = pn.length) (hN : pn.length ≤ N.length) (one : ∀ a, NoB (ps a))
    (body : ∀ a, pre a → PHs (ρ := Unit) ⟨N, defScope st, K, mg, P, w, base, lv, fun _ => true, false⟩ (entry N (ps a)) 0 (defBody st) { N := fun _ => True, bk := fun _ => False, ct := fun _ => False, c := cNon, R := fun _ => False }) :
    Cal P w K mg base x pn (lv + 1) (spP ps pre cNon (fun _ => ())) := by
  obtain ⟨f, fd, F, hm⟩ := D.ex
  exact ⟨f, fd, fn_N F Sc hl hN one body, hm, F.kp, F.binds hb⟩
end
section
variable {S : Stc} {Γ : Ctxt} {k k2 : Nat} {α β ρ : Type} {c : Cod α} {P : α → Prop} {e a b : Expr} {pos pn : Pos} {rest : List Stmt} {p : Po ρ}
/-- a statement that is but an expression -/
theorem bdrop (h : PD S Γ k e c P) (hs : ∀ env : Env, env.scope = S.sc → swapsWith e none pos.line env = pure false) (hr : PHs S Γ k2 rest p) : PHs S Γ (k + k2) (.Expr e pos :: rest) p :=
  phs_cons (N1 := fun G => G = Γ) (ph_of (fun X G => ps_expr (tE_ok G) (hs _ G.sc)) (hs_drop h rfl)) fun Γ1 e => by subst e; exact hr
/-- (a, *xs) -/
theorem ptupc {kx : Nat} {xs : List α} {x : α} {sp : Pos} (ha : PD S Γ 0 a c (· = x)) (hb : PD S Γ 0 b (cSeq c) (· = xs)) (hl : xs.length + 1 ≤ 1000) (hs : ∀ env : Env, starEach [a, .Starred b sp] env = (false, eval a env) :: starEach [.Starred b sp] env) (hs2 : ∀ env : Env, starEach [.Starred b sp] env = (true, eval b env) :: starEach [] env) : PD S Γ 0 (.Tuple [a, .Starred b sp] kx pos) (cTup c) (· = x :: xs) :=
  pd_tupl (pda_cons (k1 := 0) (k2 := 0) ha (pda_star (k1 := 0) (k2 := 0) hb pda_nil hs2) hs) fun as ⟨y, r, py, ⟨r2, e2, e3⟩, e⟩ => ⟨x :: xs, by subst py e2; rw [e, e3, List.append_nil]; rfl, by rw [List.length_cons]; exact hl, rfl⟩
/-- (*xs, a) -/
theorem ptupr {kx : Nat} {xs : List α} {x : α} {sp : Pos} (hb : PD S Γ 0 b (cSeq c) (· = xs)) (ha : PD S Γ 0 a c (· = x)) (hl : xs.length + 1 ≤ 1000) (hs : ∀ env : Env, starEach [.Starred b sp, a] env = (true, eval b env) :: starEach [a] env) (hs2 : ∀ env : Env, starEach [a] env = (false, eval a env) :: starEach [] env) : PD S Γ 0 (.Tuple [.Starred b sp, a] kx pos) (cTup c) (· = xs ++ [x]) :=
  pd_tupl (pda_star (k1 := 0) (k2 := 0) hb (pda_cons (k1 := 0) (k2 := 0) ha pda_nil hs2) hs) fun as ⟨r, ⟨y, r2, py, e2, e3⟩, e⟩ => ⟨xs ++ [x], by subst py e2; rw [e, e3, List.map_append]; rfl, by rw [List.length_append]; exact hl, rfl⟩
end
end DL

set_option Elab.async false
set_option linter.all false
set_option maxRecDepth 100000
set_option maxHeartbeats 4000000
namespace K01
open PySem PySem.Spec L2 DL
/-! ### class Book -/
theorem hno_1 {f m : Str} (hm : f ≠ m) {v : V} {fs : List (Str × V)} (h1 : fs = [(f, v)]) : fs.lookup m = none := by
  subst h1
  show (match m == f with | true => some v | false => none) = none
  have : (m == f) = false := by
    rw [beq_eq_false_iff_ne]; exact fun e => hm e.symm
  rw [this]
def FBk : Hp → List (Str × V) → List Int → Prop := fun H fs ns => ∃ v, fs = [(("sizes" : Str), v)] ∧ (cTup cInt).rep H v ns
theorem hmBk {H H' : Hp} {fs : List (Str × V)} {y : List Int} (e : Ex H H') (h : FBk H fs y) : FBk H' fs y := by
  obtain ⟨v, h1, h2⟩ := h
  exact ⟨v, h1, (cTup cInt).mono e h2⟩
abbrev cBk (C : Addr) : Cod (List Int) := cIns C FBk (fun e h => hmBk e h)
theorem nlBk {C : Addr} : NL (cBk C) := nl_ins fun H H' fs y k ⟨v, h1, h2⟩ => ⟨v, h1, nl_tup nl_int H H' v y k h2⟩
theorem hno_Bk {m : Str} (hm : ("sizes" : Str) ≠ m) : ∀ H fs y0, FBk H fs y0 → fs.lookup m = none := fun H fs y0 ⟨v, h1, _⟩ => hno_1 hm h1
structure TBk (K : PySem.W.Frag) (mg : Str → Option Value) (C : Addr) : Prop where
  k : Kls K mg "Book" C
  nS : NoAttr K C "sizes"
  nI : PySem.W.kitOne K (.type "tuple") (.ref C) = some false
theorem pd_sizes {S : Stc} {Γ : Ctxt} {k : Nat} {e : Expr} {pos : Pos} {C : Addr} {z : List Int} (T : TBk S.K S.mg C) (h : PD S Γ k e (cBk C) (· = z)) (hb : ∀ env : Env, attributeBase e "sizes" env (eval e env) = eval e env) : PD S Γ k (.Attribute e "sizes" pos) (cTup cInt) (· = z) :=
  pfld (y := fun x => x) h T.k.cl T.nS (fun H fs y0 ⟨v, h1, h2⟩ => ⟨v, by rw [h1]; exact List.lookup_cons_self, h2⟩) hb
abbrev inBk (i : Nat) : Stmt := inClass (top 22) i
structure Ko2 (mg : Str → Option Value) : Prop where
  fewest : ∃ t, mg "FEWEST_WORDINGS" = some (.int 2 t)
  texts : ∃ t, mg "MOST_TEXTS" = some (.int 100 t)
structure EqF (K : PySem.W.Frag) (C : Addr) (qual : Str) (st : Stmt) : Prop where
  ex : ∃ f fd, Fun K "__eq__" qual st f fd ∧ PySem.W.findIn K (.ref C) "__eq__" = some (some (.ref f)) ∧ PySem.W.isFn K (.ref f) = true
  cl : Cls K C
  ob : PySem.W.mroIn K C (.type "object") = some true
  ne : PySem.W.findIn K (.ref C) "__ne__" = some (some (.builtin "object.__ne__"))
  nt : PySem.W.subIn K (.type "tuple") (.ref C) = some false
/-- more of what the built-in names are -/
structure Bt3 (mg : Str → Option Value) : Prop where
  zip : mg "zip" = none
  enumerate : mg "enumerate" = none
  reversed : mg "reversed" = none
  min : mg "min" = none
  repr : mg "repr" = none
section
variable {P : Program} {w : World} {K : PySem.W.Frag} {mg : Str → Option Value} {base : Heap} {CB : Addr}
abbrev P_product : Sp := spP (fun (a : List Int) => [.d (cSeq cInt) a]) (fun a => ∀ n ∈ a, 2 ≤ n ∧ n ≤ 6) cInt prodL
theorem c_product (D : Def K mg "product_of" (top 15)) : Cal P w K mg base "product_of" ["numbers"] 1 P_product := by
  refine cal_D (N := ["numbers", "found", "number"]) D (fun _ _ _ _ _ _ us hl => match us, hl with | [_], _ => rfl) ⟨rfl, rfl, rfl, by decide +kernel, rfl, by decide +kernel, by decide +kernel⟩ (fun _ _ => rfl) (by decide) (fun _ _ => trivial) fun b a hp => ?_
  refine HS.le (k := 0) ?_ (Nat.zero_le _)
  refine bset (k := 0) (k2 := 0) 1 (pd_int (i := 1)) trivial rfl (.inl rfl) (fun _ _ => rfl) (.inl rfl) ?_
  rintro _ rfl
  refine bfor (k := 0) (kk := 0) (kn := 0) (k2 := 0) [2] (fun _ pre Γ => Γ = entry ["numbers", "found", "number"] [.d (cSeq cInt) a, .d cInt (prodL pre)]) (pdi_seq (pd_name (i := 0) rfl rfl (.inl rfl))) ?_ ?_ ?_ (fun _ _ => rfl) ?_
  · rintro _ rfl; rfl
  · intro _ _; simp
  · intro xs exs pre x post Γ1 hx e
    subst xs
    subst e
    have hx1 : x ∈ a := by rw [hx]; simp
    have hb := hp x hx1
    refine ⟨_, _, (pdg_name (i := 2) trivial rfl (.inl rfl) (.inl rfl)), ?_⟩
    refine bset (k := 0) (k2 := 0) 1 (pbin (fun _ _ => op_mul) (pd_name (i := 1) rfl rfl (.inl rfl)) (pd_name (i := 2) rfl rfl (.inl rfl)) (rd_I (.inr ⟨by omega, by omega⟩))) trivial rfl (.inl rfl) (fun _ _ => rfl) (.inl rfl) ?_
    rintro _ rfl
    exact phs_nil ⟨trivial, by rw [prodL_snoc]; rfl⟩
  · intro xs Γ1 exs e
    subst xs
    subst e
    exact bret (pd_name (i := 1) rfl rfl (.inl rfl)) fun _ h => h
variable (U : Bt mg)
include U
theorem c_are_sizes (D : Def K mg "are_sizes" (top 21)) (T0 : Ko mg) (T2 : Ko2 mg) (C_is_list : Cal P w K mg base "is_list" ["value"] 1 (spP (fun (a : List Int) => [.d (cSeq cInt) a]) (fun _ => True) cBool (fun _ => true))) (C_is_integer : Cal P w K mg base "is_integer" ["value"] 1 (spP (fun (a : Int) => [.d cInt a]) (fun _ => True) cBool (fun _ => true))) :
    Cal P w K mg base "are_sizes" ["value"] 2 (spP (fun (a : List Int) => [.d (cSeq cInt) a]) Pl cBool (fun _ => true)) := by
  refine cal_D (N := ["value", "size"]) D (fun _ _ _ _ _ _ us hl => match us, hl with | [_], _ => rfl) ⟨rfl, rfl, rfl, by decide +kernel, rfl, by decide +kernel, by decide +kernel⟩ (fun _ _ => rfl) (by decide) (fun _ _ => trivial) fun b a hp => ?_
  obtain ⟨_, Tplaces⟩ := T0.places
  obtain ⟨_, Twordings⟩ := T0.wordings
  obtain ⟨_, Tfewest⟩ := T2.fewest
  refine HS.le (k := 0 + max 0 0) ?_ (by decide)
  refine bifR (k1 := 0) (k2 := 0) (k3 := 0) (pdt_w (tor (pdt_not (pdt_val (pcal1 C_is_list (show (1 : Nat) ≤ 1 by decide) rfl (pd_name (i := 0) rfl rfl (.inl rfl)) trivial (fun _ => rfl) (fun _ => rfl)) (fun _ _ => rfl))) fun _ => (pdw_or1 (pdt_not (tchain (fun _ => op_le) (fun _ => op_le) pd_int (plen rfl U.len (pd_name (i := 0) rfl rfl (.inl rfl)) (fun _ => rfl)) (pd_glob rfl (v := .int 8) (c := cInt) (y := 8) Tplaces ⟨_, rfl⟩ (fun _ => rfl)) rfl))))) (fun h => ?_) fun h => ?_
  · exfalso
    have := hp.1
    simp at h
    omega
  refine bret (pall rfl U.all (TDF.td (plcN [("size", 1)] (pdi_seq (pd_name (i := 0) rfl rfl (.inl rfl))) trivial (by kernel_rfl) (fun _ _ => rfl) fun x hx => ⟨_, _, (pdg_name (i := 1) trivial rfl (.inl rfl) (.inr rfl)), (fun _ h => h), (pand (pcal1 C_is_integer (show (1 : Nat) ≤ 1 by decide) rfl (pd_name (i := 1) rfl rfl (.inl rfl)) trivial (fun _ => rfl) (fun _ => rfl)) fun _ => (pd_one (pchain (fun _ => op_le) (fun _ => op_le) (pd_glob rfl (v := .int 2) (c := cInt) (y := 2) Tfewest ⟨_, rfl⟩ (fun _ => rfl)) (pd_name (i := 1) rfl rfl (.inl rfl)) (pd_glob rfl (v := .int 6) (c := cInt) (y := 6) Twordings ⟨_, rfl⟩ (fun _ => rfl)) rfl)))⟩)) (fun _ => rfl)) ?_
  intro x h
  refine h.trans ?_
  simp only [List.all_map, List.all_eq_true]
  intro y hy
  have := hp.2 y hy
  simp [this]
abbrev P_initB (CB : Addr) : Sp := spI CB (fun (a : List Int) => [.d (cSeq cInt) a]) Pl FBk (fun a y => y = a)
theorem ok_initB {f : Addr} {fd : FuncData} (Fu : Fun K "__init__" "Book.__init__" (inBk 0) f fd) (T : TBk K mg CB) (C_are_sizes : Cal P w K mg base "are_sizes" ["value"] 2 (spP (fun (a : List Int) => [.d (cSeq cInt) a]) Pl cBool (fun _ => true))) : FnOk P w K mg base CX0 3 f fd ["self", "sizes"] (P_initB CB) := by
  refine init1 (N := ["self", "sizes"]) (cv := cTup cInt) (g := fun x => x) (h := fun x => x) Fu ⟨rfl, rfl, rfl, by decide +kernel, rfl, by decide +kernel, by decide +kernel⟩ rfl rfl (.inl rfl) (fun _ => rfl) (by decide) (fun _ => trivial) T.k.cl T.nS (fun H y a _ r => ⟨y, rfl, r⟩) (fun _ => rfl) (fun x a hp => ?_) fun x a hp => ?_
  · refine HS.le (k := 0 + max 0 0) ?_ (by decide)
    refine ph_if (k1 := 0) (k2 := 0) (k3 := 0) (pdt_not (pdt_val (pcal1 C_are_sizes (show (2 : Nat) ≤ 2 by decide) rfl (pd_name (i := 1) rfl rfl (.inl rfl)) hp (fun _ => rfl) (fun _ => rfl)) (fun _ _ => rfl))) (fun h => ?_) fun h => ?_
    · exact absurd h (by decide)
    · exact phs_nil rfl
  · exact ptuple rfl U.tuple (pd_name (i := 1) rfl rfl (.inl rfl)) (fun _ => rfl)
theorem i_book (D : ∃ f fd, Fun K "__init__" "Book.__init__" (inBk 0) f fd ∧ Mk K CB f) (T : TBk K mg CB) (C_are_sizes : Cal P w K mg base "are_sizes" ["value"] 2 (spP (fun (a : List Int) => [.d (cSeq cInt) a]) Pl cBool (fun _ => true))) : ICal P w K mg base CB ["self", "sizes"] 3 (P_initB CB) := by
  obtain ⟨f, fd, Fu, M⟩ := D
  exact ⟨f, fd, ok_initB U Fu T C_are_sizes, M, Fu.binds (fun _ _ _ _ _ _ us hl => match us, hl with | [_, _], _ => rfl)⟩
theorem i_bookK (D : ∃ f fd, Fun K "__init__" "Book.__init__" (inBk 0) f fd ∧ Mk K CB f) (T : TBk K mg CB) (C_are_sizes : Cal P w K mg base "are_sizes" ["value"] 2 (spP (fun (a : List Int) => [.d (cSeq cInt) a]) Pl cBool (fun _ => true))) : ICalK P w K mg base CB "sizes" 3 (P_initB CB) := by
  obtain ⟨f, fd, Fu, M⟩ := D
  refine ⟨f, fd, ok_initB U Fu T C_are_sizes, M, ?_⟩
  obtain ⟨oc, od, kV, doc, pm, an, cdv, ct, osl, rfl, lk, hcd⟩ := Fu.ex
  exact kbn2 fun a b => rfl
omit U in
theorem pmkBk {S : Stc} {Γ : Ctxt} {e : Expr} {pos pn : Pos} {z : List Int} (I : ICal S.prog S.w S.K S.mg S.base CB ["self", "sizes"] 3 (P_initB CB)) (T : TBk S.K S.mg CB) (hl : 3 + 1 ≤ S.lv) (hg : S.sc.names.lookup ("Book" : Str) = some .globalImplicit) (he : PD S Γ 0 e (cSeq cInt) (· = z)) (hp : Pl z)
    (hs : ∀ env : Env, starEach [e] env = (false, eval e env) :: starEach [] env) (hpl : ∀ env : Env, (backTo pos (starEach [] env)).any (·.1) = false) : PD S Γ 0 (.Call (.Name "Book" pn) [e] [] pos) (cBk CB) (· = z) :=
  pmake1 (ca := cSeq cInt) (F := FBk) (hm := fun {_ _ _ _} e h => hmBk e h) (h := fun x => x) I hl hg T.k.mgC he hp (fun _ h => h) hs hpl
abbrev P_lenB (CB : Addr) : Sp := spP (fun (a : List Int) => [.d (cBk CB) a]) (fun _ => True) cInt (fun a => (a.length : Int))
theorem m_lenB (D : ∃ f fd, Fun K "__len__" "Book.__len__" (inBk 2) f fd ∧ PySem.W.findIn K (.ref CB) "__len__" = some (some (.ref f)) ∧ PySem.W.isFn K (.ref f) = true) (T : TBk K mg CB) : LenA P w K mg base CB 1 (P_lenB CB) := by
  obtain ⟨f, fd, Fu, h1, h2⟩ := D
  refine ⟨f, fd, ["self"], ?_, h1, h2, Fu.binds (fun _ _ _ _ _ _ us hl => match us, hl with | [_], _ => rfl)⟩
  refine fn_D (N := ["self"]) Fu ⟨rfl, rfl, rfl, by decide +kernel, rfl, by decide +kernel, by decide +kernel⟩ (fun _ _ => rfl) (by decide) (fun _ _ => trivial) fun b a hp => ?_
  exact bret (plen rfl U.len (TD.seqT (pd_sizes T (pd_name (i := 0) rfl rfl (.inl rfl)) (fun _ => rfl))) (fun _ => rfl)) fun _ h => h
abbrev P_eq (C : Addr) : Sp := spP (fun (a : List Int × List Int) => [.d (cBk C) a.1, .d (cBk C) a.2]) (fun _ => True) cBool (fun a => decide (a.1 = a.2))
abbrev P_eqT (C : Addr) : Sp := spP (fun (a : List Int × List Int) => [.d (cBk C) a.1, .d (cTup cInt) a.2]) (fun _ => True) cBool (fun a => false)
theorem m_eq (D : EqF K CB "Book.__eq__" (inBk 1)) (T : TBk K mg CB) : EqA P w K mg base CB 1 (P_eq CB) := by
  obtain ⟨f, fd, Fu, h1, h2⟩ := D.ex
  refine ⟨⟨f, fd, ["self", "other"], ?_, h1, h2, Fu.binds (fun _ _ _ _ _ _ us hl => match us, hl with | [_, _], _ => rfl)⟩, D.cl, D.ob, D.ne, D.nt⟩
  refine fn_D (N := ["self", "other"]) Fu ⟨rfl, rfl, rfl, by decide +kernel, rfl, by decide +kernel, by decide +kernel⟩ (fun _ _ => rfl) (by decide) (fun _ _ => trivial) fun b a hp => ?_
  refine bret (pand (pisi rfl U.isinstance (pd_name (i := 1) rfl rfl (.inl rfl)) (nmOwn rfl T.k.mgC) (.own _) (ty_ins T.k.own) T.k.isC (fun _ => rfl)) fun _ => (pd_one (pcmp (op_eqDG rfl) (pd_sizes T (pd_name (i := 0) rfl rfl (.inl rfl)) (fun _ => rfl)) (pd_sizes T (pd_name (i := 1) rfl rfl (.inl rfl)) (fun _ => rfl)) (rd_eqD (eTup eInt) (by decide)) (nomark _)))) ?_
  exact fun _ h => h
theorem m_eqT (D : EqF K CB "Book.__eq__" (inBk 1)) (T : TBk K mg CB) : EqA P w K mg base CB 1 (P_eqT CB) := by
  obtain ⟨f, fd, Fu, h1, h2⟩ := D.ex
  refine ⟨⟨f, fd, ["self", "other"], ?_, h1, h2, Fu.binds (fun _ _ _ _ _ _ us hl => match us, hl with | [_, _], _ => rfl)⟩, D.cl, D.ob, D.ne, D.nt⟩
  refine fn_D (N := ["self", "other"]) Fu ⟨rfl, rfl, rfl, by decide +kernel, rfl, by decide +kernel, by decide +kernel⟩ (fun _ _ => rfl) (by decide) (fun _ _ => trivial) fun b a hp => ?_
  exact bret (pand (x := false) (y := false) (pisi rfl U.isinstance (pd_name (i := 1) rfl rfl (.inl rfl)) (nmOwn rfl T.k.mgC) (.own _) ty_tup T.nI (fun _ => rfl)) fun h => nomatch h) fun _ h => h
abbrev P_count (CB : Addr) : Sp := spP (fun (a : List Int) => [.d (cBk CB) a]) Pl cInt prodL
omit U in
theorem m_count (D : MDef K CB "count" "Book.count" (inBk 3)) (T : TBk K mg CB) (C_product : Cal P w K mg base "product_of" ["numbers"] 1 P_product) : MCal P w K mg base CB "count" ["self"] 2 (P_count CB) := by
  refine mcal_D (N := ["self"]) D (fun _ _ _ _ _ _ us hl => match us, hl with | [_], _ => rfl) ⟨rfl, rfl, rfl, by decide +kernel, rfl, by decide +kernel, by decide +kernel⟩ (fun _ _ => rfl) (by decide) (fun _ _ => trivial) fun b a hp => ?_
  exact bret (pcal1 C_product (show (1 : Nat) ≤ 1 by decide) rfl (TD.seqT (pd_sizes T (pd_name (i := 0) rfl rfl (.inl rfl)) (fun _ => rfl))) hp.2 (fun _ => rfl) (fun _ => rfl)) fun _ h => h
abbrev P_istext (CB : Addr) : Sp := spP (fun (a : List Int × List Int) => [.d (cBk CB) a.1, .d (cTup cInt) a.2]) (fun a => InW a.2 a.1) cBool (fun _ => true)
omit U in
theorem all_in : ∀ {w p : List Int}, InW w p → ((w.zip p).map fun x => decide (0 ≤ x.1 ∧ x.1 < x.2)).all id = true
  | [], [], _ => rfl
  | w :: ws, p :: ps, h => by
    rw [List.zip_cons_cons, List.map_cons, List.all_cons, all_in h.2, Bool.and_true]
    exact decide_eq_true h.1
theorem m_istext (U3 : Bt3 mg) (D : MDef K CB "is_text" "Book.is_text" (inBk 4)) (T : TBk K mg CB) (C_is_index : Cal P w K mg base "is_index" ["value", "many"] 2 P_is_index) : MCal P w K mg base CB "is_text" ["self", "value"] 3 (P_istext CB) := by
  refine mcal_D (N := ["self", "value", "wording", "size"]) D (fun _ _ _ _ _ _ us hl => match us, hl with | [_, _], _ => rfl) ⟨rfl, rfl, rfl, by decide +kernel, rfl, by decide +kernel, by decide +kernel⟩ (fun _ _ => rfl) (by decide) (fun _ _ => trivial) fun b a hp => ?_
  have hl : a.2.length = a.1.length := InW.len hp
  refine HS.le (k := 0 + max 0 0) ?_ (by decide)
  refine bifR (k1 := 0) (k2 := 0) (k3 := 0) (pdt_w (tor (pdt_not (pdt_val (pisi rfl U.isinstance (pd_name (i := 1) rfl rfl (.inl rfl)) (nmTy rfl U.tuple PyProof.Rows.boot_tuple) (.ty _) ty_tup (r := true) (kit_ty (by decide +kernel)) (fun _ => rfl)) (fun _ _ => rfl))) fun _ => (pdw_or1 (tcmp (fun _ _ => op_ne) (plen rfl U.len (TD.seqT (pd_name (i := 1) rfl rfl (.inl rfl))) (fun _ => rfl)) (plen rfl U.len (TD.seqT (pd_sizes T (pd_name (i := 0) rfl rfl (.inl rfl)) (fun _ => rfl))) (fun _ => rfl)) rd_neI (nomark _))))) (fun h => ?_) fun h => ?_
  · rw [hl] at h; simp at h
  refine bret (pall rfl U.all (TDF.td (plcN [("wording", 2), ("size", 3)] (pdi_zipT rfl U3.zip (pd_name (i := 1) rfl rfl (.inl rfl)) (pd_sizes T (pd_name (i := 0) rfl rfl (.inl rfl)) (fun _ => rfl)) (fun _ => rfl) (fun _ => rfl) (fun _ => rfl)) trivial (by kernel_rfl) (fun _ _ => rfl) fun x hx => ⟨_, _, (pdg_t2 (pdg_name (i := 2) trivial rfl (.inl rfl) (.inr rfl)) (pdg_name (i := 3) trivial rfl (.inl rfl) (.inr rfl)) (fun _ => rfl) (fun _ => rfl) (fun _ => rfl) (fun _ => rfl)), (fun _ h => h), (pcal2 C_is_index (show (2 : Nat) ≤ 2 by decide) rfl (pd_name (i := 2) rfl rfl (.inl rfl)) (pd_name (i := 3) rfl rfl (.inl rfl)) trivial (fun _ => rfl) (fun _ => rfl) (fun _ => rfl))⟩)) (fun _ => rfl)) ?_
  exact fun _ h => h.trans (all_in hp)
abbrev P_checkT (CB : Addr) : Sp := spP (fun (a : List Int × List Int) => [.d (cBk CB) a.1, .d (cTup cInt) a.2]) (fun a => InW a.2 a.1) cNon (fun _ => ())
omit U in
theorem c_checkT (D : Def K mg "check_text" (top 23)) (T : TBk K mg CB) (M : MCal P w K mg base CB "is_text" ["self", "value"] 3 (P_istext CB)) : Cal P w K mg base "check_text" ["book", "text"] 4 (P_checkT CB) := by
  refine cal_N (N := ["book", "text"]) D (fun _ _ _ _ _ _ us hl => match us, hl with | [_, _], _ => rfl) ⟨rfl, rfl, rfl, by decide +kernel, rfl, by decide +kernel, by decide +kernel⟩ (fun _ => rfl) (by decide) (fun _ => trivial) fun a hp => ?_
  refine HS.le (k := 0 + max 0 0) ?_ (by decide)
  refine phs_one (ph_if (k1 := 0) (k2 := 0) (k3 := 0) (pdt_not (pdt_val (pm1 M T.k.cl (show (3 : Nat) ≤ 3 by decide) (pd_name (i := 0) rfl rfl (.inl rfl)) (pd_name (i := 1) rfl rfl (.inl rfl)) (hno_Bk (by decide +kernel)) hp (fun _ => rfl) (fun _ => rfl) (fun _ => rfl)) (fun _ _ => rfl))) (fun h => ?_) fun h => phs_nil trivial)
  exact absurd h (by decide)
abbrev P_checkP (CB : Addr) : Sp := spP (fun (a : List Int × List Int) => [.d (cBk CB) a.1, .d (cSeq cInt) a.2]) (fun a => Spt a.2 a.1.length ∧ a.1.length ≤ 8) cNon (fun _ => ())
theorem c_checkP (D : Def K mg "check_places" (top 24)) (T : TBk K mg CB) (L : LenA P w K mg base CB 1 (P_lenB CB)) (C_are_places : Cal P w K mg base "are_places" ["value", "many"] 5 (spP (fun (a : List Int × Int) => [.d (cSeq cInt) a.1, .d cInt a.2]) Up cBool (fun a => true))) : Cal P w K mg base "check_places" ["book", "places"] 6 (P_checkP CB) := by
  refine cal_N (N := ["book", "places"]) D (fun _ _ _ _ _ _ us hl => match us, hl with | [_, _], _ => rfl) ⟨rfl, rfl, rfl, by decide +kernel, rfl, by decide +kernel, by decide +kernel⟩ (fun _ => rfl) (by decide) (fun _ => trivial) fun a hp => ?_
  have h8 : a.1.length ≤ 8 := hp.2
  have hl := Spt.len hp.1
  refine HS.le (k := 0 + max 0 0) ?_ (by decide)
  refine phs_one (ph_if (k1 := 0) (k2 := 0) (k3 := 0) (pdt_not (pdt_val (pcal2 C_are_places (show (5 : Nat) ≤ 5 by decide) rfl (pd_name (i := 1) rfl rfl (.inl rfl)) (plenO L (show (1 + 1 : Nat) ≤ 5 by decide) rfl U.len (pd_name (i := 0) rfl rfl (.inl rfl)) trivial (by omega) (fun _ => rfl)) ⟨hp.1.1, hp.1.2, by show a.2.length < 64; omega⟩ (fun _ => rfl) (fun _ => rfl) (fun _ => rfl)) (fun _ _ => rfl))) (fun h => ?_) fun h => phs_nil trivial)
  exact absurd h (by decide)
end
end K01

set_option Elab.async false
set_option linter.all false
set_option maxRecDepth 100000
set_option maxHeartbeats 4000000
namespace K01
open PySem PySem.Spec L2 DL
abbrev nSlice : List Str := ["self", "text", "places", "count", "found", "place", "size", "wordings", "row", "wording"]
theorem scSlice : FnScope nSlice ["self", "text", "places"] (defScope (inBk 6)) := ⟨rfl, rfl, rfl, by decide +kernel, rfl, by decide +kernel, by decide +kernel⟩
abbrev P_slice (CB : Addr) : Sp := spFP (fun (a : List Int × List Int × List Int) => [.d (cBk CB) a.1, .d (cTup cInt) a.2.1, .d (cSeq cInt) a.2.2]) (fun a => Pl a.1 ∧ InW a.2.1 a.1 ∧ Spt a.2.2 a.1.length ∧ widthL a.1 a.2.2 ≤ 100) (cTup cInt) (fun a => rowsL a.1 a.2.1 a.2.2 (rangeL 0 a.1.length))
theorem sizes_ok {pl spots : List Int} (hp : Pl pl) (hs : Spt spots pl.length) : ∀ n ∈ spots.map (atT pl), 2 ≤ n ∧ n ≤ 6 := fun n hn => by
  obtain ⟨i, hi, rfl⟩ := List.mem_map.mp hn
  exact hp.at (hs.2 i hi)
section
variable {P : Program} {w : World} {K : PySem.W.Frag} {mg : Str → Option Value} {base : Heap} {CB : Addr}
variable (U : Bt mg)
include U
theorem m_slice (U3 : Bt3 mg) (T2 : Ko2 mg) (D : MDef K CB "slice" "Book.slice" (inBk 6)) (T : TBk K mg CB) (C_product : Cal P w K mg base "product_of" ["numbers"] 1 P_product) (C_checkT : Cal P w K mg base "check_text" ["book", "text"] 4 (P_checkT CB)) (C_checkP : Cal P w K mg base "check_places" ["book", "places"] 6 (P_checkP CB)) :
    MB2 P w K mg base CB "slice" "text" "places" 7 (P_slice CB) := by
  obtain ⟨_, Ttexts⟩ := T2.texts
  refine mb2 D (fun _ _ _ _ _ _ us hl => match us, hl with | [_, _, _], _ => rfl) (fun _ _ _ _ _ _ _ _ _ => rfl) fun f fd Fu => ?_
  refine fn_F (N := nSlice) Fu scSlice (fun _ _ => rfl) (by decide) (fun _ _ => trivial) fun b a hp => ?_
  obtain ⟨pl, word, spots⟩ := a
  obtain ⟨hpl, hw, hs, hn⟩ := hp
  have hpl : Pl pl := hpl
  have hw : InW word pl := hw
  have hs : Spt spots pl.length := hs
  have hn : widthL pl spots ≤ 100 := hn
  have h8 := hpl.1.2
  have hwl := hw.len
  refine HSF.le (k := 0 + (0 + (0 + max 0 (0 + (0 + 0 + 0)))) + 0) ?_ (by decide)
  refine bapp (k1 := 0 + (0 + (0 + max 0 (0 + (0 + 0 + 0))))) (k2 := 0) (c0 := cNon) (N1 := fun Γ => Γ = entry nSlice [.d (cBk CB) pl, .d (cTup cInt) word, .d (cSeq cInt) spots, .d cInt (widthL pl spots), .l (cTup cInt) (rowsL pl word spots (rangeL 0 pl.length))]) ((defBody (inBk 6)).take 6) ?_ ?_
  case refine_2 =>
    rintro _ rfl
    exact bretO 4 rfl rfl (.inl rfl) rfl
  refine bdrop (k := 0) (k2 := 0 + (0 + max 0 (0 + (0 + 0 + 0)))) (pcal2 C_checkT (show (4 : Nat) ≤ 6 by decide) rfl (pd_name (i := 0) rfl rfl (.inr (.inl rfl))) (pd_name (i := 1) rfl rfl (.inl rfl)) hw (fun _ => rfl) (fun _ => rfl) (fun _ => rfl)) (fun env he => by cases env; cases he; rfl) ?_
  refine bdrop (k := 0) (k2 := 0 + max 0 (0 + (0 + 0 + 0))) (pcal2 C_checkP (show (6 : Nat) ≤ 6 by decide) rfl (pd_name (i := 0) rfl rfl (.inr (.inl rfl))) (pd_name (i := 2) rfl rfl (.inl rfl)) ⟨hs, h8⟩ (fun _ => rfl) (fun _ => rfl) (fun _ => rfl)) (fun env he => by cases env; cases he; rfl) ?_
  refine bset (k := 0) (k2 := max 0 (0 + (0 + 0 + 0))) 3 (pcal1 C_product (show (1 : Nat) ≤ 6 by decide) rfl (TD.seqL (TDF.td (plcN (f := atT pl) [("place", 5)] (pdi_seq (pd_name (i := 2) rfl rfl (.inl rfl))) trivial (by kernel_rfl) (fun _ _ => rfl) fun x hx => ⟨_, _, (pdg_name (i := 5) trivial rfl (.inl rfl) (.inr rfl)), (fun _ h => h), (pix ixTG (pd_sizes T (pd_name (i := 0) rfl rfl (.inr (.inl rfl))) (fun _ => rfl)) (pd_name (i := 5) rfl rfl (.inl rfl)) (rd_ixTd (hs.2 x hx)) (fun _ _ => rfl))⟩))) (sizes_ok hpl hs) (fun _ => rfl) (fun _ => rfl)) trivial rfl (.inl rfl) (fun env he => by cases env; cases he; rfl) (.inl rfl) ?_
  rintro _ rfl
  refine HS.ctx (Γ' := [.d (cBk CB) pl, .d (cTup cInt) word, .d (cSeq cInt) spots, .d cInt (widthL pl spots), .un, .un, .un, .un, .un, .un]) rfl ?_
  refine HS.le (k := 0 + max 0 (0 + (0 + 0 + 0))) ?_ (by decide)
  refine bifR (k1 := 0) (k2 := 0) (k3 := 0 + (0 + 0 + 0)) (tcmp (fun _ _ => op_gt) (pd_name (i := 3) rfl rfl (.inl rfl)) (pd_glob rfl (v := .int 100) (c := cInt) (y := 100) Ttexts ⟨_, rfl⟩ (fun _ => rfl)) rd_B0 (nomark _)) (fun h => ?_) fun h => ?_
  · exfalso
    have := of_decide_eq_true h.symm
    omega
  refine bsetL (k := 0) (k2 := 0 + 0 + 0) 4 (plst (c := cTup cInt) (xs := [([] : List Int)]) (.cons (ptup (c := cInt) (xs := []) .nil (by simp)) .nil (fun _ => rfl)) (by simp)) trivial rfl (.inl rfl) (fun env he => by cases env; cases he; rfl) (.inl rfl) ?_
  rintro _ rfl
  refine bfor (k := 0) (kk := 0) (kn := 0) (k2 := 0) [5, 6, 7] (fun _ pre Γ => Γ = entry nSlice [.d (cBk CB) pl, .d (cTup cInt) word, .d (cSeq cInt) spots, .d cInt (widthL pl spots), .l (cTup cInt) (rowsL pl word spots (pre.map (·.1)))]) (pdi_enumT rfl U3.enumerate (pd_sizes T (pd_name (i := 0) rfl rfl (.inr (.inl rfl))) (fun _ => rfl)) (fun _ => rfl)) ?_ ?_ ?_ (fun _ _ => rfl) ?_
  · rintro _ rfl; rfl
  · intro _ _; simp
  · rintro _ rfl pre x post _ hx rfl
    have hfst := congrArg (List.map (·.1)) hx
    rw [enum_fst, List.map_append, List.map_cons] at hfst
    have hxr : x.1 ∈ rangeL 0 pl.length := by rw [hfst]; simp
    have hx1 : 0 ≤ x.1 ∧ x.1 < (pl.length : Int) := by have := mem_rangeL.mp hxr; omega
    have hx2 : x.2 = atT pl x.1 := by
      have hg : (enumL pl)[pre.length]? = some x := by rw [hx]; simp
      obtain ⟨e1, e2⟩ := enumL_get hg
      rw [e1]
      unfold atT
      rw [Int.toNat_natCast, List.getD_eq_getElem?_getD, e2]; rfl
    have hb := hpl.at hx1
    rw [← hx2] at hb
    have hrl := rows_pre (word := word) hpl hs (pre := pre.map (·.1)) hfst hn
    have hrl2 := rows_pre (word := word) hpl hs (pre := pre.map (·.1) ++ [x.1]) (post := post.map (·.1)) (by rw [hfst]; simp) hn
    rw [rowsL_snoc] at hrl2
    refine ⟨_, _, (pdg_t2 (pdg_name (i := 5) trivial rfl (.inl rfl) (.inl rfl)) (pdg_name (i := 6) trivial rfl (.inl rfl) (.inl rfl)) (fun _ => rfl) (fun _ => rfl) (fun _ => rfl) (fun _ => rfl)), ?_⟩
    refine HS.ctx (Γ' := [.d (cBk CB) pl, .d (cTup cInt) word, .d (cSeq cInt) spots, .d cInt (widthL pl spots), .l (cTup cInt) (rowsL pl word spots (pre.map (·.1))), .d cInt x.1, .d cInt x.2, .un, .un, .un]) rfl ?_
    refine bset (k := 0) (k2 := 0) 7 (pif (tinSeq (pd_name (i := 5) rfl rfl (.inl rfl)) (pd_name (i := 2) rfl rfl (.inl rfl)) rfl) (fun _ => TDF.td (plrg1 rfl U.list rfl U.range (pd_name (i := 6) rfl rfl (.inl rfl)) (by omega) (fun _ => rfl) (fun _ => rfl))) fun _ => TDF.td (plst (.cons (pix ixTG (pd_name (i := 1) rfl rfl (.inl rfl)) (pd_name (i := 5) rfl rfl (.inl rfl)) (rd_ixTd (by rw [hwl]; exact hx1)) (fun _ _ => rfl)) .nil (fun _ => rfl)) (by show (1 : Nat) ≤ 1000; decide))) trivial rfl (.inr rfl) (fun env he => sw_cell rfl env he) (.inl rfl) ?_
    intro ws hws
    have hws : ws = wordsAt pl word spots x.1 := by rw [hws, hx2]; rfl
    subst hws
    refine HS.ctx (Γ' := [.d (cBk CB) pl, .d (cTup cInt) word, .d (cSeq cInt) spots, .d cInt (widthL pl spots), .l (cTup cInt) (rowsL pl word spots (pre.map (·.1))), .d cInt x.1, .d cInt x.2, .d (cList cInt) (wordsAt pl word spots x.1), .un, .un]) rfl ?_
    refine bsetLc2 (k2 := 0) 4 [("row", 8), ("wording", 9)] [9] (by decide) (tdf_viewN (i := 4) rfl (nl_tup nl_int) (plc2 (fun _ => wordsAt pl word spots x.1) (fun row wd => row ++ [wd]) ?_ (pdi_list (pd_name (i := 4) rfl rfl (.inl rfl))) (Nat.le_trans hrl2 (by unfold LB; decide)) fun row hrow => ⟨_, _, ?_, (pdg_name (i := 8) trivial rfl (.inl rfl) (.inr rfl)), (by decide), (pdi_list (pd_name (i := 7) rfl rfl (.inr (.inl rfl)))), fun wd hwd => ⟨_, _, (pdg_name (i := 9) trivial rfl (.inl rfl) (.inr rfl)), (by decide), (ptupr (TD.seqT (pd_name (i := 8) rfl rfl (.inl rfl))) (pd_name (i := 9) rfl rfl (.inl rfl)) ?_ (fun _ => rfl) (fun _ => rfl))⟩⟩)) trivial rfl rfl (fun env he => by cases env; cases he; rfl) (by kernel_rfl) (fun _ _ => rfl) (fun _ _ => rfl) ?_
    · intro s hs; simp at hs; rcases hs with h | h | h | h | h | h | h | h | h <;> subst h <;> rfl
    · intro s hs; simp [wipeC] at hs; rcases hs with h | h | h | h | h | h | h | h | h | h <;> subst h <;> rfl
    · have := (rows_in hpl hw (is := pre.map (·.1)) (spots := spots) (fun i hi => by
        have : i ∈ rangeL 0 pl.length := by rw [hfst]; exact List.mem_append_left _ hi
        have := mem_rangeL.mp this; omega) row hrow).1
      have hl := congrArg List.length hfst
      rw [rangeL_len, List.length_append] at hl
      omega
    · rintro _ rfl
      exact phs_nil ⟨trivial, by rw [List.map_append, List.map_cons, List.map_nil, rowsL_snoc]; rfl⟩
  · rintro _ _ rfl rfl
    exact phs_nil (by rw [enum_fst])
end
end K01

set_option Elab.async false
set_option linter.all false
set_option maxRecDepth 100000
set_option maxHeartbeats 4000000
namespace K01
open PySem PySem.Spec L2 DL
/-- what is taken from the second at some places -/
def mixL (a b : List Int) (ps : List Int) : List Int := (rangeL 0 a.length).map fun i => if decide (i ∈ ps) = true then atT b i else atT a i
def apartL (a b : List Int) : List Int := (rangeL 0 a.length).filter fun i => !decide (atT a i = atT b i)
section
variable {P : Program} {w : World} {K : PySem.W.Frag} {mg : Str → Option Value} {base : Heap} {CB : Addr}
variable (U : Bt mg)
include U
theorem pzeros {S : Stc} {Γ : Ctxt} {e : Expr} {pos : Pos} {n : Nat} {kx : Nat} {p1 p2 : Pos} (h : PD S Γ 0 e cInt (· = (n : Int))) (hn : n ≤ 8) : PD S Γ 0 (.BinOp (.List [.Constant (.int 0) kx p1] p2) .Mult e pos) (cList cInt) (· = List.replicate n 0) :=
  (prep1 (k1 := 0) (k2 := 0) (x := (0 : Int)) (TDF.td (plst (xs := [(0 : Int)]) (.cons pd_int .nil (fun _ => rfl)) (by simp))) h (by rintro i rfl; omega)).imp fun l ⟨i, hi, hl⟩ => by subst hi; rw [hl, Int.toNat_natCast]
abbrev P_texts (CB : Addr) : Sp := spFP (fun (a : List Int) => [.d (cBk CB) a]) (fun a => Pl a ∧ prodL a ≤ 100) (cTup cInt) (fun a => rowsL a (List.replicate a.length 0) (rangeL 0 a.length) (rangeL 0 a.length))
omit U in
theorem width_all {pl : List Int} : widthL pl (rangeL 0 pl.length) = prodL pl := by
  unfold widthL
  have : (rangeL 0 pl.length).map (atT pl) = pl := by
    refine List.ext_getElem (by rw [List.length_map, rangeL_len]) fun i h1 h2 => ?_
    have hi : (rangeL 0 pl.length)[i]'(by rw [rangeL_len]; exact h2) = (i : Int) := by
      have := rangeL_get (lo := 0) (n := pl.length) (i := i) (List.getElem?_eq_getElem (by rw [rangeL_len]; exact h2))
      rw [this]; omega
    rw [List.getElem_map, hi]
    unfold atT
    rw [Int.toNat_natCast, List.getD_eq_getElem?_getD, List.getElem?_eq_getElem h2]; rfl
  rw [this]
theorem m_texts (D : MDef K CB "texts" "Book.texts" (inBk 5)) (T : TBk K mg CB) (M : MB2 P w K mg base CB "slice" "text" "places" 7 (P_slice CB)) : MCal P w K mg base CB "texts" ["self"] 8 (P_texts CB) := by
  refine mcal_F (N := ["self"]) D (fun _ _ _ _ _ _ us hl => match us, hl with | [_], _ => rfl) ⟨rfl, rfl, rfl, by decide +kernel, rfl, by decide +kernel, by decide +kernel⟩ (fun _ _ => rfl) (by decide) (fun _ _ => trivial) fun b a hp => ?_
  obtain ⟨hpl, hn⟩ := hp
  have h8 := hpl.1.2
  refine HSF.imp (bretF (pm2F (x := a) (y := List.replicate a.length 0) (z := rangeL 0 a.length) M T.k.cl (show (7 : Nat) ≤ 7 by decide) (pd_name (i := 0) rfl rfl (.inl rfl)) (ptuple rfl U.tuple (TD.seqL (pzeros U (plen rfl U.len (TD.seqT (pd_sizes T (pd_name (i := 0) rfl rfl (.inl rfl)) (fun _ => rfl))) (fun _ => rfl)) h8)) (fun _ => rfl)) (TD.seqL (TDF.td (plrg1 rfl U.list rfl U.range (plen rfl U.len (TD.seqT (pd_sizes T (pd_name (i := 0) rfl rfl (.inl rfl)) (fun _ => rfl))) (fun _ => rfl)) (by omega) (fun _ => rfl) (fun _ => rfl)))) (hno_Bk (by decide +kernel)) ⟨hpl, zeros_in hpl, sp_range _, by show widthL a (rangeL 0 a.length) ≤ 100; rw [width_all]; exact hn⟩ (fun _ => rfl) (fun _ => rfl) (fun _ => rfl) (fun _ => rfl))) fun _ h => h
abbrev P_number (CB : Addr) : Sp := spP (fun (a : List Int × List Int) => [.d (cBk CB) a.1, .d (cTup cInt) a.2]) (fun a => Pl a.1 ∧ InW a.2 a.1) cInt (fun a => num0 a.2 a.1)
omit U in
theorem m_number (U3 : Bt3 mg) (D : MDef K CB "number" "Book.number" (inBk 7)) (T : TBk K mg CB) (C_checkT : Cal P w K mg base "check_text" ["book", "text"] 4 (P_checkT CB)) : MBoth P w K mg base CB "number" "text" 5 (P_number CB) := by
  refine mboth D (fun _ _ _ _ _ _ us hl => match us, hl with | [_, _], _ => rfl) (fun _ _ _ _ _ _ _ _ => rfl) fun f fd Fu => ?_
  refine fn_D (N := ["self", "text", "found", "wording", "size"]) Fu ⟨rfl, rfl, rfl, by decide +kernel, rfl, by decide +kernel, by decide +kernel⟩ (fun _ _ => rfl) (by decide) (fun _ _ => trivial) fun b a hp => ?_
  obtain ⟨pl, word⟩ := a
  obtain ⟨hpl, hw⟩ := hp
  have hpl : Pl pl := hpl
  have hw : InW word pl := hw
  refine HS.le (k := 0 + (0 + (0 + 0 + 0))) ?_ (by decide)
  refine bdrop (k := 0) (k2 := 0 + (0 + 0 + 0)) (pcal2 C_checkT (show (4 : Nat) ≤ 4 by decide) rfl (pd_name (i := 0) rfl rfl (.inl rfl)) (pd_name (i := 1) rfl rfl (.inl rfl)) hw (fun _ => rfl) (fun _ => rfl) (fun _ => rfl)) (fun env he => by cases env; cases he; rfl) ?_
  refine bset (k := 0) (k2 := 0 + 0 + 0) 2 (pd_int (i := 0)) trivial rfl (.inl rfl) (fun env he => by cases env; cases he; rfl) (.inl rfl) ?_
  rintro _ rfl
  refine bfor (k := 0) (kk := 0) (kn := 0) (k2 := 0) [3, 4] (fun _ pre Γ => Γ = entry ["self", "text", "found", "wording", "size"] [.d (cBk CB) pl, .d (cTup cInt) word, .d cInt (pre.foldl (fun f z => f * z.2 + z.1) 0)]) (pdi_zipT rfl U3.zip (pd_name (i := 1) rfl rfl (.inl rfl)) (pd_sizes T (pd_name (i := 0) rfl rfl (.inl rfl)) (fun _ => rfl)) (fun _ => rfl) (fun _ => rfl) (fun _ => rfl)) ?_ ?_ ?_ (fun _ _ => rfl) ?_
  · rintro _ rfl; rfl
  · intro _ _; simp
  · rintro _ rfl pre x post _ hx rfl
    have hx1 : x ∈ word.zip pl := by rw [hx]; simp
    have hb := hpl.2 _ (List.of_mem_zip hx1).2
    refine ⟨_, _, (pdg_t2 (pdg_name (i := 3) trivial rfl (.inl rfl) (.inl rfl)) (pdg_name (i := 4) trivial rfl (.inl rfl) (.inl rfl)) (fun _ => rfl) (fun _ => rfl) (fun _ => rfl) (fun _ => rfl)), ?_⟩
    refine bset (k := 0) (k2 := 0) 2 (pbin (fun _ _ => op_add) (pbin (fun _ _ => op_mul) (pd_name (i := 2) rfl rfl (.inl rfl)) (pd_name (i := 4) rfl rfl (.inl rfl)) (rd_I (.inr ⟨by omega, by omega⟩))) (pd_name (i := 3) rfl rfl (.inl rfl)) rd_I0) trivial rfl (.inl rfl) (fun env he => by cases env; cases he; rfl) (.inl rfl) ?_
    rintro _ rfl
    exact phs_nil ⟨trivial, by rw [List.foldl_append]; rfl⟩
  · rintro _ _ rfl rfl
    refine bret (pd_name (i := 2) rfl rfl (.inl rfl)) ?_
    rintro _ rfl
    exact (numL_0 hw.len)
abbrev nTextAt : List Str := ["self", "number", "found", "rest", "size"]
abbrev P_textat (CB : Addr) : Sp := spP (fun (a : List Int × Int) => [.d (cBk CB) a.1, .d cInt a.2]) (fun a => Pl a.1 ∧ 0 ≤ a.2 ∧ a.2 < prodL a.1) (cTup cInt) (fun a => textL a.1 a.2)
omit U in
theorem m_textat (U3 : Bt3 mg) (D : MDef K CB "text_at" "Book.text_at" (inBk 8)) (T : TBk K mg CB) (C_is_index : Cal P w K mg base "is_index" ["value", "many"] 2 P_is_index) (M : MCal P w K mg base CB "count" ["self"] 2 (P_count CB)) : MBoth P w K mg base CB "text_at" "number" 3 (P_textat CB) := by
  refine mboth D (fun _ _ _ _ _ _ us hl => match us, hl with | [_, _], _ => rfl) (fun _ _ _ _ _ _ _ _ => rfl) fun f fd Fu => ?_
  refine fn_D (N := nTextAt) Fu ⟨rfl, rfl, rfl, by decide +kernel, rfl, by decide +kernel, by decide +kernel⟩ (fun _ _ => rfl) (by decide) (fun _ _ => trivial) fun b a hp => ?_
  obtain ⟨pl, n⟩ := a
  obtain ⟨hpl, h0, h1⟩ := hp
  have hpl : Pl pl := hpl
  have h0 : 0 ≤ n := h0
  have h1 : n < prodL pl := h1
  have h8 := hpl.1.2
  refine HS.ctx (Γ' := entry nTextAt [.d (cBk CB) pl, .d cInt n]) rfl ?_
  refine HS.le (k := 0 + max 0 (0 + 0 + (0 + 0 + 0))) ?_ (by decide)
  refine bifR (k1 := 0) (k2 := 0) (k3 := 0 + 0 + (0 + 0 + 0)) (pdt_not (pdt_val (pcal2 C_is_index (show (2 : Nat) ≤ 2 by decide) rfl (pd_name (i := 1) rfl rfl (.inl rfl)) (pm0 M T.k.cl (show (2 : Nat) ≤ 2 by decide) (pd_name (i := 0) rfl rfl (.inl rfl)) (hno_Bk (by decide +kernel)) hpl (fun _ => rfl)) trivial (fun _ => rfl) (fun _ => rfl) (fun _ => rfl)) (fun _ _ => rfl))) (fun h => ?_) fun h => ?_
  · exfalso
    have : decide (0 ≤ n ∧ n < prodL pl) = true := decide_eq_true ⟨h0, h1⟩
    rw [this] at h; cases h
  refine bpar (k1 := 0) (k2 := 0) (kr := 0 + 0 + 0) 2 3 (TD.tx' (ptup (c := cInt) (xs := []) .nil (by simp))) (TD.tx' (pd_name (i := 1) rfl rfl (.inl rfl))) trivial trivial (by decide) (fun z => nomatch z) (fun z => nomatch z) rfl rfl rfl rfl (fun _ => rfl) (fun _ => rfl) (fun env he => by cases env; cases he; rfl) (fun env he => by cases env; cases he; rfl) ?_
  refine bfor (k := 0) (kk := 0) (kn := 0) (k2 := 0) [4] (fun _ pre Γ => Γ = entry nTextAt [.d (cBk CB) pl, .d cInt n, .d (cTup cInt) (digS pre n).1, .d cInt (digS pre n).2]) (pdi_revT rfl U3.reversed (pd_sizes T (pd_name (i := 0) rfl rfl (.inl rfl)) (fun _ => rfl)) (fun _ => rfl)) ?_ ?_ ?_ (fun _ _ => rfl) ?_
  · rintro _ rfl; rfl
  · intro _ _; simp
  · rintro _ rfl pre x post _ hx rfl
    have hx1 : x ∈ pl := by
      have : x ∈ pl.reverse := by rw [hx]; simp
      exact List.mem_reverse.mp this
    have hb := hpl.2 x hx1
    have hl := congrArg List.length hx
    rw [List.length_reverse, List.length_append] at hl
    refine ⟨_, _, (pdg_name (i := 4) trivial rfl (.inl rfl) (.inl rfl)), ?_⟩
    refine bset (k := 0) (k2 := 0 + 0) 2 (ptupc (pbin (fun _ _ => op_mod) (pd_name (i := 3) rfl rfl (.inl rfl)) (pd_name (i := 4) rfl rfl (.inl rfl)) (rd_I (show 0 < x by omega))) (TD.seqT (pd_name (i := 2) rfl rfl (.inl rfl))) (by rw [digS_len]; omega) (fun _ => rfl) (fun _ => rfl)) trivial rfl (.inl rfl) (fun env he => by cases env; cases he; rfl) (.inl rfl) ?_
    rintro _ rfl
    refine bset (k := 0) (k2 := 0) 3 (pbin (fun _ _ => op_fdiv) (pd_name (i := 3) rfl rfl (.inl rfl)) (pd_name (i := 4) rfl rfl (.inl rfl)) (rd_I (g := fun i j => i / j) (show 0 < x ∧ x < 1073741824 by omega))) trivial rfl (.inl rfl) (fun env he => by cases env; cases he; rfl) (.inl rfl) ?_
    rintro _ rfl
    exact phs_nil ⟨trivial, by rw [digS_snoc]; rfl⟩
  · rintro _ _ rfl rfl
    exact bret (pd_name (i := 2) rfl rfl (.inl rfl)) fun _ h => h
abbrev P_unlike (CB : Addr) : Sp := spFP (fun (a : List Int × List Int × List Int) => [.d (cBk CB) a.1, .d (cTup cInt) a.2.1, .d (cTup cInt) a.2.2]) (fun a => Pl a.1 ∧ InW a.2.1 a.1 ∧ InW a.2.2 a.1) cInt (fun a => apartL a.2.1 a.2.2)
theorem m_unlike (D : MDef K CB "unlike" "Book.unlike" (inBk 9)) (T : TBk K mg CB) (C_checkT : Cal P w K mg base "check_text" ["book", "text"] 4 (P_checkT CB)) : MB2 P w K mg base CB "unlike" "text" "other" 5 (P_unlike CB) := by
  refine mb2 D (fun _ _ _ _ _ _ us hl => match us, hl with | [_, _, _], _ => rfl) (fun _ _ _ _ _ _ _ _ _ => rfl) fun f fd Fu => ?_
  refine fn_F (N := ["self", "text", "other", "place"]) Fu ⟨rfl, rfl, rfl, by decide +kernel, rfl, by decide +kernel, by decide +kernel⟩ (fun _ _ => rfl) (by decide) (fun _ _ => trivial) fun b a hp => ?_
  obtain ⟨pl, x, y⟩ := a
  obtain ⟨hpl, hx, hy⟩ := hp
  have hpl : Pl pl := hpl
  have hx : InW x pl := hx
  have hy : InW y pl := hy
  have h8 := hpl.1.2
  have lx := hx.len
  have ly := hy.len
  refine HSF.le (k := 0 + (0 + 0) + 0) ?_ (by decide)
  refine bapp (k1 := 0 + (0 + 0)) (k2 := 0) (c0 := cNon) (N1 := fun Γ => Γ = entry ["self", "text", "other", "place"] [.d (cBk CB) pl, .d (cTup cInt) x, .d (cTup cInt) y]) ((defBody (inBk 9)).take 2) ?_ ?_
  · refine bdrop (k := 0) (k2 := 0 + 0) (pcal2 C_checkT (show (4 : Nat) ≤ 4 by decide) rfl (pd_name (i := 0) rfl rfl (.inl rfl)) (pd_name (i := 1) rfl rfl (.inr (.inl rfl))) hx (fun _ => rfl) (fun _ => rfl) (fun _ => rfl)) (fun env he => by cases env; cases he; rfl) ?_
    refine bdrop (k := 0) (k2 := 0) (pcal2 C_checkT (show (4 : Nat) ≤ 4 by decide) rfl (pd_name (i := 0) rfl rfl (.inl rfl)) (pd_name (i := 2) rfl rfl (.inr (.inl rfl))) hy (fun _ => rfl) (fun _ => rfl) (fun _ => rfl)) (fun env he => by cases env; cases he; rfl) (phs_nil rfl)
  · rintro _ rfl
    have e : ((pl.length : Int)).toNat = x.length := by rw [Int.toNat_natCast, lx]
    refine HSF.imp (bretF (plcT (f := fun i => i) (q := fun i => !decide (atT x i = atT y i)) [("place", 3)] (prng1 rfl U.range (plen rfl U.len (TD.seqT (pd_sizes T (pd_name (i := 0) rfl rfl (.inl rfl)) (fun _ => rfl))) (fun _ => rfl)) (by omega) (fun _ => rfl)) trivial (by kernel_rfl) (fun _ _ => rfl) fun i hi => ⟨_, _, (pdg_name (i := 3) trivial rfl (.inl rfl) (.inr rfl)), (fun _ h => h), (tts_one (tcmp (fun _ _ => op_ne) (pix ixTG (pd_name (i := 1) rfl rfl (.inr (.inl rfl))) (pd_name (i := 3) rfl rfl (.inl rfl)) (rd_ixTd (by have := mem_rangeL.mp hi; omega)) (fun _ _ => rfl)) (pix ixTG (pd_name (i := 2) rfl rfl (.inr (.inl rfl))) (pd_name (i := 3) rfl rfl (.inl rfl)) (rd_ixTd (by have := mem_rangeL.mp hi; omega)) (fun _ _ => rfl)) rd_neI (nomark _))), fun hq => (pd_name (i := 3) rfl rfl (.inl rfl))⟩)) ?_
    rintro _ rfl
    show _ = apartL x y
    unfold apartL
    rw [e, List.map_id']
abbrev P_mixed4 (CB : Addr) : Sp := spP (fun (a : List Int × List Int × List Int × List Int) => [.d (cBk CB) a.1, .d (cTup cInt) a.2.1, .d (cTup cInt) a.2.2.1, .d (cSeq cInt) a.2.2.2]) (fun a => Pl a.1 ∧ InW a.2.1 a.1 ∧ InW a.2.2.1 a.1 ∧ Spt a.2.2.2 a.1.length) (cTup cInt) (fun a => mixL a.2.1 a.2.2.1 a.2.2.2)
theorem m_mixed (D : MDef K CB "mixed" "Book.mixed" (inBk 10)) (T : TBk K mg CB) (C_checkT : Cal P w K mg base "check_text" ["book", "text"] 4 (P_checkT CB)) (C_checkP : Cal P w K mg base "check_places" ["book", "places"] 6 (P_checkP CB)) : MB3 P w K mg base CB "mixed" "text" "other" "places" 7 (P_mixed4 CB) := by
  refine mb3 D (fun _ _ _ _ _ _ us hl => match us, hl with | [_, _, _, _], _ => rfl) (fun _ _ _ _ _ _ _ _ _ _ => rfl) fun f fd Fu => ?_
  refine fn_D (N := ["self", "text", "other", "places", "at"]) Fu ⟨rfl, rfl, rfl, by decide +kernel, rfl, by decide +kernel, by decide +kernel⟩ (fun _ _ => rfl) (by decide) (fun _ _ => trivial) fun b a hp => ?_
  obtain ⟨pl, x, y, ps⟩ := a
  obtain ⟨hpl, hx, hy, hs⟩ := hp
  have hpl : Pl pl := hpl
  have hx : InW x pl := hx
  have hy : InW y pl := hy
  have hs : Spt ps pl.length := hs
  have h8 := hpl.1.2
  have lx := hx.len
  have ly := hy.len
  refine HS.ctx (Γ' := entry ["self", "text", "other", "places", "at"] [.d (cBk CB) pl, .d (cTup cInt) x, .d (cTup cInt) y, .d (cSeq cInt) ps]) rfl ?_
  refine HS.le (k := 0 + (0 + (0 + 0))) ?_ (by decide)
  refine bdrop (k := 0) (k2 := 0 + (0 + 0)) (pcal2 C_checkT (show (4 : Nat) ≤ 6 by decide) rfl (pd_name (i := 0) rfl rfl (.inl rfl)) (pd_name (i := 1) rfl rfl (.inr (.inl rfl))) hx (fun _ => rfl) (fun _ => rfl) (fun _ => rfl)) (fun env he => by cases env; cases he; rfl) ?_
  refine bdrop (k := 0) (k2 := 0 + 0) (pcal2 C_checkT (show (4 : Nat) ≤ 6 by decide) rfl (pd_name (i := 0) rfl rfl (.inl rfl)) (pd_name (i := 2) rfl rfl (.inr (.inl rfl))) hy (fun _ => rfl) (fun _ => rfl) (fun _ => rfl)) (fun env he => by cases env; cases he; rfl) ?_
  refine bdrop (k := 0) (k2 := 0) (pcal2 C_checkP (show (6 : Nat) ≤ 6 by decide) rfl (pd_name (i := 0) rfl rfl (.inl rfl)) (pd_name (i := 3) rfl rfl (.inr (.inl rfl))) ⟨hs, h8⟩ (fun _ => rfl) (fun _ => rfl) (fun _ => rfl)) (fun env he => by cases env; cases he; rfl) ?_
  have e : ((pl.length : Int)).toNat = x.length := by rw [Int.toNat_natCast, lx]
  refine bret (ptuple rfl U.tuple (TD.seqL (TDF.td (plcN (f := fun i => if decide (i ∈ ps) = true then atT y i else atT x i) [("at", 4)] (prng1 rfl U.range (plen rfl U.len (TD.seqT (pd_sizes T (pd_name (i := 0) rfl rfl (.inl rfl)) (fun _ => rfl))) (fun _ => rfl)) (by omega) (fun _ => rfl)) trivial (by kernel_rfl) (fun _ _ => rfl) fun i hi => ⟨_, _, (pdg_name (i := 4) trivial rfl (.inl rfl) (.inr rfl)), (fun _ h => h), (pif (tinSeq (pd_name (i := 4) rfl rfl (.inl rfl)) (pd_name (i := 3) rfl rfl (.inr (.inl rfl))) rfl) (fun _ => pix ixTG (pd_name (i := 2) rfl rfl (.inr (.inl rfl))) (pd_name (i := 4) rfl rfl (.inl rfl)) (rd_ixTd (by have := mem_rangeL.mp hi; omega)) (fun _ _ => rfl)) fun _ => pix ixTG (pd_name (i := 1) rfl rfl (.inr (.inl rfl))) (pd_name (i := 4) rfl rfl (.inl rfl)) (rd_ixTd (by have := mem_rangeL.mp hi; omega)) (fun _ _ => rfl))⟩))) (fun _ => rfl)) ?_
  rintro _ rfl
  show _ = mixL x y ps
  unfold mixL
  rw [e]
end
end K01

set_option Elab.async false
set_option linter.all false
set_option maxRecDepth 100000
set_option maxHeartbeats 4000000
namespace K01
open PySem PySem.Spec L2 DL
/-! ### TooMany, raised and caught -/
abbrev sTm : Stmt := inClass (top 7) 0
structure TTm (K : PySem.W.Frag) (mg : Str → Option Value) (CT B fI : Addr) (fdI : FuncData) : Prop where
  base : BaseI K mg "BillError" B
  T : OexC K CT
  mgN : mg "TooMany" = some (.ref CT)
  iC : PySem.W.findIn K (.ref CT) "__init__" = some (some (.ref fI))
  tI : PySem.W.typeIn K (.ref fI) = some (.type "function")
  F : Fun K "__init__" "TooMany.__init__" sTm fI fdI
  noP : PySem.W.findIn K (.ref CT) "count" = some none
  xf : XfC K CT
  exm : PySem.W.exmOne K (.ref CT) (.ref CT) = some true
def spTm (CT : Addr) : Sp := fun vs H Q _ => ∃ (a : Addr) (w : V), vs = [.ref a, w] ∧ H a = some (exo a CT none) ∧ ∀ dx, H dx = none → dx ≠ a → Q .non (upd (upd H dx (exd dx [(("count" : Str), w)])) a (exo a CT (some dx)))
def spSliceX (CB CT : Addr) : Sp := fun vs H _ E => ∃ (pl word spots : List Int) (v1 v2 v3 : V) (Hf : Hp), vs = [v1, v2, v3] ∧ Ex Hf H ∧ (cBk CB).rep Hf v1 pl ∧ (cTup cInt).rep Hf v2 word ∧ (cSeq cInt).rep Hf v3 spots ∧ Pl pl ∧ InW word pl ∧ Spt spots pl.length ∧ 100 < widthL pl spots ∧
  ∀ (d : Addr) (Hf' H' : Hp), H d = none → H' d = some (.xd [(("count" : Str), .int (widthL pl spots))]) → Hf' d = none → Fr (fun _ => False) Hf H Hf' H' → Ex Hf' H' → E (.ref CT) (some d) H'
def spTextsX (CB CT : Addr) : Sp := fun vs H _ E => ∃ (pl : List Int) (v1 : V) (Hf : Hp), vs = [v1] ∧ Ex Hf H ∧ (cBk CB).rep Hf v1 pl ∧ Pl pl ∧ 100 < prodL pl ∧
  ∀ (d : Addr) (Hf' H' : Hp), H d = none → H' d = some (.xd [(("count" : Str), .int (prodL pl))]) → Hf' d = none → Fr (fun _ => False) Hf H Hf' H' → Ex Hf' H' → E (.ref CT) (some d) H'
section
variable {X : Cx} {CX : CXT} {k : Nat} {f C : Addr} {fd : FuncData} {ps : List Str} {sp : Sp} {E : Stt → XK} {m : Str} {pos apos : Pos} {o : Expr} {ta : TE}
theorem pe_methXS0 {pl : Sem Bool} (he : PE X o ta) (c : Cls X.K C) (hm : Meth X.K C m f) (F : FnOk X.prog X.w X.K X.mg X.base CX k f fd ps sp) (hr : Room k X.A) (hb : Binds X.K fd ps []) (hx : ∀ σ, PassesAt CX X σ (E σ))
    (ht : eval (.Call (.Attribute o m apos) [] [] pos) X.env = getDot X.env o m apos pl fun g fx => callWith pos g fx (backTo pos (starEach [] X.env)) (backToKw pos (keywordEach [] X.env))) :
    PE X (.Call (.Attribute o m apos) [] [] pos) (tMethXS C m sp E ta tNil) := by
  constructor
  intro pins s σ H Q I h
  refine dot_ins (R := fun x H1 => sp [x] H1 Q (E σ)) he c hm ht I h fun a H1 s1 I1 q => ?_
  exact PySem.W.callWith_K0 (first := [.ref a]) I1.kIn hm.kp (run_fnS (us := [.ref a]) (vs := [.ref a]) F hr hb (hx σ) I1 (.cons rfl .nil) q)
end
theorem Good.tr {S : Stc} {X : Cx} (G : Good S X.nox) {pn : List (Addr × Obj)} {xe : Value → Shared → Prop} : Good S (X.tr pn xe).nox := ⟨G.N, G.sc, G.K, G.mg, G.prog, G.w, G.base, G.calm, G.room, G.fn, rfl, G.nd, G.gd⟩
theorem pa_box {X : Cx} {es : List Expr} {t : TA} (h : PA X.nox es t) : PA X es t := ⟨fun pos pins s σ H Q I hw => wpAny_mono (h.run pos pins s σ H Q (I.wish _) hw) (fun _ _ ⟨v, H', I', r, q⟩ => ⟨v, H', I'.unwish, r, q⟩) fun _ _ z => False.elim z⟩
section
variable {P : Program} {w : World} {K : PySem.W.Frag} {mg : Str → Option Value} {base : Heap} {CB CT B fI : Addr} {fdI : FuncData}
theorem ok_tm (T : TTm K mg CT B fI fdI) : FnOk P w K mg base CX0 1 fI fdI ["self", "count"] (spTm CT) := by
  refine T.F.ok (N := ["self", "count"]) ⟨rfl, rfl, rfl, by decide +kernel, rfl, by decide +kernel, by decide +kernel⟩ (fun vs H Q E h => ?_) (fun cdv A outer s H vs Q E hr h => ?_)
  · obtain ⟨a, w, rfl, _⟩ := h
    rfl
  · obtain ⟨a, w, rfl, ha, q⟩ := h
    refine ⟨_, pss_cons (ps_expr (pe_oinit (by rfl) T.base (pa_cons (pv 0) (pa_cons pe_str pa_nil)) (by decide) rfl rfl rfl) rfl) (pss_one (ps_ost (pv 0) (pv 1) rfl)), ?_⟩
    refine ⟨.ref a, rfl, a, CT, _, rfl, by simp, T.T, ha, ?_⟩
    refine ⟨w, rfl, .ref a, rfl, a, CT, rfl, T.T, T.noP, .inl ⟨ha, fun dx hd ne => q dx hd ne⟩⟩
theorem ok_sliceX {f : Addr} {fd : FuncData} (T2 : Ko2 mg) (Fu : Fun K "slice" "Book.slice" (inBk 6) f fd) (T : TBk K mg CB) (TN : TTm K mg CT B fI fdI) (C_product : Cal P w K mg base "product_of" ["numbers"] 1 P_product) (C_checkT : Cal P w K mg base "check_text" ["book", "text"] 4 (P_checkT CB)) (C_checkP : Cal P w K mg base "check_places" ["book", "places"] 6 (P_checkP CB)) :
    FnOk P w K mg base (L2.CX P w) 7 f fd ["self", "text", "places"] (spSliceX CB CT) := by
  obtain ⟨_, Ttexts⟩ := T2.texts
  refine Fu.okX scSlice (fun vs H Q E h => ?_) (fun cdv Ar outer s H vs Q E hr h => ?_)
  · obtain ⟨pl, word, spots, v1, v2, v3, Hf, rfl, _⟩ := h
    rfl
  · obtain ⟨pl, word, spots, v1, v2, v3, Hf, rfl, ex, r1, r2, r3, hpl, hw, hs, hn, q⟩ := h
    have h8 := hpl.1.2
    have G := cxGX (CX := L2.CX P w) (P := P) (w := w) (K := K) (mg := mg) (base := base) (qual := "Book.slice") (st := inBk 6) (f := f) (cdv := cdv) (A := Ar) (outer := outer) (s := s) (H := H) (E := E) (lv := 6) hr scSlice.nd
    refine ⟨_, pss_app (l1 := (defBody (inBk 6)).take 3) (PSs.nox (tSs_ok G)) (pss_cons (ps_if (PT.nox (tT_ok G)) (pss_one (ps_raise rfl (takes_of rfl rfl rfl rfl) (pmk_oex TN.T TN.iC TN.tI (ok_tm TN) (hr.mono (by decide)) (TN.F.binds (fun _ _ _ _ _ _ us hl => match us, hl with | [_, _], _ => rfl)) .nil pass0 (by rfl) TN.mgN (pa_cons (pv 3) pa_nil)))) pss_nil) (PSs.nox (tSs_ok G))), ?_⟩
    have h1 : PHs (ρ := Unit) ⟨nSlice, defScope (inBk 6), K, mg, P, w, base, 6, fun _ => true, false⟩ (entry nSlice [.d (cBk CB) pl, .d (cTup cInt) word, .d (cSeq cInt) spots]) 0 ((defBody (inBk 6)).take 3)
        { N := fun Γ => Γ = [.d (cBk CB) pl, .d (cTup cInt) word, .d (cSeq cInt) spots, .d cInt (widthL pl spots), .un, .un, .un, .un, .un, .un], bk := fun _ => False, ct := fun _ => False, c := cNon, R := fun _ => False } := by
      refine HS.le (k := 0 + (0 + (0 + 0))) ?_ (by decide)
      refine bdrop (k := 0) (k2 := 0 + (0 + 0)) (pcal2 C_checkT (show (4 : Nat) ≤ 6 by decide) rfl (pd_name (i := 0) rfl rfl (.inr (.inl rfl))) (pd_name (i := 1) rfl rfl (.inl rfl)) hw (fun _ => rfl) (fun _ => rfl) (fun _ => rfl)) (fun env he => by cases env; cases he; rfl) ?_
      refine bdrop (k := 0) (k2 := 0 + 0) (pcal2 C_checkP (show (6 : Nat) ≤ 6 by decide) rfl (pd_name (i := 0) rfl rfl (.inr (.inl rfl))) (pd_name (i := 2) rfl rfl (.inl rfl)) ⟨hs, h8⟩ (fun _ => rfl) (fun _ => rfl) (fun _ => rfl)) (fun env he => by cases env; cases he; rfl) ?_
      refine bset (k := 0) (k2 := 0) 3 (pcal1 C_product (show (1 : Nat) ≤ 6 by decide) rfl (TD.seqL (TDF.td (plcN (f := atT pl) [("place", 5)] (pdi_seq (pd_name (i := 2) rfl rfl (.inl rfl))) trivial (by kernel_rfl) (fun _ _ => rfl) fun x hx => ⟨_, _, (pdg_name (i := 5) trivial rfl (.inl rfl) (.inr rfl)), (fun _ h => h), (pix ixTG (pd_sizes T (pd_name (i := 0) rfl rfl (.inr (.inl rfl))) (fun _ => rfl)) (pd_name (i := 5) rfl rfl (.inl rfl)) (rd_ixTd (hs.2 x hx)) (fun _ _ => rfl))⟩))) (sizes_ok hpl hs) (fun _ => rfl) (fun _ => rfl)) trivial rfl (.inl rfl) (fun env he => by cases env; cases he; rfl) (.inl rfl) ?_
      rintro _ rfl
      exact phs_nil rfl
    have S0 : Sat ⟨fun z' => Sl.bx z' ∈ ([.d (cBk CB) pl, .d (cTup cInt) word, .d (cSeq cInt) spots] : Ctxt), Hf, H⟩ Hf H (start nSlice [v1, v2, v3]) (entry nSlice [.d (cBk CB) pl, .d (cTup cInt) word, .d (cSeq cInt) spots]) 0 := sat_entry (show (3 : Nat) ≤ 10 by decide) ⟨r1, r2, r3, trivial⟩ trivial ex fun z hz => by simp at hz
    refine h1 _ 0 _ Hf H (Nat.zero_le _) S0 _ (fun σ1 Hf1 H1 Γ1 eΓ f1 => ?_) (fun _ _ _ _ z _ => z.elim) (fun _ _ _ _ z _ => z.elim) fun _ _ _ _ _ _ z _ _ => z.elim
    subst eΓ
    refine (tcmp (S := ⟨nSlice, defScope (inBk 6), K, mg, P, w, base, 6, fun _ => true, false⟩) (fun _ _ => op_gt) (pd_name (i := 3) rfl rfl (.inl rfl)) (pd_glob rfl (v := .int 100) (c := cInt) (y := 100) Ttexts ⟨_, rfl⟩ (fun _ => rfl)) rd_B0 (nomark _)) _ 0 σ1 Hf1 H1 (Nat.zero_le _) f1.sat _ fun b Hf2 H2 pb f2 S2 => ?_
    have hb : b = true := by rw [pb]; exact decide_eq_true hn
    subst hb
    refine iteT ?_
    obtain ⟨v, e1, e2⟩ := S2.at_ 3 _ rfl
    obtain rfl := e2
    refine ⟨.int (widthL pl spots), e1, by simp, fun a ha => ⟨a, .int (widthL pl spots), rfl, upd_same, fun dx hdx ne => ⟨rfl, dx, [(("count" : Str), .int (widthL pl spots))], upd_same, by rw [upd_ne ne, upd_same], ?_, ?_⟩⟩⟩
    · rw [upd_ne ne] at hdx; exact hdx
    · rw [upd_ne ne] at hdx
      have F := S2.fr
      have noM : ∀ x, ¬ Sl.bx x ∈ ([.d (cBk CB) pl, .d (cTup cInt) word, .d (cSeq cInt) spots] : Ctxt) := fun x hx => by simp at hx
      refine q dx Hf2 _ (F.dom dx hdx) upd_same (S2.ex.back hdx) ⟨F.ex, fun x o hx _ => ?_, fun x o hx _ hz => F.fz x o hx (noM x) hz, fun x hx => ?_⟩ fun x o hx => ?_
      · have k := F.keep x o hx (noM x)
        have xa : x ≠ a := ne_of_none k ha
        have xd : x ≠ dx := ne_of_none k hdx
        rw [upd_ne xd, del_ne xa, upd_ne xa, upd_ne xd, upd_ne xa]; exact k
      · by_cases xd : x = dx
        · subst xd; rw [upd_same] at hx; cases hx
        · by_cases xa : x = a
          · subst xa; exact F.dom x ha
          · rw [upd_ne xd, del_ne xa, upd_ne xa, upd_ne xd, upd_ne xa] at hx; exact F.dom x hx
      · have k := S2.ex x o hx
        have xa : x ≠ a := ne_of_none k ha
        have xd : x ≠ dx := ne_of_none k hdx
        rw [upd_ne xd, del_ne xa, upd_ne xa, upd_ne xd, upd_ne xa]; exact k
variable (U : Bt mg)
include U
theorem ok_textsX {f g : Addr} {fd fdS : FuncData} (Fu : Fun K "texts" "Book.texts" (inBk 5) f fd) (T : TBk K mg CB) (Fs : Fun K "slice" "Book.slice" (inBk 6) g fdS) (hm : Meth K CB "slice" g) (OS : FnOk P w K mg base (L2.CX P w) 7 g fdS ["self", "text", "places"] (spSliceX CB CT)) :
    FnOk P w K mg base (L2.CX P w) 8 f fd ["self"] (spTextsX CB CT) := by
  refine Fu.okX (N := ["self"]) ⟨rfl, rfl, rfl, by decide +kernel, rfl, by decide +kernel, by decide +kernel⟩ (fun vs H Q E h => ?_) (fun cdv Ar outer s H vs Q E hr h => ?_)
  · obtain ⟨pl, v1, Hf, rfl, _⟩ := h
    rfl
  · obtain ⟨pl, v1, Hf, rfl, ex, r1, hpl, hn, q⟩ := h
    have h8 := hpl.1.2
    have G := cxGX (N := ["self"]) (CX := L2.CX P w) (P := P) (w := w) (K := K) (mg := mg) (base := base) (qual := "Book.texts") (st := inBk 5) (f := f) (cdv := cdv) (A := Ar) (outer := outer) (s := s) (H := H) (E := E) (lv := 7) hr (by decide)
    refine ⟨_, pss_one (ps_ret (pe_methXS (pv 0) T.k.cl hm OS hr (Fs.binds (fun _ _ _ _ _ _ us hl => match us, hl with | [_, _, _], _ => rfl)) (fun σ => passAt (takes_of rfl rfl rfl rfl) σ) (pa_box (tA_ok G)) rfl rfl rfl)), ?_⟩
    obtain ⟨a1, dx1, fs1, e1, e2, e3⟩ := id r1
    refine ⟨v1, rfl, a1, dx1, fs1, e1, ex _ _ e2, hno_Bk (by decide +kernel) _ _ _ e3, ?_⟩
    have S0 : Sat ⟨fun z' => Sl.bx z' ∈ ([.d (cBk CB) pl] : Ctxt), Hf, H⟩ Hf H (start ["self"] [v1]) (entry ["self"] [.d (cBk CB) pl]) 0 := sat_entry (show (1 : Nat) ≤ 1 by decide) ⟨r1, trivial⟩ trivial ex fun z hz => by simp at hz
    refine pda_more (S := ⟨["self"], defScope (inBk 5), K, mg, P, w, base, 7, fun _ => true, false⟩) (Γ := entry ["self"] [.d (cBk CB) pl]) (k1 := 0) (k2 := 0) (x := List.replicate pl.length 0) (ptuple rfl U.tuple (TD.seqL (pzeros U (plen rfl U.len (TD.seqT (pd_sizes T (pd_name (i := 0) rfl rfl (.inl rfl)) (fun _ => rfl))) (fun _ => rfl)) h8)) (fun _ => rfl)) (pda_one (x := rangeL 0 pl.length) (TD.seqL (TDF.td (plrg1 rfl U.list rfl U.range (plen rfl U.len (TD.seqT (pd_sizes T (pd_name (i := 0) rfl rfl (.inl rfl)) (fun _ => rfl))) (fun _ => rfl)) (by omega) (fun _ => rfl) (fun _ => rfl)))) (fun _ => rfl)) (fun _ => rfl) _ 0 _ Hf H (Nat.zero_le _) S0 _ fun vs Hf1 H1 as b o _ f1 S1 => ?_
    subst b
    match vs, o with
    | [v2, v3], ⟨r2, r3, _⟩ =>
    have noM : ∀ x, ¬ Sl.bx x ∈ ([.d (cBk CB) pl] : Ctxt) := fun x hx => by simp at hx
    refine ⟨pl, List.replicate pl.length 0, rangeL 0 pl.length, v1, v2, v3, Hf1, rfl, S1.ex, (cBk CB).mono f1.ex r1, r2, r3, hpl, zeros_in hpl, sp_range _, by rw [width_all]; exact hn, fun d Hf' H' hd h1 h2 F e' => ?_⟩
    rw [width_all] at h1
    have F1 : Fr (fun _ => False) Hf H Hf1 H1 := S1.fr.mono fun x z => (noM x z).elim
    exact q d Hf' H' (F1.dom d hd) h1 h2 (F1.trans F fun _ z => .inl z) e'
end
end K01

set_option Elab.async false
set_option linter.all false
set_option maxRecDepth 100000
set_option maxHeartbeats 4000000
namespace K01
open PySem PySem.Spec L2 DL
/-! ### what is told -/
abbrev cMany : Cod (Unit × Int) := cL2 (cS1 "many") cInt
abbrev cRows : Cod (List (List Int)) := cList (cTup cInt)
/-- a new list with one new list -/
def spOne {A : Type} (ps : A → Ctxt) (pre : A → Prop) (rows : A → List (List Int)) : Sp := fun vs H Q _ => ∃ (a : A) (Hf : Hp), pre a ∧ Ex Hf H ∧ ArgsOk Hf vs (ps a) ∧
  ∀ (r l : Addr) (ws : List V) (Hf' H' : Hp), H r = none → H l = none → r ≠ l → H' r = some (.lst [.ref l]) → H' l = some (.lst ws) → Hf' r = none → Hf' l = none → Paired ((cTup cInt).rep Hf') ws (rows a) → ws.length ≤ LB → Fr (fun _ => False) Hf H Hf' H' → Ex Hf' H' → Q (.ref r) H'
abbrev sAll : Stmt := top 37
abbrev sSlc : Stmt := top 38
abbrev nAll : List Str := ["book", "e"]
abbrev nSlc : List Str := ["book", "word", "spots", "named", "e"]
theorem scAll : FnScope nAll ["book"] (defScope sAll) := ⟨rfl, rfl, rfl, by decide +kernel, rfl, by decide +kernel, by decide +kernel⟩
theorem scSlc : FnScope nSlc ["book", "word", "spots", "named"] (defScope sSlc) := ⟨rfl, rfl, rfl, by decide +kernel, rfl, by decide +kernel, by decide +kernel⟩
abbrev psAll (CB : Addr) : List Int → Ctxt := fun a => [.d (cBk CB) a]
abbrev ASlc : Type := List Int × List Int × List Int × Bool
abbrev psSlc (CB : Addr) : ASlc → Ctxt := fun a => [.d (cBk CB) a.1, .d (cTup cInt) a.2.1, .d (cSeq cInt) a.2.2.1, .d cBool a.2.2.2]
abbrev allRows (pl : List Int) : List (List Int) := rowsL pl (List.replicate pl.length 0) (rangeL 0 pl.length) (rangeL 0 pl.length)
abbrev slcRows (pl word spots : List Int) : List (List Int) := rowsL pl word spots (rangeL 0 pl.length)
section
variable {P : Program} {w : World} {K : PySem.W.Frag} {mg : Str → Option Value} {base : Heap} {CB CT B fI : Addr} {fdI : FuncData}
/-! few -/
abbrev P_allD (CB : Addr) : Sp := spP (psAll CB) (fun a => Pl a ∧ prodL a ≤ 100) (cList cRows) (fun a => [allRows a])
theorem c_allD (D : Def K mg "_law_all_told" sAll) (T : TBk K mg CB) (M : MCal P w K mg base CB "texts" ["self"] 8 (P_texts CB)) : Cal P w K mg base "_law_all_told" ["book"] 9 (P_allD CB) := by
  refine cal_D (N := nAll) D (fun _ _ _ _ _ _ us hl => match us, hl with | [_], _ => rfl) scAll (fun _ _ => rfl) (by decide) (fun _ _ => trivial) fun b a hp => ?_
  exact phs_one (ph_try_thru (bret (TDF.td (plst (.cons (TDF.td (pm0F M T.k.cl (show (8 : Nat) ≤ 8 by decide) (pd_name (i := 0) rfl rfl (.inl rfl)) (hno_Bk (by decide +kernel)) hp (fun _ => rfl))) .nil (fun _ => rfl)) (by simp))) fun _ h => h))
abbrev P_allR (CB : Addr) : Sp := spOne (psAll CB) (fun a => Pl a ∧ prodL a ≤ 100) allRows
theorem lay1 {O : Org} {n : Nat} {Γ : Ctxt} {σ : Stt} {Hf H : Hp} {te : TE} {rows : List (List Int)} {Q : VK} (no : NoB Γ) (h : TDF te Γ 0 (cTup cInt) (· = rows)) (hn : n + 0 ≤ LIM) (S : Sat O Hf H σ Γ n)
    (q : ∀ (r l : Addr) (ws : List V) (Hf' H' : Hp), H r = none → H l = none → r ≠ l → H' r = some (.lst [.ref l]) → H' l = some (.lst ws) → Hf' r = none → Hf' l = none → Paired ((cTup cInt).rep Hf') ws rows → ws.length ≤ LB → Fr (fun _ => False) Hf H Hf' H' → Ex Hf' H' → Q (.ref r) H') : tLst (tCons te tNil) σ H Q :=
  h O n σ Hf H hn S _ fun a vs Hf1 H1 xs px h1 h2 h3 pr lb f s => by
    subst px
    refine ⟨by show 1 ≤ sizeLine; decide, fun p hp => ?_⟩
    have pa : p ≠ a := fun z => by subst z; rw [h1] at hp; cases hp
    have f0 : Fr (fun _ => False) Hf H Hf1 H1 := f.mono fun x ⟨i, hi⟩ => (noB_at no hi).elim
    exact q p a vs Hf1 _ (f.dom p hp) h3 pa upd_same (by rw [upd_ne pa.symm]; exact h1) (s.ex.back hp) h2 pr lb (f0.trans (Fr.newO hp) fun _ z => .inl z) (s.ex.trans (Ex.new hp))
theorem c_allR (D : Def K mg "_law_all_told" sAll) (T : TBk K mg CB) (M : MCal P w K mg base CB "texts" ["self"] 8 (P_texts CB)) : Cal P w K mg base "_law_all_told" ["book"] 9 (P_allR CB) := by
  refine cal_of D (fun _ _ _ _ _ _ us hl => match us, hl with | [_], _ => rfl) fun f fd Fu => ?_
  refine Fu.ok scAll (fun vs H Q E h => ?_) (fun cdv Ar outer s H vs Q E hr h => ?_)
  · obtain ⟨a, Hf, _, _, o, _⟩ := h
    rw [argsOk_len o]; rfl
  · obtain ⟨a, Hf, hp, ex, o, q⟩ := h
    have G := cxG (P := P) (w := w) (K := K) (mg := mg) (base := base) (qual := "_law_all_told") (st := sAll) (f := f) (cdv := cdv) (A := Ar) (outer := outer) (s := s) (H := H) (E := E) (lv := 8) hr scAll.nd
    refine ⟨_, pss_one (ps_try_thru0 (pss_one (ps_ret (pe_lst (pa_cons (tE_ok G.nx) pa_nil))))), ?_⟩
    have S0 : Sat ⟨fun z' => Sl.bx z' ∈ psAll CB a, Hf, H⟩ Hf H (start nAll vs) (entry nAll (psAll CB a)) 0 := sat_entry (show (1 : Nat) ≤ 2 by decide) o trivial ex fun z hz => by simp at hz
    exact lay1 (Γ := entry nAll (psAll CB a)) trivial (pm0F (S := ⟨nAll, defScope sAll, K, mg, P, w, base, 8, fun _ => true, false⟩) M T.k.cl (show (8 : Nat) ≤ 8 by decide) (pd_name (i := 0) rfl rfl (.inl rfl)) (hno_Bk (by decide +kernel)) hp (fun _ => rfl)) (Nat.zero_le _) S0 q
abbrev preSlc (b : Bool) : ASlc → Prop := fun a => a.2.2.2 = b ∧ Pl a.1 ∧ InW a.2.1 a.1 ∧ Spt a.2.2.1 a.1.length ∧ widthL a.1 a.2.2.1 ≤ 100
abbrev P_slcR (CB : Addr) : Sp := spOne (psSlc CB) (preSlc false) (fun a => slcRows a.1 a.2.1 a.2.2.1)
theorem c_slcR (D : Def K mg "_law_slice_told" sSlc) (T : TBk K mg CB) (M : MB2 P w K mg base CB "slice" "text" "places" 7 (P_slice CB)) : Cal P w K mg base "_law_slice_told" ["book", "word", "spots", "named"] 8 (P_slcR CB) := by
  refine cal_of D (fun _ _ _ _ _ _ us hl => match us, hl with | [_, _, _, _], _ => rfl) fun f fd Fu => ?_
  refine Fu.ok scSlc (fun vs H Q E h => ?_) (fun cdv Ar outer s H vs Q E hr h => ?_)
  · obtain ⟨a, Hf, _, _, o, _⟩ := h
    rw [argsOk_len o]; rfl
  · obtain ⟨a, Hf, ⟨hb, hp⟩, ex, o, q⟩ := h
    have G := cxG (P := P) (w := w) (K := K) (mg := mg) (base := base) (qual := "_law_slice_told") (st := sSlc) (f := f) (cdv := cdv) (A := Ar) (outer := outer) (s := s) (H := H) (E := E) (lv := 7) hr scSlc.nd
    refine ⟨_, pss_one (ps_try_thru0 (pss_cons (ps_if (tT_ok G.nx) (tSs_ok G.nx) pss_nil) (pss_one (ps_ret (pe_lst (pa_cons (tE_ok G.nx) pa_nil)))))), ?_⟩
    have S0 : Sat ⟨fun z' => Sl.bx z' ∈ psSlc CB a, Hf, H⟩ Hf H (start nSlc vs) (entry nSlc (psSlc CB a)) 0 := sat_entry (show (4 : Nat) ≤ 5 by decide) o trivial ex fun z hz => by simp at hz
    refine pdt_val (S := ⟨nSlc, defScope sSlc, K, mg, P, w, base, 7, fun _ => true, false⟩) (Γ := entry nSlc (psSlc CB a)) (P := (· = a.2.2.2)) (pd_name (i := 3) rfl rfl (.inl rfl)) (fun _ _ => rfl) _ 0 _ Hf H (Nat.zero_le _) S0 _ fun b Hf1 H1 pb f1 S1 => ?_
    have hbf : b = false := pb.trans hb
    subst hbf
    refine iteF ?_
    unfold tNext
    dsimp only
    have f0 : Fr (fun _ => False) Hf H Hf1 H1 := f1.mono fun x ⟨i, hi⟩ => (noB_at (Γ := entry nSlc (psSlc CB a)) trivial hi).elim
    exact lay1 (Γ := entry nSlc (psSlc CB a)) trivial (pm2F (S := ⟨nSlc, defScope sSlc, K, mg, P, w, base, 7, fun _ => true, false⟩) M T.k.cl (show (7 : Nat) ≤ 7 by decide) (pd_name (i := 0) rfl rfl (.inl rfl)) (pd_name (i := 1) rfl rfl (.inl rfl)) (pd_name (i := 2) rfl rfl (.inl rfl)) (hno_Bk (by decide +kernel)) hp (fun _ => rfl) (fun _ => rfl) (fun _ => rfl) (fun _ => rfl)) (Nat.zero_le _) S1 fun r l ws Hf' H' h1 h2 h3 h4 h5 h6 h7 pr lb F e' => q r l ws Hf' H' (f0.dom r h1) (f0.dom l h2) h3 h4 h5 h6 h7 pr lb (f0.trans F fun _ z => .inl z) e'
variable (U : Bt mg)
include U
abbrev P_slcD (CB : Addr) : Sp := spP (psSlc CB) (preSlc true) (cList cRows) (fun a => [slcRows a.1 a.2.1 a.2.2.1])
theorem c_slcD (D : Def K mg "_law_slice_told" sSlc) (T : TBk K mg CB) (M : MB2 P w K mg base CB "slice" "text" "places" 7 (P_slice CB)) : Cal P w K mg base "_law_slice_told" ["book", "word", "spots", "named"] 8 (P_slcD CB) := by
  refine cal_D (N := nSlc) D (fun _ _ _ _ _ _ us hl => match us, hl with | [_, _, _, _], _ => rfl) scSlc (fun _ _ => rfl) (by decide) (fun _ _ => trivial) fun b a hp => ?_
  obtain ⟨hb, hp⟩ := hp
  refine phs_one (ph_try_thru ?_)
  refine HS.le (k := 0 + max 0 0) ?_ (by decide)
  refine bifR (k1 := 0) (k2 := 0) (k3 := 0) (pdt_val (P := (· = a.2.2.2)) (pd_name (i := 3) rfl rfl (.inl rfl)) (fun _ _ => rfl)) (fun _ => ?_) fun h => ?_
  · exact bret (TDF.td (plst (.cons (TDF.td (pm2kF M T.k.cl (show (7 : Nat) ≤ 7 by decide) (pd_name (i := 0) rfl rfl (.inl rfl)) (TD.seqT (ptuple rfl U.tuple (pd_name (i := 2) rfl rfl (.inl rfl)) (fun _ => rfl))) (pd_name (i := 1) rfl rfl (.inl rfl)) (hno_Bk (by decide +kernel)) hp (fun _ => rfl) (fun _ => rfl) (fun _ => rfl) (fun _ => rfl))) .nil (fun _ => rfl)) (by simp))) fun _ h => h
  · rw [hb] at h; cases h
omit U
/-! many -/
abbrev P_allM (CB : Addr) : Sp := spP (psAll CB) (fun a => Pl a ∧ 100 < prodL a) cMany (fun a => ((), prodL a))
theorem c_allM {g : Addr} {fdT : FuncData} (D : Def K mg "_law_all_told" sAll) (T : TBk K mg CB) (TN : TTm K mg CT B fI fdI) (Ft : Fun K "texts" "Book.texts" (inBk 5) g fdT) (hm : Meth K CB "texts" g) (OT : FnOk P w K mg base (L2.CX P w) 8 g fdT ["self"] (spTextsX CB CT)) :
    Cal P w K mg base "_law_all_told" ["book"] 9 (P_allM CB) := by
  refine cal_of D (fun _ _ _ _ _ _ us hl => match us, hl with | [_], _ => rfl) fun f fd Fu => ?_
  refine Fu.ok scAll (fun vs H Q E h => ?_) (fun cdv Ar outer s H vs Q E hr h => ?_)
  · obtain ⟨a, b, n, Hf, _, _, _, o, _⟩ := h
    rw [argsOk_len o]; rfl
  · obtain ⟨a, b, n, Hf, ⟨hpl, hn⟩, _, ex, o, _, q⟩ := h
    match vs, o with
    | [v1], ⟨r1, _⟩ =>
    refine ⟨_, pss_one (ps_try_as (i := 1) rfl rfl scAll.nd rfl rfl ⟨rfl, by decide, .inl TN.mgN⟩ takes0
      (fun W pn xe tk _ => pss_one (ps_ret (pe_lst (pa_cons (pe_methXS0 (pv 0) T.k.cl hm OT hr (Ft.binds (fun _ _ _ _ _ _ us hl => match us, hl with | [_], _ => rfl)) (fun σ => passAt tk σ) rfl) pa_nil))))
      (fun a oe cls d pn hz hf => pss_one (ps_ret (pe_lst (pa_cons pe_str (pa_cons (pe_xf TN.xf TN.noP hz hf (pv 1)) pa_nil)))))), ?_⟩
    obtain ⟨a1, dx1, fs1, e1, e2, e3⟩ := id r1
    refine ⟨v1, rfl, a1, dx1, fs1, e1, ex _ _ e2, hno_Bk (by decide +kernel) _ _ _ e3, ?_⟩
    refine ⟨a, v1, Hf, rfl, ex, r1, hpl, hn, fun d Hf' H' hd h1 h3 F e' => ?_⟩
    refine ⟨true, TN.exm, fun _ a' ha => ?_, fun z => nomatch z⟩
    refine ⟨_, rfl, rfl, rfl, d, _, .int (prodL a), rfl, h1, rfl, by show 2 ≤ sizeLine; decide, fun p hp => ?_⟩
    have hpf : Hf' p = none := e'.back hp
    exact q _ (upd Hf' p (.lst [.str "many", .int (prodL a)])) _ _ rfl ⟨p, _, _, rfl, upd_same, rfl, rfl⟩ ((F.trans (Fr.new e' hp) fun _ z => .inl z).mono fun _ z => z.elim) (e'.both hpf) fun z hz => by simp at hz
abbrev preSlcM : ASlc → Prop := fun a => Pl a.1 ∧ InW a.2.1 a.1 ∧ Spt a.2.2.1 a.1.length ∧ 100 < widthL a.1 a.2.2.1
abbrev P_slcM (CB : Addr) : Sp := spP (psSlc CB) preSlcM cMany (fun a => ((), widthL a.1 a.2.2.1))
end
end K01

set_option Elab.async false
set_option linter.all false
set_option maxRecDepth 100000
set_option maxHeartbeats 4000000
namespace K01
open PySem PySem.Spec L2 DL
section
variable {P : Program} {w : World} {K : PySem.W.Frag} {mg : Str → Option Value} {base : Heap} {CB CT B fI : Addr} {fdI : FuncData}
theorem kb_slice {g : Addr} {fdT : FuncData} (Ft : Fun K "slice" "Book.slice" (inBk 6) g fdT) : KBinds K fdT ["self", "text", "places"] ["places", "text"] gs2 gs2 := by
  obtain ⟨oc, od, kV, doc, pm, an, cdv, ct, osl, rfl, lk, hcd⟩ := Ft.ex
  exact kbs2 fun a b c => rfl
variable (U : Bt mg)
include U
theorem c_slcM {g : Addr} {fdT : FuncData} (D : Def K mg "_law_slice_told" sSlc) (T : TBk K mg CB) (TN : TTm K mg CT B fI fdI) (Ft : Fun K "slice" "Book.slice" (inBk 6) g fdT) (hm : Meth K CB "slice" g) (OT : FnOk P w K mg base (L2.CX P w) 7 g fdT ["self", "text", "places"] (spSliceX CB CT)) :
    Cal P w K mg base "_law_slice_told" ["book", "word", "spots", "named"] 8 (P_slcM CB) := by
  refine cal_of D (fun _ _ _ _ _ _ us hl => match us, hl with | [_, _, _, _], _ => rfl) fun f fd Fu => ?_
  refine Fu.ok scSlc (fun vs H Q E h => ?_) (fun cdv Ar outer s H vs Q E hr h => ?_)
  · obtain ⟨a, b, n, Hf, _, _, _, o, _⟩ := h
    rw [argsOk_len o]; rfl
  · obtain ⟨⟨pl, word, spots, nm⟩, b, n, Hf, ⟨hpl, hw, hs, hn⟩, _, ex, o, _, q⟩ := h
    have hpl : Pl pl := hpl
    have hw : InW word pl := hw
    have hs : Spt spots pl.length := hs
    have hn : 100 < widthL pl spots := hn
    have G := cxG (P := P) (w := w) (K := K) (mg := mg) (base := base) (qual := "_law_slice_told") (st := sSlc) (f := f) (cdv := cdv) (A := Ar) (outer := outer) (s := s) (H := H) (E := E) (lv := 7) hr scSlc.nd
    have S0 : Sat ⟨fun z' => Sl.bx z' ∈ psSlc CB (pl, word, spots, nm), Hf, H⟩ Hf H (start nSlc vs) (entry nSlc (psSlc CB (pl, word, spots, nm))) 0 := sat_entry (show (4 : Nat) ≤ 5 by decide) o trivial ex fun z hz => by simp at hz
    match vs, o with
    | [v1, v2, v3, v4], ⟨r1, r2, r3, r4, _⟩ =>
    refine ⟨_, pss_one (ps_try_as (i := 4) rfl rfl scSlc.nd rfl rfl ⟨rfl, by decide, .inl TN.mgN⟩ takes0
      (fun W pn xe tk _ => pss_cons (ps_if (PT.nox (tT_ok (Good.tr G.nx))) (pss_one (ps_ret (pe_lst (pa_cons (pe_methKS (pv 0) T.k.cl hm OT hr (kb_slice Ft) (fun σ => passAt tk σ) (pk_cons (PE.nox (tE_ok (Good.tr G.nx))) (pk_cons (pv 1) pk_nil)) rfl rfl rfl rfl) pa_nil)))) pss_nil)
        (pss_one (ps_ret (pe_lst (pa_cons (pe_methXS (pv 0) T.k.cl hm OT hr (Ft.binds (fun _ _ _ _ _ _ us hl => match us, hl with | [_, _, _], _ => rfl)) (fun σ => passAt tk σ) (pa_cons (pv 1) (pa_cons (pv 2) pa_nil)) rfl rfl rfl) pa_nil)))))
      (fun a oe cls d pn hz hf => pss_one (ps_ret (pe_lst (pa_cons pe_str (pa_cons (pe_xf TN.xf TN.noP hz hf (pv 4)) pa_nil)))))), ?_⟩
    obtain ⟨a1, dx1, fs1, e1, e2, e3⟩ := id r1
    -- what comes behind the exception
    have fin : ∀ (Hf1 H1 : Hp), Fr (fun _ => False) Hf H Hf1 H1 → ∀ (d : Addr) (Hf' H' : Hp), H1 d = none → H' d = some (.xd [(("count" : Str), .int (widthL pl spots))]) → Hf' d = none → Fr (fun _ => False) Hf1 H1 Hf' H' → Ex Hf' H' → ∀ p, H' p = none → Q (.ref p) (upd H' p (.lst [.str "many", .int (widthL pl spots)])) := fun Hf1 H1 F1 d Hf' H' hd h1 h3 F e' p hp => by
      have hpf : Hf' p = none := e'.back hp
      exact q _ (upd Hf' p (.lst [.str "many", .int (widthL pl spots)])) _ ((), widthL pl spots) rfl ⟨p, _, _, rfl, upd_same, rfl, rfl⟩ (((F1.trans F fun _ z => .inl z).trans (Fr.new e' hp) fun _ z => .inl z).mono fun _ z => z.elim) (e'.both hpf) fun z hz => by simp at hz
    refine pdt_val (S := ⟨nSlc, defScope sSlc, K, mg, P, w, base, 7, fun _ => true, false⟩) (Γ := entry nSlc (psSlc CB (pl, word, spots, nm))) (P := (· = nm)) (pd_name (i := 3) rfl rfl (.inl rfl)) (fun _ _ => rfl) _ 0 _ Hf H (Nat.zero_le _) S0 _ fun b Hf1 H1 pb f1 S1 => ?_
    subst pb
    have F1 : Fr (fun _ => False) Hf H Hf1 H1 := f1.mono fun x ⟨i, hi⟩ => (noB_at (Γ := entry nSlc (psSlc CB (pl, word, spots, b))) trivial hi).elim
    have eA := F1.ex _ _ e2
    cases b with
    | true =>
      refine iteT ?_
      refine ⟨v1, rfl, a1, dx1, fs1, e1, S1.ex _ _ eA, hno_Bk (by decide +kernel) _ _ _ e3, ?_⟩
      refine ptuple (S := ⟨nSlc, defScope sSlc, K, mg, P, w, base, 7, fun _ => true, false⟩) (Γ := entry nSlc (psSlc CB (pl, word, spots, true))) rfl U.tuple (pd_name (c := cSeq cInt) (y := spots) (i := 2) rfl rfl (.inl rfl)) (fun _ => rfl) _ 0 _ Hf1 H1 (Nat.zero_le _) S1 _ fun vt Hf2 H2 x px rt f2 S2 => ?_
      subst px
      have F2 : Fr (fun _ => False) Hf1 H1 Hf2 H2 := f2.mono fun z ⟨i, hi⟩ => (noB_at (Γ := entry nSlc (psSlc CB (pl, word, x, true))) trivial hi).elim
      refine ⟨v2, rfl, ?_⟩
      refine ⟨pl, word, x, v1, v2, vt, Hf2, rfl, S2.ex, (cBk CB).mono (F1.ex.trans F2.ex) r1, (cTup cInt).mono (F1.ex.trans F2.ex) r2, .inr rt, hpl, hw, hs, hn, fun d Hf' H' hd h1 h3 F e' => ?_⟩
      refine ⟨true, TN.exm, fun _ a' ha => ?_, fun z => nomatch z⟩
      exact ⟨_, rfl, rfl, rfl, d, _, .int (widthL pl x), rfl, h1, rfl, by show 2 ≤ sizeLine; decide, fun p hp => fin Hf2 H2 (F1.trans F2 fun _ z => .inl z) d Hf' H' hd h1 h3 F e' p hp⟩
    | false =>
      refine iteF ?_
      refine ⟨v1, rfl, a1, dx1, fs1, e1, S1.ex _ _ eA, hno_Bk (by decide +kernel) _ _ _ e3, v2, rfl, v3, rfl, ?_⟩
      refine ⟨pl, word, spots, v1, v2, v3, Hf1, rfl, S1.ex, (cBk CB).mono F1.ex r1, (cTup cInt).mono F1.ex r2, (cSeq cInt).mono F1.ex r3, hpl, hw, hs, hn, fun d Hf' H' hd h1 h3 F e' => ?_⟩
      refine ⟨true, TN.exm, fun _ a' ha => ?_, fun z => nomatch z⟩
      exact ⟨_, rfl, rfl, rfl, d, _, .int (widthL pl spots), rfl, h1, rfl, by show 2 ≤ sizeLine; decide, fun p hp => fin Hf1 H1 F1 d Hf' H' hd h1 h3 F e' p hp⟩
end
end K01

set_option Elab.async false
set_option linter.all false
set_option maxRecDepth 100000
set_option maxHeartbeats 4000000
namespace K01
open PySem PySem.Spec L2 DL
/-! ### what draws -/
theorem erase_perm {α : Type} : ∀ {l : List α} {i : Nat} (h : i < l.length), (l[i] :: l.eraseIdx i).Perm l
  | x :: l, 0, _ => .refl _
  | x :: l, i + 1, h => by
    have h' : i < l.length := by simpa using h
    show (l[i] :: x :: l.eraseIdx i).Perm (x :: l)
    exact (List.Perm.swap x l[i] _).trans ((erase_perm h').cons x)
section
variable {S : Stc} {Γ : Ctxt} {e : Expr} {pos pn pb : Pos}
theorem ptake {i : Nat} {z : Addr} {m : Int} {bn : Str} (C_take : Cal S.prog S.w S.K S.mg S.base "_law_take" ["box", "many"] 1 spTake) (hl : 1 ≤ S.lv) (hg : S.sc.names.lookup ("_law_take" : Str) = some .globalImplicit) (hΓ : Γ[i]? = some (.bx z)) (hN : S.N[i]? = some bn) (hv : Vis S.sc bn) (h : PD S Γ 0 e cInt (· = m)) (hm : 0 < m ∧ m < 1073741824)
    (he : ∀ env : Env, starEach [.Name bn pb, e] env = (false, eval (.Name bn pb) env) :: starEach [e] env) (he2 : ∀ env : Env, starEach [e] env = (false, eval e env) :: starEach [] env) (hpl : ∀ env : Env, (backTo pos (starEach [e] env)).any (·.1) = false) (hd : (bn == ("__debug__" : Str)) = false := by decide) (hcd : (bn == ("__classdict__" : Str)) = false := by decide) :
    PD S Γ 1 (.Call (.Name "_law_take" pn) [.Name bn pb, e] [] pos) cInt (fun x => 0 ≤ x ∧ x < m) :=
  pcalX (k1 := 0) (k2 := 1) C_take hl hg (pda_boxp (k2 := 0) hΓ hN hv (pda_one h he2) hd hcd) (fun as e => ⟨m, z, e, hm, Nat.le_refl _, fun _ h => h⟩) he hpl
end
section
variable {P : Program} {w : World} {K : PySem.W.Frag} {mg : Str → Option Value} {base : Heap}
variable (U : Bt mg)
include U
theorem c_take (D : Def K mg "_law_take" (top 28)) : Cal P w K mg base "_law_take" ["box", "many"] 1 spTake :=
  cal_of D (fun _ _ _ _ _ _ us hl => match us, hl with | [_, _], _ => rfl) fun f fd F => ok_take F U.int
abbrev nMixed : List Str := ["box", "things", "left", "found", "turn"]
abbrev P_mixed : Sp := spF (fun b (a : List Int) => [.bx b, .d (cList cInt) a]) (fun a => a.length) (fun a => a.length ≤ 8) cInt (fun a x => x.Perm a)
theorem c_mixed (D : Def K mg "_law_mixed" (top 29)) (C_take : Cal P w K mg base "_law_take" ["box", "many"] 1 spTake) : Cal P w K mg base "_law_mixed" ["box", "things"] 2 P_mixed := by
  refine cal_F (N := nMixed) D (fun _ _ _ _ _ _ us hl => match us, hl with | [_, _], _ => rfl) ⟨rfl, rfl, rfl, by decide +kernel, rfl, by decide +kernel, by decide +kernel⟩ (fun _ _ => rfl) (by decide) (fun _ _ => trivial) fun b a hp => ?_
  refine HSF.le (k := 0 + 0 + (0 + a.length + 0) + 0) ?_ (by omega)
  refine bapp (k1 := 0 + 0 + (0 + a.length + 0)) (k2 := 0) (c0 := cNon) (N1 := fun Γ => ∃ found : List Int, found.Perm a ∧ Γ = entry nMixed [.bx b, .d (cList cInt) a, .l cInt [], .l cInt found]) ((defBody (top 29)).take 2) ?_ ?_
  case refine_2 =>
    rintro _ ⟨found, hf, rfl⟩
    exact bretO 3 rfl rfl (.inl rfl) hf
  refine bpar (k1 := 0) (k2 := 0) (kr := 0 + a.length + 0) 2 3 (TDF.tx' (plist rfl U.list (TD.seqL (pd_name (i := 1) rfl rfl (.inl rfl))) (fun _ => rfl))) (TDF.tx' (pdf_nil (c := cInt))) trivial trivial (by decide) (fun z => nomatch z) (fun z => nomatch z) rfl rfl rfl rfl (fun _ => rfl) (fun _ => rfl) (fun env he => by cases env; cases he; rfl) (fun env he => by cases env; cases he; rfl) ?_
  refine bfor (k := 0) (kk := 1) (kn := a.length) (k2 := 0) [4] (fun xs pre Γ => pre.length ≤ a.length ∧ ∃ left found : List Int, left.length + pre.length = a.length ∧ (found ++ left).Perm a ∧ Γ = entry nMixed [.bx b, .d (cList cInt) a, .l cInt left, .l cInt found]) (prng1 rfl U.range (plen rfl U.len (TD.seqL (pd_name (i := 1) rfl rfl (.inl rfl))) (fun _ => rfl)) (by omega) (fun _ => rfl)) ?_ ?_ ?_ (fun _ _ => rfl) ?_
  · rintro _ rfl
    exact ⟨Nat.zero_le _, a, [], by simp, by simp, rfl⟩
  · rintro _ rfl; rw [rangeL_len]; simp
  · rintro _ rfl pre x post _ hx ⟨hl0, left, found, hl1, hl2, rfl⟩
    have hlen := congrArg List.length hx
    rw [rangeL_len, List.length_append, List.length_cons] at hlen
    have hlt : pre.length < a.length := by simp at hlen; omega
    refine ⟨_, _, pdg_name (i := 4) trivial rfl (.inl rfl) (.inl rfl), ?_⟩
    have hfl : found.length ≤ 8 := by have := hl2.length_eq; rw [List.length_append] at this; omega
    refine bappendPop (k := 1) (kr := 0) 3 2 (by decide) rfl rfl (ptake C_take (show (1 : Nat) ≤ 1 by decide) rfl (i := 0) rfl rfl (.inl rfl) (td_view (i := 2) rfl flat_int (plen rfl U.len (TD.seqL (pd_name (i := 2) rfl rfl (.inl rfl))) (fun _ => rfl))) (by omega) (fun _ => rfl) (fun _ => rfl) (fun _ => rfl)) (by unfold LB; omega) (by unfold LB; omega) rfl rfl (.inl rfl) (.inl rfl) (fun _ => rfl) (fun _ => rfl) rfl rfl (fun _ => rfl) (fun _ => rfl) (fun _ => rfl) fun z hz => ?_
    have hz2 : z.toNat < left.length := by omega
    refine ⟨z.toNat, left[z.toNat], by omega, List.getElem?_eq_getElem hz2, phs_nil ⟨trivial, by rw [List.length_append]; simp; omega, left.eraseIdx z.toNat, found ++ [left[z.toNat]], ?_, ?_, rfl⟩⟩
    · rw [List.length_eraseIdx_of_lt hz2, List.length_append]; simp; omega
    · rw [List.append_assoc]
      exact (List.Perm.append_left found (erase_perm hz2)).trans hl2
  · rintro _ _ rfl ⟨_, left, found, hl1, hl2, rfl⟩
    have : left = [] := by
      rw [rangeL_len] at hl1; simp at hl1; exact hl1
    subst this
    exact phs_nil ⟨found, by simpa using hl2, rfl⟩
theorem c_mixedD (D : Def K mg "_law_mixed" (top 29)) (C_take : Cal P w K mg base "_law_take" ["box", "many"] 1 spTake) : Cal P w K mg base "_law_mixed" ["box", "things"] 2 (spD (fun b (a : List Int) => [.bx b, .d (cList cInt) a]) (fun a => a.length) (fun a => a.length ≤ 8) (cList cInt) (fun a x => x.Perm a)) := (c_mixed U D C_take).dat
end
end K01

set_option Elab.async false
set_option linter.all false
set_option maxRecDepth 100000
set_option maxHeartbeats 4000000
namespace K01
open PySem PySem.Spec L2 DL
theorem lay_many : (PyData.str ("many" : Str)).canLay0 = true := by decide +kernel
abbrev eMany : EqC cMany := eL2 (eS1 "many" lay_many) eInt
abbrev eRows1 : EqC (cList cRows) := eList (eList (eTup eInt))
abbrev nAlike : List Str := ["plain", "word", "spots", "found", "spot", "longer", "row", "wordings", "wording"]
section
variable {P : Program} {w : World} {K : PySem.W.Frag} {mg : Str → Option Value} {base : Heap}
abbrev P_lproduct : Sp := spP (fun (a : List Int) => [.d (cList cInt) a]) (fun a => ∀ n ∈ a, 2 ≤ n ∧ n ≤ 6) cInt prodL
theorem c_lproduct (D : Def K mg "_law_product" (top 30)) : Cal P w K mg base "_law_product" ["plain"] 1 P_lproduct := by
  refine cal_D (N := ["plain", "found", "width"]) D (fun _ _ _ _ _ _ us hl => match us, hl with | [_], _ => rfl) ⟨rfl, rfl, rfl, by decide +kernel, rfl, by decide +kernel, by decide +kernel⟩ (fun _ _ => rfl) (by decide) (fun _ _ => trivial) fun b a hp => ?_
  refine HS.le (k := 0) ?_ (Nat.zero_le _)
  refine bset (k := 0) (k2 := 0) 1 (pd_int (i := 1)) trivial rfl (.inl rfl) (fun _ _ => rfl) (.inl rfl) ?_
  rintro _ rfl
  refine bfor (k := 0) (kk := 0) (kn := 0) (k2 := 0) [2] (fun _ pre Γ => Γ = entry ["plain", "found", "width"] [.d (cList cInt) a, .d cInt (prodL pre)]) (pdi_list (pd_name (i := 0) rfl rfl (.inl rfl))) ?_ ?_ ?_ (fun _ _ => rfl) ?_
  · rintro _ rfl; rfl
  · intro _ _; simp
  · intro xs exs pre x post Γ1 hx e
    subst xs
    subst e
    have hx1 : x ∈ a := by rw [hx]; simp
    have hb := hp x hx1
    refine ⟨_, _, (pdg_name (i := 2) trivial rfl (.inl rfl) (.inl rfl)), ?_⟩
    refine bset (k := 0) (k2 := 0) 1 (pbin (fun _ _ => op_mul) (pd_name (i := 1) rfl rfl (.inl rfl)) (pd_name (i := 2) rfl rfl (.inl rfl)) (rd_I (.inr ⟨by omega, by omega⟩))) trivial rfl (.inl rfl) (fun _ _ => rfl) (.inl rfl) ?_
    rintro _ rfl
    exact phs_nil ⟨trivial, by rw [prodL_snoc]; rfl⟩
  · intro xs Γ1 exs e
    subst xs
    subst e
    exact bret (pd_name (i := 1) rfl rfl (.inl rfl)) fun _ h => h
variable (U : Bt mg)
include U
abbrev P_text : Sp := spP (fun (a : List Int × Int) => [.d (cList cInt) a.1, .d cInt a.2]) (fun a => Pl a.1) (cTup cInt) (fun a => textL a.1 a.2)
theorem c_text (D : Def K mg "_law_text" (top 33)) : Cal P w K mg base "_law_text" ["plain", "index"] 1 P_text := by
  refine cal_D (N := ["plain", "index", "found", "left", "width"]) D (fun _ _ _ _ _ _ us hl => match us, hl with | [_, _], _ => rfl) ⟨rfl, rfl, rfl, by decide +kernel, rfl, by decide +kernel, by decide +kernel⟩ (fun _ _ => rfl) (by decide) (fun _ _ => trivial) fun b a hp => ?_
  obtain ⟨pl, n⟩ := a
  have hpl : Pl pl := hp
  have h8 := hpl.1.2
  refine HS.ctx (Γ' := entry ["plain", "index", "found", "left", "width"] [.d (cList cInt) pl, .d cInt n]) rfl ?_
  refine HS.le (k := 0 + 0 + (0 + 0 + 0)) ?_ (by decide)
  refine bpar (k1 := 0) (k2 := 0) (kr := 0 + 0 + 0) 2 3 (TD.tx' (TDF.td (pdf_nil (c := cInt)))) (TD.tx' (pd_name (i := 1) rfl rfl (.inl rfl))) trivial trivial (by decide) (fun z => nomatch z) (fun z => nomatch z) rfl rfl rfl rfl (fun _ => rfl) (fun _ => rfl) (fun env he => by cases env; cases he; rfl) (fun env he => by cases env; cases he; rfl) ?_
  refine bfor (k := 0) (kk := 0) (kn := 0) (k2 := 0) [4] (fun _ pre Γ => Γ = entry ["plain", "index", "found", "left", "width"] [.d (cList cInt) pl, .d cInt n, .d (cList cInt) (digS pre n).1, .d cInt (digS pre n).2]) (pdi_list (TDF.td (prev (pd_name (i := 0) rfl rfl (.inl rfl))))) ?_ ?_ ?_ (fun _ _ => rfl) ?_
  · rintro _ rfl; rfl
  · intro _ _; simp
  · rintro _ rfl pre x post _ hx rfl
    have hx0 : pl.reverse = pre ++ x :: post := hx
    have hx1 : x ∈ pl := by
      have : x ∈ pl.reverse := by rw [hx0]; simp
      exact List.mem_reverse.mp this
    have hb := hpl.2 x hx1
    have hl := congrArg List.length hx0
    rw [List.length_reverse, List.length_append] at hl
    refine ⟨_, _, (pdg_name (i := 4) trivial rfl (.inl rfl) (.inl rfl)), ?_⟩
    refine bset (k := 0) (k2 := 0 + 0) 2 (TDF.td (pcat (TDF.td (plst (.cons (pbin (fun _ _ => op_mod) (pd_name (i := 3) rfl rfl (.inl rfl)) (pd_name (i := 4) rfl rfl (.inl rfl)) (rd_I (show 0 < x by omega))) .nil (fun _ => rfl)) (by simp))) (pd_name (i := 2) rfl rfl (.inl rfl)) (by rw [digS_len]; simp; unfold LB; omega))) trivial rfl (.inl rfl) (fun env he => by cases env; cases he; rfl) (.inl rfl) ?_
    rintro _ rfl
    refine bset (k := 0) (k2 := 0) 3 (pbin (fun _ _ => op_fdiv) (pd_name (i := 3) rfl rfl (.inl rfl)) (pd_name (i := 4) rfl rfl (.inl rfl)) (rd_I (g := fun i j => i / j) (show 0 < x ∧ x < 1073741824 by omega))) trivial rfl (.inl rfl) (fun env he => by cases env; cases he; rfl) (.inl rfl) ?_
    rintro _ rfl
    exact phs_nil ⟨trivial, by rw [digS_snoc]; rfl⟩
  · rintro _ _ rfl rfl
    exact bret (ptuple rfl U.tuple (TD.seqL (pd_name (i := 2) rfl rfl (.inl rfl))) (fun _ => rfl)) fun _ h => h
abbrev P_index : Sp := spP (fun (a : List Int × List Int) => [.d (cList cInt) a.1, .d (cTup cInt) a.2]) (fun a => Pl a.1 ∧ a.2.length = a.1.length) cInt (fun a => num0 a.2 a.1)
theorem c_index (D : Def K mg "_law_index" (top 34)) : Cal P w K mg base "_law_index" ["plain", "word"] 1 P_index := by
  refine cal_D (N := ["plain", "word", "found", "spot"]) D (fun _ _ _ _ _ _ us hl => match us, hl with | [_, _], _ => rfl) ⟨rfl, rfl, rfl, by decide +kernel, rfl, by decide +kernel, by decide +kernel⟩ (fun _ _ => rfl) (by decide) (fun _ _ => trivial) fun b a hp => ?_
  obtain ⟨pl, word⟩ := a
  obtain ⟨hpl, hl⟩ := hp
  have hpl : Pl pl := hpl
  have hl : word.length = pl.length := hl
  have h8 := hpl.1.2
  refine HS.ctx (Γ' := entry ["plain", "word", "found", "spot"] [.d (cList cInt) pl, .d (cTup cInt) word]) rfl ?_
  refine HS.le (k := 0) ?_ (Nat.zero_le _)
  refine bset (k := 0) (k2 := 0) 2 (pd_int (i := 0)) trivial rfl (.inl rfl) (fun _ _ => rfl) (.inl rfl) ?_
  rintro _ rfl
  refine bfor (k := 0) (kk := 0) (kn := 0) (k2 := 0) [3] (fun _ pre Γ => Γ = entry ["plain", "word", "found", "spot"] [.d (cList cInt) pl, .d (cTup cInt) word, .d cInt (indexL pl word pre)]) (prng1 rfl U.range (plen rfl U.len (TD.seqL (pd_name (i := 0) rfl rfl (.inl rfl))) (fun _ => rfl)) (by omega) (fun _ => rfl)) ?_ ?_ ?_ (fun _ _ => rfl) ?_
  · rintro _ rfl; rfl
  · intro _ _; simp
  · rintro _ rfl pre x post _ hx rfl
    have hxr : x ∈ rangeL 0 ((pl.length : Int)).toNat := by rw [hx]; simp
    have hx1 : 0 ≤ x ∧ x < (pl.length : Int) := by have := mem_rangeL.mp hxr; omega
    have hb := hpl.at hx1
    refine ⟨_, _, (pdg_name (i := 3) trivial rfl (.inl rfl) (.inl rfl)), ?_⟩
    refine bset (k := 0) (k2 := 0) 2 (pbin (fun _ _ => op_add) (pbin (fun _ _ => op_mul) (pd_name (i := 2) rfl rfl (.inl rfl)) (pix ixLG (pd_name (i := 0) rfl rfl (.inl rfl)) (pd_name (i := 3) rfl rfl (.inl rfl)) (rd_ixLd hx1) (fun _ _ => rfl)) (rd_I (.inr (show -(2 ^ 64) < atT pl x ∧ atT pl x < 2 ^ 64 by omega)))) (pix ixTG (pd_name (i := 1) rfl rfl (.inl rfl)) (pd_name (i := 3) rfl rfl (.inl rfl)) (rd_ixTd (by rw [hl]; exact hx1)) (fun _ _ => rfl)) rd_I0) trivial rfl (.inl rfl) (fun env he => by cases env; cases he; rfl) (.inl rfl) ?_
    rintro _ rfl
    exact phs_nil ⟨trivial, by rw [indexL_snoc]; rfl⟩
  · rintro _ _ rfl rfl
    refine bret (pd_name (i := 2) rfl rfl (.inl rfl)) ?_
    rintro _ rfl
    show indexL pl word (rangeL 0 ((pl.length : Int)).toNat) = num0 word pl
    rw [Int.toNat_natCast, index_num hl]
abbrev P_alike : Sp := spP (fun (a : List Int × List Int × List Int) => [.d (cList cInt) a.1, .d (cSeq cInt) a.2.1, .d (cSeq cInt) a.2.2]) (fun a => Pl a.1 ∧ InW a.2.1 a.1 ∧ Spt a.2.2 a.1.length ∧ widthL a.1 a.2.2 ≤ 100) cRows (fun a => rowsL a.1 a.2.1 a.2.2 (rangeL 0 a.1.length))
theorem c_alike (D : Def K mg "_law_alike" (top 35)) : Cal P w K mg base "_law_alike" ["plain", "word", "spots"] 1 P_alike := by
  refine cal_D (N := nAlike) D (fun _ _ _ _ _ _ us hl => match us, hl with | [_, _, _], _ => rfl) ⟨rfl, rfl, rfl, by decide +kernel, rfl, by decide +kernel, by decide +kernel⟩ (fun _ _ => rfl) (by decide) (fun _ _ => trivial) fun b a hp => ?_
  obtain ⟨pl, word, spots⟩ := a
  obtain ⟨hpl, hw, hs, hn⟩ := hp
  have hpl : Pl pl := hpl
  have hw : InW word pl := hw
  have hs : Spt spots pl.length := hs
  have hn : widthL pl spots ≤ 100 := hn
  have h8 := hpl.1.2
  have hwl := hw.len
  refine HS.ctx (Γ' := entry nAlike [.d (cList cInt) pl, .d (cSeq cInt) word, .d (cSeq cInt) spots]) rfl ?_
  refine HS.le (k := 0 + (0 + 0 + 0)) ?_ (by decide)
  refine bset (k := 0) (k2 := 0 + 0 + 0) 3 (TDF.td (plst (c := cTup cInt) (xs := [([] : List Int)]) (.cons (ptup (c := cInt) (xs := []) .nil (by simp)) .nil (fun _ => rfl)) (by simp))) trivial rfl (.inl rfl) (fun env he => by cases env; cases he; rfl) (.inl rfl) ?_
  rintro _ rfl
  refine bfor (k := 0) (kk := 0 + (0 + 0 + (0 + 0))) (kn := 0) (k2 := 0) [4, 5, 6, 7] (fun _ pre Γ => Γ = entry nAlike [.d (cList cInt) pl, .d (cSeq cInt) word, .d (cSeq cInt) spots, .d cRows (rowsL pl word spots pre)]) (prng1 rfl U.range (plen rfl U.len (TD.seqL (pd_name (i := 0) rfl rfl (.inl rfl))) (fun _ => rfl)) (by omega) (fun _ => rfl)) ?_ ?_ ?_ (fun _ _ => rfl) ?_
  · rintro _ rfl; rfl
  · intro _ _; simp
  · rintro _ rfl pre x post _ hx rfl
    have hx0 : rangeL 0 pl.length = pre ++ x :: post := by rw [Int.toNat_natCast] at hx; exact hx
    have hxr : x ∈ rangeL 0 pl.length := by rw [hx0]; simp
    have hx1 : 0 ≤ x ∧ x < (pl.length : Int) := by have := mem_rangeL.mp hxr; omega
    have hb := hpl.at hx1
    have hrl2 := rows_pre (word := word) hpl hs (pre := pre ++ [x]) (post := post) (by rw [hx0]; simp) hn
    rw [rowsL_snoc] at hrl2
    have hpl8 : pre.length ≤ 8 := by have := congrArg List.length hx0; rw [rangeL_len, List.length_append] at this; omega
    refine ⟨_, _, (pdg_name (i := 4) trivial rfl (.inl rfl) (.inl rfl)), ?_⟩
    refine bset (k := 0) (k2 := 0 + 0 + (0 + 0)) 5 (TDF.td (pdf_nil (c := cTup cInt))) trivial rfl (.inl rfl) (fun env he => by cases env; cases he; rfl) (.inl rfl) ?_
    rintro _ rfl
    refine HS.ctx (Γ' := [.d (cList cInt) pl, .d (cSeq cInt) word, .d (cSeq cInt) spots, .d cRows (rowsL pl word spots pre), .d cInt x, .d cRows [], .un, .un, .un]) rfl ?_
    refine bfor (k := 0) (kk := 0) (kn := 0) (k2 := 0 + 0) [6, 7] (fun _ pr Γ => Γ = [.d (cList cInt) pl, .d (cSeq cInt) word, .d (cSeq cInt) spots, .d cRows (rowsL pl word spots pre), .d cInt x, .d cRows (lc2L pr (fun _ => wordsAt pl word spots x) fun row wd => row ++ [wd]), .un, .un, .un]) (pdi_list (pd_name (i := 3) rfl rfl (.inl rfl))) ?_ ?_ ?_ (fun _ _ => rfl) ?_
    · rintro _ rfl; rfl
    · intro _ _; simp
    · rintro _ rfl pr row post2 _ hx2 rfl
      have hrow : row ∈ rowsL pl word spots pre := by rw [hx2]; simp
      have hrowl := (rows_in hpl hw (is := pre) (spots := spots) (fun i hi => by
        have : i ∈ rangeL 0 pl.length := by rw [hx0]; exact List.mem_append_left _ hi
        have := mem_rangeL.mp this; omega) row hrow).1
      have hlen : (lc2L pr (fun _ => wordsAt pl word spots x) fun row wd => row ++ [wd]).length + (wordsAt pl word spots x).length ≤ 100 := by
        have e : stepL pl word spots (rowsL pl word spots pre) x = lc2L (pr ++ [row]) (fun _ => wordsAt pl word spots x) (fun row wd => row ++ [wd]) ++ lc2L post2 (fun _ => wordsAt pl word spots x) (fun row wd => row ++ [wd]) := by
          unfold stepL lc2L
          rw [← List.flatMap_append, List.append_assoc]
          rw [hx2]; rfl
        rw [e, List.length_append, lc2_len, List.length_append, Nat.add_mul] at hrl2
        rw [lc2_len]
        simp only [List.length_cons, List.length_nil] at hrl2
        omega
      refine ⟨_, _, (pdg_name (i := 6) trivial rfl (.inr rfl) (.inl rfl)), ?_⟩
      refine bset (k := 0) (k2 := 0) 7 (pif (tinSeq (pd_name (i := 4) rfl rfl (.inl rfl)) (pd_name (i := 2) rfl rfl (.inl rfl)) rfl) (fun _ => TDF.td (plrg1 rfl U.list rfl U.range (pix ixLG (pd_name (i := 0) rfl rfl (.inl rfl)) (pd_name (i := 4) rfl rfl (.inl rfl)) (rd_ixLd hx1) (fun _ _ => rfl)) (show atT pl x ≤ 1000000 ∧ 0 ≤ atT pl x by omega) (fun _ => rfl) (fun _ => rfl))) fun _ => TDF.td (plst (.cons (pix ixSG (pd_name (i := 1) rfl rfl (.inl rfl)) (pd_name (i := 4) rfl rfl (.inl rfl)) (rd_ixSd (by rw [hwl]; exact hx1)) (fun _ _ => rfl)) .nil (fun _ => rfl)) (by simp))) trivial rfl (.inl rfl) (fun env he => by cases env; cases he; rfl) (.inl rfl) ?_
      intro ws hws
      have hws : ws = wordsAt pl word spots x := hws
      subst hws
      refine HS.ctx (Γ' := [.d (cList cInt) pl, .d (cSeq cInt) word, .d (cSeq cInt) spots, .d cRows (rowsL pl word spots pre), .d cInt x, .d cRows (lc2L pr (fun _ => wordsAt pl word spots x) fun row wd => row ++ [wd]), .d (cTup cInt) row, .d (cList cInt) (wordsAt pl word spots x), .un]) rfl ?_
      refine bset (k := 0) (k2 := 0) 5 (TDF.td (pcat (pd_name (i := 5) rfl rfl (.inl rfl)) (TDF.td (plcN (f := fun wd => row ++ [wd]) [("wording", 8)] (pdi_list (pd_name (i := 7) rfl rfl (.inl rfl))) trivial (by kernel_rfl) (fun _ _ => rfl) fun wd hwd => ⟨_, _, (pdg_name (i := 8) trivial rfl (.inl rfl) (.inr rfl)), (fun _ h => h), (pbin catTG (pd_name (i := 6) rfl rfl (.inr (.inl rfl))) (ptup (.cons (pd_name (i := 8) rfl rfl (.inl rfl)) .nil (fun _ => rfl)) (by simp)) (rd_catT (K := K) (by simp; unfold LB; omega)))⟩)) (by rw [List.length_map]; unfold LB; omega))) trivial rfl (.inl rfl) (fun env he => by cases env; cases he; rfl) (.inl rfl) ?_
      rintro _ rfl
      exact phs_nil ⟨trivial, by unfold lc2L; rw [List.flatMap_append, List.flatMap_singleton]; rfl⟩
    · rintro _ _ rfl rfl
      refine bset (k := 0) (k2 := 0) 3 (pd_name (i := 5) rfl rfl (.inl rfl)) trivial rfl (.inl rfl) (fun env he => by cases env; cases he; rfl) (.inl rfl) ?_
      rintro _ rfl
      exact phs_nil ⟨trivial, by rw [rowsL_snoc]; rfl⟩
  · rintro _ _ rfl rfl
    refine bret (pd_name (i := 3) rfl rfl (.inl rfl)) ?_
    rintro _ rfl
    show rowsL pl word spots (rangeL 0 ((pl.length : Int)).toNat) = _
    rw [Int.toNat_natCast]
abbrev preDue (a : List Int × List Int × List Int) : Prop := Pl a.1 ∧ InW a.2.1 a.1 ∧ Spt a.2.2 a.1.length
abbrev psDue : List Int × List Int × List Int → Ctxt := fun a => [.d (cList cInt) a.1, .d (cTup cInt) a.2.1, .d (cList cInt) a.2.2]
abbrev P_dueF : Sp := spP psDue (fun a => preDue a ∧ widthL a.1 a.2.2 ≤ 100) (cList cRows) (fun a => [slcRows a.1 a.2.1 a.2.2])
abbrev P_dueM : Sp := spP psDue (fun a => preDue a ∧ 100 < widthL a.1 a.2.2) cMany (fun a => ((), widthL a.1 a.2.2))
abbrev nDue : List Str := ["plain", "word", "spots", "width", "spot"]
omit U in
theorem c_dueF (D : Def K mg "_law_due" (top 39)) (C_lproduct : Cal P w K mg base "_law_product" ["plain"] 1 P_lproduct) (C_alike : Cal P w K mg base "_law_alike" ["plain", "word", "spots"] 1 P_alike) : Cal P w K mg base "_law_due" ["plain", "word", "spots"] 2 P_dueF := by
  refine cal_D (N := nDue) D (fun _ _ _ _ _ _ us hl => match us, hl with | [_, _, _], _ => rfl) ⟨rfl, rfl, rfl, by decide +kernel, rfl, by decide +kernel, by decide +kernel⟩ (fun _ _ => rfl) (by decide) (fun _ _ => trivial) fun b a hp => ?_
  obtain ⟨pl, word, spots⟩ := a
  obtain ⟨⟨hpl, hw, hs⟩, hn⟩ := hp
  have hpl : Pl pl := hpl
  have hs : Spt spots pl.length := hs
  have hn : widthL pl spots ≤ 100 := hn
  refine HS.ctx (Γ' := entry nDue (psDue (pl, word, spots))) rfl ?_
  refine HS.le (k := 0) ?_ (Nat.zero_le _)
  refine bset (k := 0) (k2 := 0) 3 (pcal1 C_lproduct (show (1 : Nat) ≤ 1 by decide) rfl (TDF.td (plcN (f := atT pl) [("spot", 4)] (pdi_list (pd_name (i := 2) rfl rfl (.inl rfl))) trivial (by kernel_rfl) (fun _ _ => rfl) fun x hx => ⟨_, _, (pdg_name (i := 4) trivial rfl (.inl rfl) (.inr rfl)), (fun _ h => h), (pix ixLG (pd_name (i := 0) rfl rfl (.inr (.inl rfl))) (pd_name (i := 4) rfl rfl (.inl rfl)) (rd_ixLd (hs.2 x hx)) (fun _ _ => rfl))⟩)) (sizes_ok hpl hs) (fun _ => rfl) (fun _ => rfl)) trivial rfl (.inl rfl) (fun env he => by cases env; cases he; rfl) (.inl rfl) ?_
  rintro _ rfl
  refine bret (pifF (tcmp (fun _ _ => op_gt) (pd_name (i := 3) rfl rfl (.inl rfl)) pd_int rd_B0 (nomark _)) (decide_eq_false (by show ¬ widthL pl spots > 100; omega)) (TDF.td (plst (.cons (pcal3 C_alike (show (1 : Nat) ≤ 1 by decide) rfl (pd_name (i := 0) rfl rfl (.inr (.inl rfl))) (TD.seqT (pd_name (i := 1) rfl rfl (.inl rfl))) (TD.seqL (pd_name (i := 2) rfl rfl (.inl rfl))) ⟨hpl, hw, hs, hn⟩ (fun _ => rfl) (fun _ => rfl) (fun _ => rfl) (fun _ => rfl)) .nil (fun _ => rfl)) (by simp)))) fun _ h => h
omit U in
theorem c_dueM (D : Def K mg "_law_due" (top 39)) (C_lproduct : Cal P w K mg base "_law_product" ["plain"] 1 P_lproduct) : Cal P w K mg base "_law_due" ["plain", "word", "spots"] 2 P_dueM := by
  refine cal_D (N := nDue) D (fun _ _ _ _ _ _ us hl => match us, hl with | [_, _, _], _ => rfl) ⟨rfl, rfl, rfl, by decide +kernel, rfl, by decide +kernel, by decide +kernel⟩ (fun _ _ => rfl) (by decide) (fun _ _ => trivial) fun b a hp => ?_
  obtain ⟨pl, word, spots⟩ := a
  obtain ⟨⟨hpl, hw, hs⟩, hn⟩ := hp
  have hpl : Pl pl := hpl
  have hs : Spt spots pl.length := hs
  have hn : 100 < widthL pl spots := hn
  refine HS.ctx (Γ' := entry nDue (psDue (pl, word, spots))) rfl ?_
  refine HS.le (k := 0) ?_ (Nat.zero_le _)
  refine bset (k := 0) (k2 := 0) 3 (pcal1 C_lproduct (show (1 : Nat) ≤ 1 by decide) rfl (TDF.td (plcN (f := atT pl) [("spot", 4)] (pdi_list (pd_name (i := 2) rfl rfl (.inl rfl))) trivial (by kernel_rfl) (fun _ _ => rfl) fun x hx => ⟨_, _, (pdg_name (i := 4) trivial rfl (.inl rfl) (.inr rfl)), (fun _ h => h), (pix ixLG (pd_name (i := 0) rfl rfl (.inr (.inl rfl))) (pd_name (i := 4) rfl rfl (.inl rfl)) (rd_ixLd (hs.2 x hx)) (fun _ _ => rfl))⟩)) (sizes_ok hpl hs) (fun _ => rfl) (fun _ => rfl)) trivial rfl (.inl rfl) (fun env he => by cases env; cases he; rfl) (.inl rfl) ?_
  rintro _ rfl
  exact bret (pifT (tcmp (fun _ _ => op_gt) (pd_name (i := 3) rfl rfl (.inl rfl)) pd_int rd_B0 (nomark _)) (decide_eq_true (show widthL pl spots > 100 from hn)) (plst2 pd_S1 (pd_name (i := 3) rfl rfl (.inl rfl)) (fun _ => rfl) (fun _ => rfl))) fun _ h => h
end
end K01

set_option Elab.async false
set_option linter.all false
set_option maxRecDepth 100000
set_option maxHeartbeats 2000000
namespace DL
open PySem PySem.Spec L2
section
variable {S : Stc} {Γ : Ctxt} {k k1 k2 k3 ke kt kn : Nat} {α β : Type} {c : Cod α} {c' : Cod β} {pos : Pos}
/-- a comprehension over what is drawn, with draws -/
theorem plcQX (own : List (Str × Nat)) {X : List α → Prop} {elt tg iter : Expr} {scope : Scope} {Q : β → Prop} (hw : PDI S Γ k tg iter c X) (nv : NoBxs Γ (own.map (·.2))) (ok : blkC S.N S.sc scope own = true) (hfs : ∀ (env : Env) x, foldedSetIterable iter env x = pure x) (hk : ∀ xs, X xs → xs.length * ke ≤ kn)
    (hs : ∀ x, ∃ Γ1 is, PDG (S.blk scope) tg c x (wipeC Γ (own.map (·.2))) Γ1 is ∧ (∀ i ∈ is, i ∈ own.map (·.2)) ∧ PD (S.blk scope) Γ1 ke elt c' Q) :
    PDF S Γ (k + kn) (.ListComp elt [⟨tg, iter, [], 0⟩] scope pos) c' (fun ys => ∃ xs, X xs ∧ ys.length = xs.length ∧ ∀ y ∈ ys, Q y) :=
  pdf_lc ok hfs (tdf_lc (kt := 0) (ke := ke) (kn := kn) (X := X) (fun _ pre ys => ys.length = pre.length ∧ ∀ y ∈ ys, Q y) hw (noBxs_mem nv) (fun _ _ => ⟨rfl, fun _ h => nomatch h⟩) (fun l e => by rw [Nat.zero_add]; exact hk l e) (fun l e pre x post ys hx hI => by
    obtain ⟨Γ1, is, h1, h2, h3⟩ := hs x
    refine ⟨Γ1, is, (· = true), h1, h2, tts_nil, fun _ => h3.imp fun y hy => ⟨by rw [List.length_append, List.length_append, hI.1]; rfl, fun z hz => ?_⟩, fun h => nomatch h⟩
    rcases List.mem_append.mp hz with h | h
    · exact hI.2 z h
    · rw [List.mem_singleton.mp h]; exact hy))
/-- [x for x in xs if ..], the test drawn -/
theorem plcF (own : List (Str × Nat)) {elt tg iter : Expr} {ifs : List Expr} {scope : Scope} {xs : List α} (hw : PDI S Γ k tg iter c (· = xs)) (nv : NoBxs Γ (own.map (·.2))) (ok : blkC S.N S.sc scope own = true) (hfs : ∀ (env : Env) x, foldedSetIterable iter env x = pure x) (hk : xs.length * kt ≤ kn)
    (hs : ∀ x, x ∈ xs → ∃ Γ1 is, PDG (S.blk scope) tg c x (wipeC Γ (own.map (·.2))) Γ1 is ∧ (∀ i ∈ is, i ∈ own.map (·.2)) ∧ TDT (tTs (S.blk scope) ifs) Γ1 kt (fun _ => True) ∧ PD (S.blk scope) Γ1 0 elt c (· = x)) :
    PDF S Γ (k + kn) (.ListComp elt [⟨tg, iter, ifs, 0⟩] scope pos) c (fun ys => ys.Sublist xs) :=
  pdf_lc ok hfs (TDF.imp (tdf_lc (kt := kt) (ke := 0) (kn := kn) (X := (· = xs)) (fun _ pre ys => ys.Sublist pre) hw (noBxs_mem nv) (fun _ _ => List.Sublist.refl _) (fun l e => by subst e; exact hk) (fun l e pre x post ys hx hI => by
    obtain ⟨Γ1, is, h1, h2, h3, h4⟩ := hs x (by rw [← e, hx]; simp)
    exact ⟨Γ1, is, fun _ => True, h1, h2, h3, fun _ => h4.imp fun y hy => by subst hy; exact hI.append (List.Sublist.refl _), fun _ => hI.trans (List.sublist_append_left _ _)⟩)) fun ys ⟨l, e, h⟩ => by subst e; exact h)
theorem plst3R {P : α → Prop} {a b d : Expr} (ha : PD S Γ k1 a c P) (hb : PD S Γ k2 b c P) (hd : PD S Γ k3 d c P) (hs : ∀ env : Env, starEach [a, b, d] env = (false, eval a env) :: starEach [b, d] env) (hs2 : ∀ env : Env, starEach [b, d] env = (false, eval b env) :: starEach [d] env) (hs3 : ∀ env : Env, starEach [d] env = (false, eval d env) :: starEach [] env) : PDF S Γ (k1 + (k2 + k3)) (.List [a, b, d] pos) c (fun l => l.length = 3 ∧ ∀ z ∈ l, P z) :=
  TDF.le (pdf_lst (pda_cons ha (pda_cons hb (pda_cons (k2 := 0) hd pda_nil hs3) hs2) hs) fun as ⟨x, r, hx, ⟨y, r2, hy, ⟨z, r3, hz, e3, e2⟩, e1⟩, e⟩ => ⟨[x, y, z], by rw [e, e1, e2, e3]; rfl, by simp, rfl, fun u hu => by
    simp at hu
    rcases hu with h | h | h
    · rw [h]; exact hx
    · rw [h]; exact hy
    · rw [h]; exact hz⟩) (by omega)
end
end DL

set_option Elab.async false
set_option linter.all false
set_option maxRecDepth 100000
set_option maxHeartbeats 4000000
namespace K01
open PySem PySem.Spec L2 DL
abbrev P_mixedD : Sp := spD (fun b (a : List Int) => [.bx b, .d (cList cInt) a]) (fun a => a.length) (fun a => a.length ≤ 8) (cList cInt) (fun a x => x.Perm a)
theorem Pl.perm {a b : List Int} (h : Pl a) (p : b.Perm a) : Pl b := ⟨by rw [p.length_eq]; exact h.1, fun n hn => h.2 n (p.mem_iff.mp hn)⟩
abbrev menuL : List (List Int) := [[4, 5, 5], [2, 2, 5, 5], [3, 6, 6], [2, 3, 3, 6], [2, 2, 2, 2, 6], [6], [2, 2, 3, 3, 3]]
theorem menu_pl : ∀ z ∈ menuL, Pl z ∧ z.length ≤ 5 := by
  intro z hz
  have : ∀ z ∈ menuL, ((1 ≤ z.length ∧ z.length ≤ 8) ∧ ∀ n ∈ z, 2 ≤ n ∧ n ≤ 6) ∧ z.length ≤ 5 := by decide
  exact this z hz
abbrev nPlain : List Str := ["box", "way", "menu", "turn"]
abbrev P_plain : Sp := spD (fun b (a : Unit) => [.bx b]) (fun _ => 30) (fun _ => True) (cList cInt) (fun _ x => Pl x)
section
variable {P : Program} {w : World} {K : PySem.W.Frag} {mg : Str → Option Value} {base : Heap}
variable (U : Bt mg)
include U
theorem c_plain (D : Def K mg "_law_plain" (top 31)) (C_take : Cal P w K mg base "_law_take" ["box", "many"] 1 spTake) (C_mixed : Cal P w K mg base "_law_mixed" ["box", "things"] 2 P_mixedD) : Cal P w K mg base "_law_plain" ["box"] 3 P_plain := by
  refine cal_D (N := nPlain) D (fun _ _ _ _ _ _ us hl => match us, hl with | [_], _ => rfl) ⟨rfl, rfl, rfl, by decide +kernel, rfl, by decide +kernel, by decide +kernel⟩ (fun _ _ => rfl) (by decide) (fun _ _ => trivial) fun b a hp => ?_
  have fin : ∀ {ys : List Int} {lo hi : Int}, 1 ≤ lo → hi ≤ 8 → (∃ xs : List Int, (∃ j : Int, (lo ≤ j ∧ j ≤ hi) ∧ xs = rangeL 0 j.toNat) ∧ ys.length = xs.length ∧ ∀ y ∈ ys, 2 ≤ y ∧ y ≤ 6) → Pl ys := by
    rintro ys lo hi h1 h2 ⟨xs, ⟨j, hj, rfl⟩, hl, hy⟩
    rw [rangeL_len] at hl
    exact ⟨by omega, hy⟩
  refine HS.le (k := 1 + (0 + (0 + 1 + 0 + 3) + (0 + (0 + (0 + (0 + 1) + 0 + 5)) + (0 + (1 + 0 + (0 + 1) + 0 + 6) + (0 + 1 + 0 + 8))))) ?_ (by decide)
  refine bset (k := 1) (k2 := 0 + (0 + 1 + 0 + 3) + (0 + (0 + (0 + (0 + 1) + 0 + 5)) + (0 + (1 + 0 + (0 + 1) + 0 + 6) + (0 + 1 + 0 + 8)))) 1 (ptake C_take (show (1 : Nat) ≤ 2 by decide) rfl (i := 0) rfl rfl (.inr (.inl rfl)) (pd_int (i := 4)) (by decide) (fun _ => rfl) (fun _ => rfl) (fun _ => rfl)) trivial rfl (.inl rfl) (fun env he => by cases env; cases he; rfl) (.inl rfl) ?_
  intro way hway
  refine HS.ctx (Γ' := [.bx b, .d cInt way, .un, .un]) rfl ?_
  refine bifR (k1 := 0) (k2 := 0 + 1 + 0 + 3) (k3 := 0 + (0 + (0 + (0 + 1) + 0 + 5)) + (0 + (1 + 0 + (0 + 1) + 0 + 6) + (0 + 1 + 0 + 8))) (tcmp (fun _ _ => op_eq) (pd_name (i := 1) rfl rfl (.inl rfl)) (pd_int (i := 0)) rd_eqI (nomark _)) (fun h => ?_) fun h => ?_
  · exact bret (TDF.td (plcQX (X := fun xs => ∃ j : Int, (1 ≤ j ∧ j ≤ 3) ∧ xs = rangeL 0 j.toNat) (k := 0 + 1 + 0) (ke := 1) (kn := 3) (Q := fun z : Int => 2 ≤ z ∧ z ≤ 6) [("turn", 3)] (pdi_range1 rfl U.range (pda_cons (k1 := 1) (k2 := 0) (paddR (k1 := 0) (k2 := 1) (P3 := fun z : Int => 1 ≤ z ∧ z ≤ 3) (pd_int (i := 1)) (ptake C_take (show (1 : Nat) ≤ 2 by decide) rfl (i := 0) rfl rfl (.inr (.inl rfl)) (pd_int (i := 3)) (by decide) (fun _ => rfl) (fun _ => rfl) (fun _ => rfl)) (by rintro x y rfl ⟨h1, h2⟩; omega)) pda_nil (fun _ => rfl)) (fun as ⟨j, r, hj, er, e⟩ => ⟨j, by rw [e, er], by omega, by omega, j, hj, rfl⟩) (fun _ => rfl)) trivial (by kernel_rfl) (fun _ _ => rfl) (by rintro _ ⟨j, hj, rfl⟩; rw [rangeL_len]; omega) fun x => ⟨_, _, (pdg_name (i := 3) trivial rfl (.inl rfl) (.inr rfl)), (fun _ h => h), (paddR (k1 := 0) (k2 := 1) (P3 := fun z : Int => 2 ≤ z ∧ z ≤ 6) (pd_int (i := 2)) (ptake C_take (show (1 : Nat) ≤ 2 by decide) rfl (i := 0) rfl rfl (.inr (.inl rfl)) (pd_int (i := 4)) (by decide) (fun _ => rfl) (fun _ => rfl) (fun _ => rfl)) (by rintro x y rfl ⟨h1, h2⟩; omega))⟩)) fun ys h => fin (by decide) (by decide) h
  refine bifR (k1 := 0) (k2 := 0 + (0 + (0 + 1) + 0 + 5)) (k3 := 0 + (1 + 0 + (0 + 1) + 0 + 6) + (0 + 1 + 0 + 8)) (tcmp (fun _ _ => op_eq) (pd_name (i := 1) rfl rfl (.inl rfl)) (pd_int (i := 1)) rd_eqI (nomark _)) (fun h => ?_) fun h => ?_
  · refine bset (k := 0) (k2 := 0 + (0 + 1) + 0 + 5) 2 (TDF.td (plst (c := cList cInt) (xs := menuL) (.cons (TDF.td (plst (c := cInt) (xs := [4, 5, 5]) (.cons pd_int (.cons pd_int (.cons pd_int .nil (fun _ => rfl)) (fun _ => rfl)) (fun _ => rfl)) (by simp))) (.cons (TDF.td (plst (c := cInt) (xs := [2, 2, 5, 5]) (.cons pd_int (.cons pd_int (.cons pd_int (.cons pd_int .nil (fun _ => rfl)) (fun _ => rfl)) (fun _ => rfl)) (fun _ => rfl)) (by simp))) (.cons (TDF.td (plst (c := cInt) (xs := [3, 6, 6]) (.cons pd_int (.cons pd_int (.cons pd_int .nil (fun _ => rfl)) (fun _ => rfl)) (fun _ => rfl)) (by simp))) (.cons (TDF.td (plst (c := cInt) (xs := [2, 3, 3, 6]) (.cons pd_int (.cons pd_int (.cons pd_int (.cons pd_int .nil (fun _ => rfl)) (fun _ => rfl)) (fun _ => rfl)) (fun _ => rfl)) (by simp))) (.cons (TDF.td (plst (c := cInt) (xs := [2, 2, 2, 2, 6]) (.cons pd_int (.cons pd_int (.cons pd_int (.cons pd_int (.cons pd_int .nil (fun _ => rfl)) (fun _ => rfl)) (fun _ => rfl)) (fun _ => rfl)) (fun _ => rfl)) (by simp))) (.cons (TDF.td (plst (c := cInt) (xs := [6]) (.cons pd_int .nil (fun _ => rfl)) (by simp))) (.cons (TDF.td (plst (c := cInt) (xs := [2, 2, 3, 3, 3]) (.cons pd_int (.cons pd_int (.cons pd_int (.cons pd_int (.cons pd_int .nil (fun _ => rfl)) (fun _ => rfl)) (fun _ => rfl)) (fun _ => rfl)) (fun _ => rfl)) (by simp))) .nil (fun _ => rfl)) (fun _ => rfl)) (fun _ => rfl)) (fun _ => rfl)) (fun _ => rfl)) (fun _ => rfl)) (fun _ => rfl)) (by simp))) trivial rfl (.inl rfl) (fun env he => by cases env; cases he; rfl) (.inl rfl) ?_
    rintro _ rfl
    refine HS.le (k := 0 + 1 + 0 + 5) ?_ (by decide)
    exact bret (pcalX (k1 := 0 + 1 + 0) (k2 := 5) C_mixed (show (2 : Nat) ≤ 2 by decide) rfl (pda_box (k2 := 0 + 1 + 0) (i := 0) rfl rfl (.inr (.inl rfl)) (pda_cons (k1 := 0 + 1) (k2 := 0) (pixLR (xs := menuL) (k1 := 0) (k2 := 1) (pd_name (i := 2) rfl rfl (.inl rfl)) (ptake C_take (show (1 : Nat) ≤ 2 by decide) rfl (i := 0) rfl rfl (.inr (.inl rfl)) (pd_int (i := 7)) (by decide) (fun _ => rfl) (fun _ => rfl) (fun _ => rfl)) (fun _ _ => rfl)) pda_nil (fun _ => rfl))) (fun as ⟨r, ⟨z, r2, hz, e2, e1⟩, e⟩ => ⟨z, b, by rw [e, e1, e2], by have := (menu_pl z hz).2; omega, (menu_pl z hz).2, fun x hx => (menu_pl z hz).1.perm hx⟩) (fun _ => rfl) (fun _ => rfl)) fun x h => h
  refine bifR (k1 := 0) (k2 := 1 + 0 + (0 + 1) + 0 + 6) (k3 := 0 + 1 + 0 + 8) (tcmp (fun _ _ => op_eq) (pd_name (i := 1) rfl rfl (.inl rfl)) (pd_int (i := 2)) rd_eqI (nomark _)) (fun h => ?_) fun h => ?_
  · refine HS.le (k := 0 + 1 + 0 + (0 + (0 + 1)) + 0 + 6) ?_ (by decide)
    refine bret (pcalX (k1 := 0 + 1 + 0 + (0 + (0 + 1)) + 0) (k2 := 6) C_mixed (show (2 : Nat) ≤ 2 by decide) rfl (pda_box (k2 := 0 + 1 + 0 + (0 + (0 + 1)) + 0) (i := 0) rfl rfl (.inr (.inl rfl)) (pda_cons (k1 := 0 + 1 + 0 + (0 + (0 + 1))) (k2 := 0) (TDF.td (pcatP (k1 := 0 + 1 + 0) (k2 := 0 + (0 + 1)) (TDF.td (plst1R (k := 0 + 1) (paddR (k1 := 0) (k2 := 1) (P3 := fun z : Int => 2 ≤ z ∧ z ≤ 3) (pd_int (i := 2)) (ptake C_take (show (1 : Nat) ≤ 2 by decide) rfl (i := 0) rfl rfl (.inr (.inl rfl)) (pd_int (i := 2)) (by decide) (fun _ => rfl) (fun _ => rfl) (fun _ => rfl)) (by rintro x y rfl ⟨h1, h2⟩; omega)) (fun _ => rfl))) (prep1 (k1 := 0) (k2 := 0 + 1) (x := (2 : Int)) (TDF.td (plst (c := cInt) (xs := [2]) (.cons pd_int .nil (fun _ => rfl)) (by simp))) (paddR (k1 := 0) (k2 := 1) (P3 := fun z : Int => 3 ≤ z ∧ z ≤ 5) (pd_int (i := 3)) (ptake C_take (show (1 : Nat) ≤ 2 by decide) rfl (i := 0) rfl rfl (.inr (.inl rfl)) (pd_int (i := 3)) (by decide) (fun _ => rfl) (fun _ => rfl) (fun _ => rfl)) (by rintro x y rfl ⟨h1, h2⟩; omega)) (by rintro i ⟨h1, h2⟩; omega)) (by rintro xs ys ⟨y, _, rfl⟩ ⟨i, hi, rfl⟩; rw [List.length_replicate]; simp; unfold LB; omega))) pda_nil (fun _ => rfl))) (fun as ⟨r, ⟨z, r2, ⟨xs, ys, ⟨y, hy, e4⟩, ⟨i, hi, e5⟩, e3⟩, e2, e1⟩, e⟩ => ?_) (fun _ => rfl) (fun _ => rfl)) fun x h => h
    subst e4 e5 e3
    refine ⟨_, b, by rw [e, e1, e2], ?_, ?_, fun x hx => Pl.perm ⟨?_, ?_⟩ hx⟩
    · show ([y] ++ List.replicate i.toNat 2).length ≤ 8
      simp; omega
    · show ([y] ++ List.replicate i.toNat 2).length ≤ 6
      simp; omega
    · simp; omega
    · intro n hn
      rcases List.mem_append.mp hn with q | q
      · rw [List.mem_singleton.mp q]; omega
      · rw [(List.mem_replicate.mp q).2]; decide
  exact bret (TDF.td (plcQX (X := fun xs => ∃ j : Int, (4 ≤ j ∧ j ≤ 8) ∧ xs = rangeL 0 j.toNat) (k := 0 + 1 + 0) (ke := 1) (kn := 8) (Q := fun z : Int => 2 ≤ z ∧ z ≤ 6) [("turn", 3)] (pdi_range1 rfl U.range (pda_cons (k1 := 1) (k2 := 0) (paddR (k1 := 0) (k2 := 1) (P3 := fun z : Int => 4 ≤ z ∧ z ≤ 8) (pd_int (i := 4)) (ptake C_take (show (1 : Nat) ≤ 2 by decide) rfl (i := 0) rfl rfl (.inr (.inl rfl)) (pd_int (i := 5)) (by decide) (fun _ => rfl) (fun _ => rfl) (fun _ => rfl)) (by rintro x y rfl ⟨h1, h2⟩; omega)) pda_nil (fun _ => rfl)) (fun as ⟨j, r, hj, er, e⟩ => ⟨j, by rw [e, er], by omega, by omega, j, hj, rfl⟩) (fun _ => rfl)) trivial (by kernel_rfl) (fun _ _ => rfl) (by rintro _ ⟨j, hj, rfl⟩; rw [rangeL_len]; omega) fun x => ⟨_, _, (pdg_name (i := 3) trivial rfl (.inl rfl) (.inr rfl)), (fun _ h => h), (paddR (k1 := 0) (k2 := 1) (P3 := fun z : Int => 2 ≤ z ∧ z ≤ 6) (pd_int (i := 2)) (ptake C_take (show (1 : Nat) ≤ 2 by decide) rfl (i := 0) rfl rfl (.inr (.inl rfl)) (pd_int (i := 5)) (by decide) (fun _ => rfl) (fun _ => rfl) (fun _ => rfl)) (by rintro x y rfl ⟨h1, h2⟩; omega))⟩)) fun ys h => fin (by decide) (by decide) h
end
end K01

set_option Elab.async false
set_option linter.all false
set_option maxRecDepth 100000
set_option maxHeartbeats 4000000
namespace K01
open PySem PySem.Spec L2 DL
theorem cut_put {α : Type} {xs : List α} {j : Int} {v : α} (h : 0 ≤ j ∧ j < (xs.length : Int)) : cutD xs none (some j) ++ [v] ++ cutD xs (some (j + 1)) none = xs.set j.toNat v := by
  rw [cutD_head (by omega), cutD_tail (by omega), show (j + 1).toNat = j.toNat + 1 by omega, List.append_assoc]
  rw [List.set_eq_take_append_cons_drop, if_pos (by omega)]; rfl
theorem at_set {word : List Int} {p q v : Int} (hp : 0 ≤ p) (hq : 0 ≤ q ∧ q < (word.length : Int)) : atT (word.set q.toNat v) p = if q = p then v else atT word p := by
  unfold atT
  rw [List.getD_eq_getElem?_getD, List.getD_eq_getElem?_getD]
  by_cases e : q = p
  · subst e
    rw [if_pos rfl, List.getElem?_set_self (by omega)]; rfl
  · rw [if_neg e, List.getElem?_set_ne (by omega)]
theorem inW_set {w p : List Int} (h : InW w p) {i v : Int} (hi : 0 ≤ i ∧ i < (p.length : Int)) (hv : 0 ≤ v ∧ v < atT p i) : InW (w.set i.toNat v) p := inW_of (by rw [List.length_set]; exact h.len) fun j h0 h1 => by
  have hl := h.len
  rw [at_set h0 (by omega)]
  split
  · rename_i e; subst e; exact hv
  · exact inW_at h j h0 h1
theorem Pl.set {pl : List Int} (h : Pl pl) {i : Nat} {v : Int} (hv : 2 ≤ v ∧ v ≤ 6) : Pl (pl.set i v) := ⟨by rw [List.length_set]; exact h.1, fun n hn => by
  rcases List.mem_or_eq_of_mem_set hn with z | z
  · exact h.2 n z
  · rw [z]; exact hv⟩
theorem Pl.mem {pl fl : List Int} (h : Pl pl) (hl : 1 ≤ fl.length ∧ fl.length ≤ 8) (hm : ∀ n ∈ fl, n ∈ pl ∨ n = 2) : Pl fl := ⟨hl, fun n hn => by
  rcases hm n hn with z | z
  · exact h.2 n z
  · rw [z]; decide⟩
theorem sort_spt {l : List Int} {n : Nat} (hn : l.Nodup) (hr : ∀ x ∈ l, 0 ≤ x ∧ x < (n : Int)) : Spt (sortI l) n := by
  have hp := sortBy_perm id l
  refine ⟨?_, fun x hx => hr x (hp.mem_iff.mp hx)⟩
  have h1 : (sortI l).Pairwise (· ≤ ·) := sortBy_up id l
  have h2 : (sortI l).Nodup := hp.nodup_iff.mpr hn
  exact (h1.and h2).imp fun {a b} z => by have := z.1; have := z.2; omega
section
variable {P : Program} {w : World} {K : PySem.W.Frag} {mg : Str → Option Value} {base : Heap}
variable (U : Bt mg)
include U
abbrev nSecond : List Str := ["box", "plain", "word", "way", "spot", "step"]
abbrev P_second : Sp := spD (fun b (a : List Int × List Int) => [.bx b, .d (cList cInt) a.1, .d (cTup cInt) a.2]) (fun _ => 5) (fun a => Pl a.1 ∧ InW a.2 a.1) (cTup cInt) (fun a x => InW x a.1)
theorem c_second (D : Def K mg "_law_second" (top 41)) (C_take : Cal P w K mg base "_law_take" ["box", "many"] 1 spTake) (C_text : Cal P w K mg base "_law_text" ["plain", "index"] 1 P_text) (C_lproduct : Cal P w K mg base "_law_product" ["plain"] 1 P_lproduct) : Cal P w K mg base "_law_second" ["box", "plain", "word"] 2 P_second := by
  refine cal_D (N := nSecond) D (fun _ _ _ _ _ _ us hl => match us, hl with | [_, _, _], _ => rfl) ⟨rfl, rfl, rfl, by decide +kernel, rfl, by decide +kernel, by decide +kernel⟩ (fun _ _ => rfl) (by decide) (fun _ _ => trivial) fun b a hp => ?_
  obtain ⟨pl, word⟩ := a
  obtain ⟨hpl, hw⟩ := hp
  have hpl : Pl pl := hpl
  have hw : InW word pl := hw
  have h8 := hpl.1
  have hwl := hw.len
  have hpr := hpl.prod
  refine HS.ctx (Γ' := entry nSecond [.bx b, .d (cList cInt) pl, .d (cTup cInt) word]) rfl ?_
  refine HS.le (k := 1 + 1 + (0 + 0 + (0 + (0 + 1 + 0) + 1))) ?_ (by decide)
  refine bparP (k1 := 1) (k2 := 1) (kr := 0 + 0 + (0 + (0 + 1 + 0) + 1)) 3 4 (R1 := fun s => ∃ v : Int, (0 ≤ v ∧ v < 4) ∧ s = .d cInt v) (R2 := fun s => ∃ v : Int, (0 ≤ v ∧ v < (pl.length : Int)) ∧ s = .d cInt v) (TD.tx (ptake C_take (show (1 : Nat) ≤ 1 by decide) rfl (i := 0) rfl rfl (.inl rfl) (pd_int (i := 4)) (by decide) (fun _ => rfl) (fun _ => rfl) (fun _ => rfl))) (TD.tx (ptake C_take (show (1 : Nat) ≤ 1 by decide) rfl (i := 0) rfl rfl (.inl rfl) (plen rfl U.len (TD.seqL (pd_name (i := 1) rfl rfl (.inl rfl))) (fun _ => rfl)) (by omega) (fun _ => rfl) (fun _ => rfl) (fun _ => rfl))) trivial trivial (by decide) nun nun rfl rfl rfl rfl (fun _ => rfl) (fun _ => rfl) (fun env he => by cases env; cases he; rfl) (fun env he => by cases env; cases he; rfl) ?_
  rintro _ _ ⟨way, hway, rfl⟩ ⟨spot, hspot, rfl⟩
  refine HS.ctx (Γ' := [.bx b, .d (cList cInt) pl, .d (cTup cInt) word, .d cInt way, .d cInt spot, .un]) rfl ?_
  refine bifR (k1 := 0) (k2 := 0) (k3 := 0 + (0 + 1 + 0) + 1) (tcmp (fun _ _ => op_eq) (pd_name (i := 3) rfl rfl (.inl rfl)) (pd_int (i := 0)) rd_eqI (nomark _)) (fun h => ?_) fun h => ?_
  · exact bret (pd_name (i := 2) rfl rfl (.inl rfl)) fun x e => by rw [e]; exact hw
  have hb := hpl.at hspot
  refine bifR (k1 := 0) (k2 := 0 + 1 + 0) (k3 := 1) (tcmp (fun _ _ => op_lt) (pd_name (i := 3) rfl rfl (.inl rfl)) (pd_int (i := 3)) rd_B0 (nomark _)) (fun h => ?_) fun h => ?_
  · refine bset (k := 0 + 1) (k2 := 0) (P := fun _ : Int => True) 5 (paddR (k1 := 0) (k2 := 1) (pd_int (i := 1)) (ptake C_take (show (1 : Nat) ≤ 1 by decide) rfl (i := 0) rfl rfl (.inl rfl) (pbin (fun _ _ => op_sub) (pix ixLG (pd_name (i := 1) rfl rfl (.inl rfl)) (pd_name (i := 4) rfl rfl (.inl rfl)) (rd_ixLd hspot) (fun _ _ => rfl)) (pd_int (i := 1)) rd_I0) (show (0 : Int) < atT pl spot - 1 ∧ atT pl spot - 1 < 1073741824 by omega) (fun _ => rfl) (fun _ => rfl) (fun _ => rfl)) (fun _ _ _ _ => trivial)) trivial rfl (.inl rfl) (fun env he => by cases env; cases he; rfl) (.inl rfl) ?_
    intro st _
    have hq : 0 ≤ spot ∧ spot < (word.length : Int) := by omega
    refine bret (pbin catTG (pbin catTG (pslT (pd_name (i := 2) rfl rfl (.inl rfl)) .none (.some (pd_name (i := 4) rfl rfl (.inl rfl)))) (ptup (.cons (pbin (fun _ _ => op_mod) (pintR rfl U.int (pbin (fun _ _ => op_add) (pix ixTG (pd_name (i := 2) rfl rfl (.inl rfl)) (pd_name (i := 4) rfl rfl (.inl rfl)) (rd_ixTd hq) (fun _ _ => rfl)) (pd_name (i := 5) rfl rfl (.inl rfl)) rd_I0) (fun _ => rfl)) (pix ixLG (pd_name (i := 1) rfl rfl (.inl rfl)) (pd_name (i := 4) rfl rfl (.inl rfl)) (rd_ixLd hspot) (fun _ _ => rfl)) (rd_I (show 0 < atT pl spot by omega))) .nil (fun _ => rfl)) (by simp)) (rd_catT ?_)) (pslT (pd_name (i := 2) rfl rfl (.inl rfl)) (.some (pbin (fun _ _ => op_add) (pd_name (i := 4) rfl rfl (.inl rfl)) (pd_int (i := 1)) rd_I0)) .none) (rd_catT ?_)) ?_
    · rw [cutD_head (by omega), List.length_take, List.length_singleton]; unfold LB; omega
    · rw [cutD_head (by omega), cutD_tail (by omega), List.length_append, List.length_take, List.length_drop, List.length_singleton]; unfold LB; omega
    · rintro _ rfl
      show InW _ pl
      rw [cut_put hq]
      exact inW_set hw hspot (show 0 ≤ _ % atT pl spot ∧ _ % atT pl spot < atT pl spot from ⟨Int.emod_nonneg _ (by omega), Int.emod_lt_of_pos _ (by omega)⟩)
  · exact bret (pcalX (P' := fun z => InW z pl) (k1 := 0 + (1 + 0)) (k2 := 0) C_text (show (1 : Nat) ≤ 1 by decide) rfl (pda_cons (k1 := 0) (k2 := 1 + 0) (pd_name (i := 1) rfl rfl (.inl rfl)) (pda_cons (k1 := 1) (k2 := 0) (ptake C_take (show (1 : Nat) ≤ 1 by decide) rfl (i := 0) rfl rfl (.inl rfl) (pcal1 C_lproduct (show (1 : Nat) ≤ 1 by decide) rfl (pd_name (i := 1) rfl rfl (.inl rfl)) hpl.2 (fun _ => rfl) (fun _ => rfl)) (by omega) (fun _ => rfl) (fun _ => rfl) (fun _ => rfl)) pda_nil (fun _ => rfl)) (fun _ => rfl)) (fun as ⟨x, r, hx, ⟨y, r2, hy, e2, e1⟩, e⟩ => ⟨(x, y), b, by rw [e, e1, e2], by rw [hx]; exact hpl, Nat.le_refl _, fun z hz => by subst hx; rw [hz]; exact text_in _ (fun q hq => by have := hpl.2 q hq; omega)⟩) (fun _ => rfl) (fun _ => rfl)) fun z h => h
end
end K01

set_option Elab.async false
set_option linter.all false
set_option maxRecDepth 100000
set_option maxHeartbeats 4000000
namespace K01
open PySem PySem.Spec L2 DL
section
variable {P : Program} {w : World} {K : PySem.W.Frag} {mg : Str → Option Value} {base : Heap}
variable (U : Bt mg)
include U
abbrev nBeside : List Str := ["box", "plain", "way", "spot", "found"]
abbrev P_beside : Sp := spD (fun b (a : List Int) => [.bx b, .d (cList cInt) a]) (fun _ => 40) Pl (cList cInt) (fun a x => Pl x)
theorem c_beside (D : Def K mg "_law_beside" (top 32)) (C_take : Cal P w K mg base "_law_take" ["box", "many"] 1 spTake) (C_plain : Cal P w K mg base "_law_plain" ["box"] 3 P_plain) : Cal P w K mg base "_law_beside" ["box", "plain"] 4 P_beside := by
  refine cal_D (N := nBeside) D (fun _ _ _ _ _ _ us hl => match us, hl with | [_, _], _ => rfl) ⟨rfl, rfl, rfl, by decide +kernel, rfl, by decide +kernel, by decide +kernel⟩ (fun _ _ => rfl) (by decide) (fun _ _ => trivial) fun b pl hpl => ?_
  have hpl : Pl pl := hpl
  have h8 := hpl.1
  refine HS.le (k := 1 + 1 + (0 + (0 + max 0 0 + (0 + max 0 0 + (0 + max 0 0 + (0 + max 0 0 + (0 + max 30 0))))))) ?_ (by decide)
  refine bparP (k1 := 1) (k2 := 1) (kr := 0 + (0 + max 0 0 + (0 + max 0 0 + (0 + max 0 0 + (0 + max 0 0 + (0 + max 30 0)))))) 2 3 (R1 := fun s => ∃ v : Int, (0 ≤ v ∧ v < 5) ∧ s = .d cInt v) (R2 := fun s => ∃ v : Int, (0 ≤ v ∧ v < (pl.length : Int)) ∧ s = .d cInt v) (TD.tx (ptake C_take (show (1 : Nat) ≤ 3 by decide) rfl (i := 0) rfl rfl (.inl rfl) (pd_int (i := 5)) (by decide) (fun _ => rfl) (fun _ => rfl) (fun _ => rfl))) (TD.tx (ptake C_take (show (1 : Nat) ≤ 3 by decide) rfl (i := 0) rfl rfl (.inl rfl) (plen rfl U.len (TD.seqL (pd_name (i := 1) rfl rfl (.inl rfl))) (fun _ => rfl)) (by omega) (fun _ => rfl) (fun _ => rfl) (fun _ => rfl))) trivial trivial (by decide) nun nun rfl rfl rfl rfl (fun _ => rfl) (fun _ => rfl) (fun env he => by cases env; cases he; rfl) (fun env he => by cases env; cases he; rfl) ?_
  rintro _ _ ⟨way, hway, rfl⟩ ⟨spot, hspot, rfl⟩
  refine bsetL (k := 0) (k2 := (0 + max 0 0 + (0 + max 0 0 + (0 + max 0 0 + (0 + max 0 0 + (0 + max 30 0)))))) 4 (plist rfl U.list (TD.seqL (pd_name (i := 1) rfl rfl (.inl rfl))) (fun _ => rfl)) trivial rfl (.inl rfl) (fun env he => by cases env; cases he; rfl) (.inl rfl) ?_
  intro x0 e0
  have e0 : x0 = pl := e0
  subst x0
  refine HS.ctx (Γ' := [.bx b, .d (cList cInt) pl, .d cInt way, .d cInt spot, .l cInt pl]) rfl ?_
  refine bifS (k1 := 0) (k2 := 0) (k3 := 0) (kr := (0 + max 0 0 + (0 + max 0 0 + (0 + max 0 0 + (0 + max 30 0))))) (N1 := fun Γ => ∃ fl : List Int, (Pl fl ∧ fl.length = pl.length) ∧ Γ = [.bx b, .d (cList cInt) pl, .d cInt way, .d cInt spot, .l cInt fl]) (tcmp (fun _ _ => op_eq) (pd_name (i := 2) rfl rfl (.inl rfl)) (pd_int (i := 0)) rd_eqI (nomark _)) (fun h => ?_) (fun h => phs_nil ⟨pl, ⟨hpl, rfl⟩, rfl⟩) ?_
  · refine bsetItem (kr := 0) 4 rfl (td_view (i := 4) rfl flat_int (pbin (fun _ _ => op_add) (pd_int (i := 2)) (pbin (fun _ _ => op_mod) (pbin (fun _ _ => op_sub) (pix ixLG (pd_name (i := 4) rfl rfl (.inl rfl)) (pd_name (i := 3) rfl rfl (.inl rfl)) (rd_ixLd hspot) (fun _ _ => rfl)) (pd_int (i := 1)) rd_I0) (pd_int (i := 5)) (rd_I (by decide))) rd_I0)) (pd_name (i := 3) rfl rfl (.inl rfl)) spot.toNat (ixN_at hspot) rfl (.inl rfl) (fun _ _ => rfl) (fun _ => rfl) (fun _ => rfl) (fun _ => rfl) ?_
    refine phs_nil ⟨_, ⟨hpl.set (i := spot.toNat) (v := 2 + (atT pl spot - 1) % 5) ?_, by rw [List.length_set]⟩, rfl⟩
    have := hpl.at hspot
    omega
  rintro _ ⟨fl, ⟨hf, hl⟩, rfl⟩
  refine hs_freeze (i := 4) rfl trivial ?_
  refine HS.ctx (Γ' := [.bx b, .d (cList cInt) pl, .d cInt way, .d cInt spot, .d (cList cInt) fl]) rfl ?_
  refine bifS (k1 := 0) (k2 := 0) (k3 := 0) (kr := (0 + max 0 0 + (0 + max 0 0 + (0 + max 30 0)))) (N1 := fun Γ => ∃ fl : List Int, (Pl fl ∧ (way ≠ 1 → fl.length = pl.length)) ∧ Γ = [.bx b, .d (cList cInt) pl, .d cInt way, .d cInt spot, .d (cList cInt) fl]) (pdt_w (tand (tcmp (fun _ _ => op_eq) (pd_name (i := 2) rfl rfl (.inl rfl)) (pd_int (i := 1)) rd_eqI (nomark _)) fun _ => (pdw_and1 (tcmp (fun _ _ => op_lt) (plen rfl U.len (TD.seqL (pd_name (i := 1) rfl rfl (.inl rfl))) (fun _ => rfl)) (pd_int (i := 8)) rd_B0 (nomark _))))) (fun h => ?_) (fun h => phs_nil ⟨fl, ⟨hf, fun _ => hl⟩, rfl⟩) ?_
  · have h2 : way = 1 ∧ (pl.length : Int) < 8 := by simpa using h
    have hs2 : 0 ≤ spot ∧ spot ≤ (fl.length : Int) := by omega
    have hlen : (cutD fl none (some spot) ++ [2] ++ cutD fl (some spot) none).length = fl.length + 1 := by
      rw [cutD_head hs2, cutD_tail hs2, List.length_append, List.length_append, List.length_take, List.length_drop, List.length_singleton]; omega
    refine bset (k := 0) (k2 := 0) 4 (TDF.td (pcat (TDF.td (pcat (TDF.td (pslL (pd_name (i := 4) rfl rfl (.inl rfl)) .none (.some (pd_name (i := 3) rfl rfl (.inl rfl))))) (TDF.td (plst (c := cInt) (xs := [2]) (.cons pd_int .nil (fun _ => rfl)) (by simp))) ?_)) (TDF.td (pslL (pd_name (i := 4) rfl rfl (.inl rfl)) (.some (pd_name (i := 3) rfl rfl (.inl rfl))) .none)) ?_)) trivial rfl (.inl rfl) (fun env he => by cases env; cases he; rfl) (.inl rfl) ?_
    · rw [cutD_head hs2, List.length_take, List.length_singleton]; unfold LB; omega
    · rw [← List.length_append, hlen]; unfold LB; omega
    · rintro _ rfl
      refine phs_nil ⟨_, ⟨hf.mem (fl := cutD fl none (some spot) ++ [2] ++ cutD fl (some spot) none) (by rw [hlen]; omega) (fun n hn => ?_), fun z => absurd h2.1 z⟩, rfl⟩
      rcases List.mem_append.mp hn with z | z
      · rcases List.mem_append.mp z with z | z
        · exact .inl (cutD_mem z)
        · exact .inr (List.mem_singleton.mp z)
      · exact .inl (cutD_mem z)
  rintro _ ⟨fl, ⟨hf, hl⟩, rfl⟩
  refine bifS (k1 := 0) (k2 := 0) (k3 := 0) (kr := (0 + max 0 0 + (0 + max 30 0))) (N1 := fun Γ => ∃ fl : List Int, (Pl fl ∧ (way ≠ 1 → way ≠ 2 → fl.length = pl.length)) ∧ Γ = [.bx b, .d (cList cInt) pl, .d cInt way, .d cInt spot, .d (cList cInt) fl]) (pdt_w (tand (tcmp (fun _ _ => op_eq) (pd_name (i := 2) rfl rfl (.inl rfl)) (pd_int (i := 2)) rd_eqI (nomark _)) fun _ => (pdw_and1 (tcmp (fun _ _ => op_gt) (plen rfl U.len (TD.seqL (pd_name (i := 1) rfl rfl (.inl rfl))) (fun _ => rfl)) (pd_int (i := 1)) rd_B0 (nomark _))))) (fun h => ?_) (fun h => phs_nil ⟨fl, ⟨hf, fun z _ => hl z⟩, rfl⟩) ?_
  · have h2 : way = 2 ∧ 1 < (pl.length : Int) := by simpa using h
    have hl2 := hl (by omega)
    have hs2 : 0 ≤ spot ∧ spot ≤ (fl.length : Int) := by omega
    have hs3 : 0 ≤ spot + 1 ∧ spot + 1 ≤ (fl.length : Int) := by omega
    have hlen : (cutD fl none (some spot) ++ cutD fl (some (spot + 1)) none).length + 1 = fl.length := by
      rw [cutD_head hs2, cutD_tail hs3, List.length_append, List.length_take, List.length_drop]; omega
    refine bset (k := 0) (k2 := 0) 4 (TDF.td (pcat (TDF.td (pslL (pd_name (i := 4) rfl rfl (.inl rfl)) .none (.some (pd_name (i := 3) rfl rfl (.inl rfl))))) (TDF.td (pslL (pd_name (i := 4) rfl rfl (.inl rfl)) (.some (pbin (fun _ _ => op_add) (pd_name (i := 3) rfl rfl (.inl rfl)) (pd_int (i := 1)) rd_I0)) .none)) ?_)) trivial rfl (.inl rfl) (fun env he => by cases env; cases he; rfl) (.inl rfl) ?_
    · rw [← List.length_append]; unfold LB; omega
    · rintro _ rfl
      refine phs_nil ⟨_, ⟨hf.mem (fl := cutD fl none (some spot) ++ cutD fl (some (spot + 1)) none) (by omega) (fun n hn => ?_), fun _ z => absurd h2.1 z⟩, rfl⟩
      rcases List.mem_append.mp hn with z | z
      · exact .inl (cutD_mem z)
      · exact .inl (cutD_mem z)
  rintro _ ⟨fl, ⟨hf, hl⟩, rfl⟩
  refine bifS (k1 := 0) (k2 := 0) (k3 := 0) (kr := 0 + max 30 0) (N1 := fun Γ => ∃ fl : List Int, Pl fl ∧ Γ = [.bx b, .d (cList cInt) pl, .d cInt way, .d cInt spot, .d (cList cInt) fl]) (tcmp (fun _ _ => op_eq) (pd_name (i := 2) rfl rfl (.inl rfl)) (pd_int (i := 3)) rd_eqI (nomark _)) (fun h => ?_) (fun h => phs_nil ⟨fl, hf, rfl⟩) ?_
  · have h2 : way = 3 := by simpa using h
    have hl2 := hl (by omega) (by omega)
    have hs2 : 0 ≤ spot ∧ spot ≤ (fl.length : Int) := by omega
    have hlen : (cutD fl (some spot) none ++ cutD fl none (some spot)).length = fl.length := by
      rw [cutD_head hs2, cutD_tail hs2, List.length_append, List.length_take, List.length_drop]; omega
    refine bset (k := 0) (k2 := 0) 4 (TDF.td (pcat (TDF.td (pslL (pd_name (i := 4) rfl rfl (.inl rfl)) (.some (pd_name (i := 3) rfl rfl (.inl rfl))) .none)) (TDF.td (pslL (pd_name (i := 4) rfl rfl (.inl rfl)) .none (.some (pd_name (i := 3) rfl rfl (.inl rfl))))) ?_)) trivial rfl (.inl rfl) (fun env he => by cases env; cases he; rfl) (.inl rfl) ?_
    · rw [← List.length_append, hlen]; unfold LB; omega
    · rintro _ rfl
      refine phs_nil ⟨_, hf.mem (fl := cutD fl (some spot) none ++ cutD fl none (some spot)) (by omega) (fun n hn => ?_), rfl⟩
      rcases List.mem_append.mp hn with z | z
      · exact .inl (cutD_mem z)
      · exact .inl (cutD_mem z)
  rintro _ ⟨fl, hf, rfl⟩
  exact bret (pd_if (k1 := 0) (k2 := 30) (k3 := 0) (P := fun x => Pl x) (tcmp (fun _ _ => op_eq) (pd_name (i := 2) rfl rfl (.inl rfl)) (pd_int (i := 4)) rd_eqI (nomark _)) (fun _ => pcalX (k1 := 0) (k2 := 30) C_plain (show (3 : Nat) ≤ 3 by decide) rfl (pda_boxp (k2 := 0) (i := 0) rfl rfl (.inl rfl) pda_nil) (fun as e => ⟨(), b, e, trivial, Nat.le_refl _, fun x hx => hx⟩) (fun _ => rfl) (fun _ => rfl)) fun _ => TD.imp (pd_name (i := 4) rfl rfl (.inl rfl)) fun x e => by rw [e]; exact hf) fun x h => h
abbrev nSpots : List Str := ["box", "plain", "many", "way", "found", "spot", "k"]
abbrev P_spots : Sp := spD (fun b (a : List Int) => [.bx b, .d (cList cInt) a]) (fun _ => 30) Pl (cList cInt) (fun a x => Spt x a.length)
theorem c_spots (D : Def K mg "_law_spots" (top 36)) (C_take : Cal P w K mg base "_law_take" ["box", "many"] 1 spTake) (C_mixed : Cal P w K mg base "_law_mixed" ["box", "things"] 2 P_mixedD) (C_lproduct : Cal P w K mg base "_law_product" ["plain"] 1 P_lproduct) : Cal P w K mg base "_law_spots" ["box", "plain"] 3 P_spots := by
  refine cal_D (N := nSpots) D (fun _ _ _ _ _ _ us hl => match us, hl with | [_, _], _ => rfl) ⟨rfl, rfl, rfl, by decide +kernel, rfl, by decide +kernel, by decide +kernel⟩ (fun _ _ => rfl) (by decide) (fun _ _ => trivial) fun b pl hpl => ?_
  have hpl : Pl pl := hpl
  have h8 := hpl.1
  have etn : ((pl.length : Int)).toNat = pl.length := Int.toNat_natCast _
  refine HS.le (k := 0 + 1 + (0 + 3 + (0 + 8 + (0 + (0 + 8 + 0 + 0))))) ?_ (by decide)
  refine bparP (k1 := 0) (k2 := 1) (kr := 0 + 3 + (0 + 8 + (0 + (0 + 8 + 0 + 0)))) 2 3 (R1 := (· = .d cInt (pl.length : Int))) (R2 := fun s => ∃ v : Int, (0 ≤ v ∧ v < 6) ∧ s = .d cInt v) (TD.tx' (plen rfl U.len (TD.seqL (pd_name (i := 1) rfl rfl (.inr (.inl rfl)))) (fun _ => rfl))) (TD.tx (ptake C_take (show (1 : Nat) ≤ 2 by decide) rfl (i := 0) rfl rfl (.inr (.inl rfl)) (pd_int (i := 6)) (by decide) (fun _ => rfl) (fun _ => rfl) (fun _ => rfl))) trivial trivial (by decide) (fun s e z => by rw [e] at z; cases z) nun rfl rfl rfl rfl (fun _ => rfl) (fun _ => rfl) (fun env he => by cases env; cases he; rfl) (fun env he => by cases env; cases he; rfl) ?_
  rintro _ _ rfl ⟨way, hway, rfl⟩
  refine HS.ctx (Γ' := [.bx b, .d (cList cInt) pl, .d cInt (pl.length : Int), .d cInt way, .un, .un, .un]) rfl ?_
  refine bifR (k1 := 0) (k2 := 3) (k3 := 0 + 8 + (0 + (0 + 8 + 0 + 0))) (tcmp (fun _ _ => op_eq) (pd_name (i := 3) rfl rfl (.inl rfl)) (pd_int (i := 0)) rd_eqI (nomark _)) (fun h => ?_) fun h => ?_
  · refine HS.le (k := 0 + (0 + (1 + 0)) + 1) ?_ (by decide)
    refine bret (pixLP (k1 := 0 + (0 + (1 + 0))) (k2 := 1) (n := 3) (P := fun x => Spt x pl.length) (TDF.td (plst3R (k1 := 0) (k2 := 0) (k3 := 1 + 0) (TD.imp (TDF.td (pdf_nil (c := cInt))) fun x e => by rw [e]; exact ⟨.nil, fun _ h => nomatch h⟩) (TD.imp (TDF.td (plrg1 rfl U.list rfl U.range (pd_name (i := 2) rfl rfl (.inl rfl)) (by omega) (fun _ => rfl) (fun _ => rfl))) fun x e => by rw [e, etn]; exact sp_range _) (TD.imp (TDF.td (plst1R (k := 1) (ptake C_take (show (1 : Nat) ≤ 2 by decide) rfl (i := 0) rfl rfl (.inr (.inl rfl)) (pd_name (i := 2) rfl rfl (.inl rfl)) (by omega) (fun _ => rfl) (fun _ => rfl) (fun _ => rfl)) (fun _ => rfl))) fun x ⟨y, hy, e⟩ => by rw [e]; exact ⟨List.pairwise_singleton _ _, fun z hz => by rw [List.mem_singleton.mp hz]; exact hy⟩) (fun _ => rfl) (fun _ => rfl) (fun _ => rfl))) (TD.imp (ptake C_take (show (1 : Nat) ≤ 2 by decide) rfl (i := 0) rfl rfl (.inr (.inl rfl)) (pd_int (i := 3)) (by decide) (fun _ => rfl) (fun _ => rfl) (fun _ => rfl)) fun y h => ⟨h.1, h.2⟩) (fun _ _ => rfl)) fun x h => h
  refine bifR (k1 := 0) (k2 := 8) (k3 := 0 + (0 + 8 + 0 + 0)) (tcmp (fun _ _ => op_lt) (pd_name (i := 3) rfl rfl (.inl rfl)) (pd_int (i := 4)) rd_B0 (nomark _)) (fun h => ?_) fun h => ?_
  · refine HS.le (k := 0 + 8) ?_ (by decide)
    refine bret (TDF.td (plcF (k := 0) (kt := 1 + 0) (kn := 8) [("spot", 5)] (prng1 rfl U.range (pd_name (i := 2) rfl rfl (.inl rfl)) (by omega) (fun _ => rfl)) trivial (by kernel_rfl) (fun _ _ => rfl) (by rw [rangeL_len]; omega) fun x hx => ⟨_, _, (pdg_name (i := 5) trivial rfl (.inl rfl) (.inr rfl)), (fun _ h => h), (tts_one (pdt_cmp (P3 := fun _ => True) (k1 := 1) (k2 := 0) (fun _ _ => op_eq) (ptake C_take (show (1 : Nat) ≤ 2 by decide) rfl (i := 0) rfl rfl (.inr (.inl rfl)) (pd_int (i := 2)) (by decide) (fun _ => rfl) (fun _ => rfl) (fun _ => rfl)) (pd_int (i := 0)) (fun x y _ _ Hf H v u e h1 h2 Q q => rd_eqI Hf H v u e h1 h2 Q fun z Hf' H' w _ => q z Hf' H' w trivial) (nomark _))), (pd_name (i := 5) rfl rfl (.inl rfl))⟩)) ?_
    intro ys hs
    rw [etn] at hs
    exact ⟨rangeL_up.sublist hs, fun x hx => by have := mem_rangeL.mp (hs.subset hx); omega⟩
  have hw4 : 4 ≤ way := by have := of_decide_eq_false h.symm; omega
  refine bsetL (k := 0) (k2 := 0 + 8 + 0 + 0) 4 (pdf_nil (c := cInt)) trivial rfl (.inl rfl) (fun env he => by cases env; cases he; rfl) (.inl rfl) ?_
  rintro _ rfl
  refine bfor (k := 0 + 8) (kk := 0 + max 0 0 + 0) (kn := 0) (k2 := 0) [5] (X' := fun xs => xs.Perm (rangeL 0 pl.length)) (fun xs pre Γ => ∃ fl : List Int, fl.Sublist pre ∧ Γ = [.bx b, .d (cList cInt) pl, .d cInt (pl.length : Int), .d cInt way, .l cInt fl, .un, .un]) (pdi_list (pcalX (k1 := 0) (k2 := 8) C_mixed (show (2 : Nat) ≤ 2 by decide) rfl (pda_boxp (k2 := 0) (i := 0) rfl rfl (.inr (.inl rfl)) (pda_one (TDF.td (plrg1 rfl U.list rfl U.range (pd_name (i := 2) rfl rfl (.inl rfl)) (by omega) (fun _ => rfl) (fun _ => rfl))) (fun _ => rfl))) (fun as e => ⟨rangeL 0 pl.length, b, by rw [e, etn], by rw [rangeL_len]; exact h8.2, by rw [rangeL_len]; exact h8.2, fun x hx => hx⟩) (fun _ => rfl) (fun _ => rfl))) ?_ ?_ ?_ (fun _ _ => rfl) ?_
  · intro xs _; exact ⟨[], List.Sublist.refl _, rfl⟩
  · intro xs _; simp
  · rintro xs hxs pre x post _ hx ⟨fl, hfl, rfl⟩
    have hin : ∀ y ∈ xs, 0 ≤ y ∧ y < (pl.length : Int) := fun y hy => by have := mem_rangeL.mp (hxs.mem_iff.mp hy); omega
    have hx1 := hin x (by rw [hx]; simp)
    have hfi : ∀ y ∈ fl, 0 ≤ y ∧ y < (pl.length : Int) := fun y hy => hin y (by rw [hx]; exact List.mem_append_left _ (hfl.subset hy))
    have hb := hpl.at hx1
    have hll : fl.length ≤ 8 := by
      have h1 := hfl.length_le
      have h2 := congrArg List.length hx
      rw [List.length_append, hxs.length_eq, rangeL_len] at h2
      omega
    refine ⟨_, _, (pdg_name (i := 5) trivial rfl (.inl rfl) (.inl rfl)), ?_⟩
    refine HS.ctx (Γ' := [.bx b, .d (cList cInt) pl, .d cInt (pl.length : Int), .d cInt way, .l cInt fl, .d cInt x, .un]) rfl ?_
    refine bifS (k1 := 0) (k2 := 0) (k3 := 0) (kr := 0) (N1 := fun Γ => ∃ fl' : List Int, fl'.Sublist (pre ++ [x]) ∧ NoBxs Γ [5] ∧ wipeC Γ [5] = [.bx b, .d (cList cInt) pl, .d cInt (pl.length : Int), .d cInt way, .l cInt fl', .un, .un]) (tt_view (i := 4) rfl (tcmp (fun _ _ => op_le) (pbin (fun _ _ => op_mul) (pcal1 C_lproduct (show (1 : Nat) ≤ 2 by decide) rfl (TDF.td (plcN (f := atT pl) [("k", 6)] (pdi_list (pd_name (i := 4) rfl rfl (.inl rfl))) trivial (by kernel_rfl) (fun _ _ => rfl) fun y hy => ⟨_, _, (pdg_name (i := 6) trivial rfl (.inl rfl) (.inr rfl)), (fun _ h => h), (pix ixLG (pd_name (i := 1) rfl rfl (.inr (.inl rfl))) (pd_name (i := 6) rfl rfl (.inl rfl)) (rd_ixLd (hfi y hy)) (fun _ _ => rfl))⟩)) (fun n hn => by obtain ⟨i, hi, rfl⟩ := List.mem_map.mp hn; exact hpl.at (hfi i hi)) (fun _ => rfl) (fun _ => rfl)) (pix ixLG (pd_name (i := 1) rfl rfl (.inr (.inl rfl))) (pd_name (i := 5) rfl rfl (.inl rfl)) (rd_ixLd hx1) (fun _ _ => rfl)) (rd_I (.inr (show -(2 ^ 64) < atT pl x ∧ atT pl x < 2 ^ 64 by omega)))) (pix ixLG (TDF.td (plst (c := cInt) (xs := [100, 216]) (.cons pd_int (.cons pd_int .nil (fun _ => rfl)) (fun _ => rfl)) (by simp))) (pbin (fun _ _ => op_sub) (pd_name (i := 3) rfl rfl (.inl rfl)) (pd_int (i := 4)) rd_I0) (rd_ixLd (show 0 ≤ way - 4 ∧ way - 4 < (2 : Int) by omega)) (fun _ _ => rfl)) rd_B0 (nomark _))) (fun h => ?_) (fun h => phs_nil ⟨fl, hfl.trans (List.sublist_append_left _ _), trivial, rfl⟩) ?_
    · refine bappend (k := 0) (k2 := 0) 4 rfl (pd_name (i := 5) rfl rfl (.inl rfl)) (by unfold LB; omega) rfl (.inl rfl) (fun _ => rfl) rfl (fun _ => rfl) (fun _ => rfl) ?_
      rintro _ rfl
      exact phs_nil ⟨_, hfl.append (List.Sublist.refl _), trivial, rfl⟩
    · rintro Γ1 ⟨fl', h1, h2, h3⟩
      exact phs_nil ⟨h2, fl', h1, h3⟩
  · rintro xs _ hxs ⟨fl, hfl, rfl⟩
    have hnd : xs.Nodup := hxs.nodup_iff.mpr (up_nodup rangeL_up)
    refine hs_freeze (i := 4) rfl trivial ?_
    exact bret (TDF.td (psortI' rfl U.sorted (pd_name (i := 4) rfl rfl (.inl rfl)) (fun _ => rfl))) fun x e => by
      rw [e]
      exact sort_spt (hfl.nodup hnd) fun y hy => by have := mem_rangeL.mp (hxs.mem_iff.mp (hfl.subset hy)); omega
end
end K01

set_option Elab.async false
set_option linter.all false
set_option maxRecDepth 100000
set_option maxHeartbeats 4000000
namespace K01
open PySem PySem.Spec L2 DL
theorem op_isNotB {X : Cx} : OpR X (compareOp .IsNot) (fun x y H Q => ∃ a b, x = .bl a ∧ y = .bl b ∧ Q (.bl (!decide (a = b))) H) := by
  intro pins s σ H x y v u Q I rx ry h
  obtain ⟨a, b, rfl, rfl, q⟩ := h
  cases rx
  cases ry
  have e : wpAny (model X.prog X.w) X.A (compareOp .IsNot (.bool a) (.bool b)) (EP X pins σ Q) X.xe s := wpAny_pure (fin_bl I q (by cases a <;> cases b <;> rfl))
  exact e
theorem tisNotB {S : Stc} {Γ : Ctxt} {a b : Expr} {pos : Pos} {s t : Bool} (ha : PD S Γ 0 a cBool (· = s)) (hb : PD S Γ 0 b cBool (· = t)) (hk : behindInMarks .IsNot b = false) : PDT S Γ 0 (.Compare a [.IsNot] [b] pos) (· = !decide (s = t)) := tcmp (fun X G => op_isNotB) ha hb (fun Hf H v u e h1 h2 Q q => ⟨s, t, h1, h2, q _ Hf H _ rfl rfl Fr.refl e⟩) hk
theorem log_small {i : Int} (h : 0 ≤ i ∧ i ≤ 1679616) : i.natAbs.log2 < 1920 := by
  by_cases z : i.natAbs = 0
  · rw [z]; decide
  · have := (Nat.log2_lt (n := i.natAbs) (k := 21) z).mpr (by omega)
    omega
theorem apart_spt {a b : List Int} {n : Nat} (h : a.length = n) : Spt (apartL a b) n := ⟨rangeL_up.sublist List.filter_sublist, fun x hx => by
  have hx : x ∈ (rangeL 0 a.length).filter _ := hx
  have := mem_rangeL.mp (List.mem_filter.mp hx).1
  omega⟩
theorem apart_comm {a b : List Int} (h : a.length = b.length) : apartL a b = apartL b a := by
  unfold apartL
  rw [h]
  refine List.filter_congr fun i _ => ?_
  simp only [eq_comm]
theorem mix_apart {a b : List Int} (h : a.length = b.length) : mixL a b (apartL a b) = b := by
  refine ext_at (by unfold mixL; rw [List.length_map, rangeL_len, h]) fun i h0 h1 => ?_
  unfold mixL at h1 ⊢
  rw [List.length_map, rangeL_len] at h1
  have hi : (rangeL 0 a.length)[i.toNat]'(by rw [rangeL_len]; omega) = i := by
    have := rangeL_get (lo := 0) (n := a.length) (i := i.toNat) (List.getElem?_eq_getElem (by rw [rangeL_len]; omega))
    rw [this]; omega
  unfold atT
  rw [List.getD_eq_getElem?_getD, List.getElem?_map, List.getElem?_eq_getElem (by rw [rangeL_len]; omega), hi]
  show (if decide (i ∈ apartL a b) = true then atT b i else atT a i) = atT b i
  by_cases z : i ∈ apartL a b
  · rw [if_pos (decide_eq_true z)]
  · rw [if_neg (by simpa using z)]
    have hz : ¬ (i ∈ rangeL 0 a.length ∧ (!decide (atT a i = atT b i)) = true) := fun q => z (List.mem_filter.mpr q)
    have hr : i ∈ rangeL 0 a.length := mem_rangeL.mpr (by omega)
    by_cases e : atT a i = atT b i
    · exact e
    · exact absurd ⟨hr, by rw [Bool.not_eq_true', decide_eq_false_iff_not]; exact e⟩ hz
abbrev nPair : List Str := ["box", "book", "plain", "many", "index", "word", "near", "apart", "told", "spots", "due", "turned", "spot"]
section
variable {P : Program} {w : World} {K : PySem.W.Frag} {mg : Str → Option Value} {base : Heap} {CB : Addr}
variable (U : Bt mg)
include U
abbrev P_pair (CB : Addr) : Sp := spD (fun b (a : List Int) => [.bx b, .d (cBk CB) a, .d (cList cInt) a]) (fun _ => 16) Pl cBool (fun _ x => x = true)
theorem c_pair (U3 : Bt3 mg) (D : Def K mg "_law_pair_right" (top 42)) (T : TBk K mg CB) (C_take : Cal P w K mg base "_law_take" ["box", "many"] 1 spTake) (C_lproduct : Cal P w K mg base "_law_product" ["plain"] 1 P_lproduct) (C_text : Cal P w K mg base "_law_text" ["plain", "index"] 1 P_text) (C_second : Cal P w K mg base "_law_second" ["box", "plain", "word"] 2 P_second) (C_index : Cal P w K mg base "_law_index" ["plain", "word"] 1 P_index)
    (M_textat : MBoth P w K mg base CB "text_at" "number" 3 (P_textat CB)) (M_number : MBoth P w K mg base CB "number" "text" 5 (P_number CB)) (M_istext : MCal P w K mg base CB "is_text" ["self", "value"] 3 (P_istext CB)) (M_unlike : MB2 P w K mg base CB "unlike" "text" "other" 5 (P_unlike CB)) (M_mixed : MB3 P w K mg base CB "mixed" "text" "other" "places" 7 (P_mixed4 CB)) :
    Cal P w K mg base "_law_pair_right" ["box", "book", "plain"] 8 (P_pair CB) := by
  refine cal_D (N := nPair) D (fun _ _ _ _ _ _ us hl => match us, hl with | [_, _, _], _ => rfl) ⟨rfl, rfl, rfl, by decide +kernel, rfl, by decide +kernel, by decide +kernel⟩ (fun _ _ => rfl) (by decide) (fun _ _ => trivial) fun b pl hpl => ?_
  have hpl : Pl pl := hpl
  have h8 := hpl.1
  have hpr := hpl.prod
  have hpos : ∀ p ∈ pl, 0 < p := fun p hp => by have := hpl.2 p hp; omega
  have etn : ((pl.length : Int)).toNat = pl.length := Int.toNat_natCast _
  refine HS.le (k := 0 + (0 + (0 + 1) + (0 + 1) + (0 + (5 + (0 + 0 + (0 + 0 + (0 + (0 + (0 + 0 + (0 + (0 + 0 + (0 + 8 + (0 + (0 + (0 + 0 + 0))))))))))))))) ?_ (by decide)
  refine bset (k := 0) (k2 := 0 + (0 + 1) + (0 + 1) + (0 + (5 + (0 + 0 + (0 + 0 + (0 + (0 + (0 + 0 + (0 + (0 + 0 + (0 + 8 + (0 + (0 + (0 + 0 + 0)))))))))))))) 3 (plen rfl U.len (TD.seqL (pd_name (i := 2) rfl rfl (.inl rfl))) (fun _ => rfl)) trivial rfl (.inl rfl) (fun env he => by cases env; cases he; rfl) (.inl rfl) ?_
  rintro _ rfl
  refine bset (k := 0 + (0 + 1) + (0 + 1)) (k2 := 0 + (5 + (0 + 0 + (0 + 0 + (0 + (0 + (0 + 0 + (0 + (0 + 0 + (0 + 8 + (0 + (0 + (0 + 0 + 0))))))))))))) (P := fun z : Int => 0 ≤ z ∧ z < prodL pl) 4 (pixLP (k1 := 0 + (0 + 1)) (k2 := 0 + 1) (n := 3) (P := fun z : Int => 0 ≤ z ∧ z < prodL pl) (TDF.td (plst3R (k1 := 0) (k2 := 0) (k3 := 1) (TD.imp (pd_int (i := 0)) fun x e => by rw [e]; omega) (TD.imp (pbin (fun _ _ => op_sub) (pcal1 C_lproduct (show (1 : Nat) ≤ 7 by decide) rfl (pd_name (i := 2) rfl rfl (.inl rfl)) hpl.2 (fun _ => rfl) (fun _ => rfl)) (pd_int (i := 1)) rd_I0) fun x e => by rw [e]; omega) (TD.imp (ptake C_take (show (1 : Nat) ≤ 7 by decide) rfl (i := 0) rfl rfl (.inr (.inl rfl)) (pcal1 C_lproduct (show (1 : Nat) ≤ 7 by decide) rfl (pd_name (i := 2) rfl rfl (.inl rfl)) hpl.2 (fun _ => rfl) (fun _ => rfl)) (by omega) (fun _ => rfl) (fun _ => rfl) (fun _ => rfl)) fun x h => h) (fun _ => rfl) (fun _ => rfl) (fun _ => rfl))) (pmin2R (k1 := 0) (k2 := 1) rfl U3.min (pd_int (i := 2)) (ptake C_take (show (1 : Nat) ≤ 7 by decide) rfl (i := 0) rfl rfl (.inr (.inl rfl)) (pd_int (i := 6)) (by decide) (fun _ => rfl) (fun _ => rfl) (fun _ => rfl)) (by rintro i j rfl ⟨h1, h2⟩; constructor <;> split <;> omega) (fun _ => rfl) (fun _ => rfl) (fun _ => rfl)) (fun _ _ => rfl)) trivial rfl (.inl rfl) (fun env he => by cases env; cases he; rfl) (.inl rfl) ?_
  intro index hix
  have hix2 : 0 ≤ index ∧ index ≤ 1679616 := by omega
  refine bset (k := 0) (k2 := 5 + (0 + 0 + (0 + 0 + (0 + (0 + (0 + 0 + (0 + (0 + 0 + (0 + 8 + (0 + (0 + (0 + 0 + 0)))))))))))) 5 (pcal2 C_text (show (1 : Nat) ≤ 7 by decide) rfl (pd_name (i := 2) rfl rfl (.inl rfl)) (pd_name (i := 4) rfl rfl (.inl rfl)) hpl (fun _ => rfl) (fun _ => rfl) (fun _ => rfl)) trivial rfl (.inr rfl) (fun env he => sw_cell rfl env he) (.inl rfl) ?_
  intro wd ewd
  have ewd : wd = textL pl index := ewd
  have hwd : InW wd pl := by rw [ewd]; exact text_in _ hpos
  have hnum : num0 wd pl = index := by rw [ewd]; exact num_text hpos (by rw [← prodL_R]; exact hix)
  have lwd := hwd.len
  refine HS.ctx (Γ' := [.bx b, .d (cBk CB) pl, .d (cList cInt) pl, .d cInt (pl.length : Int), .d cInt index, .d (cTup cInt) wd, .un, .un, .un, .un, .un, .un, .un]) rfl ?_
  refine bset (k := 0 + 5) (k2 := (0 + 0 + (0 + 0 + (0 + (0 + (0 + 0 + (0 + (0 + 0 + (0 + 8 + (0 + (0 + (0 + 0 + 0)))))))))))) (P := fun z => InW z pl) 6 (pcalX (P' := fun z => InW z pl) (k1 := 0) (k2 := 5) C_second (show (2 : Nat) ≤ 7 by decide) rfl (pda_boxp (k2 := 0) (i := 0) rfl rfl (.inr (.inl rfl)) (pda_more (k1 := 0) (k2 := 0) (pd_name (i := 2) rfl rfl (.inl rfl)) (pda_one (pd_name (i := 5) rfl rfl (.inr (.inl rfl))) (fun _ => rfl)) (fun _ => rfl))) (fun as e => ⟨(pl, wd), b, e, ⟨hpl, hwd⟩, Nat.le_refl _, fun x hx => hx⟩) (fun _ => rfl) (fun _ => rfl)) trivial rfl (.inr rfl) (fun env he => sw_cell rfl env he) (.inl rfl) ?_
  intro nr hnr
  have lnr := hnr.len
  have hat : ∀ i ∈ rangeL 0 ((pl.length : Int)).toNat, (0 ≤ i ∧ i < (wd.length : Int)) ∧ (0 ≤ i ∧ i < (nr.length : Int)) := fun i hi => by
    have := mem_rangeL.mp hi
    omega
  have hnn := num0_range hnr
  rw [← prodL_R] at hnn
  refine HS.ctx (Γ' := [.bx b, .d (cBk CB) pl, .d (cList cInt) pl, .d cInt (pl.length : Int), .d cInt index, .d (cTup cInt) wd, .d (cTup cInt) nr, .un, .un, .un, .un, .un, .un]) rfl ?_
  refine bifR (k1 := 0) (k2 := 0) (k3 := (0 + 0 + (0 + (0 + (0 + 0 + (0 + (0 + 0 + (0 + 8 + (0 + (0 + (0 + 0 + 0))))))))))) (pdt_w (tor (tcmp (op_neDG rfl) (pm1 M_textat.p T.k.cl (show (3 : Nat) ≤ 7 by decide) (pd_name (i := 1) rfl rfl (.inl rfl)) (pd_name (i := 4) rfl rfl (.inl rfl)) (hno_Bk (by decide +kernel)) ⟨hpl, hix⟩ (fun _ => rfl) (fun _ => rfl) (fun _ => rfl)) (pd_name (i := 5) rfl rfl (.inr (.inl rfl))) (rd_neD (eTup eInt) (by decide)) (nomark _)) fun _ => (tor (tcmp (fun _ _ => op_ne) (preprI rfl U3.repr (pm1 M_number.p T.k.cl (show (5 : Nat) ≤ 7 by decide) (pd_name (i := 1) rfl rfl (.inl rfl)) (pd_name (i := 5) rfl rfl (.inr (.inl rfl))) (hno_Bk (by decide +kernel)) ⟨hpl, hwd⟩ (fun _ => rfl) (fun _ => rfl) (fun _ => rfl)) (log_small (by show 0 ≤ num0 wd pl ∧ num0 wd pl ≤ 1679616; rw [hnum]; exact hix2)) (fun _ => rfl)) (preprI rfl U3.repr (pd_name (i := 4) rfl rfl (.inl rfl)) (log_small hix2) (fun _ => rfl)) rd_neStr (nomark _)) fun _ => (pdw_or1 (tisNotB (pm1 M_istext T.k.cl (show (3 : Nat) ≤ 7 by decide) (pd_name (i := 1) rfl rfl (.inl rfl)) (pd_name (i := 5) rfl rfl (.inr (.inl rfl))) (hno_Bk (by decide +kernel)) hwd (fun _ => rfl) (fun _ => rfl) (fun _ => rfl)) (pd_bool (i := true)) (nomark _)))))) (fun h => ?_) fun h => ?_
  · exfalso
    have e1 : textL pl index = wd := ewd.symm
    simp [e1, hnum] at h
  refine bifR (k1 := 0) (k2 := 0) (k3 := (0 + (0 + (0 + 0 + (0 + (0 + 0 + (0 + 8 + (0 + (0 + (0 + 0 + 0)))))))))) (pdt_w (tor (tcmp (fun _ _ => op_ne) (pm1k M_number.k T.k.cl (show (5 : Nat) ≤ 7 by decide) (pd_name (i := 1) rfl rfl (.inl rfl)) (pd_name (i := 6) rfl rfl (.inr (.inl rfl))) (hno_Bk (by decide +kernel)) ⟨hpl, hnr⟩ (fun _ => rfl) (fun _ => rfl) (fun _ => rfl) (fun _ => rfl)) (pcal2 C_index (show (1 : Nat) ≤ 7 by decide) rfl (pd_name (i := 2) rfl rfl (.inl rfl)) (pd_name (i := 6) rfl rfl (.inr (.inl rfl))) ⟨hpl, lnr⟩ (fun _ => rfl) (fun _ => rfl) (fun _ => rfl)) rd_neI (nomark _)) fun _ => (pdw_or1 (tcmp (fun _ _ => op_ne) (pcmp (fun _ _ => op_lt) (pm1 M_number.p T.k.cl (show (5 : Nat) ≤ 7 by decide) (pd_name (i := 1) rfl rfl (.inl rfl)) (pd_name (i := 6) rfl rfl (.inr (.inl rfl))) (hno_Bk (by decide +kernel)) ⟨hpl, hnr⟩ (fun _ => rfl) (fun _ => rfl) (fun _ => rfl)) (pd_name (i := 4) rfl rfl (.inl rfl)) rd_B0 (nomark _)) (pltT (pd_name (i := 6) rfl rfl (.inr (.inl rfl))) (pd_name (i := 5) rfl rfl (.inr (.inl rfl))) (nomark _)) rd_neB (nomark _))))) (fun h => ?_) fun h => ?_
  · exfalso
    have e1 : decide (num0 nr pl < index) = HT.lexLt nr wd := by
      rw [Bool.eq_iff_iff, decide_eq_true_eq, num_lt hnr hwd, hnum]
    simp [e1] at h
  refine bsetLc (k := 0) (k2 := (0 + (0 + 0 + (0 + (0 + 0 + (0 + 8 + (0 + (0 + (0 + 0 + 0))))))))) 7 [("spot", 12)] (tdf_lcT (f := fun i => i) (q := fun i => !decide (atT wd i = atT nr i)) (prng1 rfl U.range (pd_name (i := 3) rfl rfl (.inl rfl)) (by omega) (fun _ => rfl)) trivial fun i hi => ⟨_, _, (pdg_name (i := 12) trivial rfl (.inl rfl) (.inr rfl)), (fun _ h => h), (tts_one (tcmp (fun _ _ => op_ne) (pix ixTG (pd_name (i := 5) rfl rfl (.inr (.inl rfl))) (pd_name (i := 12) rfl rfl (.inl rfl)) (rd_ixTd (hat i hi).1) (fun _ _ => rfl)) (pix ixTG (pd_name (i := 6) rfl rfl (.inr (.inl rfl))) (pd_name (i := 12) rfl rfl (.inl rfl)) (rd_ixTd (hat i hi).2) (fun _ _ => rfl)) rd_neI (nomark _))), fun hq => (pd_name (i := 12) rfl rfl (.inl rfl))⟩) trivial rfl rfl rfl rfl rfl (by kernel_rfl) (fun _ _ => rfl) ?_
  intro ap eap
  have eap : ap = apartL wd nr := by rw [eap]; unfold apartL; rw [etn, lwd, List.map_id']
  subst eap
  refine HS.ctx (Γ' := [.bx b, .d (cBk CB) pl, .d (cList cInt) pl, .d cInt (pl.length : Int), .d cInt index, .d (cTup cInt) wd, .d (cTup cInt) nr, .d (cList cInt) (apartL wd nr), .un, .un, .un, .un, .un]) rfl ?_
  refine bsetL (k := 0) (k2 := (0 + 0 + (0 + (0 + 0 + (0 + 8 + (0 + (0 + (0 + 0 + 0)))))))) 8 (pm2F M_unlike T.k.cl (show (5 : Nat) ≤ 7 by decide) (pd_name (i := 1) rfl rfl (.inl rfl)) (pd_name (i := 5) rfl rfl (.inr (.inl rfl))) (pd_name (i := 6) rfl rfl (.inr (.inl rfl))) (hno_Bk (by decide +kernel)) ⟨hpl, hwd, hnr⟩ (fun _ => rfl) (fun _ => rfl) (fun _ => rfl) (fun _ => rfl)) trivial rfl (.inl rfl) (fun env he => by cases env; cases he; rfl) (.inl rfl) ?_
  rintro _ rfl
  refine HS.ctx (Γ' := [.bx b, .d (cBk CB) pl, .d (cList cInt) pl, .d cInt (pl.length : Int), .d cInt index, .d (cTup cInt) wd, .d (cTup cInt) nr, .d (cList cInt) (apartL wd nr), .l cInt (apartL wd nr), .un, .un, .un, .un]) rfl ?_
  refine bifR (k1 := 0) (k2 := 0) (k3 := (0 + (0 + 0 + (0 + 8 + (0 + (0 + (0 + 0 + 0))))))) (tt_view (i := 8) rfl (pdt_w (tor (pdt_not (pdt_val (pisi rfl U.isinstance (pd_name (i := 8) rfl rfl (.inl rfl)) (nmTy rfl U.list PyProof.Rows.boot_list) (.ty _) ty_list (r := true) (kit_ty (by decide +kernel)) (fun _ => rfl)) (fun _ _ => rfl))) fun _ => (pdw_or1 (tcmp (op_neDG rfl) (pd_name (i := 8) rfl rfl (.inl rfl)) (pd_name (i := 7) rfl rfl (.inl rfl)) (rd_neD (eList eInt) (by decide)) (nomark _)))))) (fun h => ?_) fun h => ?_
  · exfalso; simp at h
  refine bappend (k := 0) (k2 := (0 + 0 + (0 + 8 + (0 + (0 + (0 + 0 + 0)))))) 8 rfl (pd_name (i := 3) rfl rfl (.inl rfl)) (by have := (apart_spt (b := nr) lwd).len; unfold LB; omega) rfl (.inl rfl) (fun _ => rfl) rfl (fun _ => rfl) (fun _ => rfl) ?_
  rintro _ rfl
  refine HS.drop [8] trivial ?_
  refine HS.ctx (Γ' := [.bx b, .d (cBk CB) pl, .d (cList cInt) pl, .d cInt (pl.length : Int), .d cInt index, .d (cTup cInt) wd, .d (cTup cInt) nr, .d (cList cInt) (apartL wd nr), .un, .un, .un, .un, .un]) rfl ?_
  refine bifR (k1 := 0) (k2 := 0) (k3 := (0 + 8 + (0 + (0 + (0 + 0 + 0))))) (pdt_w (tor (tcmp (op_neDG rfl) (TDF.td (pm2kF M_unlike T.k.cl (show (5 : Nat) ≤ 7 by decide) (pd_name (i := 1) rfl rfl (.inl rfl)) (pd_name (i := 5) rfl rfl (.inr (.inl rfl))) (pd_name (i := 6) rfl rfl (.inr (.inl rfl))) (hno_Bk (by decide +kernel)) ⟨hpl, hnr, hwd⟩ (fun _ => rfl) (fun _ => rfl) (fun _ => rfl) (fun _ => rfl))) (pd_name (i := 7) rfl rfl (.inl rfl)) (rd_neD (eList eInt) (by decide)) (nomark _)) fun _ => (pdw_or1 (tcmp (op_neDG rfl) (pm1k M_textat.k T.k.cl (show (3 : Nat) ≤ 7 by decide) (pd_name (i := 1) rfl rfl (.inl rfl)) (pm1 M_number.p T.k.cl (show (5 : Nat) ≤ 7 by decide) (pd_name (i := 1) rfl rfl (.inl rfl)) (pd_name (i := 6) rfl rfl (.inr (.inl rfl))) (hno_Bk (by decide +kernel)) ⟨hpl, hnr⟩ (fun _ => rfl) (fun _ => rfl) (fun _ => rfl)) (hno_Bk (by decide +kernel)) ⟨hpl, hnn⟩ (fun _ => rfl) (fun _ => rfl) (fun _ => rfl) (fun _ => rfl)) (pd_name (i := 6) rfl rfl (.inr (.inl rfl))) (rd_neD (eTup eInt) (by decide)) (nomark _))))) (fun h => ?_) fun h => ?_
  · exfalso
    have e1 : apartL nr wd = apartL wd nr := apart_comm (lnr.trans lwd.symm)
    have e2 : textL pl (num0 nr pl) = nr := text_num hnr
    simp [e1, e2] at h
  refine bset (k := 0 + 8) (k2 := (0 + (0 + (0 + 0 + 0)))) 9 (TDF.td (plcF (k := 0) (kt := 1 + 0) (kn := 8) [("spot", 12)] (prng1 rfl U.range (pd_name (i := 3) rfl rfl (.inl rfl)) (by omega) (fun _ => rfl)) trivial (by kernel_rfl) (fun _ _ => rfl) (by rw [rangeL_len]; omega) fun x hx => ⟨_, _, (pdg_name (i := 12) trivial rfl (.inl rfl) (.inr rfl)), (fun _ h => h), (tts_one (pdt_cmp (P3 := fun _ => True) (k1 := 1) (k2 := 0) (fun _ _ => op_eq) (ptake C_take (show (1 : Nat) ≤ 7 by decide) rfl (i := 0) rfl rfl (.inr (.inl rfl)) (pd_int (i := 2)) (by decide) (fun _ => rfl) (fun _ => rfl) (fun _ => rfl)) (pd_int (i := 0)) (fun x y _ _ Hf H v u e h1 h2 Q q => rd_eqI Hf H v u e h1 h2 Q fun z Hf' H' w _ => q z Hf' H' w trivial) (nomark _))), (pd_name (i := 12) rfl rfl (.inl rfl))⟩)) trivial rfl (.inr rfl) (fun env he => sw_cell rfl env he) (.inl rfl) ?_
  intro ps hps
  have hps : Spt ps pl.length := by
    have hps : ps.Sublist (rangeL 0 ((pl.length : Int)).toNat) := hps
    rw [etn] at hps
    exact ⟨rangeL_up.sublist hps, fun x hx => by have := mem_rangeL.mp (hps.subset hx); omega⟩
  refine HS.ctx (Γ' := [.bx b, .d (cBk CB) pl, .d (cList cInt) pl, .d cInt (pl.length : Int), .d cInt index, .d (cTup cInt) wd, .d (cTup cInt) nr, .d (cList cInt) (apartL wd nr), .un, .d (cList cInt) ps, .un, .un, .un]) rfl ?_
  refine bset (k := 0) (k2 := (0 + (0 + 0 + 0))) 10 (ptuple rfl U.tuple (TD.seqL (TDF.td (plcN (f := fun i => if decide (i ∈ ps) = true then atT nr i else atT wd i) [("spot", 12)] (prng1 rfl U.range (pd_name (i := 3) rfl rfl (.inl rfl)) (by omega) (fun _ => rfl)) trivial (by kernel_rfl) (fun _ _ => rfl) fun i hi => ⟨_, _, (pdg_name (i := 12) trivial rfl (.inl rfl) (.inr rfl)), (fun _ h => h), (pif (tcmp op_inG (pd_name (i := 12) rfl rfl (.inl rfl)) (pd_name (i := 9) rfl rfl (.inr (.inl rfl))) (rd_inI (neg := false)) rfl) (fun _ => pix ixTG (pd_name (i := 6) rfl rfl (.inr (.inl rfl))) (pd_name (i := 12) rfl rfl (.inl rfl)) (rd_ixTd (hat i hi).2) (fun _ _ => rfl)) fun _ => pix ixTG (pd_name (i := 5) rfl rfl (.inr (.inl rfl))) (pd_name (i := 12) rfl rfl (.inl rfl)) (rd_ixTd (hat i hi).1) (fun _ _ => rfl))⟩))) (fun _ => rfl)) trivial rfl (.inl rfl) (fun env he => by cases env; cases he; rfl) (.inl rfl) ?_
  rintro _ rfl
  refine bset (k := 0) (k2 := (0 + 0 + 0)) 11 (ptuple rfl U.tuple (TD.seqL (TDF.td (plcN (f := fun i => if decide (i ∈ ps) = true then atT wd i else atT nr i) [("spot", 12)] (prng1 rfl U.range (pd_name (i := 3) rfl rfl (.inl rfl)) (by omega) (fun _ => rfl)) trivial (by kernel_rfl) (fun _ _ => rfl) fun i hi => ⟨_, _, (pdg_name (i := 12) trivial rfl (.inl rfl) (.inr rfl)), (fun _ h => h), (pif (tcmp op_inG (pd_name (i := 12) rfl rfl (.inl rfl)) (pd_name (i := 9) rfl rfl (.inr (.inl rfl))) (rd_inI (neg := false)) rfl) (fun _ => pix ixTG (pd_name (i := 5) rfl rfl (.inr (.inl rfl))) (pd_name (i := 12) rfl rfl (.inl rfl)) (rd_ixTd (hat i hi).1) (fun _ _ => rfl)) fun _ => pix ixTG (pd_name (i := 6) rfl rfl (.inr (.inl rfl))) (pd_name (i := 12) rfl rfl (.inl rfl)) (rd_ixTd (hat i hi).2) (fun _ _ => rfl))⟩))) (fun _ => rfl)) trivial rfl (.inl rfl) (fun env he => by cases env; cases he; rfl) (.inl rfl) ?_
  rintro _ rfl
  refine HS.ctx (Γ' := [.bx b, .d (cBk CB) pl, .d (cList cInt) pl, .d cInt (pl.length : Int), .d cInt index, .d (cTup cInt) wd, .d (cTup cInt) nr, .d (cList cInt) (apartL wd nr), .un, .d (cList cInt) ps, .d (cTup cInt) ((rangeL 0 ((pl.length : Int)).toNat).map fun i => if decide (i ∈ ps) = true then atT nr i else atT wd i), .d (cTup cInt) ((rangeL 0 ((pl.length : Int)).toNat).map fun i => if decide (i ∈ ps) = true then atT wd i else atT nr i), .un]) rfl ?_
  have e1 : mixL wd nr ps = ((rangeL 0 ((pl.length : Int)).toNat).map fun i => if decide (i ∈ ps) = true then atT nr i else atT wd i) := by unfold mixL; rw [etn, lwd]
  have e2 : mixL nr wd ps = ((rangeL 0 ((pl.length : Int)).toNat).map fun i => if decide (i ∈ ps) = true then atT wd i else atT nr i) := by unfold mixL; rw [etn, lnr]
  refine bifR (k1 := 0) (k2 := 0) (k3 := 0) (pdt_w (tor (tcmp (op_neDG rfl) (pm3 M_mixed T.k.cl (show (7 : Nat) ≤ 7 by decide) (pd_name (i := 1) rfl rfl (.inl rfl)) (pd_name (i := 5) rfl rfl (.inr (.inl rfl))) (pd_name (i := 6) rfl rfl (.inr (.inl rfl))) (TD.seqL (pd_name (i := 9) rfl rfl (.inr (.inl rfl)))) (hno_Bk (by decide +kernel)) ⟨hpl, hwd, hnr, hps⟩ (fun _ => rfl) (fun _ => rfl) (fun _ => rfl) (fun _ => rfl) (fun _ => rfl)) (pd_name (i := 10) rfl rfl (.inl rfl)) (rd_neD (eTup eInt) (by decide)) (nomark _)) fun _ => (pdw_or1 (tcmp (op_neDG rfl) (pm3k M_mixed T.k.cl (show (7 : Nat) ≤ 7 by decide) (pd_name (i := 1) rfl rfl (.inl rfl)) (TD.seqT (ptuple rfl U.tuple (TD.seqL (pd_name (i := 7) rfl rfl (.inl rfl))) (fun _ => rfl))) (pd_name (i := 6) rfl rfl (.inr (.inl rfl))) (pd_name (i := 5) rfl rfl (.inr (.inl rfl))) (hno_Bk (by decide +kernel)) ⟨hpl, hwd, hnr, apart_spt lwd⟩ (fun _ => rfl) (fun _ => rfl) (fun _ => rfl) (fun _ => rfl)) (pd_name (i := 6) rfl rfl (.inr (.inl rfl))) (rd_neD (eTup eInt) (by decide)) (nomark _))))) (fun h => ?_) fun h => ?_
  · exfalso
    have e3 : mixL wd nr (apartL wd nr) = nr := mix_apart (lwd.trans lnr.symm)
    simp only [e1, e3] at h
    simp at h
  refine bret (pcmp (op_eqDG rfl) (pm3 M_mixed T.k.cl (show (7 : Nat) ≤ 7 by decide) (pd_name (i := 1) rfl rfl (.inl rfl)) (pd_name (i := 6) rfl rfl (.inr (.inl rfl))) (pd_name (i := 5) rfl rfl (.inr (.inl rfl))) (TD.seqL (pd_name (i := 9) rfl rfl (.inr (.inl rfl)))) (hno_Bk (by decide +kernel)) ⟨hpl, hnr, hwd, hps⟩ (fun _ => rfl) (fun _ => rfl) (fun _ => rfl) (fun _ => rfl) (fun _ => rfl)) (pd_name (i := 11) rfl rfl (.inl rfl)) (rd_eqD (eTup eInt) (by decide)) (nomark _)) ?_
  intro x e
  rw [e]
  exact decide_eq_true e2
end
end K01

set_option Elab.async false
set_option linter.all false
set_option maxRecDepth 100000
set_option maxHeartbeats 4000000
namespace K01
open PySem PySem.Spec L2 DL
/-- the rest of a def, which returns, without the box -/
theorem HS_framed {ρ : Type} {ts : TS} {Γ : Ctxt} {p : Po ρ} {N1 : Ctxt → Prop} {b1 c1 : Ctxt → Prop} (i : Nat) (no : NoOwn (Γ.set i .un)) (h : HS ts (Γ.set i .un) 0 { N := fun _ => False, bk := fun _ => False, ct := fun _ => False, c := p.c, R := p.R }) : HS ts Γ 0 p := fun O n σ Hf H hn S D _ _ _ q4 => by
  have S1 : Sat O Hf H σ (Γ.set i .un) n := S.weaken (by rw [List.length_set]; exact S.len) fun j s hj => by
    rcases sget hj with ⟨_, z⟩ | ⟨_, z⟩
    · exact .inl z
    · exact .inr ⟨z, rfl⟩
  have S0 : Sat ⟨fun _ => False, Hf, H⟩ Hf H σ (Γ.set i .un) n := ⟨S1.len, S1.ex, S1.at_, S1.sep, Fr.refl, fun a h => (no.owns a h).elim⟩
  exact h ⟨fun _ => False, Hf, H⟩ n σ Hf H hn S0 D (fun _ _ _ _ z _ => z.elim) (fun _ _ _ _ z _ => z.elim) (fun _ _ _ _ z _ => z.elim) fun v σ' Hf' H' Γ' x px r f => q4 v σ Hf' H' Γ x px r ⟨S.grow0 f.sat.fr f.sat.ex, BxKeep.refl, f.ex⟩
theorem rc_lenL2 {K : PySem.W.Frag} {α β : Type} {c : Cod α} {d : Cod β} {x : α × β} : RC1 (rLenR K) (cL2 c d) x cInt (· = 2) := fun Hf H v e ⟨a, w1, w2, h1, h2, _⟩ Q q => ⟨a, [w1, w2], by rw [h1], .inl (SqL.of (e _ _ h2)), q 2 Hf H _ rfl rfl Fr.refl e⟩
theorem plenL2 {S : Stc} {Γ : Ctxt} {e : Expr} {pos pn : Pos} {α β : Type} {c : Cod α} {d : Cod β} {x : α × β} (hg : S.sc.names.lookup ("len" : Str) = some .globalImplicit) (hm : S.mg "len" = none) (h : PD S Γ 0 e (cL2 c d) (· = x)) (he : ∀ env : Env, starEach [e] env = (false, eval e env) :: starEach [] env) : PD S Γ 0 (.Call (.Name "len" pn) [e] [] pos) cInt (· = 2) :=
  pb1 lenG hg hm PySem.boot_len h rc_lenL2 he
theorem ref_L2 {α β : Type} {c : Cod α} {d : Cod β} {x : α × β} : ∀ H v, (cL2 c d).rep H v x → ∃ a, v = .ref a := fun H v ⟨a, _, _, h, _⟩ => ⟨a, h⟩
theorem ref_L {α : Type} {c : Cod α} {x : List α} : ∀ H v, (cList c).rep H v x → ∃ a, v = .ref a := fun H v ⟨a, _, h, _⟩ => ⟨a, h⟩
theorem shw_many {n : Int} (h : 0 ≤ n ∧ n ≤ 1679616) : Shw (eMany.D ((), n)) sizeLine := by
  have a : Shw (.str ("many" : Str)) 8 := ⟨rfl, rfl, by decide +kernel⟩
  have b : Shw (.int n) 8 := (shw_int h.1 (show 0 < 7 by decide) (by omega) (log_small h)).le (by decide)
  have c := shw_list (D := fun x : PyData => x) (xs := [.str ("many" : Str), .int n]) (n := 8) (fun x hx => by
    rcases List.mem_cons.mp hx with z | z
    · rw [z]; exact a
    · rw [List.mem_singleton.mp z]; exact b)
  exact Shw.le c (show (8 + 2) * 2 + 2 ≤ sizeLine by decide)
theorem shw_rows {rows : List (List Int)} (hl : rows.length ≤ 100) (hr : ∀ r ∈ rows, r.length ≤ 8 ∧ ∀ x ∈ r, 0 ≤ x ∧ x < 6) : Shw (eRows1.D [rows]) sizeLine := by
  have a : ∀ r ∈ rows, Shw ((eTup eInt).D r) 27 := fun r h => (shw_tup (D := eInt.D) (n := 1) fun x hx => shw_int (k := 1) ((hr r h).2 x hx).1 (by decide) (by have := ((hr r h).2 x hx).2; omega) (log_small (by have := (hr r h).2 x hx; omega))).le (by have := (hr r h).1; omega)
  have b : Shw ((eList (eTup eInt)).D rows) 2902 := (shw_list (D := (eTup eInt).D) a).le (by omega)
  have c := shw_list (D := (eList (eTup eInt)).D) (xs := [rows]) (n := 2902) fun x hx => by rw [List.mem_singleton.mp hx]; exact b
  exact Shw.le c (show (2902 + 2) * 1 + 2 ≤ sizeLine by decide)
theorem shw_slc {pl word spots : List Int} (hp : Pl pl) (hw : InW word pl) (hs : Spt spots pl.length) (hn : widthL pl spots ≤ 100) : Shw (eRows1.D [slcRows pl word spots]) sizeLine :=
  shw_rows (rows_pre (post := []) hp hs (by rw [List.append_nil]) hn) fun r hr => by
    have := rows_in hp hw (is := rangeL 0 pl.length) (spots := spots) (fun i hi => by have := mem_rangeL.mp hi; omega) r hr
    rw [rangeL_len] at this
    exact ⟨by rw [this.1]; exact hp.1.2, this.2⟩
abbrev nSl : List Str := ["box", "book", "plain", "word", "spots", "due", "told"]
abbrev sSl : Stmt := top 40
theorem scSl : FnScope nSl ["box", "book", "plain", "word"] (defScope sSl) := ⟨rfl, rfl, rfl, by decide +kernel, rfl, by decide +kernel, by decide +kernel⟩
abbrev Ssl (P : Program) (w : World) (K : PySem.W.Frag) (mg : Str → Option Value) (base : Heap) : Stc := ⟨nSl, defScope sSl, K, mg, P, w, base, 8, fun _ => true, true⟩
abbrev pT : Po Bool := { N := fun _ => False, bk := fun _ => False, ct := fun _ => False, c := cBool, R := fun x => x = true }
section
variable {P : Program} {w : World} {K : PySem.W.Frag} {mg : Str → Option Value} {base : Heap} {CB : Addr}
variable (U : Bt mg)
include U
theorem slc_many (U3 : Bt3 mg) {pl wd sp : List Int} (hpl : Pl pl) (hw : InW wd pl) (hs : Spt sp pl.length) (hn : 100 < widthL pl sp) (C : Cal P w K mg base "_law_slice_told" ["book", "word", "spots", "named"] 8 (P_slcM CB)) :
    PHs (Ssl P w K mg base) [.un, .d (cBk CB) pl, .d (cList cInt) pl, .d (cTup cInt) wd, .d (cList cInt) sp, .d cMany ((), widthL pl sp), .un] 0 ((defBody sSl).drop 2) pT := by
  have hwb : 0 ≤ widthL pl sp ∧ widthL pl sp ≤ 1679616 := by
    have := prod_big (sizes_ok hpl hs) (by rw [List.length_map]; exact Nat.le_trans hs.len hpl.1.2)
    exact ⟨Int.le_trans (by decide) this.1, this.2⟩
  refine HS.le (k := 0 + (0 + 0 + (0 + max 0 0 + 0))) ?_ (by decide)
  refine bset (k := 0) (k2 := 0 + 0 + (0 + max 0 0 + 0)) 6 (pcal C (show (8 : Nat) ≤ 8 by decide) rfl (pda_more (k1 := 0) (k2 := 0) (pd_name (i := 1) rfl rfl (.inl rfl)) (pda_more (k1 := 0) (k2 := 0) (pd_name (i := 3) rfl rfl (.inl rfl)) (pda_more (k1 := 0) (k2 := 0) (TD.seqL (TDF.td (plist rfl U.list (TD.seqL (pd_name (i := 4) rfl rfl (.inl rfl))) (fun _ => rfl)))) (pda_one (pd_bool (i := false)) (fun _ => rfl)) (fun _ => rfl)) (fun _ => rfl)) (fun _ => rfl)) (pl, wd, sp, false) 0 rfl ⟨hpl, hw, hs, hn⟩ (fun _ => rfl) (fun _ => rfl)) trivial rfl (.inl rfl) (fun env he => by cases env; cases he; rfl) (.inl rfl) ?_
  rintro _ rfl
  refine HS.ctx (Γ' := [.un, .d (cBk CB) pl, .d (cList cInt) pl, .d (cTup cInt) wd, .d (cList cInt) sp, .d cMany ((), widthL pl sp), .d cMany ((), widthL pl sp)]) rfl ?_
  refine bifR (k1 := 0) (k2 := 0) (k3 := 0 + max 0 0 + 0) (tcmp (fun _ _ => op_ne) (preprD eMany rfl rfl U3.repr (pd_name (i := 6) rfl rfl (.inl rfl)) (by decide) (shw_many hwb) ref_L2 (fun _ => rfl)) (preprD eMany rfl rfl U3.repr (pd_name (i := 5) rfl rfl (.inl rfl)) (by decide) (shw_many hwb) ref_L2 (fun _ => rfl)) rd_neStr (nomark _)) (fun h => ?_) fun h => ?_
  · exfalso; simp at h
  refine bifS (k1 := 0) (k2 := 0) (k3 := 0) (kr := 0) (N1 := fun Γ => Γ = [.un, .d (cBk CB) pl, .d (cList cInt) pl, .d (cTup cInt) wd, .d (cList cInt) sp, .d cMany ((), widthL pl sp), .d cMany ((), widthL pl sp)]) (tcmp (fun _ _ => op_eq) (plenL2 rfl U.len (pd_name (i := 6) rfl rfl (.inl rfl)) (fun _ => rfl)) (pd_int (i := 1)) rd_eqI (nomark _)) (fun h => ?_) (fun _ => phs_nil rfl) ?_
  · exfalso; simp at h
  rintro _ rfl
  exact bret (pcmp (fun _ _ => op_eq) (preprD eMany rfl rfl U3.repr (pcal C (show (8 : Nat) ≤ 8 by decide) rfl (pda_more (k1 := 0) (k2 := 0) (pd_name (i := 1) rfl rfl (.inl rfl)) (pda_more (k1 := 0) (k2 := 0) (pd_name (i := 3) rfl rfl (.inl rfl)) (pda_more (k1 := 0) (k2 := 0) (TD.seqL (TDF.td (plist rfl U.list (TD.seqL (pd_name (i := 4) rfl rfl (.inl rfl))) (fun _ => rfl)))) (pda_one (pd_bool (i := true)) (fun _ => rfl)) (fun _ => rfl)) (fun _ => rfl)) (fun _ => rfl)) (pl, wd, sp, true) 0 rfl ⟨hpl, hw, hs, hn⟩ (fun _ => rfl) (fun _ => rfl)) (by decide) (shw_many hwb) ref_L2 (fun _ => rfl)) (preprD eMany rfl rfl U3.repr (pd_name (i := 5) rfl rfl (.inl rfl)) (by decide) (shw_many hwb) ref_L2 (fun _ => rfl)) rd_eqStr (nomark _)) fun x h => by rw [h]; exact decide_eq_true rfl
end
end K01

set_option Elab.async false
set_option linter.all false
set_option maxRecDepth 100000
set_option maxHeartbeats 4000000
namespace K01
open PySem PySem.Spec L2 DL
abbrev cVs : Cod (List V) := cList cV
theorem noOwn7 {a b c d e f g : Sl} (ha : a.own = false) (hb : b.own = false) (hc : c.own = false) (hd : d.own = false) (he : e.own = false) (hf : f.own = false) (hg : g.own = false) : NoOwn ([a, b, c, d, e, f, g] : Ctxt) := fun s hs => by
  simp at hs
  rcases hs with h | h | h | h | h | h | h <;> subst h <;> assumption
section
variable {P : Program} {w : World} {K : PySem.W.Frag} {mg : Str → Option Value} {base : Heap} {CB : Addr}
variable (U : Bt mg)
include U
theorem slc_few (U3 : Bt3 mg) {pl wd sp : List Int} (hpl : Pl pl) (hw : InW wd pl) (hs : Spt sp pl.length) (hn : widthL pl sp ≤ 100) (C0 : Cal P w K mg base "_law_slice_told" ["book", "word", "spots", "named"] 8 (P_slcR CB)) (C : Cal P w K mg base "_law_slice_told" ["book", "word", "spots", "named"] 8 (P_slcD CB)) :
    PHs (Ssl P w K mg base) [.un, .d (cBk CB) pl, .d (cList cInt) pl, .d (cTup cInt) wd, .d (cList cInt) sp, .d (cList cRows) [slcRows pl wd sp], .un] 0 ((defBody sSl).drop 2) pT := by
  have hsh := shw_slc hpl hw hs hn
  have hrl := rows_pre (word := wd) (post := []) hpl hs (by rw [List.append_nil]) hn
  have last : PHs (Ssl P w K mg base) [.un, .d (cBk CB) pl, .d (cList cInt) pl, .d (cTup cInt) wd, .d (cList cInt) sp, .d (cList cRows) [slcRows pl wd sp], .un] 0 ((defBody sSl).drop 5) pT := by
    exact bret (pcmp (fun _ _ => op_eq) (preprD eRows1 rfl rfl U3.repr (pcal C (show (8 : Nat) ≤ 8 by decide) rfl (pda_more (k1 := 0) (k2 := 0) (pd_name (i := 1) rfl rfl (.inl rfl)) (pda_more (k1 := 0) (k2 := 0) (pd_name (i := 3) rfl rfl (.inl rfl)) (pda_more (k1 := 0) (k2 := 0) (TD.seqL (TDF.td (plist rfl U.list (TD.seqL (pd_name (i := 4) rfl rfl (.inl rfl))) (fun _ => rfl)))) (pda_one (pd_bool (i := true)) (fun _ => rfl)) (fun _ => rfl)) (fun _ => rfl)) (fun _ => rfl)) (pl, wd, sp, true) 0 rfl ⟨rfl, hpl, hw, hs, hn⟩ (fun _ => rfl) (fun _ => rfl)) (by decide) hsh ref_L (fun _ => rfl)) (preprD eRows1 rfl rfl U3.repr (pd_name (i := 5) rfl rfl (.inl rfl)) (by decide) hsh ref_L (fun _ => rfl)) rd_eqStr (nomark _)) fun x h => by rw [h]; exact decide_eq_true rfl
  obtain ⟨f, fd, Fn, hmT, hkT, hbT⟩ := C0.ex
  refine phs_of (ts := tSeq (tAsg (tCall (P_slcR CB) [] E0 (tA (Ssl P w K mg base) _)) (gName 6)) (tSeq (tIfS (tT (Ssl P w K mg base) _) (tSs (Ssl P w K mg base) _) tNext) (tSeq (tIfS (tT (Ssl P w K mg base) _) (tSeq (tDrop (tBM K "list" rAppend (tOp (rIxL K) (tVar 6) (tC (.int 0))) (tCons (tVar 3) tNil))) (tAsg (tTup tNil) (gSub (tOp (rIxL K) (tVar 6) (tC (.int 0))) (tC (.int 0)) rSetL))) tNext) (tSs (Ssl P w K mg base) _)))) (fun X G =>
    pss_cons (ps_set (by rw [G.N]; exact G.nd) (by rw [G.N]; rfl) (loc G (.inl rfl)) (pe_call (fnG Fn G) (G.room.mono (show (8 : Nat) ≤ 8 by decide)) (glb G rfl) (by rw [G.mg]; exact hmT) (by rw [G.K]; exact hkT) (by rw [G.K]; exact hbT) .nil pass0 (tA_ok G) (by decide) rfl rfl) rfl (fnOr G (.inl rfl)))
      (pss_cons (ps_if (tT_ok G) (tSs_ok G) pss_nil) (pss_cons (ps_if (tT_ok G) (pss_cons (by
        rw [show (K : PySem.W.Frag) = (Ssl P w K mg base).K from rfl, ← G.K]
        exact ps_expr (pe_bm PySem.F.plainAttrs_list PySem.F.slot_list_append PySem.F.type_list_append mt_append (pe_ix ix_list (pe_slot (S := (Ssl P w K mg base)) G rfl (.inl rfl)) pe_int (fun _ _ => rfl)) (pa_cons (pe_slot (S := (Ssl P w K mg base)) G rfl (.inl rfl)) pa_nil rfl) rfl rfl rfl rfl rfl) rfl) (pss_one (by
        rw [show (K : PySem.W.Frag) = (Ssl P w K mg base).K from rfl, ← G.K]
        exact ps_asg (pe_tup pa_nil) (pg_sub (pe_ix ix_list (pe_slot (S := (Ssl P w K mg base)) G rfl (.inl rfl)) pe_int (fun _ _ => rfl)) pe_int set_list) rfl rfl rfl))) pss_nil) (tSs_ok G)))) ?_
  intro O n σ Hf H hn0 S0 D q1 q2 q3 q4
  refine pda_more (k1 := 0) (k2 := 0) (pd_name (i := 1) rfl rfl (.inl rfl)) (pda_more (k1 := 0) (k2 := 0) (pd_name (i := 3) rfl rfl (.inl rfl)) (pda_more (k1 := 0) (k2 := 0) (TD.seqL (TDF.td (plist rfl U.list (TD.seqL (pd_name (i := 4) rfl rfl (.inl rfl))) (fun _ => rfl)))) (pda_one (pd_bool (i := false)) (fun _ => rfl)) (fun _ => rfl)) (fun _ => rfl)) (fun _ => rfl) O n σ Hf H hn0 S0 _ fun vs Hf1 H1 as b o _ f1 S1 => ?_
  subst b
  refine ⟨(pl, wd, sp, false), Hf1, ⟨rfl, hpl, hw, hs, hn⟩, S1.ex, by rw [List.append_nil]; exact o, fun a l ws Hf2 H2 ha0 hl0 ne h1 h2 h3 h4 pr lb F2 e2 => ?_⟩
  have S2 := S1.grow0 F2 e2
  have S3 : Sat O Hf2 H2 (σ.set 6 (some (V.ref a))) [.un, .d (cBk CB) pl, .d (cList cInt) pl, .d (cTup cInt) wd, .d (cList cInt) sp, .d (cList cRows) [slcRows pl wd sp], .d cV (.ref a)] n := S2.set (i := 6) (c := cV) (v := .ref a) (x := .ref a) rfl
  have oa : O.H a = none := S1.fr.dom a ha0
  have ol : O.H l = none := S1.fr.dom l hl0
  have noA : NoOwn ([.un, .d (cBk CB) pl, .d (cList cInt) pl, .d (cTup cInt) wd, .d (cList cInt) sp, .d (cList cRows) [slcRows pl wd sp], .d cV (.ref a)] : Ctxt) := noOwn7 rfl rfl rfl rfl rfl rfl rfl
  have noN : NoOwn ([.un, .d (cBk CB) pl, .d (cList cInt) pl, .d (cTup cInt) wd, .d (cList cInt) sp, .d (cList cRows) [slcRows pl wd sp], .d (cList cRows) [slcRows pl wd sp]] : Ctxt) := noOwn7 rfl rfl rfl rfl rfl rfl rfl
  have noV : NoOwn ([.un, .d (cBk CB) pl, .d (cList cInt) pl, .d (cTup cInt) wd, .d (cList cInt) sp, .d (cList cRows) [slcRows pl wd sp], .d cVs [.ref l]] : Ctxt) := noOwn7 rfl rfl rfl rfl rfl rfl rfl
  -- told as it is, looked at
  have S5 := S3.fzRaw noA h4 h2 ol
  have zA5 : (upd Hf2 l (.lst ws)) a = none := by rw [upd_ne ne]; exact h3
  have S6 := S5.fzRaw noA zA5 h1 oa
  have hlt : 6 < σ.length := by rw [S0.len]; exact (by decide : 6 < 7)
  have e6 : (σ.set 6 (some (V.ref a)))[6]? = some (some (V.ref a)) := List.getElem?_set_self hlt
  have exv : Ex Hf2 (upd (upd Hf2 l (.lst ws)) a (.lst [.ref l])) := (Ex.new h4).trans (Ex.new zA5)
  have S7 : Sat O _ H2 (σ.set 6 (some (V.ref a))) [.un, .d (cBk CB) pl, .d (cList cInt) pl, .d (cTup cInt) wd, .d (cList cInt) sp, .d (cList cRows) [slcRows pl wd sp], .d (cList cRows) [slcRows pl wd sp]] n := S6.recode (i := 6) (c := cList cRows) (x := [slcRows pl wd sp]) e6 ⟨a, _, rfl, upd_same, .cons ⟨l, _, rfl, by rw [upd_ne ne.symm]; exact upd_same, paired_mono pr (fun _ _ z => (cTup cInt).mono exv z), lb⟩ .nil, by show (1 : Nat) ≤ LB; unfold LB; decide⟩
  refine TDT.run (P := (· = false)) (TDT.imp (tcmp (S := Ssl P w K mg base) (fun _ _ => op_ne) (preprD eRows1 rfl rfl U3.repr (pd_name (i := 6) rfl rfl (.inl rfl)) (by decide) hsh ref_L (fun _ => rfl)) (preprD eRows1 rfl rfl U3.repr (pd_name (i := 5) rfl rfl (.inl rfl)) (by decide) hsh ref_L (fun _ => rfl)) rd_neStr (nomark _)) fun x hx => hx.trans (by simp)) S7 hn0 fun b Hf8 H8 pb f8 S8 => ?_
  subst pb
  refine iteF ?_
  have k8 : Ex H2 H8 := fun x o e => f8.keep x o e (noN.bx x)
  have S9 : Sat O Hf2 H8 (σ.set 6 (some (V.ref a))) [.un, .d (cBk CB) pl, .d (cList cInt) pl, .d (cTup cInt) wd, .d (cList cInt) sp, .d (cList cRows) [slcRows pl wd sp], .d cV (.ref a)] n := S3.heap noA k8 f8.dom
  unfold tNext
  dsimp only
  -- its length
  have S10 := (S9.fzRaw noA h3 (k8 _ _ h1) oa).recode (i := 6) (c := cVs) (x := [.ref l]) e6 ⟨a, _, rfl, upd_same, .cons rfl .nil, by show (1 : Nat) ≤ LB; unfold LB; decide⟩
  have S10 : Sat O (upd Hf2 a (.lst [.ref l])) H8 (σ.set 6 (some (V.ref a))) [.un, .d (cBk CB) pl, .d (cList cInt) pl, .d (cTup cInt) wd, .d (cList cInt) sp, .d (cList cRows) [slcRows pl wd sp], .d cVs [.ref l]] n := S10
  refine TDT.run (P := (· = true)) (TDT.imp (tcmp (S := Ssl P w K mg base) (fun _ _ => op_eq) (plen rfl U.len (TD.seqL (pd_name (c := cVs) (i := 6) rfl rfl (.inl rfl))) (fun _ => rfl)) (pd_int (i := 1)) rd_eqI (nomark _)) fun x hx => hx.trans (by simp)) S10 hn0 fun b Hf4 H4 pb f4 S4 => ?_
  subst pb
  refine iteT ?_
  have k4 : Ex H8 H4 := fun x o e => f4.keep x o e (noV.bx x)
  have S11 : Sat O Hf2 H4 (σ.set 6 (some (V.ref a))) [.un, .d (cBk CB) pl, .d (cList cInt) pl, .d (cTup cInt) wd, .d (cList cInt) sp, .d (cList cRows) [slcRows pl wd sp], .d cV (.ref a)] n := S9.heap noA k4 f4.dom
  have kA4 := k4 _ _ (k8 _ _ h1)
  have kL4 := k4 _ _ (k8 _ _ h2)
  obtain ⟨v3, e3, _⟩ := S11.at_ 3 _ rfl
  have hwl : ws.length ≤ 100 := by rw [pr.length]; exact hrl
  -- told[0].append(word)
  refine ⟨.ref a, e6, a, _, 0, .ref l, rfl, rfl, SqL.of kA4, rfl, .inl ⟨rfl, _, SqL.of kL4⟩, v3, e3, ?_⟩
  refine ⟨l, _, v3, rfl, rfl, kL4, lb_lt (Nat.le_trans hwl (show (100 : Nat) ≤ 1000000 by decide)), ?_⟩
  -- told[0][0] = ()
  refine ⟨by show 0 ≤ sizeLine; exact Nat.zero_le _, fun p0 hp0 => ?_⟩
  have pl0 : p0 ≠ l := fun z => by subst z; rw [upd_same] at hp0; cases hp0
  have hp4 : H4 p0 = none := by rw [upd_ne pl0] at hp0; exact hp0
  have pa0 : a ≠ p0 := fun z => by subst z; rw [kA4] at hp4; cases hp4
  have SA := S11.mutRaw (o := .lst (ws ++ [v3])) noA h4 ol
  have SB := SA.grow0 (Fr.newO (o := .tup []) hp0) (SA.ex.trans (Ex.new hp0))
  have hA5 : (upd (upd H4 l (.lst (ws ++ [v3]))) p0 (.tup [])) a = some (.lst [.ref l]) := by rw [upd_ne pa0, upd_ne ne]; exact kA4
  have hL5 : (upd (upd H4 l (.lst (ws ++ [v3]))) p0 (.tup [])) l = some (.lst (ws ++ [v3])) := by rw [upd_ne pl0.symm, upd_same]
  refine ⟨.ref a, e6, a, _, 0, .ref l, rfl, rfl, SqL.of hA5, rfl, l, _, 0, 0, rfl, rfl, hL5, ixN_at ⟨Int.le_refl _, by rw [List.length_append, List.length_singleton]; omega⟩, ?_⟩
  have SC := SB.mutRaw (o := .lst ((ws ++ [v3]).set 0 (.ref p0))) noA h4 ol
  have SX := SC.forget [6]
  have e12 : Ex Hf Hf2 := f1.ex.trans F2.ex
  exact last O n _ _ _ hn0 SX D (fun _ _ _ _ z _ => z.elim) (fun _ _ _ _ z _ => z.elim) (fun _ _ _ _ z _ => z.elim) fun v σ' Hf' H' Γ' x px r f => q4 v σ' Hf' H' Γ' x px r ⟨f.sat, f.bx, e12.trans f.ex⟩
abbrev P_slices (CB : Addr) : Sp := spD (fun b (a : List Int × List Int) => [.bx b, .d (cBk CB) a.1, .d (cList cInt) a.1, .d (cTup cInt) a.2]) (fun _ => 30) (fun a => Pl a.1 ∧ InW a.2 a.1) cBool (fun _ x => x = true)
theorem c_slices (U3 : Bt3 mg) (D : Def K mg "_law_slices_right" sSl) (C_spots : Cal P w K mg base "_law_spots" ["box", "plain"] 3 P_spots) (C_dueF : Cal P w K mg base "_law_due" ["plain", "word", "spots"] 2 P_dueF) (C_dueM : Cal P w K mg base "_law_due" ["plain", "word", "spots"] 2 P_dueM)
    (C0 : Cal P w K mg base "_law_slice_told" ["book", "word", "spots", "named"] 8 (P_slcR CB)) (C1 : Cal P w K mg base "_law_slice_told" ["book", "word", "spots", "named"] 8 (P_slcD CB)) (C2 : Cal P w K mg base "_law_slice_told" ["book", "word", "spots", "named"] 8 (P_slcM CB)) :
    CalG P w K mg base "_law_slices_right" ["box", "book", "plain", "word"] 9 (P_slices CB) := by
  refine cal_DG (N := nSl) D (fun _ _ _ _ _ _ us hl => match us, hl with | [_, _, _, _], _ => rfl) scSl (fun _ _ => rfl) (by decide) (fun _ _ => trivial) fun b a hp => ?_
  obtain ⟨pl, wd⟩ := a
  obtain ⟨hpl, hw⟩ := hp
  have hpl : Pl pl := hpl
  have hw : InW wd pl := hw
  refine HS.ctx (Γ' := [.bx b, .d (cBk CB) pl, .d (cList cInt) pl, .d (cTup cInt) wd, .un, .un, .un]) rfl ?_
  refine HS.le (k := 0 + 30 + 0) ?_ (by decide)
  refine bset (k := 0 + 30) (k2 := 0) (P := fun x => Spt x pl.length) 4 (pcalX (k1 := 0) (k2 := 30) C_spots (show (3 : Nat) ≤ 8 by decide) rfl (pda_boxp (k2 := 0) (i := 0) rfl rfl (.inl rfl) (pda_one (pd_name (i := 2) rfl rfl (.inl rfl)) (fun _ => rfl))) (fun as e => ⟨pl, b, e, hpl, Nat.le_refl _, fun x hx => hx⟩) (fun _ => rfl) (fun _ => rfl)) trivial rfl (.inl rfl) (fun env he => by cases env; cases he; rfl) (.inl rfl) ?_
  intro sp hs
  have hs : Spt sp pl.length := hs
  refine HS.ctx (Γ' := [.bx b, .d (cBk CB) pl, .d (cList cInt) pl, .d (cTup cInt) wd, .d (cList cInt) sp, .un, .un]) rfl ?_
  refine HS_framed (N1 := fun _ => False) (b1 := fun _ => False) (c1 := fun _ => False) 0 (noOwn7 rfl rfl rfl rfl rfl rfl rfl) ?_
  refine HS.ctx (Γ' := [.un, .d (cBk CB) pl, .d (cList cInt) pl, .d (cTup cInt) wd, .d (cList cInt) sp, .un, .un]) rfl ?_
  by_cases hn : widthL pl sp ≤ 100
  · refine HS.le (k := 0 + 0) ?_ (by decide)
    refine bset (k := 0) (k2 := 0) 5 (pcal3 C_dueF (show (2 : Nat) ≤ 8 by decide) rfl (pd_name (i := 2) rfl rfl (.inl rfl)) (pd_name (i := 3) rfl rfl (.inl rfl)) (pd_name (i := 4) rfl rfl (.inl rfl)) ⟨⟨hpl, hw, hs⟩, hn⟩ (fun _ => rfl) (fun _ => rfl) (fun _ => rfl) (fun _ => rfl)) trivial rfl (.inl rfl) (fun env he => by cases env; cases he; rfl) (.inl rfl) ?_
    rintro _ rfl
    exact slc_few U U3 hpl hw hs hn C0 C1
  · refine HS.le (k := 0 + 0) ?_ (by decide)
    refine bset (k := 0) (k2 := 0) 5 (pcal3 C_dueM (show (2 : Nat) ≤ 8 by decide) rfl (pd_name (i := 2) rfl rfl (.inl rfl)) (pd_name (i := 3) rfl rfl (.inl rfl)) (pd_name (i := 4) rfl rfl (.inl rfl)) ⟨⟨hpl, hw, hs⟩, by show 100 < widthL pl sp; omega⟩ (fun _ => rfl) (fun _ => rfl) (fun _ => rfl) (fun _ => rfl)) trivial rfl (.inl rfl) (fun env he => by cases env; cases he; rfl) (.inl rfl) ?_
    rintro _ rfl
    exact slc_many U U3 hpl hw hs (by omega) C2
end
end K01

set_option Elab.async false
set_option linter.all false
set_option maxRecDepth 100000
set_option maxHeartbeats 4000000
namespace K01
open PySem PySem.Spec L2 DL
theorem noOwn5 {a b c d e : Sl} (ha : a.own = false) (hb : b.own = false) (hc : c.own = false) (hd : d.own = false) (he : e.own = false) : NoOwn ([a, b, c, d, e] : Ctxt) := fun s hs => by
  simp at hs
  rcases hs with h | h | h | h | h <;> subst h <;> assumption
abbrev nBr : List Str := ["book", "plain", "width", "due", "told"]
abbrev sBr : Stmt := top 43
theorem scBr : FnScope nBr ["book", "plain"] (defScope sBr) := ⟨rfl, rfl, rfl, by decide +kernel, rfl, by decide +kernel, by decide +kernel⟩
abbrev Sbr (P : Program) (w : World) (K : PySem.W.Frag) (mg : Str → Option Value) (base : Heap) : Stc := ⟨nBr, defScope sBr, K, mg, P, w, base, 9, fun _ => true, true⟩
section
variable {P : Program} {w : World} {K : PySem.W.Frag} {mg : Str → Option Value} {base : Heap} {CB : Addr}
variable (U : Bt mg)
include U
theorem book_many (U3 : Bt3 mg) {pl : List Int} (hpl : Pl pl) (hn : 100 < prodL pl) (C : Cal P w K mg base "_law_all_told" ["book"] 9 (P_allM CB)) :
    PHs (Sbr P w K mg base) [.d (cBk CB) pl, .d (cList cInt) pl, .d cInt (prodL pl), .d cMany ((), prodL pl), .un] 0 ((defBody sBr).drop 4) pT := by
  have hpr := hpl.prod
  have hwb : 0 ≤ prodL pl ∧ prodL pl ≤ 1679616 := by omega
  refine HS.le (k := 0 + (0 + 0 + (0 + max 0 0 + 0))) ?_ (by decide)
  refine bset (k := 0) (k2 := 0 + 0 + (0 + max 0 0 + 0)) 4 (pcal1 C (show (9 : Nat) ≤ 9 by decide) rfl (pd_name (i := 0) rfl rfl (.inl rfl)) ⟨hpl, hn⟩ (fun _ => rfl) (fun _ => rfl)) trivial rfl (.inl rfl) (fun env he => by cases env; cases he; rfl) (.inl rfl) ?_
  rintro _ rfl
  refine HS.ctx (Γ' := [.d (cBk CB) pl, .d (cList cInt) pl, .d cInt (prodL pl), .d cMany ((), prodL pl), .d cMany ((), prodL pl)]) rfl ?_
  refine bifR (k1 := 0) (k2 := 0) (k3 := 0 + max 0 0 + 0) (tcmp (fun _ _ => op_ne) (preprD eMany rfl rfl U3.repr (pd_name (i := 4) rfl rfl (.inl rfl)) (by decide) (shw_many hwb) ref_L2 (fun _ => rfl)) (preprD eMany rfl rfl U3.repr (pd_name (i := 3) rfl rfl (.inl rfl)) (by decide) (shw_many hwb) ref_L2 (fun _ => rfl)) rd_neStr (nomark _)) (fun h => ?_) fun h => ?_
  · exfalso; simp at h
  refine bifS (k1 := 0) (k2 := 0) (k3 := 0) (kr := 0) (N1 := fun Γ => Γ = [.d (cBk CB) pl, .d (cList cInt) pl, .d cInt (prodL pl), .d cMany ((), prodL pl), .d cMany ((), prodL pl)]) (tcmp (fun _ _ => op_eq) (plenL2 rfl U.len (pd_name (i := 4) rfl rfl (.inl rfl)) (fun _ => rfl)) (pd_int (i := 1)) rd_eqI (nomark _)) (fun h => ?_) (fun _ => phs_nil rfl) ?_
  · exfalso; simp at h
  rintro _ rfl
  exact bret (pcmp (fun _ _ => op_eq) (preprD eMany rfl rfl U3.repr (pcal1 C (show (9 : Nat) ≤ 9 by decide) rfl (pd_name (i := 0) rfl rfl (.inl rfl)) ⟨hpl, hn⟩ (fun _ => rfl) (fun _ => rfl)) (by decide) (shw_many hwb) ref_L2 (fun _ => rfl)) (preprD eMany rfl rfl U3.repr (pd_name (i := 3) rfl rfl (.inl rfl)) (by decide) (shw_many hwb) ref_L2 (fun _ => rfl)) rd_eqStr (nomark _)) fun x h => by rw [h]; exact decide_eq_true rfl
theorem book_few (U3 : Bt3 mg) {pl : List Int} (hpl : Pl pl) (hn : prodL pl ≤ 100) (C0 : Cal P w K mg base "_law_all_told" ["book"] 9 (P_allR CB)) (C : Cal P w K mg base "_law_all_told" ["book"] 9 (P_allD CB)) :
    PHs (Sbr P w K mg base) [.d (cBk CB) pl, .d (cList cInt) pl, .d cInt (prodL pl), .d (cList cRows) [allRows pl], .un] 0 ((defBody sBr).drop 4) pT := by
  have hpr := hpl.prod
  have hn' : widthL pl (rangeL 0 pl.length) ≤ 100 := by rw [width_all]; exact hn
  have hsh := shw_slc hpl (zeros_in hpl) (sp_range _) hn'
  have hrl := rows_all (word := List.replicate pl.length 0) hpl (sp_range pl.length)
  rw [width_all] at hrl
  have last : PHs (Sbr P w K mg base) [.d (cBk CB) pl, .d (cList cInt) pl, .d cInt (prodL pl), .d (cList cRows) [allRows pl], .un] 0 ((defBody sBr).drop 7) pT := by
    exact bret (pcmp (fun _ _ => op_eq) (preprD eRows1 rfl rfl U3.repr (pcal1 C (show (9 : Nat) ≤ 9 by decide) rfl (pd_name (i := 0) rfl rfl (.inl rfl)) ⟨hpl, hn⟩ (fun _ => rfl) (fun _ => rfl)) (by decide) hsh ref_L (fun _ => rfl)) (preprD eRows1 rfl rfl U3.repr (pd_name (i := 3) rfl rfl (.inl rfl)) (by decide) hsh ref_L (fun _ => rfl)) rd_eqStr (nomark _)) fun x h => by rw [h]; exact decide_eq_true rfl
  obtain ⟨f, fd, Fn, hmT, hkT, hbT⟩ := C0.ex
  refine phs_of (ts := tSeq (tAsg (tCall (P_allR CB) [] E0 (tA (Sbr P w K mg base) _)) (gName 4)) (tSeq (tIfS (tT (Sbr P w K mg base) _) (tSs (Sbr P w K mg base) _) tNext) (tSeq (tIfS (tT (Sbr P w K mg base) _) (tDrop (tBM0 K "list" rPop (tOp (rIxL K) (tVar 4) (tC (.int 0))))) tNext) (tSs (Sbr P w K mg base) _)))) (fun X G =>
    pss_cons (ps_set (by rw [G.N]; exact G.nd) (by rw [G.N]; rfl) (loc G (.inl rfl)) (pe_call (fnG Fn G) (G.room.mono (show (9 : Nat) ≤ 9 by decide)) (glb G rfl) (by rw [G.mg]; exact hmT) (by rw [G.K]; exact hkT) (by rw [G.K]; exact hbT) .nil pass0 (tA_ok G) (by decide) rfl rfl) rfl (fnOr G (.inl rfl)))
      (pss_cons (ps_if (tT_ok G) (tSs_ok G) pss_nil) (pss_cons (ps_if (tT_ok G) (pss_one (by
        rw [show (K : PySem.W.Frag) = (Sbr P w K mg base).K from rfl, ← G.K]
        exact ps_expr (pe_bm0 PySem.F.plainAttrs_list PySem.F.slot_list_pop PySem.F.type_list_pop mt_pop (pe_ix ix_list (pe_slot (S := (Sbr P w K mg base)) G rfl (.inl rfl)) pe_int (fun _ _ => rfl)) rfl rfl) rfl)) pss_nil) (tSs_ok G)))) ?_
  intro O n σ Hf H hn0 S0 D q1 q2 q3 q4
  refine pda_one (pd_name (i := 0) rfl rfl (.inl rfl)) (fun _ => rfl) O n σ Hf H hn0 S0 _ fun vs Hf1 H1 as b o _ f1 S1 => ?_
  subst b
  refine ⟨pl, Hf1, ⟨hpl, hn⟩, S1.ex, by rw [List.append_nil]; exact o, fun a l ws Hf2 H2 ha0 hl0 ne h1 h2 h3 h4 pr lb F2 e2 => ?_⟩
  have S2 := S1.grow0 F2 e2
  have S3 : Sat O Hf2 H2 (σ.set 4 (some (V.ref a))) [.d (cBk CB) pl, .d (cList cInt) pl, .d cInt (prodL pl), .d (cList cRows) [allRows pl], .d cV (.ref a)] n := S2.set (i := 4) (c := cV) (v := .ref a) (x := .ref a) rfl
  have oa : O.H a = none := S1.fr.dom a ha0
  have ol : O.H l = none := S1.fr.dom l hl0
  have noA : NoOwn ([.d (cBk CB) pl, .d (cList cInt) pl, .d cInt (prodL pl), .d (cList cRows) [allRows pl], .d cV (.ref a)] : Ctxt) := noOwn5 rfl rfl rfl rfl rfl
  have noN : NoOwn ([.d (cBk CB) pl, .d (cList cInt) pl, .d cInt (prodL pl), .d (cList cRows) [allRows pl], .d (cList cRows) [allRows pl]] : Ctxt) := noOwn5 rfl rfl rfl rfl rfl
  have noV : NoOwn ([.d (cBk CB) pl, .d (cList cInt) pl, .d cInt (prodL pl), .d (cList cRows) [allRows pl], .d cVs [.ref l]] : Ctxt) := noOwn5 rfl rfl rfl rfl rfl
  have S5 := S3.fzRaw noA h4 h2 ol
  have zA5 : (upd Hf2 l (.lst ws)) a = none := by rw [upd_ne ne]; exact h3
  have S6 := S5.fzRaw noA zA5 h1 oa
  have hlt : 4 < σ.length := by rw [S0.len]; exact (by decide : 4 < 5)
  have e6 : (σ.set 4 (some (V.ref a)))[4]? = some (some (V.ref a)) := List.getElem?_set_self hlt
  have exv : Ex Hf2 (upd (upd Hf2 l (.lst ws)) a (.lst [.ref l])) := (Ex.new h4).trans (Ex.new zA5)
  have S7 : Sat O _ H2 (σ.set 4 (some (V.ref a))) [.d (cBk CB) pl, .d (cList cInt) pl, .d cInt (prodL pl), .d (cList cRows) [allRows pl], .d (cList cRows) [allRows pl]] n := S6.recode (i := 4) (c := cList cRows) (x := [allRows pl]) e6 ⟨a, _, rfl, upd_same, .cons ⟨l, _, rfl, by rw [upd_ne ne.symm]; exact upd_same, paired_mono pr (fun _ _ z => (cTup cInt).mono exv z), lb⟩ .nil, by show (1 : Nat) ≤ LB; unfold LB; decide⟩
  refine TDT.run (P := (· = false)) (TDT.imp (tcmp (S := Sbr P w K mg base) (fun _ _ => op_ne) (preprD eRows1 rfl rfl U3.repr (pd_name (i := 4) rfl rfl (.inl rfl)) (by decide) hsh ref_L (fun _ => rfl)) (preprD eRows1 rfl rfl U3.repr (pd_name (i := 3) rfl rfl (.inl rfl)) (by decide) hsh ref_L (fun _ => rfl)) rd_neStr (nomark _)) fun x hx => hx.trans (by simp)) S7 hn0 fun b Hf8 H8 pb f8 S8 => ?_
  subst pb
  refine iteF ?_
  have k8 : Ex H2 H8 := fun x o e => f8.keep x o e (noN.bx x)
  have S9 : Sat O Hf2 H8 (σ.set 4 (some (V.ref a))) [.d (cBk CB) pl, .d (cList cInt) pl, .d cInt (prodL pl), .d (cList cRows) [allRows pl], .d cV (.ref a)] n := S3.heap noA k8 f8.dom
  unfold tNext
  dsimp only
  have S10 := (S9.fzRaw noA h3 (k8 _ _ h1) oa).recode (i := 4) (c := cVs) (x := [.ref l]) e6 ⟨a, _, rfl, upd_same, .cons rfl .nil, by show (1 : Nat) ≤ LB; unfold LB; decide⟩
  have S10 : Sat O (upd Hf2 a (.lst [.ref l])) H8 (σ.set 4 (some (V.ref a))) [.d (cBk CB) pl, .d (cList cInt) pl, .d cInt (prodL pl), .d (cList cRows) [allRows pl], .d cVs [.ref l]] n := S10
  refine TDT.run (P := (· = true)) (TDT.imp (tcmp (S := Sbr P w K mg base) (fun _ _ => op_eq) (plen rfl U.len (TD.seqL (pd_name (c := cVs) (i := 4) rfl rfl (.inl rfl))) (fun _ => rfl)) (pd_int (i := 1)) rd_eqI (nomark _)) fun x hx => hx.trans (by simp)) S10 hn0 fun b Hf4 H4 pb f4 S4 => ?_
  subst pb
  refine iteT ?_
  have k4 : Ex H8 H4 := fun x o e => f4.keep x o e (noV.bx x)
  have S11 : Sat O Hf2 H4 (σ.set 4 (some (V.ref a))) [.d (cBk CB) pl, .d (cList cInt) pl, .d cInt (prodL pl), .d (cList cRows) [allRows pl], .d cV (.ref a)] n := S9.heap noA k4 f4.dom
  have kA4 := k4 _ _ (k8 _ _ h1)
  have kL4 := k4 _ _ (k8 _ _ h2)
  have hwl : 1 ≤ ws.length := by
    rw [pr.length]
    have : ((allRows pl).length : Int) = prodL pl := hrl
    omega
  -- told[0].pop()
  refine ⟨.ref a, e6, a, _, 0, .ref l, rfl, rfl, SqL.of kA4, rfl, .inl ⟨rfl, _, SqL.of kL4⟩, l, ws, ws[ws.length - 1]'(by omega), rfl, rfl, kL4, List.getElem?_eq_getElem (by omega), ?_⟩
  have SX := (S11.mutRaw (o := .lst ws.dropLast) noA h4 ol).forget [4]
  have e12 : Ex Hf Hf2 := f1.ex.trans F2.ex
  exact last O n _ _ _ hn0 SX D (fun _ _ _ _ z _ => z.elim) (fun _ _ _ _ z _ => z.elim) (fun _ _ _ _ z _ => z.elim) fun v σ' Hf' H' Γ' x px r f => q4 v σ' Hf' H' Γ' x px r ⟨f.sat, f.bx, e12.trans f.ex⟩
abbrev P_book (CB : Addr) : Sp := spD (fun _ (a : List Int) => [.d (cBk CB) a, .d (cList cInt) a]) (fun _ => 0) Pl cBool (fun _ x => x = true)
theorem c_book (U3 : Bt3 mg) (D : Def K mg "_law_book_right" sBr) (T : TBk K mg CB) (E : EqA P w K mg base CB 1 (P_eq CB)) (ET : EqA P w K mg base CB 1 (P_eqT CB)) (L : LenA P w K mg base CB 1 (P_lenB CB)) (I : ICal P w K mg base CB ["self", "sizes"] 3 (P_initB CB)) (M_count : MCal P w K mg base CB "count" ["self"] 2 (P_count CB)) (C_lproduct : Cal P w K mg base "_law_product" ["plain"] 1 P_lproduct) (C_alike : Cal P w K mg base "_law_alike" ["plain", "word", "spots"] 1 P_alike)
    (C0 : Cal P w K mg base "_law_all_told" ["book"] 9 (P_allR CB)) (C1 : Cal P w K mg base "_law_all_told" ["book"] 9 (P_allD CB)) (C2 : Cal P w K mg base "_law_all_told" ["book"] 9 (P_allM CB)) :
    CalG P w K mg base "_law_book_right" ["book", "plain"] 10 (P_book CB) := by
  refine cal_DG (N := nBr) D (fun _ _ _ _ _ _ us hl => match us, hl with | [_, _], _ => rfl) scBr (fun _ _ => rfl) (by decide) (fun _ _ => trivial) fun b pl hpl => ?_
  have hpl : Pl pl := hpl
  have hpr := hpl.prod
  have h8 := hpl.1
  have hwb : 0 ≤ prodL pl ∧ prodL pl ≤ 1679616 := by omega
  have etn : ((pl.length : Int)).toNat = pl.length := Int.toNat_natCast _
  refine HS.ctx (Γ' := [.d (cBk CB) pl, .d (cList cInt) pl, .un, .un, .un]) rfl ?_
  refine HS.le (k := 0 + 0 + (0 + (0 + 0 + (0 + 0)))) ?_ (by decide)
  refine bifR (k1 := 0) (k2 := 0) (k3 := 0 + (0 + 0 + (0 + 0))) (pdt_w (tor (pdt_not (pdt_val (pisi rfl U.isinstance (pd_sizes T (pd_name (i := 0) rfl rfl (.inl rfl)) (fun _ => rfl)) (nmTy rfl U.tuple PyProof.Rows.boot_tuple) (.ty _) ty_tup (r := true) (kit_ty (by decide +kernel)) (fun _ => rfl)) (fun _ _ => rfl))) fun _ => (tor (tcmp (op_neDG rfl) (pd_sizes T (pd_name (i := 0) rfl rfl (.inl rfl)) (fun _ => rfl)) (ptuple rfl U.tuple (TD.seqL (pd_name (i := 1) rfl rfl (.inl rfl))) (fun _ => rfl)) (rd_neD (eTup eInt) (by decide)) (nomark _)) fun _ => (pdw_or1 (tcmp (fun _ _ => op_ne) (plenO L (show (1 + 1 : Nat) ≤ 9 by decide) rfl U.len (pd_name (i := 0) rfl rfl (.inl rfl)) trivial (by omega) (fun _ => rfl)) (plen rfl U.len (TD.seqL (pd_name (i := 1) rfl rfl (.inl rfl))) (fun _ => rfl)) rd_neI (nomark _)))))) (fun h => ?_) fun h => ?_
  · exfalso; simp at h
  refine bset (k := 0) (k2 := 0 + 0 + (0 + 0)) 2 (pcal1 C_lproduct (show (1 : Nat) ≤ 9 by decide) rfl (pd_name (i := 1) rfl rfl (.inl rfl)) hpl.2 (fun _ => rfl) (fun _ => rfl)) trivial rfl (.inl rfl) (fun env he => by cases env; cases he; rfl) (.inl rfl) ?_
  rintro _ rfl
  refine HS.ctx (Γ' := [.d (cBk CB) pl, .d (cList cInt) pl, .d cInt (prodL pl), .un, .un]) rfl ?_
  refine bifR (k1 := 0) (k2 := 0) (k3 := 0 + 0) (pdt_w (tor (tcmp (fun _ _ => op_ne) (preprI rfl U3.repr (pm0 M_count T.k.cl (show (2 : Nat) ≤ 9 by decide) (pd_name (i := 0) rfl rfl (.inl rfl)) (hno_Bk (by decide +kernel)) hpl (fun _ => rfl)) (log_small hwb) (fun _ => rfl)) (preprI rfl U3.repr (pd_name (i := 2) rfl rfl (.inl rfl)) (log_small hwb) (fun _ => rfl)) rd_neStr (nomark _)) fun _ => (tor (teqO ET (show (1 : Nat) ≤ 9 by decide) see_tup (pd_name (i := 0) rfl rfl (.inl rfl)) (ptuple rfl U.tuple (TD.seqL (pd_name (i := 1) rfl rfl (.inl rfl))) (fun _ => rfl)) trivial (nomark _)) fun _ => (pdw_or1 (tneO E (show (1 + 1 : Nat) ≤ 9 by decide) see_ins (pd_name (i := 0) rfl rfl (.inl rfl)) (pmkBk I T (show (3 + 1 : Nat) ≤ 9 by decide) rfl (TD.seqT (ptuple rfl U.tuple (TD.seqL (pd_name (i := 1) rfl rfl (.inl rfl))) (fun _ => rfl))) hpl (fun _ => rfl) (fun _ => rfl)) trivial (nomark _)))))) (fun h => ?_) fun h => ?_
  · exfalso; simp at h
  by_cases hn : prodL pl ≤ 100
  · refine bset (k := 0) (k2 := 0) 3 (pifF (tcmp (fun _ _ => op_gt) (pd_name (i := 2) rfl rfl (.inl rfl)) pd_int rd_B0 (nomark _)) (decide_eq_false (by show ¬ prodL pl > 100; omega)) (TDF.td (plst (.cons (pcal3 C_alike (show (1 : Nat) ≤ 9 by decide) rfl (pd_name (i := 1) rfl rfl (.inl rfl)) (TD.seqL (pzeros U (plen rfl U.len (TD.seqL (pd_name (i := 1) rfl rfl (.inl rfl))) (fun _ => rfl)) h8.2)) (TD.seqL (TDF.td (plrg1 rfl U.list rfl U.range (plen rfl U.len (TD.seqL (pd_name (i := 1) rfl rfl (.inl rfl))) (fun _ => rfl)) (by omega) (fun _ => rfl) (fun _ => rfl)))) ⟨hpl, zeros_in hpl, sp_range _, by show widthL pl (rangeL 0 ((pl.length : Int)).toNat) ≤ 100; rw [etn, width_all]; exact hn⟩ (fun _ => rfl) (fun _ => rfl) (fun _ => rfl) (fun _ => rfl)) .nil (fun _ => rfl)) (by simp)))) trivial rfl (.inl rfl) (fun env he => by cases env; cases he; rfl) (.inl rfl) ?_
    rintro _ rfl
    exact book_few U U3 hpl hn C0 C1
  · refine bset (k := 0) (k2 := 0) 3 (pifT (tcmp (fun _ _ => op_gt) (pd_name (i := 2) rfl rfl (.inl rfl)) pd_int rd_B0 (nomark _)) (decide_eq_true (show prodL pl > 100 by omega)) (plst2 pd_S1 (pd_name (i := 2) rfl rfl (.inl rfl)) (fun _ => rfl) (fun _ => rfl))) trivial rfl (.inl rfl) (fun env he => by cases env; cases he; rfl) (.inl rfl) ?_
    rintro _ rfl
    exact book_many U U3 hpl (by omega) C2
end
end K01

set_option Elab.async false
set_option linter.all false
set_option maxRecDepth 100000
set_option maxHeartbeats 4000000
namespace K01
open PySem PySem.Spec L2 DL
abbrev nRight : List Str := ["box", "plain", "beside", "handed", "book", "second", "turn", "thing", "sizes_here", "word"]
abbrev sRight : Stmt := top 44
theorem scRight : FnScope nRight ["box"] (defScope sRight) := ⟨rfl, rfl, rfl, by decide +kernel, rfl, by decide +kernel, by decide +kernel⟩
section
variable {P : Program} {w : World} {K : PySem.W.Frag} {mg : Str → Option Value} {base : Heap} {CB : Addr}
variable (U : Bt mg)
include U
abbrev P_right : Sp := spD (fun b (a : Unit) => [.bx b]) (fun _ => 300) (fun _ => True) cBool (fun _ x => x = true)
theorem c_right (D : Def K mg "_law_right" sRight) (T : TBk K mg CB) (E : EqA P w K mg base CB 1 (P_eq CB)) (I : ICal P w K mg base CB ["self", "sizes"] 3 (P_initB CB)) (IK : ICalK P w K mg base CB "sizes" 3 (P_initB CB)) (C_plain : Cal P w K mg base "_law_plain" ["box"] 3 P_plain) (C_beside : Cal P w K mg base "_law_beside" ["box", "plain"] 4 P_beside) (C_take : Cal P w K mg base "_law_take" ["box", "many"] 1 spTake) (C_text : Cal P w K mg base "_law_text" ["plain", "index"] 1 P_text) (C_lproduct : Cal P w K mg base "_law_product" ["plain"] 1 P_lproduct)
    (C_book : CalG P w K mg base "_law_book_right" ["book", "plain"] 10 (P_book CB)) (C_slices : CalG P w K mg base "_law_slices_right" ["box", "book", "plain", "word"] 9 (P_slices CB)) (C_pair : Cal P w K mg base "_law_pair_right" ["box", "book", "plain"] 8 (P_pair CB)) :
    CalG P w K mg base "_law_right" ["box"] 11 P_right := by
  refine cal_DG (N := nRight) D (fun _ _ _ _ _ _ us hl => match us, hl with | [_], _ => rfl) scRight (fun _ _ => rfl) (by decide) (fun _ _ => trivial) fun b a hp => ?_
  refine HS.ctx (Γ' := [.bx b, .un, .un, .un, .un, .un, .un, .un, .un, .un]) rfl ?_
  refine HS.le (k := 0 + 30 + (0 + 40 + (0 + (0 + 0 + (0 + (0 + 0 + (0 + 200 + 0))))))) ?_ (by decide)
  refine bset (k := 0 + 30) (k2 := 0 + 40 + (0 + (0 + 0 + (0 + (0 + 0 + (0 + 200 + 0)))))) (P := Pl) 1 (pcalX (k1 := 0) (k2 := 30) C_plain (show (3 : Nat) ≤ 10 by decide) rfl (pda_boxp (k2 := 0) (i := 0) rfl rfl (.inl rfl) pda_nil) (fun as e => ⟨(), b, e, trivial, Nat.le_refl _, fun x hx => hx⟩) (fun _ => rfl) (fun _ => rfl)) trivial rfl (.inl rfl) (fun env he => by cases env; cases he; rfl) (.inl rfl) ?_
  intro pl hpl
  have hpl : Pl pl := hpl
  refine HS.ctx (Γ' := [.bx b, .d (cList cInt) pl, .un, .un, .un, .un, .un, .un, .un, .un]) rfl ?_
  refine bset (k := 0 + 40) (k2 := 0 + (0 + 0 + (0 + (0 + 0 + (0 + 200 + 0))))) (P := Pl) 2 (pcalX (k1 := 0) (k2 := 40) C_beside (show (4 : Nat) ≤ 10 by decide) rfl (pda_boxp (k2 := 0) (i := 0) rfl rfl (.inl rfl) (pda_one (pd_name (i := 1) rfl rfl (.inl rfl)) (fun _ => rfl))) (fun as e => ⟨pl, b, e, hpl, Nat.le_refl _, fun x hx => hx⟩) (fun _ => rfl) (fun _ => rfl)) trivial rfl (.inl rfl) (fun env he => by cases env; cases he; rfl) (.inl rfl) ?_
  intro bs hbs
  have hbs : Pl bs := hbs
  refine HS.ctx (Γ' := [.bx b, .d (cList cInt) pl, .d (cList cInt) bs, .un, .un, .un, .un, .un, .un, .un]) rfl ?_
  refine bsetL (k := 0) (k2 := 0 + 0 + (0 + (0 + 0 + (0 + 200 + 0)))) 3 (plist rfl U.list (TD.seqL (pd_name (i := 1) rfl rfl (.inl rfl))) (fun _ => rfl)) trivial rfl (.inl rfl) (fun env he => by cases env; cases he; rfl) (.inl rfl) ?_
  intro x0 e0
  have e0 : x0 = pl := e0
  subst x0
  refine HS.ctx (Γ' := [.bx b, .d (cList cInt) pl, .d (cList cInt) bs, .l cInt pl, .un, .un, .un, .un, .un, .un]) rfl ?_
  refine bpar (k1 := 0) (k2 := 0) (kr := 0 + (0 + 0 + (0 + 200 + 0))) 4 5 (TD.tx' (td_viewN (i := 3) rfl nlBk (pmkBk I T (show (3 + 1 : Nat) ≤ 10 by decide) rfl (TD.seqL (pd_name (i := 3) rfl rfl (.inl rfl))) hpl (fun _ => rfl) (fun _ => rfl)))) (TD.tx' (x := bs) (pmakeK1 (F := FBk) (hm := fun {_ _ _ _} e h => hmBk e h) (P := (· = bs)) (P' := (· = bs)) IK (show (3 + 1 : Nat) ≤ 10 by decide) rfl T.k.mgC (TD.seqT (ptuple rfl U.tuple (TD.seqL (pd_name (i := 2) rfl rfl (.inl rfl))) (fun _ => rfl))) (fun z e => by subst e; exact ⟨hbs, fun y h => h⟩) (fun _ => rfl) (fun _ => rfl) (fun _ => rfl))) trivial trivial (by decide) (fun z => nomatch z) (fun z => nomatch z) rfl rfl rfl rfl (fun _ => rfl) (fun _ => rfl) (fun env he => by cases env; cases he; rfl) (fun env he => by cases env; cases he; rfl) ?_
  refine HS.ctx (Γ' := [.bx b, .d (cList cInt) pl, .d (cList cInt) bs, .l cInt pl, .d (cBk CB) pl, .d (cBk CB) bs, .un, .un, .un, .un]) rfl ?_
  refine bsetItem (kr := 0 + 0 + (0 + 200 + 0)) 3 rfl (pd_int (i := 7)) (pd_int (i := 0)) 0 (ixN_at ⟨Int.le_refl _, by have := hpl.1.1; omega⟩) rfl (.inl rfl) (fun _ _ => rfl) (fun _ => rfl) (fun _ => rfl) (fun _ => rfl) ?_
  refine HS.drop [3] trivial ?_
  refine HS.ctx (Γ' := [.bx b, .d (cList cInt) pl, .d (cList cInt) bs, .un, .d (cBk CB) pl, .d (cBk CB) bs, .un, .un, .un, .un]) rfl ?_
  refine bifR (k1 := 0) (k2 := 0) (k3 := 0 + 200 + 0) (pdt_w (tor (tcmp (fun _ _ => op_ne) (peqO E (show (1 : Nat) ≤ 10 by decide) see_ins (pd_name (i := 4) rfl rfl (.inl rfl)) (pd_name (i := 5) rfl rfl (.inl rfl)) trivial (nomark _)) (pcmp (op_eqDG rfl) (pd_name (i := 1) rfl rfl (.inl rfl)) (pd_name (i := 2) rfl rfl (.inl rfl)) (rd_eqD (eList eInt) (by decide)) (nomark _)) rd_neB (nomark _)) fun _ => (pdw_or1 (tcmp (fun _ _ => op_ne) (pneO E (show (1 + 1 : Nat) ≤ 10 by decide) see_ins (pd_name (i := 5) rfl rfl (.inl rfl)) (pd_name (i := 4) rfl rfl (.inl rfl)) trivial (nomark _)) (pcmp (op_neDG rfl) (pd_name (i := 1) rfl rfl (.inl rfl)) (pd_name (i := 2) rfl rfl (.inl rfl)) (rd_neD (eList eInt) (by decide)) (nomark _)) rd_neB (nomark _))))) (fun h => ?_) fun h => ?_
  · exfalso
    simp [eq_comm (a := bs) (b := pl)] at h
  refine bfor (k := 0) (kk := 0 + 0 + (0 + 100 + 0)) (kn := 200) (k2 := 0) [6, 7, 8, 9] (fun _ pre Γ => Γ = [.bx b, .d (cList cInt) pl, .d (cList cInt) bs, .un, .d (cBk CB) pl, .d (cBk CB) bs, .un, .un, .un, .un]) (prng1 rfl U.range (pd_int (i := 2)) (by decide) (fun _ => rfl)) ?_ ?_ ?_ (fun _ _ => rfl) ?_
  · rintro _ rfl; rfl
  · rintro _ rfl; rw [rangeL_len]; decide
  · rintro _ rfl pre x post _ hx rfl
    refine ⟨_, _, (pdg_name (i := 6) trivial rfl (.inl rfl) (.inl rfl)), ?_⟩
    refine HS.ctx (Γ' := [.bx b, .d (cList cInt) pl, .d (cList cInt) bs, .un, .d (cBk CB) pl, .d (cBk CB) bs, .d cInt x, .un, .un, .un]) rfl ?_
    refine bifR (k1 := 0) (k2 := 0) (k3 := 0 + 100 + 0) (pdt_w (pdw_or (k1 := 0) (k2 := 0) (x := false) (y := false) (pdt_not (b := true) (pdt_val (pcalXG (k1 := 0) (k2 := 0) C_book rfl (show (10 : Nat) ≤ 10 by decide) rfl (pda_more (k1 := 0) (k2 := 0) (pd_name (i := 4) rfl rfl (.inl rfl)) (pda_one (pd_name (i := 1) rfl rfl (.inl rfl)) (fun _ => rfl)) (fun _ => rfl)) (fun as e => ⟨pl, 0, e, hpl, Nat.le_refl _, fun x hx => hx⟩) (fun _ => rfl) (fun _ => rfl)) (fun _ _ => rfl))) fun _ => (pdw_or1 (pdt_not (b := true) (pdt_val (pcalXG (k1 := 0) (k2 := 0) C_book rfl (show (10 : Nat) ≤ 10 by decide) rfl (pda_more (k1 := 0) (k2 := 0) (pd_name (i := 5) rfl rfl (.inl rfl)) (pda_one (pd_name (i := 2) rfl rfl (.inl rfl)) (fun _ => rfl)) (fun _ => rfl)) (fun as e => ⟨bs, 0, e, hbs, Nat.le_refl _, fun x hx => hx⟩) (fun _ => rfl) (fun _ => rfl)) (fun _ _ => rfl)))))) (fun h => ?_) fun h => ?_
    · exact absurd h (by decide)
    refine bfor (k := 0) (kk := 1 + (30 + 16 + 0 + 0)) (kn := 100) (k2 := 0) [7, 8, 9] (fun _ pre Γ => Γ = [.bx b, .d (cList cInt) pl, .d (cList cInt) bs, .un, .d (cBk CB) pl, .d (cBk CB) bs, .d cInt x, .un, .un, .un]) (pdi_list (TDF.td (plst (c := cT2 (cBk CB) (cList cInt)) (xs := [(pl, pl), (bs, bs)]) (.cons (pt2 (pd_name (i := 4) rfl rfl (.inl rfl)) (pd_name (i := 1) rfl rfl (.inl rfl)) (fun _ => rfl) (fun _ => rfl)) (.cons (pt2 (pd_name (i := 5) rfl rfl (.inl rfl)) (pd_name (i := 2) rfl rfl (.inl rfl)) (fun _ => rfl) (fun _ => rfl)) .nil (fun _ => rfl)) (fun _ => rfl)) (by simp)))) ?_ ?_ ?_ (fun _ _ => rfl) ?_
    · rintro _ rfl; rfl
    · rintro _ rfl; show 2 * (1 + (30 + 16 + 0 + 0)) ≤ 100; decide
    · rintro _ rfl pr y post2 _ hy rfl
      have hym : y ∈ [(pl, pl), (bs, bs)] := by rw [hy]; simp
      obtain ⟨z, rfl, hz⟩ : ∃ z, y = (z, z) ∧ Pl z := by
        rcases List.mem_cons.mp hym with e | e
        · exact ⟨pl, e, hpl⟩
        · exact ⟨bs, List.mem_singleton.mp e, hbs⟩
      have hzp := hz.prod
      have hpos : ∀ p ∈ z, 0 < p := fun p hp => by have := hz.2 p hp; omega
      refine ⟨_, _, (pdg_t2 (pdg_name (i := 7) trivial rfl (.inl rfl) (.inl rfl)) (pdg_name (i := 8) trivial rfl (.inl rfl) (.inl rfl)) (fun _ => rfl) (fun _ => rfl) (fun _ => rfl) (fun _ => rfl)), ?_⟩
      refine HS.ctx (Γ' := [.bx b, .d (cList cInt) pl, .d (cList cInt) bs, .un, .d (cBk CB) pl, .d (cBk CB) bs, .d cInt x, .d (cBk CB) z, .d (cList cInt) z, .un]) rfl ?_
      refine bset (k := 0 + (1 + 0) + 0) (k2 := 30 + 16 + 0 + 0) (P := fun v => InW v z) 9 (pcalX (P' := fun v => InW v z) (k1 := 0 + (1 + 0)) (k2 := 0) C_text (show (1 : Nat) ≤ 10 by decide) rfl (pda_cons (k1 := 0) (k2 := 1 + 0) (pd_name (i := 8) rfl rfl (.inl rfl)) (pda_cons (k1 := 1) (k2 := 0) (ptake C_take (show (1 : Nat) ≤ 10 by decide) rfl (i := 0) rfl rfl (.inl rfl) (pcal1 C_lproduct (show (1 : Nat) ≤ 10 by decide) rfl (pd_name (i := 8) rfl rfl (.inl rfl)) hz.2 (fun _ => rfl) (fun _ => rfl)) (by omega) (fun _ => rfl) (fun _ => rfl) (fun _ => rfl)) pda_nil (fun _ => rfl)) (fun _ => rfl)) (fun as ⟨x, r, hx, ⟨y, r2, hy, e2, e1⟩, e⟩ => ⟨(x, y), b, by rw [e, e1, e2], by rw [hx]; exact hz, Nat.le_refl _, fun v hv => by subst hx; rw [hv]; exact text_in _ hpos⟩) (fun _ => rfl) (fun _ => rfl)) trivial rfl (.inl rfl) (fun env he => by cases env; cases he; rfl) (.inl rfl) ?_
      intro wd hwd
      have hwd : InW wd z := hwd
      refine HS.ctx (Γ' := [.bx b, .d (cList cInt) pl, .d (cList cInt) bs, .un, .d (cBk CB) pl, .d (cBk CB) bs, .d cInt x, .d (cBk CB) z, .d (cList cInt) z, .d (cTup cInt) wd]) rfl ?_
      refine bifR (k1 := 30 + 16) (k2 := 0) (k3 := 0) (pdt_w (pdw_or (k1 := 30) (k2 := 16) (x := false) (y := false) (pdt_not (b := true) (pdt_val (pcalXG (k1 := 0) (k2 := 30) C_slices rfl (show (9 : Nat) ≤ 10 by decide) rfl (pda_boxp (k2 := 0) (i := 0) rfl rfl (.inl rfl) (pda_more (k1 := 0) (k2 := 0) (pd_name (i := 7) rfl rfl (.inl rfl)) (pda_more (k1 := 0) (k2 := 0) (pd_name (i := 8) rfl rfl (.inl rfl)) (pda_one (pd_name (i := 9) rfl rfl (.inl rfl)) (fun _ => rfl)) (fun _ => rfl)) (fun _ => rfl))) (fun as e => ⟨(z, wd), b, e, ⟨hz, hwd⟩, Nat.le_refl _, fun x hx => hx⟩) (fun _ => rfl) (fun _ => rfl)) (fun _ _ => rfl))) fun _ => (pdw_or1 (pdt_not (b := true) (pdt_val (pcalX (k1 := 0) (k2 := 16) C_pair (show (8 : Nat) ≤ 10 by decide) rfl (pda_boxp (k2 := 0) (i := 0) rfl rfl (.inl rfl) (pda_more (k1 := 0) (k2 := 0) (pd_name (i := 7) rfl rfl (.inl rfl)) (pda_one (pd_name (i := 8) rfl rfl (.inl rfl)) (fun _ => rfl)) (fun _ => rfl))) (fun as e => ⟨z, b, e, hz, Nat.le_refl _, fun x hx => hx⟩) (fun _ => rfl) (fun _ => rfl)) (fun _ _ => rfl)))))) (fun h => ?_) fun h => ?_
      · exact absurd h (by decide)
      · exact phs_nil ⟨trivial, rfl⟩
    · rintro _ _ rfl rfl
      exact phs_nil ⟨trivial, rfl⟩
  · rintro _ _ rfl rfl
    exact bret pd_bool fun _ h => h
end
end K01

set_option Elab.async false
set_option linter.all false
set_option maxRecDepth 100000
set_option maxHeartbeats 4000000
namespace K01
open PySem PySem.Spec L2 DL
structure Bt2 (mg : Str → Option Value) : Prop where
  sum : mg "sum" = none
  abs : mg "abs" = none
  max : mg "max" = none
  min : mg "min" = none
/-- the script -/
def cScrK (K : PySem.W.Frag) : Cod (List Int) := ⟨fun H v xs => ∃ a, v = .ref a ∧ SqL K H a (xs.map V.int), fun e ⟨a, h1, h2⟩ => ⟨a, h1, by
  rcases h2 with h2 | h2
  · exact .inl (e.rd h2)
  · exact .inr h2⟩⟩
def spCellL (K : PySem.W.Frag) : Sp := fun vs H Q _ => ∃ (a : Addr) (ns : List Int) (k : Int), vs = [.ref a, .int k] ∧ SqL K H a (ns.map V.int) ∧ ns.length ≤ 63 ∧ 0 ≤ k ∧ k ≤ 5 ∧ ∀ (i : Int) H', Ex H H' → (∀ b, H' b = none → H b = none) → Q (.int i) H'
def spBoxL : Sp := fun vs H Q _ => ∃ (g : Int), vs = [.int g] ∧ ∀ (b : Addr) (g' : Int) (big : Bool) (m : Int), H b = none → 0 ≤ m → m < 2147483648 → Q (.ref b) (upd H b (.lst [.int g', .bl big, .int m, .int 0]))
section
variable {P : Program} {w : PySem.World} {K : PySem.W.Frag} {mg : Str → Option Value} {base : Heap} {C : Addr}
variable (U : Bt mg) (U2 : Bt2 mg)
include U U2
theorem ok_cell {f : Addr} {fd : FuncData} (F : Fun K "_law_cell" "_law_cell" (top 26) f fd) : FnOk P w K mg base CX0 1 f fd ["script", "k"] (spCellL K) := by
  refine F.ok (N := ["script", "k"]) ⟨rfl, rfl, rfl, by decide +kernel, rfl, by decide +kernel, by decide +kernel⟩ (fun vs H Q E h => ?_) (fun cdv A outer s H vs Q E hr h => ?_)
  · obtain ⟨a, ns, k, rfl, _⟩ := h
    rfl
  · obtain ⟨a, ns, k, rfl, hs, hl, k0, k1, q⟩ := h
    refine ⟨_, pss_one (ps_ret (pe_ifExp (pt_cmpR op_lt (pv 1) (pe_callB call_len_seq rfl U.len PySem.boot_len (pa_cons (pv 0) pa_nil)) (nomark _)) (pe_ix ix_list (pv 0) (pv 1) (fun _ _ => rfl)) (pe_op op_add (pe_op op_mul pe_int (pv 1)) (pe_op op_mod (pe_callB (cr_sum rfl) rfl U2.sum PyProof.Rows.boot_sum (pa_cons (pe_slice sl_list (pv 0) po_none (po_some pe_int)) pa_nil)) pe_int)))), ?_⟩
    refine ⟨.int k, rfl, .ref a, rfl, a, _, rfl, .inl hs, k, _, rfl, rfl, _, rfl, ?_⟩
    refine ite2 (fun hlt => ?_) fun _ => ?_
    · have hk : 0 ≤ k ∧ k < ((ns.map V.int).length : Int) := ⟨k0, of_decide_eq_true hlt⟩
      have hk2 : k.toNat < ns.length := by rw [List.length_map] at hk; omega
      refine ⟨.ref a, rfl, .int k, rfl, a, _, k, .int ns[k.toNat], rfl, rfl, hs, ?_, q _ H Ex.rfl' fun _ h => h⟩
      unfold atI
      rw [ixN_at hk]
      show (ns.map V.int)[k.toNat]? = _
      rw [List.getElem?_map, List.getElem?_eq_getElem hk2]; rfl
    · refine ⟨.int k, rfl, 7919, k, rfl, rfl, .inl ⟨by decide, by decide⟩, .ref a, rfl, 1, rfl, a, _, rfl, hs, fun p hp => ?_⟩
      have ec : cutV (ns.map V.int) none (some 1) = ((ns.drop (HT.sIx (ns.map V.int).length 0 none)).take (HT.sIx (ns.map V.int).length (ns.map V.int).length (some 1) - HT.sIx (ns.map V.int).length 0 none)).map V.int := by
        unfold cutV; rw [List.map_take, List.map_drop]
      rw [ec]
      refine ⟨p, _, rfl, SqL.of upd_same, ?_⟩
      refine ⟨_, 1000003, rfl, rfl, (show (0 : Int) < 1000003 by decide), _, _, rfl, rfl, q _ _ (Ex.new hp) fun x hx => ?_⟩
      by_cases z : x = p
      · subst z; rw [upd_same] at hx; cases hx
      · rw [upd_ne z] at hx; exact hx
theorem ok_box {f : Addr} {fd : FuncData} (F : Fun K "_law_box" "_law_box" (top 27) f fd) : FnOk P w K mg base CX0 1 f fd ["great"] spBoxL := by
  refine F.ok (N := ["great"]) ⟨rfl, rfl, rfl, by decide +kernel, rfl, by decide +kernel, by decide +kernel⟩ (fun vs H Q E h => ?_) (fun cdv A outer s H vs Q E hr h => ?_)
  · obtain ⟨g, rfl, _⟩ := h
    rfl
  · obtain ⟨g, rfl, q⟩ := h
    refine ⟨_, pss_one (ps_ret (pe_lst (pa_cons (pe_callB call_abs rfl U2.abs PyProof.Rows.boot_abs (pa_cons (pv 0) pa_nil)) (pa_cons (pe_cmpR op_ge (pe_callB call_abs rfl U2.abs PyProof.Rows.boot_abs (pa_cons (pv 0) pa_nil)) (pe_op op_pow pe_int pe_int) (nomark _)) (pa_cons (pe_op op_mod (pe_callTy call_int1 rfl U.int (by decide +kernel) (pa_cons (pe_callB call_abs rfl U2.abs PyProof.Rows.boot_abs (pa_cons (pv 0) pa_nil)) pa_nil)) pe_int) (pa_cons pe_int pa_nil)))))), ?_⟩
    refine ⟨.int g, rfl, g, rfl, .int g, rfl, g, rfl, 10, 18, rfl, rfl, ⟨by decide, by decide, by decide⟩, _, _, rfl, rfl, .int g, rfl, g, rfl, .inl ⟨_, rfl, _, 2147483629, rfl, rfl, (show (0 : Int) < 2147483629 by decide), ?_⟩⟩
    refine ⟨by show 4 ≤ sizeLine; decide, fun p hp => q p _ _ _ hp (Int.emod_nonneg _ (by decide)) (Int.lt_trans (Int.emod_lt_of_pos _ (by decide)) (by decide))⟩
end
end K01

set_option Elab.async false
set_option linter.all false
set_option maxRecDepth 100000
set_option maxHeartbeats 4000000
namespace K01
open PySem PySem.Spec L2 DL
abbrev nLaw : List Str := ["script", "k"]
abbrev sLaw : Stmt := top 45
def spLaw (K : PySem.W.Frag) : Sp := fun vs H Q _ => ∃ (a : Addr) (ns : List Int), vs = [.ref a] ∧ SqL K H a (ns.map V.int) ∧ ns.length ≤ 63 ∧ ∀ H', Q (.bl true) H'
def rMx : List V → Hp → VK → Prop := fun xs H Q => ∃ i j, xs = [.int i, .int j] ∧ Q (.int (if j > i then j else i)) H
def rMn : List V → Hp → VK → Prop := fun xs H Q => ∃ i j, xs = [.int i, .int j] ∧ Q (.int (if j < i then j else i)) H
theorem fr_box {Hf H Hf' H' : Hp} {b : Addr} {o : HO} (hb : H b = none) (f : Fr (fun z => Sl.bx z ∈ ([.bx b] : Ctxt)) Hf (upd H b o) Hf' H') : Fr (fun _ => False) Hf H Hf' H' := by
  have ne : ∀ a u, H a = some u → a ≠ b := fun a u e z => by subst z; rw [hb] at e; cases e
  have nm : ∀ a u, H a = some u → ¬ (Sl.bx a ∈ ([.bx b] : Ctxt)) := fun a u e z => by
    rcases List.mem_cons.mp z with h | h
    · exact ne a u e (Sl.bx.inj h)
    · cases h
  exact ⟨f.ex, fun a u e _ => f.keep a u (by rw [upd_ne (ne a u e)]; exact e) (nm a u e), fun a u e _ z => f.fz a u (by rw [upd_ne (ne a u e)]; exact e) (nm a u e) z, fun a h => by
    have h1 := f.dom a h
    by_cases z : a = b
    · subst z; exact hb
    · rw [upd_ne z] at h1; exact h1⟩
section
variable {P : Program} {w : PySem.World} {K : PySem.W.Frag} {mg : Str → Option Value} {base : Heap}
variable (U : Bt mg) (U2 : Bt2 mg)
include U U2
abbrev Slaw (P : Program) (w : PySem.World) (K : PySem.W.Frag) (mg : Str → Option Value) (base : Heap) : Stc := ⟨nLaw, defScope sLaw, K, mg, P, w, base, 11, fun _ => true, true⟩
omit U U2 in
theorem td_row {Γ : Ctxt} {ns : List Int} {k : Int} {te tk : TE} (h1 : TD te Γ 0 (cScrK K) (· = ns)) (h2 : TD tk Γ 0 cInt (· = k)) (hl : ns.length ≤ 63) (h0 : 0 ≤ k) (h5 : k ≤ 5) (no : NoOwn Γ) :
    TD (tCall P_right [] E0 (tCons (tCall spBoxL [] E0 (tCons (tCall (spCellL K) [] E0 (tCons te (tCons tk tNil))) tNil)) tNil)) Γ 0 cBool (· = true) := fun O n σ Hf H hn s Q q =>
  h1 O n σ Hf H hn s _ fun v1 Hf1 H1 x px r1 f1 s1 => by
    subst px
    refine h2 O n σ Hf1 H1 hn s1 _ fun v2 Hf2 H2 y py r2 f2 s2 => ?_
    subst py
    obtain ⟨a, rfl, hs⟩ := (cScrK K).mono (f2.ex.trans s2.ex) r1
    obtain rfl := r2
    refine ⟨a, x, y, rfl, hs, hl, h0, h5, fun i H3 e3 d3 => ?_⟩
    refine ⟨i, rfl, fun b g' big m hb m0 m1 => ?_⟩
    have hb2 : Hf2 b = none := s2.ex.back (d3 b hb)
    have s3 : Sat O Hf2 H3 σ Γ (n + 0) := s2.heap no e3 d3
    refine ⟨(), b, 0, Hf2, trivial, by decide, s3.ex.trans (Ex.new hb), ⟨rfl, trivial⟩, fun z hz => ?_, fun v Hf4 H4 u pu ru f4 e4 _ => ?_⟩
    · rcases List.mem_cons.mp hz with h | h
      · cases h
        exact ⟨hb2, g', big, m, 0, upd_same, m0, m1, Int.le_refl _, Int.le_refl _⟩
      · cases h
    · have F4 := fr_box hb f4
      have s4 := s3.grow0 F4 e4
      have F3 : Fr (fun _ => False) Hf2 H2 Hf2 H3 := ⟨Ex.rfl', fun c u e _ => e3 c u e, fun _ _ _ _ z => z, d3⟩
      exact q v Hf4 H4 u pu ru (((f1.trans f2 fun _ z => .inl z).trans F3 fun _ z => z.elim).trans F4 fun _ z => z.elim) s4
theorem ok_law {f : Addr} {fd : FuncData} (F : Fun K "law" "law" sLaw f fd) (C_right : CalG P w K mg base "_law_right" ["box"] 11 P_right) (C_box : Cal P w K mg base "_law_box" ["great"] 1 spBoxL) (C_cell : Cal P w K mg base "_law_cell" ["script", "k"] 1 (spCellL K)) :
    FnG P w K mg base 12 f fd ["script"] (spLaw K) := by
  obtain ⟨fr, fdr, Fr', hmr, hkr, hbr⟩ := C_right.ex
  obtain ⟨fb, fdb, Fb, hmb, hkb, hbb⟩ := C_box.ex
  obtain ⟨fc, fdc, Fc, hmc, hkc, hbc⟩ := C_cell.ex
  refine fnG_of (N := nLaw) F ⟨rfl, rfl, rfl, by decide +kernel, rfl, by decide +kernel, by decide +kernel⟩ (fun vs H Q E h => ?_) (fun cdv A outer s H vs Q E hg hr h => ?_)
  · obtain ⟨a, ns, rfl, _⟩ := h; rfl
  · obtain ⟨a, ns, rfl, hs, hl, q⟩ := h
    have hsN : (FnScope nLaw ["script"] (defScope sLaw)) := ⟨rfl, rfl, rfl, by decide +kernel, rfl, by decide +kernel, by decide +kernel⟩
    refine ⟨tSs (Slaw P w K mg base) (defBody sLaw), tSs_ok (cxGG hg hr hsN.nd), ?_⟩
    refine body_ok (A := List Int) (ρ := Bool) (ps := fun _ (a : List Int) => [.d (cScrK K) a]) (kf := fun _ => 0) (PR := fun _ x => x = true) (cr := cBool) (a := ns) (b := 0) (n := 0) (Hf := H) (show 1 ≤ 2 by decide) trivial (by decide) Ex.rfl' ⟨⟨a, rfl, hs⟩, trivial⟩ (fun z hz => by simp at hz) (fun v Hf' H' x px r _ _ _ => ?_) ?_
    · subst px; obtain rfl := r; exact q H'
    have no : ∀ k : Int, NoOwn ([.d (cScrK K) ns, .d cInt k] : Ctxt) := fun k s hs => by
      simp at hs; rcases hs with h | h <;> subst h <;> rfl
    show PHs (Slaw P w K mg base) [.d (cScrK K) ns, .un] 0 (defBody sLaw) _
    refine bfor (k := 0) (kk := 0) (kn := 0) (k2 := 0) [1] (X' := fun xs => ∃ j : Int, 2 ≤ j ∧ j ≤ 5 ∧ xs = rangeL 0 j.toNat) (fun _ pre Γ => Γ = [.d (cScrK K) ns, .un]) (pdi_range1 rfl U.range (pda_cons (k1 := 0) (k2 := 0) (P := fun j : Int => 2 ≤ j ∧ j ≤ 5) (c := cInt) ?_ pda_nil (fun _ => rfl)) (fun as e => ?_) (fun _ => rfl)) ?_ ?_ ?_ (fun _ _ => rfl) ?_
    · refine pd_of (te := tCB rMx (tCons (tE (Slaw P w K mg base) _) (tCons (tCB rMn (tCons (tE (Slaw P w K mg base) _) (tCons (tCB (rLenR K) (tCons (tE (Slaw P w K mg base) _) tNil)) tNil))) tNil))) (fun X G => pe_callB (call_max2 G.calm) (glb G rfl) (by rw [G.mg]; exact U2.max) PyProof.Rows.boot_max (pa_cons (tE_ok G) (pa_cons (pe_callB (call_min2 G.calm) (glb G rfl) (by rw [G.mg]; exact U2.min) PyProof.Rows.boot_min (pa_cons (tE_ok G) (pa_cons (pe_callB (lenG X G) (glb G rfl) (by rw [G.mg]; exact U.len) PySem.boot_len (pa_cons (tE_ok G) pa_nil)) pa_nil))) pa_nil))) ?_
      intro O n σ Hf H hn s Q q
      refine pd_int (S := Slaw P w K mg base) (i := 2) O n σ Hf H hn s _ fun v0 Hf0 H0 x0 px0 r0 f0 s0 => ?_
      refine pd_int (S := Slaw P w K mg base) (i := 5) O n σ Hf0 H0 hn s0 _ fun v1 Hf1 H1 x1 px1 r1 f1 s1 => ?_
      refine pd_name (S := Slaw P w K mg base) (Γ := [.d (cScrK K) ns, .un]) (c := cScrK K) (y := ns) (i := 0) rfl rfl (.inl rfl) (by decide) (by decide) O n σ Hf1 H1 hn s1 _ fun v2 Hf2 H2 x2 px2 r2 f2 s2 => ?_
      subst px0 px1 px2
      obtain rfl := r0
      obtain rfl := r1
      obtain ⟨c, rfl, hc⟩ := (cScrK K).mono s2.ex r2
      refine ⟨c, _, rfl, .inl hc, 5, _, rfl, 2, _, rfl, ?_⟩
      refine q _ Hf2 H2 _ ?_ rfl ((f0.trans f1 fun _ z => .inl z).trans f2 fun _ z => .inl z) s2
      constructor <;> (repeat' split) <;> omega
    · obtain ⟨j, r, ⟨h1, h2⟩, h3, h4⟩ := e
      subst h3 h4
      exact ⟨j, rfl, by omega, by omega, j, h1, h2, rfl⟩
    · intro xs _; rfl
    · intro xs _; simp
    · rintro xs ⟨j, j2, j5, exs⟩ pre x post Γ1 hx e
      subst e
      have hxr : x ∈ rangeL 0 j.toNat := by rw [← exs, hx]; simp
      have hx1 := mem_rangeL.mp hxr
      refine ⟨_, _, pdg_name (i := 1) trivial rfl (.inl rfl) (.inl rfl), ?_⟩
      refine HS.ctx (Γ' := [.d (cScrK K) ns, .d cInt x]) rfl ?_
      refine bifR (b' := (· = false)) (k1 := 0) (k2 := 0) (k3 := 0) (pdt_not (b := true) (pdt_val (pd_of (S := Slaw P w K mg base) (fun X G => pe_callG (fnGG Fr' G) (G.gd rfl) (G.room.mono (show (11 : Nat) ≤ 11 by decide)) (glb G rfl) (by rw [G.mg]; exact hmr) (by rw [G.K]; exact hkr) (by rw [G.K]; exact hbr) (pa_cons (pe_call (fnG Fb G) (G.room.mono (show (1 : Nat) ≤ 11 by decide)) (glb G rfl) (by rw [G.mg]; exact hmb) (by rw [G.K]; exact hkb) (by rw [G.K]; exact hbb) .nil pass0 (pa_cons (pe_call (fnG Fc G) (G.room.mono (show (1 : Nat) ≤ 11 by decide)) (glb G rfl) (by rw [G.mg]; exact hmc) (by rw [G.K]; exact hkc) (by rw [G.K]; exact hbc) .nil pass0 (pa_cons (tE_ok G) (pa_cons (tE_ok G) pa_nil))) pa_nil)) pa_nil)) (td_row (pd_name (S := Slaw P w K mg base) (i := 0) rfl rfl (.inl rfl)) (pd_name (S := Slaw P w K mg base) (i := 1) rfl rfl (.inl rfl)) hl (by omega) (by omega) (no x))) (fun _ _ => rfl))) (fun h => ?_) fun h => ?_
      · exact absurd h (by decide)
      · exact phs_nil ⟨trivial, rfl⟩
    · rintro xs Γ1 _ e
      subst e
      exact bret pd_bool fun _ h => h
end
end K01

set_option Elab.async false
set_option linter.all false
set_option maxRecDepth 100000
namespace K01
open PySem PySem.Spec L2 DL PySem.W

theorem all_mk {l : PySem.W.OpenLaw} {w : World} {K : PySem.W.Frag} {h : Heap} {mg : Str → Option Value} {fa : Addr} (X : K.In h) (Gn : h.Ns mainGlobals mg) (hfa : mg "law" = some (.ref fa))
    {fd0 : Addr} {odd0 and0 : Option Addr} {sld0 : Array (Option Value)} {ocd0 kVd0 dcd0 pmd0 cdd0 ctd0 : Value}
    {fd1 : Addr} {odd1 and1 : Option Addr} {sld1 : Array (Option Value)} {ocd1 kVd1 dcd1 pmd1 cdd1 ctd1 : Value}
    {fd2 : Addr} {odd2 and2 : Option Addr} {sld2 : Array (Option Value)} {ocd2 kVd2 dcd2 pmd2 cdd2 ctd2 : Value}
    {fd3 : Addr} {odd3 and3 : Option Addr} {sld3 : Array (Option Value)} {ocd3 kVd3 dcd3 pmd3 cdd3 ctd3 : Value}
    {fd4 : Addr} {odd4 and4 : Option Addr} {sld4 : Array (Option Value)} {ocd4 kVd4 dcd4 pmd4 cdd4 ctd4 : Value}
    {fd5 : Addr} {odd5 and5 : Option Addr} {sld5 : Array (Option Value)} {ocd5 kVd5 dcd5 pmd5 cdd5 ctd5 : Value}
    {fd6 : Addr} {odd6 and6 : Option Addr} {sld6 : Array (Option Value)} {ocd6 kVd6 dcd6 pmd6 cdd6 ctd6 : Value}
    {fd7 : Addr} {odd7 and7 : Option Addr} {sld7 : Array (Option Value)} {ocd7 kVd7 dcd7 pmd7 cdd7 ctd7 : Value}
    {fd8 : Addr} {odd8 and8 : Option Addr} {sld8 : Array (Option Value)} {ocd8 kVd8 dcd8 pmd8 cdd8 ctd8 : Value}
    {fd9 : Addr} {odd9 and9 : Option Addr} {sld9 : Array (Option Value)} {ocd9 kVd9 dcd9 pmd9 cdd9 ctd9 : Value}
    {fd10 : Addr} {odd10 and10 : Option Addr} {sld10 : Array (Option Value)} {ocd10 kVd10 dcd10 pmd10 cdd10 ctd10 : Value}
    {fd11 : Addr} {odd11 and11 : Option Addr} {sld11 : Array (Option Value)} {ocd11 kVd11 dcd11 pmd11 cdd11 ctd11 : Value}
    {fd12 : Addr} {odd12 and12 : Option Addr} {sld12 : Array (Option Value)} {ocd12 kVd12 dcd12 pmd12 cdd12 ctd12 : Value}
    {fd13 : Addr} {odd13 and13 : Option Addr} {sld13 : Array (Option Value)} {ocd13 kVd13 dcd13 pmd13 cdd13 ctd13 : Value}
    {fd14 : Addr} {odd14 and14 : Option Addr} {sld14 : Array (Option Value)} {ocd14 kVd14 dcd14 pmd14 cdd14 ctd14 : Value}
    {fd15 : Addr} {odd15 and15 : Option Addr} {sld15 : Array (Option Value)} {ocd15 kVd15 dcd15 pmd15 cdd15 ctd15 : Value}
    {fd16 : Addr} {odd16 and16 : Option Addr} {sld16 : Array (Option Value)} {ocd16 kVd16 dcd16 pmd16 cdd16 ctd16 : Value}
    {fd17 : Addr} {odd17 and17 : Option Addr} {sld17 : Array (Option Value)} {ocd17 kVd17 dcd17 pmd17 cdd17 ctd17 : Value}
    {fd18 : Addr} {odd18 and18 : Option Addr} {sld18 : Array (Option Value)} {ocd18 kVd18 dcd18 pmd18 cdd18 ctd18 : Value}
    {fd19 : Addr} {odd19 and19 : Option Addr} {sld19 : Array (Option Value)} {ocd19 kVd19 dcd19 pmd19 cdd19 ctd19 : Value}
    {fd20 : Addr} {odd20 and20 : Option Addr} {sld20 : Array (Option Value)} {ocd20 kVd20 dcd20 pmd20 cdd20 ctd20 : Value}
    {fd21 : Addr} {odd21 and21 : Option Addr} {sld21 : Array (Option Value)} {ocd21 kVd21 dcd21 pmd21 cdd21 ctd21 : Value}
    {fd22 : Addr} {odd22 and22 : Option Addr} {sld22 : Array (Option Value)} {ocd22 kVd22 dcd22 pmd22 cdd22 ctd22 : Value}
    {fd23 : Addr} {odd23 and23 : Option Addr} {sld23 : Array (Option Value)} {ocd23 kVd23 dcd23 pmd23 cdd23 ctd23 : Value}
    {fd24 : Addr} {odd24 and24 : Option Addr} {sld24 : Array (Option Value)} {ocd24 kVd24 dcd24 pmd24 cdd24 ctd24 : Value}
    {fd25 : Addr} {odd25 and25 : Option Addr} {sld25 : Array (Option Value)} {ocd25 kVd25 dcd25 pmd25 cdd25 ctd25 : Value}
    {fd26 : Addr} {odd26 and26 : Option Addr} {sld26 : Array (Option Value)} {ocd26 kVd26 dcd26 pmd26 cdd26 ctd26 : Value}
    {fd27 : Addr} {odd27 and27 : Option Addr} {sld27 : Array (Option Value)} {ocd27 kVd27 dcd27 pmd27 cdd27 ctd27 : Value}
    {fd28 : Addr} {odd28 and28 : Option Addr} {sld28 : Array (Option Value)} {ocd28 kVd28 dcd28 pmd28 cdd28 ctd28 : Value}
    {fd29 : Addr} {odd29 and29 : Option Addr} {sld29 : Array (Option Value)} {ocd29 kVd29 dcd29 pmd29 cdd29 ctd29 : Value}
    {CB CT B : Addr} {nm q : Str} {N0 : Addr} {bs : List Value} {sn : List Str} {sub : List Value} {ab : Bool} {col : Option Bool} {dd : Option Addr} {m0 m1 m2 m3 m5 : Option Value} {tp tw tf tt : Tok}
    {fm0 : Addr} {odm0 anm0 : Option Addr} {slm0 : Array (Option Value)} {ocm0 kVm0 dcm0 pmm0 cdm0 ctm0 : Value}
    {fm1 : Addr} {odm1 anm1 : Option Addr} {slm1 : Array (Option Value)} {ocm1 kVm1 dcm1 pmm1 cdm1 ctm1 : Value}
    {fm2 : Addr} {odm2 anm2 : Option Addr} {slm2 : Array (Option Value)} {ocm2 kVm2 dcm2 pmm2 cdm2 ctm2 : Value}
    {fm3 : Addr} {odm3 anm3 : Option Addr} {slm3 : Array (Option Value)} {ocm3 kVm3 dcm3 pmm3 cdm3 ctm3 : Value}
    {fm4 : Addr} {odm4 anm4 : Option Addr} {slm4 : Array (Option Value)} {ocm4 kVm4 dcm4 pmm4 cdm4 ctm4 : Value}
    {fm5 : Addr} {odm5 anm5 : Option Addr} {slm5 : Array (Option Value)} {ocm5 kVm5 dcm5 pmm5 cdm5 ctm5 : Value}
    {fm6 : Addr} {odm6 anm6 : Option Addr} {slm6 : Array (Option Value)} {ocm6 kVm6 dcm6 pmm6 cdm6 ctm6 : Value}
    {fm7 : Addr} {odm7 anm7 : Option Addr} {slm7 : Array (Option Value)} {ocm7 kVm7 dcm7 pmm7 cdm7 ctm7 : Value}
    {fm8 : Addr} {odm8 anm8 : Option Addr} {slm8 : Array (Option Value)} {ocm8 kVm8 dcm8 pmm8 cdm8 ctm8 : Value}
    {fm9 : Addr} {odm9 anm9 : Option Addr} {slm9 : Array (Option Value)} {ocm9 kVm9 dcm9 pmm9 cdm9 ctm9 : Value}
    {fm10 : Addr} {odm10 anm10 : Option Addr} {slm10 : Array (Option Value)} {ocm10 kVm10 dcm10 pmm10 cdm10 ctm10 : Value}
    {fnb : Addr} {odnb annb : Option Addr} {slnb : Array (Option Value)} {ocnb kVnb dcnb pmnb cdnb ctnb : Value}
    (ad0 : PySem.W.nsIn K mainGlobals "is_list" = some (some (.ref fd0)))
    (ld0 : K.lookup fd0 = some ⟨ocd0, odd0, .func (PySem.W.fnOf "is_list" "is_list" (defArgs (top 9)) (defBody (top 9)) (defScope (top 9)) .none kVd0 dcd0 pmd0 and0 cdd0 ctd0), sld0⟩)
    (cd0 : PySem.W.codeIn K cdd0 "is_list" = true)
    (kd0 : PySem.W.keepIn K (.ref fd0) = true)
    (ad1 : PySem.W.nsIn K mainGlobals "is_integer" = some (some (.ref fd1)))
    (ld1 : K.lookup fd1 = some ⟨ocd1, odd1, .func (PySem.W.fnOf "is_integer" "is_integer" (defArgs (top 10)) (defBody (top 10)) (defScope (top 10)) .none kVd1 dcd1 pmd1 and1 cdd1 ctd1), sld1⟩)
    (cd1 : PySem.W.codeIn K cdd1 "is_integer" = true)
    (kd1 : PySem.W.keepIn K (.ref fd1) = true)
    (ad2 : PySem.W.nsIn K mainGlobals "is_index" = some (some (.ref fd2)))
    (ld2 : K.lookup fd2 = some ⟨ocd2, odd2, .func (PySem.W.fnOf "is_index" "is_index" (defArgs (top 11)) (defBody (top 11)) (defScope (top 11)) .none kVd2 dcd2 pmd2 and2 cdd2 ctd2), sld2⟩)
    (cd2 : PySem.W.codeIn K cdd2 "is_index" = true)
    (kd2 : PySem.W.keepIn K (.ref fd2) = true)
    (ad3 : PySem.W.nsIn K mainGlobals "are_numbers" = some (some (.ref fd3)))
    (ld3 : K.lookup fd3 = some ⟨ocd3, odd3, .func (PySem.W.fnOf "are_numbers" "are_numbers" (defArgs (top 12)) (defBody (top 12)) (defScope (top 12)) .none kVd3 dcd3 pmd3 and3 cdd3 ctd3), sld3⟩)
    (cd3 : PySem.W.codeIn K cdd3 "are_numbers" = true)
    (kd3 : PySem.W.keepIn K (.ref fd3) = true)
    (ad4 : PySem.W.nsIn K mainGlobals "is_lot" = some (some (.ref fd4)))
    (ld4 : K.lookup fd4 = some ⟨ocd4, odd4, .func (PySem.W.fnOf "is_lot" "is_lot" (defArgs (top 13)) (defBody (top 13)) (defScope (top 13)) .none kVd4 dcd4 pmd4 and4 cdd4 ctd4), sld4⟩)
    (cd4 : PySem.W.codeIn K cdd4 "is_lot" = true)
    (kd4 : PySem.W.keepIn K (.ref fd4) = true)
    (ad5 : PySem.W.nsIn K mainGlobals "are_places" = some (some (.ref fd5)))
    (ld5 : K.lookup fd5 = some ⟨ocd5, odd5, .func (PySem.W.fnOf "are_places" "are_places" (defArgs (top 14)) (defBody (top 14)) (defScope (top 14)) .none kVd5 dcd5 pmd5 and5 cdd5 ctd5), sld5⟩)
    (cd5 : PySem.W.codeIn K cdd5 "are_places" = true)
    (kd5 : PySem.W.keepIn K (.ref fd5) = true)
    (ad6 : PySem.W.nsIn K mainGlobals "product_of" = some (some (.ref fd6)))
    (ld6 : K.lookup fd6 = some ⟨ocd6, odd6, .func (PySem.W.fnOf "product_of" "product_of" (defArgs (top 15)) (defBody (top 15)) (defScope (top 15)) .none kVd6 dcd6 pmd6 and6 cdd6 ctd6), sld6⟩)
    (cd6 : PySem.W.codeIn K cdd6 "product_of" = true)
    (kd6 : PySem.W.keepIn K (.ref fd6) = true)
    (ad7 : PySem.W.nsIn K mainGlobals "are_sizes" = some (some (.ref fd7)))
    (ld7 : K.lookup fd7 = some ⟨ocd7, odd7, .func (PySem.W.fnOf "are_sizes" "are_sizes" (defArgs (top 21)) (defBody (top 21)) (defScope (top 21)) .none kVd7 dcd7 pmd7 and7 cdd7 ctd7), sld7⟩)
    (cd7 : PySem.W.codeIn K cdd7 "are_sizes" = true)
    (kd7 : PySem.W.keepIn K (.ref fd7) = true)
    (ad8 : PySem.W.nsIn K mainGlobals "check_text" = some (some (.ref fd8)))
    (ld8 : K.lookup fd8 = some ⟨ocd8, odd8, .func (PySem.W.fnOf "check_text" "check_text" (defArgs (top 23)) (defBody (top 23)) (defScope (top 23)) .none kVd8 dcd8 pmd8 and8 cdd8 ctd8), sld8⟩)
    (cd8 : PySem.W.codeIn K cdd8 "check_text" = true)
    (kd8 : PySem.W.keepIn K (.ref fd8) = true)
    (ad9 : PySem.W.nsIn K mainGlobals "check_places" = some (some (.ref fd9)))
    (ld9 : K.lookup fd9 = some ⟨ocd9, odd9, .func (PySem.W.fnOf "check_places" "check_places" (defArgs (top 24)) (defBody (top 24)) (defScope (top 24)) .none kVd9 dcd9 pmd9 and9 cdd9 ctd9), sld9⟩)
    (cd9 : PySem.W.codeIn K cdd9 "check_places" = true)
    (kd9 : PySem.W.keepIn K (.ref fd9) = true)
    (ad10 : PySem.W.nsIn K mainGlobals "_law_cell" = some (some (.ref fd10)))
    (ld10 : K.lookup fd10 = some ⟨ocd10, odd10, .func (PySem.W.fnOf "_law_cell" "_law_cell" (defArgs (top 26)) (defBody (top 26)) (defScope (top 26)) .none kVd10 dcd10 pmd10 and10 cdd10 ctd10), sld10⟩)
    (cd10 : PySem.W.codeIn K cdd10 "_law_cell" = true)
    (kd10 : PySem.W.keepIn K (.ref fd10) = true)
    (ad11 : PySem.W.nsIn K mainGlobals "_law_box" = some (some (.ref fd11)))
    (ld11 : K.lookup fd11 = some ⟨ocd11, odd11, .func (PySem.W.fnOf "_law_box" "_law_box" (defArgs (top 27)) (defBody (top 27)) (defScope (top 27)) .none kVd11 dcd11 pmd11 and11 cdd11 ctd11), sld11⟩)
    (cd11 : PySem.W.codeIn K cdd11 "_law_box" = true)
    (kd11 : PySem.W.keepIn K (.ref fd11) = true)
    (ad12 : PySem.W.nsIn K mainGlobals "_law_take" = some (some (.ref fd12)))
    (ld12 : K.lookup fd12 = some ⟨ocd12, odd12, .func (PySem.W.fnOf "_law_take" "_law_take" (defArgs (top 28)) (defBody (top 28)) (defScope (top 28)) .none kVd12 dcd12 pmd12 and12 cdd12 ctd12), sld12⟩)
    (cd12 : PySem.W.codeIn K cdd12 "_law_take" = true)
    (kd12 : PySem.W.keepIn K (.ref fd12) = true)
    (ad13 : PySem.W.nsIn K mainGlobals "_law_mixed" = some (some (.ref fd13)))
    (ld13 : K.lookup fd13 = some ⟨ocd13, odd13, .func (PySem.W.fnOf "_law_mixed" "_law_mixed" (defArgs (top 29)) (defBody (top 29)) (defScope (top 29)) .none kVd13 dcd13 pmd13 and13 cdd13 ctd13), sld13⟩)
    (cd13 : PySem.W.codeIn K cdd13 "_law_mixed" = true)
    (kd13 : PySem.W.keepIn K (.ref fd13) = true)
    (ad14 : PySem.W.nsIn K mainGlobals "_law_product" = some (some (.ref fd14)))
    (ld14 : K.lookup fd14 = some ⟨ocd14, odd14, .func (PySem.W.fnOf "_law_product" "_law_product" (defArgs (top 30)) (defBody (top 30)) (defScope (top 30)) .none kVd14 dcd14 pmd14 and14 cdd14 ctd14), sld14⟩)
    (cd14 : PySem.W.codeIn K cdd14 "_law_product" = true)
    (kd14 : PySem.W.keepIn K (.ref fd14) = true)
    (ad15 : PySem.W.nsIn K mainGlobals "_law_plain" = some (some (.ref fd15)))
    (ld15 : K.lookup fd15 = some ⟨ocd15, odd15, .func (PySem.W.fnOf "_law_plain" "_law_plain" (defArgs (top 31)) (defBody (top 31)) (defScope (top 31)) .none kVd15 dcd15 pmd15 and15 cdd15 ctd15), sld15⟩)
    (cd15 : PySem.W.codeIn K cdd15 "_law_plain" = true)
    (kd15 : PySem.W.keepIn K (.ref fd15) = true)
    (ad16 : PySem.W.nsIn K mainGlobals "_law_beside" = some (some (.ref fd16)))
    (ld16 : K.lookup fd16 = some ⟨ocd16, odd16, .func (PySem.W.fnOf "_law_beside" "_law_beside" (defArgs (top 32)) (defBody (top 32)) (defScope (top 32)) .none kVd16 dcd16 pmd16 and16 cdd16 ctd16), sld16⟩)
    (cd16 : PySem.W.codeIn K cdd16 "_law_beside" = true)
    (kd16 : PySem.W.keepIn K (.ref fd16) = true)
    (ad17 : PySem.W.nsIn K mainGlobals "_law_text" = some (some (.ref fd17)))
    (ld17 : K.lookup fd17 = some ⟨ocd17, odd17, .func (PySem.W.fnOf "_law_text" "_law_text" (defArgs (top 33)) (defBody (top 33)) (defScope (top 33)) .none kVd17 dcd17 pmd17 and17 cdd17 ctd17), sld17⟩)
    (cd17 : PySem.W.codeIn K cdd17 "_law_text" = true)
    (kd17 : PySem.W.keepIn K (.ref fd17) = true)
    (ad18 : PySem.W.nsIn K mainGlobals "_law_index" = some (some (.ref fd18)))
    (ld18 : K.lookup fd18 = some ⟨ocd18, odd18, .func (PySem.W.fnOf "_law_index" "_law_index" (defArgs (top 34)) (defBody (top 34)) (defScope (top 34)) .none kVd18 dcd18 pmd18 and18 cdd18 ctd18), sld18⟩)
    (cd18 : PySem.W.codeIn K cdd18 "_law_index" = true)
    (kd18 : PySem.W.keepIn K (.ref fd18) = true)
    (ad19 : PySem.W.nsIn K mainGlobals "_law_alike" = some (some (.ref fd19)))
    (ld19 : K.lookup fd19 = some ⟨ocd19, odd19, .func (PySem.W.fnOf "_law_alike" "_law_alike" (defArgs (top 35)) (defBody (top 35)) (defScope (top 35)) .none kVd19 dcd19 pmd19 and19 cdd19 ctd19), sld19⟩)
    (cd19 : PySem.W.codeIn K cdd19 "_law_alike" = true)
    (kd19 : PySem.W.keepIn K (.ref fd19) = true)
    (ad20 : PySem.W.nsIn K mainGlobals "_law_spots" = some (some (.ref fd20)))
    (ld20 : K.lookup fd20 = some ⟨ocd20, odd20, .func (PySem.W.fnOf "_law_spots" "_law_spots" (defArgs (top 36)) (defBody (top 36)) (defScope (top 36)) .none kVd20 dcd20 pmd20 and20 cdd20 ctd20), sld20⟩)
    (cd20 : PySem.W.codeIn K cdd20 "_law_spots" = true)
    (kd20 : PySem.W.keepIn K (.ref fd20) = true)
    (ad21 : PySem.W.nsIn K mainGlobals "_law_all_told" = some (some (.ref fd21)))
    (ld21 : K.lookup fd21 = some ⟨ocd21, odd21, .func (PySem.W.fnOf "_law_all_told" "_law_all_told" (defArgs (top 37)) (defBody (top 37)) (defScope (top 37)) .none kVd21 dcd21 pmd21 and21 cdd21 ctd21), sld21⟩)
    (cd21 : PySem.W.codeIn K cdd21 "_law_all_told" = true)
    (kd21 : PySem.W.keepIn K (.ref fd21) = true)
    (ad22 : PySem.W.nsIn K mainGlobals "_law_slice_told" = some (some (.ref fd22)))
    (ld22 : K.lookup fd22 = some ⟨ocd22, odd22, .func (PySem.W.fnOf "_law_slice_told" "_law_slice_told" (defArgs (top 38)) (defBody (top 38)) (defScope (top 38)) .none kVd22 dcd22 pmd22 and22 cdd22 ctd22), sld22⟩)
    (cd22 : PySem.W.codeIn K cdd22 "_law_slice_told" = true)
    (kd22 : PySem.W.keepIn K (.ref fd22) = true)
    (ad23 : PySem.W.nsIn K mainGlobals "_law_due" = some (some (.ref fd23)))
    (ld23 : K.lookup fd23 = some ⟨ocd23, odd23, .func (PySem.W.fnOf "_law_due" "_law_due" (defArgs (top 39)) (defBody (top 39)) (defScope (top 39)) .none kVd23 dcd23 pmd23 and23 cdd23 ctd23), sld23⟩)
    (cd23 : PySem.W.codeIn K cdd23 "_law_due" = true)
    (kd23 : PySem.W.keepIn K (.ref fd23) = true)
    (ad24 : PySem.W.nsIn K mainGlobals "_law_slices_right" = some (some (.ref fd24)))
    (ld24 : K.lookup fd24 = some ⟨ocd24, odd24, .func (PySem.W.fnOf "_law_slices_right" "_law_slices_right" (defArgs (top 40)) (defBody (top 40)) (defScope (top 40)) .none kVd24 dcd24 pmd24 and24 cdd24 ctd24), sld24⟩)
    (cd24 : PySem.W.codeIn K cdd24 "_law_slices_right" = true)
    (kd24 : PySem.W.keepIn K (.ref fd24) = true)
    (ad25 : PySem.W.nsIn K mainGlobals "_law_second" = some (some (.ref fd25)))
    (ld25 : K.lookup fd25 = some ⟨ocd25, odd25, .func (PySem.W.fnOf "_law_second" "_law_second" (defArgs (top 41)) (defBody (top 41)) (defScope (top 41)) .none kVd25 dcd25 pmd25 and25 cdd25 ctd25), sld25⟩)
    (cd25 : PySem.W.codeIn K cdd25 "_law_second" = true)
    (kd25 : PySem.W.keepIn K (.ref fd25) = true)
    (ad26 : PySem.W.nsIn K mainGlobals "_law_pair_right" = some (some (.ref fd26)))
    (ld26 : K.lookup fd26 = some ⟨ocd26, odd26, .func (PySem.W.fnOf "_law_pair_right" "_law_pair_right" (defArgs (top 42)) (defBody (top 42)) (defScope (top 42)) .none kVd26 dcd26 pmd26 and26 cdd26 ctd26), sld26⟩)
    (cd26 : PySem.W.codeIn K cdd26 "_law_pair_right" = true)
    (kd26 : PySem.W.keepIn K (.ref fd26) = true)
    (ad27 : PySem.W.nsIn K mainGlobals "_law_book_right" = some (some (.ref fd27)))
    (ld27 : K.lookup fd27 = some ⟨ocd27, odd27, .func (PySem.W.fnOf "_law_book_right" "_law_book_right" (defArgs (top 43)) (defBody (top 43)) (defScope (top 43)) .none kVd27 dcd27 pmd27 and27 cdd27 ctd27), sld27⟩)
    (cd27 : PySem.W.codeIn K cdd27 "_law_book_right" = true)
    (kd27 : PySem.W.keepIn K (.ref fd27) = true)
    (ad28 : PySem.W.nsIn K mainGlobals "_law_right" = some (some (.ref fd28)))
    (ld28 : K.lookup fd28 = some ⟨ocd28, odd28, .func (PySem.W.fnOf "_law_right" "_law_right" (defArgs (top 44)) (defBody (top 44)) (defScope (top 44)) .none kVd28 dcd28 pmd28 and28 cdd28 ctd28), sld28⟩)
    (cd28 : PySem.W.codeIn K cdd28 "_law_right" = true)
    (kd28 : PySem.W.keepIn K (.ref fd28) = true)
    (ad29 : PySem.W.nsIn K mainGlobals "law" = some (some (.ref fd29)))
    (ld29 : K.lookup fd29 = some ⟨ocd29, odd29, .func (PySem.W.fnOf "law" "law" (defArgs (top 45)) (defBody (top 45)) (defScope (top 45)) .none kVd29 dcd29 pmd29 and29 cdd29 ctd29), sld29⟩)
    (cd29 : PySem.W.codeIn K cdd29 "law" = true)
    (kd29 : PySem.W.keepIn K (.ref fd29) = true)
    (aCB : PySem.W.nsIn K mainGlobals "Book" = some (some (.ref CB)))
    (am0 : PySem.W.findIn K (.ref CB) "__init__" = some (some (.ref fm0)))
    (lm0 : K.lookup fm0 = some ⟨ocm0, odm0, .func (PySem.W.fnOf "__init__" "Book.__init__" (defArgs (inBk 0)) (defBody (inBk 0)) (defScope (inBk 0)) .none kVm0 dcm0 pmm0 anm0 cdm0 ctm0), slm0⟩)
    (cm0 : PySem.W.codeIn K cdm0 "Book.__init__" = true)
    (km0 : PySem.W.keepIn K (.ref fm0) = true)
    (im0 : PySem.W.isFn K (.ref fm0) = true)
    (am1 : PySem.W.findIn K (.ref CB) "__eq__" = some (some (.ref fm1)))
    (lm1 : K.lookup fm1 = some ⟨ocm1, odm1, .func (PySem.W.fnOf "__eq__" "Book.__eq__" (defArgs (inBk 1)) (defBody (inBk 1)) (defScope (inBk 1)) .none kVm1 dcm1 pmm1 anm1 cdm1 ctm1), slm1⟩)
    (cm1 : PySem.W.codeIn K cdm1 "Book.__eq__" = true)
    (km1 : PySem.W.keepIn K (.ref fm1) = true)
    (im1 : PySem.W.isFn K (.ref fm1) = true)
    (am2 : PySem.W.findIn K (.ref CB) "__len__" = some (some (.ref fm2)))
    (lm2 : K.lookup fm2 = some ⟨ocm2, odm2, .func (PySem.W.fnOf "__len__" "Book.__len__" (defArgs (inBk 2)) (defBody (inBk 2)) (defScope (inBk 2)) .none kVm2 dcm2 pmm2 anm2 cdm2 ctm2), slm2⟩)
    (cm2 : PySem.W.codeIn K cdm2 "Book.__len__" = true)
    (km2 : PySem.W.keepIn K (.ref fm2) = true)
    (im2 : PySem.W.isFn K (.ref fm2) = true)
    (am3 : PySem.W.findIn K (.ref CB) "count" = some (some (.ref fm3)))
    (lm3 : K.lookup fm3 = some ⟨ocm3, odm3, .func (PySem.W.fnOf "count" "Book.count" (defArgs (inBk 3)) (defBody (inBk 3)) (defScope (inBk 3)) .none kVm3 dcm3 pmm3 anm3 cdm3 ctm3), slm3⟩)
    (cm3 : PySem.W.codeIn K cdm3 "Book.count" = true)
    (km3 : PySem.W.keepIn K (.ref fm3) = true)
    (im3 : PySem.W.isFn K (.ref fm3) = true)
    (am4 : PySem.W.findIn K (.ref CB) "is_text" = some (some (.ref fm4)))
    (lm4 : K.lookup fm4 = some ⟨ocm4, odm4, .func (PySem.W.fnOf "is_text" "Book.is_text" (defArgs (inBk 4)) (defBody (inBk 4)) (defScope (inBk 4)) .none kVm4 dcm4 pmm4 anm4 cdm4 ctm4), slm4⟩)
    (cm4 : PySem.W.codeIn K cdm4 "Book.is_text" = true)
    (km4 : PySem.W.keepIn K (.ref fm4) = true)
    (im4 : PySem.W.isFn K (.ref fm4) = true)
    (am5 : PySem.W.findIn K (.ref CB) "texts" = some (some (.ref fm5)))
    (lm5 : K.lookup fm5 = some ⟨ocm5, odm5, .func (PySem.W.fnOf "texts" "Book.texts" (defArgs (inBk 5)) (defBody (inBk 5)) (defScope (inBk 5)) .none kVm5 dcm5 pmm5 anm5 cdm5 ctm5), slm5⟩)
    (cm5 : PySem.W.codeIn K cdm5 "Book.texts" = true)
    (km5 : PySem.W.keepIn K (.ref fm5) = true)
    (im5 : PySem.W.isFn K (.ref fm5) = true)
    (am6 : PySem.W.findIn K (.ref CB) "slice" = some (some (.ref fm6)))
    (lm6 : K.lookup fm6 = some ⟨ocm6, odm6, .func (PySem.W.fnOf "slice" "Book.slice" (defArgs (inBk 6)) (defBody (inBk 6)) (defScope (inBk 6)) .none kVm6 dcm6 pmm6 anm6 cdm6 ctm6), slm6⟩)
    (cm6 : PySem.W.codeIn K cdm6 "Book.slice" = true)
    (km6 : PySem.W.keepIn K (.ref fm6) = true)
    (im6 : PySem.W.isFn K (.ref fm6) = true)
    (am7 : PySem.W.findIn K (.ref CB) "number" = some (some (.ref fm7)))
    (lm7 : K.lookup fm7 = some ⟨ocm7, odm7, .func (PySem.W.fnOf "number" "Book.number" (defArgs (inBk 7)) (defBody (inBk 7)) (defScope (inBk 7)) .none kVm7 dcm7 pmm7 anm7 cdm7 ctm7), slm7⟩)
    (cm7 : PySem.W.codeIn K cdm7 "Book.number" = true)
    (km7 : PySem.W.keepIn K (.ref fm7) = true)
    (im7 : PySem.W.isFn K (.ref fm7) = true)
    (am8 : PySem.W.findIn K (.ref CB) "text_at" = some (some (.ref fm8)))
    (lm8 : K.lookup fm8 = some ⟨ocm8, odm8, .func (PySem.W.fnOf "text_at" "Book.text_at" (defArgs (inBk 8)) (defBody (inBk 8)) (defScope (inBk 8)) .none kVm8 dcm8 pmm8 anm8 cdm8 ctm8), slm8⟩)
    (cm8 : PySem.W.codeIn K cdm8 "Book.text_at" = true)
    (km8 : PySem.W.keepIn K (.ref fm8) = true)
    (im8 : PySem.W.isFn K (.ref fm8) = true)
    (am9 : PySem.W.findIn K (.ref CB) "unlike" = some (some (.ref fm9)))
    (lm9 : K.lookup fm9 = some ⟨ocm9, odm9, .func (PySem.W.fnOf "unlike" "Book.unlike" (defArgs (inBk 9)) (defBody (inBk 9)) (defScope (inBk 9)) .none kVm9 dcm9 pmm9 anm9 cdm9 ctm9), slm9⟩)
    (cm9 : PySem.W.codeIn K cdm9 "Book.unlike" = true)
    (km9 : PySem.W.keepIn K (.ref fm9) = true)
    (im9 : PySem.W.isFn K (.ref fm9) = true)
    (am10 : PySem.W.findIn K (.ref CB) "mixed" = some (some (.ref fm10)))
    (lm10 : K.lookup fm10 = some ⟨ocm10, odm10, .func (PySem.W.fnOf "mixed" "Book.mixed" (defArgs (inBk 10)) (defBody (inBk 10)) (defScope (inBk 10)) .none kVm10 dcm10 pmm10 anm10 cdm10 ctm10), slm10⟩)
    (cm10 : PySem.W.codeIn K cdm10 "Book.mixed" = true)
    (km10 : PySem.W.keepIn K (.ref fm10) = true)
    (im10 : PySem.W.isFn K (.ref fm10) = true)
    (pg : PySem.W.plainGet K CB Str.empty = true)
    (hd : PySem.W.hasDictIn K CB = true)
    (po : PySem.W.plainOver K CB = true)
    (sa : PySem.W.findIn K (.ref CB) "__setattr__" = some (some (.builtin "object.__setattr__")))
    (mk : PySem.W.makesIn K CB = true)
    (kc : PySem.W.keepIn K (.ref CB) = true)
    (oha : PySem.W.findIn K (.ref CB) "__class__" = some (some (.builtin "object.__class__")))
    (ohm : PySem.W.mroIn K CB (.type "object") = some true)
    (nS : PySem.W.findIn K (.ref CB) "sizes" = some none)
    (neC : PySem.W.findIn K (.ref CB) "__ne__" = some (some (.builtin "object.__ne__")))
    (ntC : PySem.W.subIn K (.type "tuple") (.ref CB) = some false)
    (nIC : PySem.W.kitOne K (.type "tuple") (.ref CB) = some false)
    (ohn : PySem.W.specialIn K (.builtin "object.__class__") "__get__" = some (some (.builtin "getset_descriptor.__get__")))
    (oht : PySem.W.takesIn K (.builtin "object.__class__") = some true)
    (aB : PySem.W.nsIn K mainGlobals "BillError" = some (some (.ref B)))
    (aN : PySem.W.nsIn K mainGlobals "TooMany" = some (some (.ref CT)))
    (xN : K.lookup CT = some (excClassObj nm q CT N0 bs [.ref B, .type "ValueError", .type "Exception", .type "BaseException", .type "object"] true sn sub ab col dd m0 m1 m2 m3 m5 "ValueError.__new__"))
    (saN : PySem.W.findIn K (.ref CT) "__setattr__" = some (some (.builtin "object.__setattr__")))
    (eN : PySem.W.subIn K (.ref CT) (.type "BaseException") = some true)
    (tN : PySem.W.typeIn K (.ref CT) = some (.type "type"))
    (kN : PySem.W.keepIn K (.ref CT) = true)
    (anb : PySem.W.findIn K (.ref CT) "__init__" = some (some (.ref fnb)))
    (lnb : K.lookup fnb = some ⟨ocnb, odnb, .func (PySem.W.fnOf "__init__" "TooMany.__init__" (defArgs (sTm)) (defBody (sTm)) (defScope (sTm)) .none kVnb dcnb pmnb annb cdnb ctnb), slnb⟩)
    (cnb : PySem.W.codeIn K cdnb "TooMany.__init__" = true)
    (knb : PySem.W.keepIn K (.ref fnb) = true)
    (tI : PySem.W.typeIn K (.ref fnb) = some (.type "function"))
    (noP : PySem.W.findIn K (.ref CT) "count" = some none)
    (xf : xfB K CT = true)
    (exm : PySem.W.exmOne K (.ref CT) (.ref CT) = some true)
    (spB : PySem.W.specialIn K (.ref B) "__getattribute__" = some (some (.builtin "type.__getattribute__")))
    (rdB : PySem.W.readsIn K B (.type "type") = true)
    (inB : PySem.W.findCls K (.ref B) (.type "type") "__init__" = some (.val (.builtin "ValueError.__init__")))
    (cP : PySem.W.nsIn K mainGlobals "MOST_PLACES" = some (some (.int 8 tp)))
    (cW : PySem.W.nsIn K mainGlobals "MOST_WORDINGS" = some (some (.int 6 tw)))
    (cF : PySem.W.nsIn K mainGlobals "FEWEST_WORDINGS" = some (some (.int 2 tf)))
    (cT : PySem.W.nsIn K mainGlobals "MOST_TEXTS" = some (some (.int 100 tt)))
    (z_len : PySem.W.nsIn K mainGlobals "len" = some none)
    (z_list : PySem.W.nsIn K mainGlobals "list" = some none)
    (z_tuple : PySem.W.nsIn K mainGlobals "tuple" = some none)
    (z_sorted : PySem.W.nsIn K mainGlobals "sorted" = some none)
    (z_set : PySem.W.nsIn K mainGlobals "set" = some none)
    (z_range : PySem.W.nsIn K mainGlobals "range" = some none)
    (z_isinstance : PySem.W.nsIn K mainGlobals "isinstance" = some none)
    (z_all : PySem.W.nsIn K mainGlobals "all" = some none)
    (z_int : PySem.W.nsIn K mainGlobals "int" = some none)
    (z_bool : PySem.W.nsIn K mainGlobals "bool" = some none)
    (z_sum : PySem.W.nsIn K mainGlobals "sum" = some none)
    (z_abs : PySem.W.nsIn K mainGlobals "abs" = some none)
    (z_max : PySem.W.nsIn K mainGlobals "max" = some none)
    (z_min : PySem.W.nsIn K mainGlobals "min" = some none)
    (z_zip : PySem.W.nsIn K mainGlobals "zip" = some none)
    (z_enumerate : PySem.W.nsIn K mainGlobals "enumerate" = some none)
    (z_reversed : PySem.W.nsIn K mainGlobals "reversed" = some none)
    (z_repr : PySem.W.nsIn K mainGlobals "repr" = some none) :
    ∃ fd : FuncData, (∀ (s : Shared) (v : Value), BindsTo s fd ⟨[v], []⟩ [("script", v)]) ∧ ∀ base : Heap, K.In base → base.Ns mainGlobals mg → FnG l.prog w K mg base 12 fa fd ["script"] (spLaw K) := by

  have g : ∀ {x : Str} {v : Value}, PySem.W.nsIn K mainGlobals x = some (some v) → mg x = some v := fun h => PySem.W.mg_of X Gn h
  have z : ∀ {x : Str}, PySem.W.nsIn K mainGlobals x = some none → mg x = none := fun h => PySem.W.mg_none_of X Gn h
  have D0 : Def K mg "is_list" (top 9) := ⟨_, _, fun_mk ld0 cd0 kd0, g ad0⟩
  have D1 : Def K mg "is_integer" (top 10) := ⟨_, _, fun_mk ld1 cd1 kd1, g ad1⟩
  have D2 : Def K mg "is_index" (top 11) := ⟨_, _, fun_mk ld2 cd2 kd2, g ad2⟩
  have D3 : Def K mg "are_numbers" (top 12) := ⟨_, _, fun_mk ld3 cd3 kd3, g ad3⟩
  have D4 : Def K mg "is_lot" (top 13) := ⟨_, _, fun_mk ld4 cd4 kd4, g ad4⟩
  have D5 : Def K mg "are_places" (top 14) := ⟨_, _, fun_mk ld5 cd5 kd5, g ad5⟩
  have D6 : Def K mg "product_of" (top 15) := ⟨_, _, fun_mk ld6 cd6 kd6, g ad6⟩
  have D7 : Def K mg "are_sizes" (top 21) := ⟨_, _, fun_mk ld7 cd7 kd7, g ad7⟩
  have D8 : Def K mg "check_text" (top 23) := ⟨_, _, fun_mk ld8 cd8 kd8, g ad8⟩
  have D9 : Def K mg "check_places" (top 24) := ⟨_, _, fun_mk ld9 cd9 kd9, g ad9⟩
  have D10 : Def K mg "_law_cell" (top 26) := ⟨_, _, fun_mk ld10 cd10 kd10, g ad10⟩
  have D11 : Def K mg "_law_box" (top 27) := ⟨_, _, fun_mk ld11 cd11 kd11, g ad11⟩
  have D12 : Def K mg "_law_take" (top 28) := ⟨_, _, fun_mk ld12 cd12 kd12, g ad12⟩
  have D13 : Def K mg "_law_mixed" (top 29) := ⟨_, _, fun_mk ld13 cd13 kd13, g ad13⟩
  have D14 : Def K mg "_law_product" (top 30) := ⟨_, _, fun_mk ld14 cd14 kd14, g ad14⟩
  have D15 : Def K mg "_law_plain" (top 31) := ⟨_, _, fun_mk ld15 cd15 kd15, g ad15⟩
  have D16 : Def K mg "_law_beside" (top 32) := ⟨_, _, fun_mk ld16 cd16 kd16, g ad16⟩
  have D17 : Def K mg "_law_text" (top 33) := ⟨_, _, fun_mk ld17 cd17 kd17, g ad17⟩
  have D18 : Def K mg "_law_index" (top 34) := ⟨_, _, fun_mk ld18 cd18 kd18, g ad18⟩
  have D19 : Def K mg "_law_alike" (top 35) := ⟨_, _, fun_mk ld19 cd19 kd19, g ad19⟩
  have D20 : Def K mg "_law_spots" (top 36) := ⟨_, _, fun_mk ld20 cd20 kd20, g ad20⟩
  have D21 : Def K mg "_law_all_told" (top 37) := ⟨_, _, fun_mk ld21 cd21 kd21, g ad21⟩
  have D22 : Def K mg "_law_slice_told" (top 38) := ⟨_, _, fun_mk ld22 cd22 kd22, g ad22⟩
  have D23 : Def K mg "_law_due" (top 39) := ⟨_, _, fun_mk ld23 cd23 kd23, g ad23⟩
  have D24 : Def K mg "_law_slices_right" (top 40) := ⟨_, _, fun_mk ld24 cd24 kd24, g ad24⟩
  have D25 : Def K mg "_law_second" (top 41) := ⟨_, _, fun_mk ld25 cd25 kd25, g ad25⟩
  have D26 : Def K mg "_law_pair_right" (top 42) := ⟨_, _, fun_mk ld26 cd26 kd26, g ad26⟩
  have D27 : Def K mg "_law_book_right" (top 43) := ⟨_, _, fun_mk ld27 cd27 kd27, g ad27⟩
  have D28 : Def K mg "_law_right" (top 44) := ⟨_, _, fun_mk ld28 cd28 kd28, g ad28⟩
  have D29 : Def K mg "law" (top 45) := ⟨_, _, fun_mk ld29 cd29 kd29, g ad29⟩
  have U : Bt mg := ⟨z z_len, z z_list, z z_tuple, z z_sorted, z z_set, z z_range, z z_isinstance, z z_all, z z_int, z z_bool⟩
  have U2 : Bt2 mg := ⟨z z_sum, z z_abs, z z_max, z z_min⟩
  have T0 : Ko mg := ⟨⟨_, g cP⟩, ⟨_, g cW⟩⟩
  have T2 : Ko2 mg := ⟨⟨_, g cF⟩, ⟨_, g cT⟩⟩
  have U3 : Bt3 mg := ⟨z z_zip, z z_enumerate, z z_reversed, z z_min, z z_repr⟩
  have cl : Cls K CB := ⟨pg, hd, po, sa⟩
  have T : TBk K mg CB := ⟨⟨cl, ⟨cl, oha, ohn, oht, ohm⟩, g aCB, by unfold PySem.W.kitOne; simp⟩, nS, nIC⟩
  have ef : fa = fd29 := by
    have := g ad29
    rw [hfa] at this
    injection this with h; injection h
  subst ef
  refine ⟨PySem.W.fnOf "law" "law" (defArgs (top 45)) (defBody (top 45)) (defScope (top 45)) .none kVd29 dcd29 pmd29 and29 cdd29 ctd29, fun s v => .of_eq rfl, fun base _ _ => ?_⟩
  have c1 := c_is_list (P := l.prog) (w := w) (base := base) U (c := cInt) D0
  have c2 := c_is_integer (P := l.prog) (w := w) (base := base) U D1
  have c3 := c_is_index U D2 c2
  have c4 := c_are_numbers U D3 c1 c3
  have c5 := c_is_lot U D4 c4
  have cpl := c_are_places U D5 c5
  have cpr := c_product (P := l.prog) (w := w) (base := base) D6
  have csz := c_are_sizes U D7 T0 T2 c1 c2
  have I := i_book U ⟨_, _, (fun_mk lm0 cm0 km0), ⟨mk, am0, im0, kc⟩⟩ T csz
  have IK := i_bookK U ⟨_, _, (fun_mk lm0 cm0 km0), ⟨mk, am0, im0, kc⟩⟩ T csz
  have LB := m_lenB (P := l.prog) (w := w) (base := base) U ⟨_, _, (fun_mk lm2 cm2 km2), am2, im2⟩ T
  have EF := (⟨⟨_, _, (fun_mk lm1 cm1 km1), am1, im1⟩, cl, ohm, neC, ntC⟩ : EqF K CB "Book.__eq__" (inBk 1))
  have E := m_eq (P := l.prog) (w := w) (base := base) U EF T
  have ET := m_eqT (P := l.prog) (w := w) (base := base) U EF T
  have Mc := m_count ⟨⟨_, _, (fun_mk lm3 cm3 km3), ⟨am3, im3, km3⟩⟩⟩ T cpr
  have Mit := m_istext U U3 ⟨⟨_, _, (fun_mk lm4 cm4 km4), ⟨am4, im4, km4⟩⟩⟩ T c3
  have cct := c_checkT D8 T Mit
  have ccp := c_checkP U D9 T LB cpl
  have Msl := m_slice U U3 T2 ⟨⟨_, _, (fun_mk lm6 cm6 km6), ⟨am6, im6, km6⟩⟩⟩ T cpr cct ccp
  have Mtx := m_texts U ⟨⟨_, _, (fun_mk lm5 cm5 km5), ⟨am5, im5, km5⟩⟩⟩ T Msl
  have Mnu := m_number U3 ⟨⟨_, _, (fun_mk lm7 cm7 km7), ⟨am7, im7, km7⟩⟩⟩ T cct
  have Mta := m_textat U3 ⟨⟨_, _, (fun_mk lm8 cm8 km8), ⟨am8, im8, km8⟩⟩⟩ T c3 Mc
  have Mun := m_unlike U ⟨⟨_, _, (fun_mk lm9 cm9 km9), ⟨am9, im9, km9⟩⟩⟩ T cct
  have Mmx := m_mixed U ⟨⟨_, _, (fun_mk lm10 cm10 km10), ⟨am10, im10, km10⟩⟩⟩ T cct ccp
  have TN := (⟨⟨g aB, spB, rdB, inB⟩, ⟨⟨nm, q, N0, bs, _, sn, sub, ab, col, dd, m0, m1, m2, m3, m5, xN, rfl⟩, saN, eN, tN, kN⟩, g aN, anb, tI, fun_mk lnb cnb knb, noP, xfB_ok xf, exm⟩ : TTm K mg CT B fnb _)
  have OSX := ok_sliceX T2 (fun_mk lm6 cm6 km6) T TN cpr cct ccp
  have OTX := ok_textsX U (fun_mk lm5 cm5 km5) T (fun_mk lm6 cm6 km6) ⟨am6, im6, km6⟩ OSX
  have clD := c_allD D21 T Mtx
  have clR := c_allR D21 T Mtx
  have clM := c_allM D21 T TN (fun_mk lm5 cm5 km5) ⟨am5, im5, km5⟩ OTX
  have csR := c_slcR D22 T Msl
  have csD := c_slcD U D22 T Msl
  have csM := c_slcM U D22 T TN (fun_mk lm6 cm6 km6) ⟨am6, im6, km6⟩ OSX
  have ck := c_take (P := l.prog) (w := w) (base := base) U D12
  have cm := c_mixedD U D13 ck
  have clp := c_lproduct (P := l.prog) (w := w) (base := base) D14
  have cpn := c_plain U D15 ck cm
  have cbs := c_beside U D16 ck cpn
  have ctx := c_text (P := l.prog) (w := w) (base := base) U D17
  have cix := c_index (P := l.prog) (w := w) (base := base) U D18
  have cak := c_alike (P := l.prog) (w := w) (base := base) U D19
  have cdF := c_dueF D23 clp cak
  have cdM := c_dueM D23 clp
  have csp := c_spots U D20 ck cm clp
  have csc := c_second U D25 ck ctx clp
  have cpa := c_pair U U3 D26 T ck clp ctx csc cix Mta Mnu Mit Mun Mmx
  have css := c_slices U U3 D24 csp cdF cdM csR csD csM
  have cbk := c_book U U3 D27 T E ET LB I Mc clp cak clR clD clM
  have cr := c_right U D28 T E I IK cpn cbs ck ctx clp cbk css cpa
  have cbx := (cal_of D11 (fun _ _ _ _ _ _ us hl => match us, hl with | [_], _ => rfl) fun f fd F => ok_box (P := l.prog) (w := w) (base := base) U U2 F)
  have ccl := (cal_of D10 (fun _ _ _ _ _ _ us hl => match us, hl with | [_, _], _ => rfl) fun f fd F => ok_cell (P := l.prog) (w := w) (base := base) U U2 F)
  exact ok_law U U2 (fun_mk ld29 cd29 kd29) cr cbx ccl
theorem walk {l : PySem.W.OpenLaw} {q : Program} {loose : List Str} {XP : (Str → Option Value) → Heap → Prop} {YP : World → Heap → Prop} {d : DefRec} {K : Params → PySem.W.Frag} (hn : l.most = some 63) (hdf : d.params.defaults = [])
    (hY : ∀ (w : World) (h : Heap), YP w h → (K w.params).In h)
    (F : ∀ (w : World) (mg : Str → Option Value) (fa : Addr) (h : Heap), (K w.params).In h → h.Ns mainGlobals mg → mg d.name = some (.ref fa) →
      ∃ fd : FuncData, (∀ (s : Shared) (u : Value), BindsTo s fd ⟨[u], []⟩ [("script", u)]) ∧ ∀ base : Heap, (K w.params).In base → base.Ns mainGlobals mg → FnG l.prog w (K w.params) mg base 12 fa fd ["script"] (spLaw (K w.params))) :
    PySem.W.WalkO q loose XP YP l.row.toRowW d [] (fun f vs => PySem.call f vs) :=
  DL.walk_G (n := 63) (k := 12) (sp := fun w => spLaw (K w.params)) hn (by decide) hdf ⟨rfl, by decide, by decide⟩ hY F (fun _ _ a ns hl hS => ⟨a, ns, rfl, hS, hl, fun _ => rfl⟩)
end K01
open PySem PySem.W PyProof.Rows
set_option maxRecDepth 100000 in
set_option maxHeartbeats 0 in
theorem PySem.Challenge.cw_dealbook_k01_books_and_their_texts_holds : PySem.Challenge.rw_dealbook_k01_books_and_their_texts.Holds := by
  w_on; o_law; k_head; (case hw => w_witness2)
  k_fill
  refine K01.walk (l := PySem.Challenge.rw_dealbook_k01_books_and_their_texts) rfl rfl (fun w h Y => PySem.W.kIn_of Y) ?F
  case F =>
    intro w mg fa h KX G hmg
    refine' K01.all_mk KX G hmg ?ad0 ?ld0 ?cd0 ?kd0 ?ad1 ?ld1 ?cd1 ?kd1 ?ad2 ?ld2 ?cd2 ?kd2 ?ad3 ?ld3 ?cd3 ?kd3 ?ad4 ?ld4 ?cd4 ?kd4 ?ad5 ?ld5 ?cd5 ?kd5 ?ad6 ?ld6 ?cd6 ?kd6 ?ad7 ?ld7 ?cd7 ?kd7 ?ad8 ?ld8 ?cd8 ?kd8 ?ad9 ?ld9 ?cd9 ?kd9 ?ad10 ?ld10 ?cd10 ?kd10 ?ad11 ?ld11 ?cd11 ?kd11 ?ad12 ?ld12 ?cd12 ?kd12 ?ad13 ?ld13 ?cd13 ?kd13 ?ad14 ?ld14 ?cd14 ?kd14 ?ad15 ?ld15 ?cd15 ?kd15 ?ad16 ?ld16 ?cd16 ?kd16 ?ad17 ?ld17 ?cd17 ?kd17 ?ad18 ?ld18 ?cd18 ?kd18 ?ad19 ?ld19 ?cd19 ?kd19 ?ad20 ?ld20 ?cd20 ?kd20 ?ad21 ?ld21 ?cd21 ?kd21 ?ad22 ?ld22 ?cd22 ?kd22 ?ad23 ?ld23 ?cd23 ?kd23 ?ad24 ?ld24 ?cd24 ?kd24 ?ad25 ?ld25 ?cd25 ?kd25 ?ad26 ?ld26 ?cd26 ?kd26 ?ad27 ?ld27 ?cd27 ?kd27 ?ad28 ?ld28 ?cd28 ?kd28 ?ad29 ?ld29 ?cd29 ?kd29 ?aCB ?am0 ?lm0 ?cm0 ?km0 ?im0 ?am1 ?lm1 ?cm1 ?km1 ?im1 ?am2 ?lm2 ?cm2 ?km2 ?im2 ?am3 ?lm3 ?cm3 ?km3 ?im3 ?am4 ?lm4 ?cm4 ?km4 ?im4 ?am5 ?lm5 ?cm5 ?km5 ?im5 ?am6 ?lm6 ?cm6 ?km6 ?im6 ?am7 ?lm7 ?cm7 ?km7 ?im7 ?am8 ?lm8 ?cm8 ?km8 ?im8 ?am9 ?lm9 ?cm9 ?km9 ?im9 ?am10 ?lm10 ?cm10 ?km10 ?im10 ?pg ?hd ?po ?sa ?mk ?kc ?oha ?ohm ?nS ?neC ?ntC ?nIC ?ohn ?oht ?aB ?aN ?xN ?saN ?eN ?tN ?kN ?anb ?lnb ?cnb ?knb ?tI ?noP ?xf ?exm ?spB ?rdB ?inB ?cP ?cW ?cF ?cT ?z_len ?z_list ?z_tuple ?z_sorted ?z_set ?z_range ?z_isinstance ?z_all ?z_int ?z_bool ?z_sum ?z_abs ?z_max ?z_min ?z_zip ?z_enumerate ?z_reversed ?z_repr
    (case ad0 => k_is)
    (case ld0 => k_is)
    (case cd0 => k_is)
    (case kd0 => k_is)
    (case ad1 => k_is)
    (case ld1 => k_is)
    (case cd1 => k_is)
    (case kd1 => k_is)
    (case ad2 => k_is)
    (case ld2 => k_is)
    (case cd2 => k_is)
    (case kd2 => k_is)
    (case ad3 => k_is)
    (case ld3 => k_is)
    (case cd3 => k_is)
    (case kd3 => k_is)
    (case ad4 => k_is)
    (case ld4 => k_is)
    (case cd4 => k_is)
    (case kd4 => k_is)
    (case ad5 => k_is)
    (case ld5 => k_is)
    (case cd5 => k_is)
    (case kd5 => k_is)
    (case ad6 => k_is)
    (case ld6 => k_is)
    (case cd6 => k_is)
    (case kd6 => k_is)
    (case ad7 => k_is)
    (case ld7 => k_is)
    (case cd7 => k_is)
    (case kd7 => k_is)
    (case ad8 => k_is)
    (case ld8 => k_is)
    (case cd8 => k_is)
    (case kd8 => k_is)
    (case ad9 => k_is)
    (case ld9 => k_is)
    (case cd9 => k_is)
    (case kd9 => k_is)
    (case ad10 => k_is)
    (case ld10 => k_is)
    (case cd10 => k_is)
    (case kd10 => k_is)
    (case ad11 => k_is)
    (case ld11 => k_is)
    (case cd11 => k_is)
    (case kd11 => k_is)
    (case ad12 => k_is)
    (case ld12 => k_is)
    (case cd12 => k_is)
    (case kd12 => k_is)
    (case ad13 => k_is)
    (case ld13 => k_is)
    (case cd13 => k_is)
    (case kd13 => k_is)
    (case ad14 => k_is)
    (case ld14 => k_is)
    (case cd14 => k_is)
    (case kd14 => k_is)
    (case ad15 => k_is)
    (case ld15 => k_is)
    (case cd15 => k_is)
    (case kd15 => k_is)
    (case ad16 => k_is)
    (case ld16 => k_is)
    (case cd16 => k_is)
    (case kd16 => k_is)
    (case ad17 => k_is)
    (case ld17 => k_is)
    (case cd17 => k_is)
    (case kd17 => k_is)
    (case ad18 => k_is)
    (case ld18 => k_is)
    (case cd18 => k_is)
    (case kd18 => k_is)
    (case ad19 => k_is)
    (case ld19 => k_is)
    (case cd19 => k_is)
    (case kd19 => k_is)
    (case ad20 => k_is)
    (case ld20 => k_is)
    (case cd20 => k_is)
    (case kd20 => k_is)
    (case ad21 => k_is)
    (case ld21 => k_is)
    (case cd21 => k_is)
    (case kd21 => k_is)
    (case ad22 => k_is)
    (case ld22 => k_is)
    (case cd22 => k_is)
    (case kd22 => k_is)
    (case ad23 => k_is)
    (case ld23 => k_is)
    (case cd23 => k_is)
    (case kd23 => k_is)
    (case ad24 => k_is)
    (case ld24 => k_is)
    (case cd24 => k_is)
    (case kd24 => k_is)
    (case ad25 => k_is)
    (case ld25 => k_is)
    (case cd25 => k_is)
    (case kd25 => k_is)
    (case ad26 => k_is)
    (case ld26 => k_is)
    (case cd26 => k_is)
    (case kd26 => k_is)
    (case ad27 => k_is)
    (case ld27 => k_is)
    (case cd27 => k_is)
    (case kd27 => k_is)
    (case ad28 => k_is)
    (case ld28 => k_is)
    (case cd28 => k_is)
    (case kd28 => k_is)
    (case ad29 => k_is)
    (case ld29 => k_is)
    (case cd29 => k_is)
    (case kd29 => k_is)
    (case aCB => k_is)
    (case am0 => k_is)
    (case lm0 => k_is)
    (case cm0 => k_is)
    (case km0 => k_is)
    (case im0 => k_is)
    (case am1 => k_is)
    (case lm1 => k_is)
    (case cm1 => k_is)
    (case km1 => k_is)
    (case im1 => k_is)
    (case am2 => k_is)
    (case lm2 => k_is)
    (case cm2 => k_is)
    (case km2 => k_is)
    (case im2 => k_is)
    (case am3 => k_is)
    (case lm3 => k_is)
    (case cm3 => k_is)
    (case km3 => k_is)
    (case im3 => k_is)
    (case am4 => k_is)
    (case lm4 => k_is)
    (case cm4 => k_is)
    (case km4 => k_is)
    (case im4 => k_is)
    (case am5 => k_is)
    (case lm5 => k_is)
    (case cm5 => k_is)
    (case km5 => k_is)
    (case im5 => k_is)
    (case am6 => k_is)
    (case lm6 => k_is)
    (case cm6 => k_is)
    (case km6 => k_is)
    (case im6 => k_is)
    (case am7 => k_is)
    (case lm7 => k_is)
    (case cm7 => k_is)
    (case km7 => k_is)
    (case im7 => k_is)
    (case am8 => k_is)
    (case lm8 => k_is)
    (case cm8 => k_is)
    (case km8 => k_is)
    (case im8 => k_is)
    (case am9 => k_is)
    (case lm9 => k_is)
    (case cm9 => k_is)
    (case km9 => k_is)
    (case im9 => k_is)
    (case am10 => k_is)
    (case lm10 => k_is)
    (case cm10 => k_is)
    (case km10 => k_is)
    (case im10 => k_is)
    (case pg => k_is)
    (case hd => k_is)
    (case po => k_is)
    (case sa => k_is)
    (case mk => k_is)
    (case kc => k_is)
    (case oha => k_is)
    (case ohm => k_is)
    (case nS => k_is)
    (case neC => k_is)
    (case ntC => k_is)
    (case nIC => first | rfl | k_is)
    (case ohn => k_is)
    (case oht => k_is)
    (case aB => k_is)
    (case aN => k_is)
    (case xN => k_is)
    (case saN => k_is)
    (case eN => k_is)
    (case tN => k_is)
    (case kN => k_is)
    (case anb => k_is)
    (case lnb => k_is)
    (case cnb => k_is)
    (case knb => k_is)
    (case tI => k_is)
    (case noP => k_is)
    (case xf => first | rfl | k_is)
    (case exm => first | rfl | k_is)
    (case spB => k_is)
    (case rdB => k_is)
    (case inB => k_is)
    (case cP => k_is)
    (case cW => k_is)
    (case cF => k_is)
    (case cT => k_is)
    (case z_len => k_is)
    (case z_list => k_is)
    (case z_tuple => k_is)
    (case z_sorted => k_is)
    (case z_set => k_is)
    (case z_range => k_is)
    (case z_isinstance => k_is)
    (case z_all => k_is)
    (case z_int => k_is)
    (case z_bool => k_is)
    (case z_sum => k_is)
    (case z_abs => k_is)
    (case z_max => k_is)
    (case z_min => k_is)
    (case z_zip => k_is)
    (case z_enumerate => k_is)
    (case z_reversed => k_is)
    (case z_repr => k_is)
