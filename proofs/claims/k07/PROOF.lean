import PyProof.Rows.All
import Wide.All
import OpenK.AllK
import Wide.FinOn
import PySem.Challenge.RW_dealbook_k07_two_orders_of_two_changes
import HandS.ForMost
import HandS.Style
import HandS.Star
import HandS.Deep
import HandS.SortInts
import HandS.TupAny
import HandS.IsInst
import HandS.Conv
import HandS.TupSets
import HandS.SetFor
import HandS.Strs
import HandS.SetBool
import HandS.DictComp
import HandS.OwnEq
import HandS.ExcInit
import HandS.ExcField
import HandS.WordsExc
import HandS.Defaults
import HandS.MakeKwOnly
import HandS.RaiseMore
import KE.DataMinMax
import HandS.MakeKw
import HandS.Ends
import PyProof.Rows.StrJoinMade
import PyProof.ReprRoads
import PyProof.ReprLen
import HandS.Zip
import HandS.Rev
import KE.GoesMore
import KE.GoesEnum
import KE.DatumOrd
import HandS.TryOnly
import HandS.ExcIs
import KE.KExcIs
set_option Elab.async false
set_option linter.all false
set_option maxRecDepth 100000
set_option maxHeartbeats 2000000
namespace DL
open PySem PySem.Spec L2
abbrev Stt := L2.St

/-! ### heaps -/
abbrev Ex (H H' : Hp) : Prop := ∀ a o, H a = some o → H' a = some o
theorem Ex.rfl' {H : Hp} : Ex H H := fun _ _ h => h
theorem Ex.trans {H H1 H2 : Hp} (a : Ex H H1) (b : Ex H1 H2) : Ex H H2 := fun x o h => b x o (a x o h)
theorem Ex.new {H : Hp} {p : Addr} {o : HO} (h : H p = none) : Ex H (upd H p o) := fun a u e => by
  rw [upd_ne (ne_of_none e h)]
  exact e
theorem Ex.back {H H' : Hp} {p : Addr} (e : Ex H H') (h : H' p = none) : H p = none := by
  cases q : H p with
  | none => rfl
  | some o => rw [e p o q] at h; cases h
/-- an object that H does not know may change -/
theorem Ex.mut {H H' : Hp} {p : Addr} {o : HO} (e : Ex H H') (h : H p = none) : Ex H (upd H' p o) := fun a u ha => by
  rw [upd_ne (ne_of_none ha h)]
  exact e a u ha
theorem Ex.both {H H' : Hp} {p : Addr} {o : HO} (e : Ex H H') (h : H p = none) : Ex (upd H p o) (upd H' p o) := fun a u ha => by
  by_cases q : a = p
  · subst q; rw [upd_same] at ha ⊢; exact ha
  · rw [upd_ne q] at ha ⊢; exact e a u ha
theorem Ex.rd {H H' : Hp} {a : Addr} {u : HO} (e : Ex H H') (h : Rd H a u) : Rd H' a u := by
  rcases h with h | ⟨o, h⟩
  · exact Or.inl (e a _ h)
  · exact Or.inr ⟨o, e a _ h⟩
theorem paired_mono {α β : Type} {F G : α → β → Prop} : ∀ {l₁ : List α} {l₂ : List β}, Paired F l₁ l₂ → (∀ a b, F a b → G a b) → Paired G l₁ l₂
  | _, _, .nil, _ => .nil
  | _, _, .cons r t, f => .cons (f _ _ r) (paired_mono t f)

def LB : Nat := 1000000
theorem lb_line {n : Nat} (h : n ≤ LB) : n ≤ sizeLine := Nat.le_trans h (by decide)
theorem lb_lt {n : Nat} (h : n ≤ LB) : n < sizeLine := Nat.lt_of_le_of_lt h (by decide)
/-! ### codecs: how a piece of data lies in a heap that stays -/
structure Cod (α : Type) where
  rep : Hp → V → α → Prop
  mono : ∀ {H H' : Hp} {v : V} {x : α}, Ex H H' → rep H v x → rep H' v x
def cInt : Cod Int := ⟨fun _ v x => v = .int x, fun _ h => h⟩
def cBool : Cod Bool := ⟨fun _ v x => v = .bl x, fun _ h => h⟩
def cStr : Cod Str := ⟨fun _ v x => v = .str x, fun _ h => h⟩
def cNon : Cod Unit := ⟨fun _ v _ => v = .non, fun _ h => h⟩
/-- the value itself -/
def cV : Cod V := ⟨fun _ v x => v = x, fun _ h => h⟩
def cList {α : Type} (c : Cod α) : Cod (List α) := ⟨fun H v xs => ∃ a vs, v = .ref a ∧ H a = some (.lst vs) ∧ Paired (c.rep H) vs xs ∧ vs.length ≤ LB,
  fun e ⟨a, vs, h1, h2, h3, h4⟩ => ⟨a, vs, h1, e _ _ h2, paired_mono h3 (fun _ _ q => c.mono e q), h4⟩⟩
def cTup {α : Type} (c : Cod α) : Cod (List α) := ⟨fun H v xs => ∃ a vs, v = .ref a ∧ H a = some (.tup vs) ∧ Paired (c.rep H) vs xs ∧ vs.length ≤ LB,
  fun e ⟨a, vs, h1, h2, h3, h4⟩ => ⟨a, vs, h1, e _ _ h2, paired_mono h3 (fun _ _ q => c.mono e q), h4⟩⟩
/-- a list that is only read (the script) -/
def cScr : Cod (List Int) := ⟨fun H v xs => ∃ a, v = .ref a ∧ Rd H a (.lst (xs.map V.int)), fun e ⟨a, h1, h2⟩ => ⟨a, h1, e.rd h2⟩⟩
def cT2 {α β : Type} (c : Cod α) (d : Cod β) : Cod (α × β) := ⟨fun H v x => ∃ a u w, v = .ref a ∧ H a = some (.tup [u, w]) ∧ c.rep H u x.1 ∧ d.rep H w x.2,
  fun e ⟨a, u, w, h1, h2, h3, h4⟩ => ⟨a, u, w, h1, e _ _ h2, c.mono e h3, d.mono e h4⟩⟩
def cT3 {α β γ : Type} (c : Cod α) (d : Cod β) (f : Cod γ) : Cod (α × β × γ) := ⟨fun H v x => ∃ a u w y, v = .ref a ∧ H a = some (.tup [u, w, y]) ∧ c.rep H u x.1 ∧ d.rep H w x.2.1 ∧ f.rep H y x.2.2,
  fun e ⟨a, u, w, y, h1, h2, h3, h4, h5⟩ => ⟨a, u, w, y, h1, e _ _ h2, c.mono e h3, d.mono e h4, f.mono e h5⟩⟩

/-! ### slots -/
/-- what is known of an object of one's own -/
structure OP where
  φ : Hp → Addr → HO → Prop
  mono : ∀ {H H' : Hp} {a : Addr} {o : HO}, Ex H H' → φ H a o → φ H' a o
inductive Sl : Type 1
  | un
  | d {α : Type} (c : Cod α) (x : α)
  | l {α : Type} (c : Cod α) (xs : List α)
  | bx (a : Addr)
  | r (p : OP)
abbrev Ctxt := List Sl
def Sl.own : Sl → Bool
  | .l _ _ => true
  | .bx _ => true
  | .r _ => true
  | _ => false
def LIM : Nat := 8589934592
def BoxAt (H : Hp) (a : Addr) (n : Nat) : Prop := ∃ (g : Int) (b : Bool) (m c : Int), H a = some (.lst [.int g, .bl b, .int m, .int c]) ∧ 0 ≤ m ∧ m < 2147483648 ∧ 0 ≤ c ∧ c ≤ (n : Int)
def SlOk (Hf H : Hp) (n : Nat) (ov : Option (Option V)) : Sl → Prop
  | .un => True
  | .d c x => ∃ v, ov = some (some v) ∧ c.rep Hf v x
  | .l c xs => ∃ a vs, ov = some (some (.ref a)) ∧ H a = some (.lst vs) ∧ Hf a = none ∧ Paired (c.rep Hf) vs xs ∧ vs.length ≤ LB
  | .bx a => ov = some (some (.ref a)) ∧ Hf a = none ∧ BoxAt H a n
  | .r p => ∃ a o, ov = some (some (.ref a)) ∧ H a = some o ∧ Hf a = none ∧ p.φ Hf a o
def Owns (σ : Stt) (Γ : Ctxt) (a : Addr) : Prop := ∃ (i : Nat) (s : Sl), Γ[i]? = some s ∧ s.own = true ∧ σ[i]? = some (some (V.ref a))
structure Fr (M : Addr → Prop) (Hf H Hf' H' : Hp) : Prop where
  ex : Ex Hf Hf'
  keep : ∀ a o, H a = some o → ¬ M a → H' a = some o
  fz : ∀ a o, H a = some o → ¬ M a → Hf a = none → Hf' a = none
  dom : ∀ a, H' a = none → H a = none
theorem Fr.refl {M : Addr → Prop} {Hf H : Hp} : Fr M Hf H Hf H := ⟨Ex.rfl', fun _ _ h _ => h, fun _ _ _ _ h => h, fun _ h => h⟩
theorem Fr.trans {M M1 : Addr → Prop} {Hf H Hf1 H1 Hf2 H2 : Hp} (f : Fr M Hf H Hf1 H1) (g : Fr M1 Hf1 H1 Hf2 H2) (hm : ∀ a, M1 a → M a ∨ H a = none) : Fr M Hf H Hf2 H2 where
  ex := f.ex.trans g.ex
  keep := fun a o h n => g.keep a o (f.keep a o h n) fun m => by
    rcases hm a m with q | q
    · exact n q
    · rw [h] at q; cases q
  fz := fun a o h n z => g.fz a o (f.keep a o h n) (fun m => by
    rcases hm a m with q | q
    · exact n q
    · rw [h] at q; cases q) (f.fz a o h n z)
  dom := fun a h => f.dom a (g.dom a h)
theorem Fr.mono {M M1 : Addr → Prop} {Hf H Hf1 H1 : Hp} (f : Fr M Hf H Hf1 H1) (hm : ∀ a, M a → M1 a ∨ H a = none) : Fr M1 Hf H Hf1 H1 := Fr.trans (M := M1) Fr.refl f hm
/-- a new object -/
theorem Fr.new {M : Addr → Prop} {Hf H : Hp} {p : Addr} {o : HO} (ex : Ex Hf H) (h : H p = none) : Fr M Hf H (upd Hf p o) (upd H p o) where
  ex := Ex.new (ex.back h)
  keep := fun a u e _ => Ex.new h a u e
  fz := fun a u e _ z => by rw [upd_ne (ne_of_none e h)]; exact z
  dom := fun a e => by
    by_cases q : a = p
    · subst q; exact h
    · rw [upd_ne q] at e; exact e
/-- .. that is not to stay as it is -/
theorem Fr.newO {M : Addr → Prop} {Hf H : Hp} {p : Addr} {o : HO} (h : H p = none) : Fr M Hf H Hf (upd H p o) where
  ex := Ex.rfl'
  keep := fun a u e _ => Ex.new h a u e
  fz := fun a u e _ z => z
  dom := fun a e => by
    by_cases q : a = p
    · subst q; exact h
    · rw [upd_ne q] at e; exact e

structure Org where
  M : Addr → Prop
  Hf : Hp
  H : Hp
structure Sat (O : Org) (Hf H : Hp) (σ : Stt) (Γ : Ctxt) (n : Nat) : Prop where
  len : σ.length = Γ.length
  ex : Ex Hf H
  at_ : ∀ (i : Nat) (s : Sl), Γ[i]? = some s → SlOk Hf H n σ[i]? s
  sep : ∀ (i j : Nat) (si sj : Sl) (a : Addr), i ≠ j → Γ[i]? = some si → Γ[j]? = some sj → si.own = true → sj.own = true → σ[i]? = some (some (V.ref a)) → σ[j]? ≠ some (some (V.ref a))
  fr : Fr O.M O.Hf O.H Hf H
  mine : ∀ a, Owns σ Γ a → O.M a ∨ O.H a = none

theorem boxAt_le {H : Hp} {a : Addr} {n m : Nat} (h : BoxAt H a n) (l : n ≤ m) : BoxAt H a m := by
  obtain ⟨g, b, x, c, h1, h2, h3, h4, h5⟩ := h
  exact ⟨g, b, x, c, h1, h2, h3, h4, by omega⟩
theorem boxAt_ex {H H' : Hp} {a : Addr} {n : Nat} (h : BoxAt H a n) (e : ∀ o, H a = some o → H' a = some o) : BoxAt H' a n := by
  obtain ⟨g, b, x, c, h1, h2⟩ := h
  exact ⟨g, b, x, c, e _ h1, h2⟩
section
variable {O : Org} {Hf H Hf' H' : Hp} {σ : Stt} {Γ : Ctxt} {n m : Nat}
theorem slOk_le {ov : Option (Option V)} {s : Sl} (h : SlOk Hf H n ov s) (l : n ≤ m) : SlOk Hf H m ov s := by
  cases s with
  | un => trivial
  | d c x => exact h
  | l c xs => exact h
  | bx a => obtain ⟨h1, h2, h3⟩ := h; exact ⟨h1, h2, boxAt_le h3 l⟩
  | r p => exact h
theorem Sat.le (S : Sat O Hf H σ Γ n) (l : n ≤ m) : Sat O Hf H σ Γ m := ⟨S.len, S.ex, fun i s h => slOk_le (S.at_ i s h) l, S.sep, S.fr, S.mine⟩
theorem Sat.ownAt (S : Sat O Hf H σ Γ n) {a : Addr} (h : Owns σ Γ a) : Hf a = none ∧ ∃ o, H a = some o := by
  obtain ⟨i, s, h1, h2, h3⟩ := h
  have q := S.at_ i s h1
  cases s with
  | un => cases h2
  | d c x => cases h2
  | l c xs =>
    obtain ⟨b, vs, e1, e2, e3, _⟩ := q
    rw [h3] at e1
    injection e1 with e1; injection e1 with e1; injection e1 with e1
    subst e1
    exact ⟨e3, _, e2⟩
  | bx b =>
    obtain ⟨e1, e2, g, bb, x, c, e3, _⟩ := q
    rw [h3] at e1
    injection e1 with e1; injection e1 with e1; injection e1 with e1
    subst e1
    exact ⟨e2, _, e3⟩
  | r p =>
    obtain ⟨b, o, e1, e2, e3, _⟩ := q
    rw [h3] at e1
    injection e1 with e1; injection e1 with e1; injection e1 with e1
    subst e1
    exact ⟨e3, _, e2⟩
/-- the boxes of a context -/
def Bx (Γ : Ctxt) (a : Addr) : Prop := ∃ i : Nat, Γ[i]? = some (.bx a)
theorem Sat.bxOwn (S : Sat O Hf H σ Γ n) {a : Addr} (h : Bx Γ a) : Owns σ Γ a := by
  obtain ⟨i, h⟩ := h
  obtain ⟨h1, _⟩ := S.at_ i _ h
  exact ⟨i, _, h, rfl, h1⟩
/-- a list slot's address is no box -/
theorem Sat.lNe (S : Sat O Hf H σ Γ n) {i : Nat} {α : Type} {c : Cod α} {xs : List α} {a : Addr} (h : Γ[i]? = some (.l c xs)) (e : σ[i]? = some (some (V.ref a))) : ¬ Bx Γ a := fun ⟨j, hj⟩ => by
  obtain ⟨h1, _⟩ := S.at_ j _ hj
  refine S.sep i j _ _ a (fun z => ?_) h hj rfl rfl e h1
  subst z
  rw [h] at hj
  cases hj
theorem Sat.rNe (S : Sat O Hf H σ Γ n) {i : Nat} {p : OP} {a : Addr} (h : Γ[i]? = some (.r p)) (e : σ[i]? = some (some (V.ref a))) : ¬ Bx Γ a := fun ⟨j, hj⟩ => by
  obtain ⟨h1, _⟩ := S.at_ j _ hj
  refine S.sep i j _ _ a (fun z => ?_) h hj rfl rfl e h1
  subst z
  rw [h] at hj
  cases hj
/-- the heaps grow, boxes may turn -/
theorem Sat.grow (S : Sat O Hf H σ Γ n) (f : Fr (Bx Γ) Hf H Hf' H') (ex : Ex Hf' H') (hb : ∀ a, Bx Γ a → Hf' a = none ∧ BoxAt H' a m) : Sat O Hf' H' σ Γ m where
  len := S.len
  ex := ex
  at_ := fun i s h => by
    have q := S.at_ i s h
    cases s with
    | un => trivial
    | d c x => obtain ⟨v, h1, h2⟩ := q; exact ⟨v, h1, c.mono f.ex h2⟩
    | l c xs =>
      obtain ⟨a, vs, h1, h2, h3, h4, h5⟩ := q
      have nb := S.lNe h h1
      exact ⟨a, vs, h1, f.keep _ _ h2 nb, f.fz _ _ h2 nb h3, paired_mono h4 (fun _ _ r => c.mono f.ex r), h5⟩
    | bx a =>
      obtain ⟨h1, h2, h3⟩ := q
      obtain ⟨h4, h5⟩ := hb a ⟨i, h⟩
      exact ⟨h1, h4, h5⟩
    | r p =>
      obtain ⟨a, o, h1, h2, h3, h4⟩ := q
      have nb := S.rNe h h1
      exact ⟨a, o, h1, f.keep _ _ h2 nb, f.fz _ _ h2 nb h3, p.mono f.ex h4⟩
  sep := S.sep
  fr := S.fr.trans f fun a h => S.mine a (S.bxOwn h)
  mine := S.mine
theorem Sat.grow0 (S : Sat O Hf H σ Γ n) (f : Fr (fun _ => False) Hf H Hf' H') (ex : Ex Hf' H') : Sat O Hf' H' σ Γ n :=
  S.grow (f.mono fun _ z => z.elim) ex fun a ⟨i, h⟩ => by
    obtain ⟨_, h2, h3⟩ := S.at_ i _ h
    have h4 := h3
    obtain ⟨g, b, x, c, e, _⟩ := h4
    exact ⟨f.fz _ _ e id h2, boxAt_ex h3 fun o r => f.keep _ _ r id⟩
theorem Sat.new (S : Sat O Hf H σ Γ n) {p : Addr} {o : HO} (h : H p = none) : Sat O (upd Hf p o) (upd H p o) σ Γ n :=
  S.grow0 (Fr.new S.ex h) (S.ex.both (S.ex.back h))
/-- seen from here -/
theorem Sat.here (S : Sat O Hf H σ Γ n) : Sat ⟨Owns σ Γ, Hf, H⟩ Hf H σ Γ n := ⟨S.len, S.ex, S.at_, S.sep, Fr.refl, fun _ h => .inl h⟩
theorem Sat.there {σ' : Stt} {Γ' : Ctxt} (S : Sat O Hf H σ Γ n) (T : Sat ⟨Owns σ Γ, Hf, H⟩ Hf' H' σ' Γ' m) : Sat O Hf' H' σ' Γ' m where
  len := T.len
  ex := T.ex
  at_ := T.at_
  sep := T.sep
  fr := S.fr.trans T.fr fun a h => S.mine a h
  mine := fun a h => by
    rcases T.mine a h with q | q
    · exact S.mine a q
    · exact .inr (S.fr.dom a q)
end
end DL

set_option Elab.async false
set_option linter.all false
set_option maxRecDepth 100000
set_option maxHeartbeats 2000000
namespace DL
open PySem PySem.Spec L2
/-! ### judgements -/
def TD {α : Type} (te : TE) (Γ : Ctxt) (k : Nat) (c : Cod α) (P : α → Prop) : Prop :=
  ∀ (O : Org) (n : Nat) (σ : Stt) (Hf H : Hp), n + k ≤ LIM → Sat O Hf H σ Γ n → ∀ Q : VK,
    (∀ v Hf' H' x, P x → c.rep Hf' v x → Fr (Bx Γ) Hf H Hf' H' → Sat O Hf' H' σ Γ (n + k) → Q v H') → te σ H Q
def TDT (tt : TT) (Γ : Ctxt) (k : Nat) (P : Bool → Prop) : Prop :=
  ∀ (O : Org) (n : Nat) (σ : Stt) (Hf H : Hp), n + k ≤ LIM → Sat O Hf H σ Γ n → ∀ Q : Bool → Hp → Prop,
    (∀ b Hf' H', P b → Fr (Bx Γ) Hf H Hf' H' → Sat O Hf' H' σ Γ (n + k) → Q b H') → tt σ H Q
/-- an operation on values -/
def RD {α β γ : Type} (r : R2) (c1 : Cod α) (x : α) (c2 : Cod β) (y : β) (c : Cod γ) (P : γ → Prop) : Prop :=
  ∀ (Hf H : Hp) (v u : V), Ex Hf H → c1.rep Hf v x → c2.rep Hf u y → ∀ Q : VK,
    (∀ z Hf' H' w, P z → c.rep Hf' w z → Fr (fun _ => False) Hf H Hf' H' → Ex Hf' H' → Q w H') → r v u H Q
def RU1 {α γ : Type} (r : V → Hp → VK → Prop) (c1 : Cod α) (x : α) (c : Cod γ) (P : γ → Prop) : Prop :=
  ∀ (Hf H : Hp) (v : V), Ex Hf H → c1.rep Hf v x → ∀ Q : VK,
    (∀ z Hf' H' w, P z → c.rep Hf' w z → Fr (fun _ => False) Hf H Hf' H' → Ex Hf' H' → Q w H') → r v H Q
/-- arguments: what the values are, one context entry each -/
def ArgsOk (Hf : Hp) : List V → Ctxt → Prop
  | [], [] => True
  | v :: vs, s :: as => (match s with
    | .d c x => c.rep Hf v x
    | .bx a => v = .ref a
    | _ => False) ∧ ArgsOk Hf vs as
  | _, _ => False
def TDA (ta : TA) (Γ : Ctxt) (k : Nat) (B : Ctxt → Prop) : Prop :=
  ∀ (O : Org) (n : Nat) (σ : Stt) (Hf H : Hp), n + k ≤ LIM → Sat O Hf H σ Γ n → ∀ Q : List V → Hp → Prop,
    (∀ vs Hf' H' as, B as → ArgsOk Hf' vs as → (∀ a, Sl.bx a ∈ as → Bx Γ a) → Fr (Bx Γ) Hf H Hf' H' → Sat O Hf' H' σ Γ (n + k) → Q vs H') → ta σ H Q
theorem argsOk_mono {Hf Hf' : Hp} (e : Ex Hf Hf') : ∀ {vs : List V} {as : Ctxt}, ArgsOk Hf vs as → ArgsOk Hf' vs as
  | [], [], _ => trivial
  | [], _ :: _, h => h.elim
  | _ :: _, [], h => h.elim
  | v :: vs, s :: as, h => by
    obtain ⟨h1, h2⟩ := h
    refine ⟨?_, argsOk_mono e h2⟩
    cases s with
    | un => exact h1
    | d c x => exact c.mono e h1
    | l c x => exact h1
    | bx a => exact h1
    | r p => exact h1

section
variable {Γ : Ctxt} {k k1 k2 k3 : Nat} {α β γ δ : Type} {c c1 : Cod α} {c2 : Cod β} {c3 : Cod γ} {P P1 : α → Prop} {P2 : β → Prop} {P3 : γ → Prop} {te ta tb : TE} {tt tu : TT}
theorem TD.imp {P' : α → Prop} (h : TD te Γ k c P) (hp : ∀ x, P x → P' x) : TD te Γ k c P' := fun O n σ Hf H hn S Q q => h O n σ Hf H hn S Q fun v Hf' H' x p => q v Hf' H' x (hp x p)
theorem TD.le (h : TD te Γ k c P) (l : k ≤ k2) : TD te Γ k2 c P := fun O n σ Hf H hn S Q q => h O n σ Hf H (by omega) S Q fun v Hf' H' x p r f s => q v Hf' H' x p r f (s.le (by omega))
theorem TDT.imp {P P' : Bool → Prop} (h : TDT tt Γ k P) (hp : ∀ x, P x → P' x) : TDT tt Γ k P' := fun O n σ Hf H hn S Q q => h O n σ Hf H hn S Q fun b Hf' H' p => q b Hf' H' (hp b p)
theorem TDT.le {P : Bool → Prop} (h : TDT tt Γ k P) (l : k ≤ k2) : TDT tt Γ k2 P := fun O n σ Hf H hn S Q q => h O n σ Hf H (by omega) S Q fun b Hf' H' p f s => q b Hf' H' p f (s.le (by omega))
/-- as another kind of data -/
theorem TD.conv {P' : β → Prop} (h : TD te Γ k c P) (hp : ∀ H v x, P x → c.rep H v x → ∃ y, P' y ∧ c2.rep H v y) : TD te Γ k c2 P' := fun O n σ Hf H hn S Q q => h O n σ Hf H hn S Q fun v Hf' H' x p r f s => by
  obtain ⟨y, p', r'⟩ := hp _ _ _ p r
  exact q v Hf' H' y p' r' f s
theorem td_var {i : Nat} {x : α} (h : Γ[i]? = some (.d c x)) : TD (tVar i) Γ 0 c (· = x) := fun O n σ Hf H _ S Q q => by
  obtain ⟨v, h1, h2⟩ := S.at_ i _ h
  exact ⟨v, h1, q v Hf H x rfl h2 Fr.refl S⟩
theorem td_c {v : V} {x : α} (h : ∀ H, c.rep H v x) : TD (tC v) Γ 0 c (· = x) := fun O n σ Hf H _ S Q q => q v Hf H x rfl (h Hf) Fr.refl S
theorem td_op {r : R2} (ha : TD ta Γ k1 c1 P1) (hb : TD tb Γ k2 c2 P2) (hr : ∀ x y, P1 x → P2 y → RD r c1 x c2 y c3 P3) : TD (tOp r ta tb) Γ (k1 + k2) c3 P3 := fun O n σ Hf H hn S Q q =>
  ha O n σ Hf H (by omega) S _ fun v Hf1 H1 x p1 r1 f1 S1 => hb O (n + k1) σ Hf1 H1 (by omega) S1 _ fun u Hf2 H2 y p2 r2 f2 S2 =>
    hr x y p1 p2 Hf2 H2 v u S2.ex (c1.mono f2.ex r1) r2 Q fun z Hf3 H3 w p3 r3 f3 e3 =>
      q w Hf3 H3 z p3 r3 ((f1.trans f2 fun _ h => .inl h).trans f3 fun _ h => h.elim) (by rw [← Nat.add_assoc]; exact S2.grow0 f3 e3)
theorem td_un {r : V → Hp → VK → Prop} (ha : TD ta Γ k1 c1 P1) (hr : ∀ x, P1 x → RU1 r c1 x c3 P3) : TD (tUn r ta) Γ k1 c3 P3 := fun O n σ Hf H hn S Q q =>
  ha O n σ Hf H hn S _ fun v Hf1 H1 x p1 r1 f1 S1 => hr x p1 Hf1 H1 v S1.ex r1 Q fun z Hf3 H3 w p3 r3 f3 e3 =>
      q w Hf3 H3 z p3 r3 (f1.trans f3 fun _ h => h.elim) (S1.grow0 f3 e3)
/-! ### tests -/
theorem tt_test {P : Bool → Prop} (h : TD te Γ k cBool P) : TDT (tTest te) Γ k P := fun O n σ Hf H hn S Q q => h O n σ Hf H hn S _ fun v Hf' H' x p r f s => ⟨x, r, q x Hf' H' p f s⟩
theorem tt_B {P : Bool → Prop} (h : TD te Γ k cBool P) : TDT (tB te) Γ k P := fun O n σ Hf H hn S Q q => h O n σ Hf H hn S _ fun v Hf' H' x p r f s => ⟨x, r, q x Hf' H' p f s⟩
theorem tt_and {a b : Bool → Prop} (h1 : TDT tt Γ k1 a) (h2 : a true → TDT tu Γ k2 b) : TDT (tAnd tt tu) Γ (k1 + k2) (fun r => (r = false ∧ a false) ∨ (a true ∧ b r)) := fun O n σ Hf H hn S Q q =>
  h1 O n σ Hf H (by omega) S _ fun b1 Hf1 H1 p f1 S1 => by
    cases b1 with
    | true =>
      rw [if_pos rfl]
      exact h2 p O (n + k1) σ Hf1 H1 (by omega) S1 Q fun b2 Hf2 H2 p2 f2 S2 => q b2 Hf2 H2 (.inr ⟨p, p2⟩) (f1.trans f2 fun _ h => .inl h) (by rw [← Nat.add_assoc]; exact S2)
    | false =>
      rw [if_neg Bool.false_ne_true]
      exact q false Hf1 H1 (.inl ⟨rfl, p⟩) f1 (S1.le (by omega))
theorem tt_or {a b : Bool → Prop} (h1 : TDT tt Γ k1 a) (h2 : a false → TDT tu Γ k2 b) : TDT (tOr tt tu) Γ (k1 + k2) (fun r => (r = true ∧ a true) ∨ (a false ∧ b r)) := fun O n σ Hf H hn S Q q =>
  h1 O n σ Hf H (by omega) S _ fun b1 Hf1 H1 p f1 S1 => by
    cases b1 with
    | false =>
      rw [if_neg Bool.false_ne_true]
      exact h2 p O (n + k1) σ Hf1 H1 (by omega) S1 Q fun b2 Hf2 H2 p2 f2 S2 => q b2 Hf2 H2 (.inr ⟨p, p2⟩) (f1.trans f2 fun _ h => .inl h) (by rw [← Nat.add_assoc]; exact S2)
    | true =>
      rw [if_pos rfl]
      exact q true Hf1 H1 (.inl ⟨rfl, p⟩) f1 (S1.le (by omega))
theorem tt_not {a : Bool → Prop} (h1 : TDT tt Γ k a) : TDT (tNot tt) Γ k (fun r => a (!r)) := fun O n σ Hf H hn S Q q =>
  h1 O n σ Hf H hn S _ fun b1 Hf1 H1 p f1 S1 => q (!b1) Hf1 H1 (by show a (!!b1); rw [Bool.not_not]; exact p) f1 S1
/-- the pure ones -/
theorem tt_and' {a b : Bool} (h1 : TDT tt Γ k1 (· = a)) (h2 : a = true → TDT tu Γ k2 (· = b)) : TDT (tAnd tt tu) Γ (k1 + k2) (· = (a && b)) :=
  (tt_and h1 fun e => h2 e.symm).imp fun x h => by
    rcases h with ⟨e1, e2⟩ | ⟨e1, e2⟩
    · subst e1 e2; rfl
    · subst e2 e1; rfl
theorem tt_or' {a b : Bool} (h1 : TDT tt Γ k1 (· = a)) (h2 : a = false → TDT tu Γ k2 (· = b)) : TDT (tOr tt tu) Γ (k1 + k2) (· = (a || b)) :=
  (tt_or h1 fun e => h2 e.symm).imp fun x h => by
    rcases h with ⟨e1, e2⟩ | ⟨e1, e2⟩
    · subst e1 e2; rfl
    · subst e2 e1; rfl
theorem tt_not' {a : Bool} (h1 : TDT tt Γ k (· = a)) : TDT (tNot tt) Γ k (· = !a) := (tt_not h1).imp fun x h => by rw [← h, Bool.not_not]
theorem td_if {b : Bool → Prop} (ht : TDT tt Γ k1 b) (ha : b true → TD ta Γ k2 c P) (hb : b false → TD tb Γ k3 c P) : TD (tIf tt ta tb) Γ (k1 + max k2 k3) c P := fun O n σ Hf H hn S Q q =>
  ht O n σ Hf H (by omega) S _ fun d Hf1 H1 p f1 S1 => by
    cases d with
    | true =>
      rw [if_pos rfl]
      exact ha p O (n + k1) σ Hf1 H1 (by omega) S1 Q fun v Hf2 H2 x p2 r f2 S2 => q v Hf2 H2 x p2 r (f1.trans f2 fun _ h => .inl h) (S2.le (by omega))
    | false =>
      rw [if_neg Bool.false_ne_true]
      exact hb p O (n + k1) σ Hf1 H1 (by omega) S1 Q fun v Hf2 H2 x p2 r f2 S2 => q v Hf2 H2 x p2 r (f1.trans f2 fun _ h => .inl h) (S2.le (by omega))
theorem td_andV {a b : Bool → Prop} (h1 : TD ta Γ k1 cBool a) (h2 : a true → TD tb Γ k2 cBool b) : TD (tAndV ta tb) Γ (k1 + k2) cBool (fun r => (r = false ∧ a false) ∨ (a true ∧ b r)) := fun O n σ Hf H hn S Q q =>
  h1 O n σ Hf H (by omega) S _ fun v Hf1 H1 b1 p r1 f1 S1 => ⟨b1, r1, by
    cases b1 with
    | true =>
      rw [if_pos rfl]
      exact h2 p O (n + k1) σ Hf1 H1 (by omega) S1 Q fun v2 Hf2 H2 b2 p2 r2 f2 S2 => q v2 Hf2 H2 b2 (.inr ⟨p, p2⟩) r2 (f1.trans f2 fun _ h => .inl h) (by rw [← Nat.add_assoc]; exact S2)
    | false =>
      rw [if_neg Bool.false_ne_true]
      exact q _ Hf1 H1 false (.inl ⟨rfl, p⟩) rfl f1 (S1.le (by omega))⟩
theorem td_orV {a b : Bool → Prop} (h1 : TD ta Γ k1 cBool a) (h2 : a false → TD tb Γ k2 cBool b) : TD (tOrV ta tb) Γ (k1 + k2) cBool (fun r => (r = true ∧ a true) ∨ (a false ∧ b r)) := fun O n σ Hf H hn S Q q =>
  h1 O n σ Hf H (by omega) S _ fun v Hf1 H1 b1 p r1 f1 S1 => ⟨b1, r1, by
    cases b1 with
    | false =>
      rw [if_neg Bool.false_ne_true]
      exact h2 p O (n + k1) σ Hf1 H1 (by omega) S1 Q fun v2 Hf2 H2 b2 p2 r2 f2 S2 => q v2 Hf2 H2 b2 (.inr ⟨p, p2⟩) r2 (f1.trans f2 fun _ h => .inl h) (by rw [← Nat.add_assoc]; exact S2)
    | true =>
      rw [if_pos rfl]
      exact q _ Hf1 H1 true (.inl ⟨rfl, p⟩) rfl f1 (S1.le (by omega))⟩
theorem td_notV {a : Bool → Prop} (h1 : TD ta Γ k cBool a) : TD (tNotV ta) Γ k cBool (fun r => a (!r)) := fun O n σ Hf H hn S Q q =>
  h1 O n σ Hf H hn S _ fun v Hf1 H1 b1 p r1 f1 S1 => ⟨b1, r1, q _ Hf1 H1 (!b1) (by show a (!!b1); rw [Bool.not_not]; exact p) rfl f1 S1⟩
theorem td_andV' {a b : Bool} (h1 : TD ta Γ k1 cBool (· = a)) (h2 : a = true → TD tb Γ k2 cBool (· = b)) : TD (tAndV ta tb) Γ (k1 + k2) cBool (· = (a && b)) :=
  (td_andV h1 fun e => h2 e.symm).imp fun x h => by
    rcases h with ⟨e1, e2⟩ | ⟨e1, e2⟩
    · subst e1 e2; rfl
    · subst e2 e1; rfl
theorem td_orV' {a b : Bool} (h1 : TD ta Γ k1 cBool (· = a)) (h2 : a = false → TD tb Γ k2 cBool (· = b)) : TD (tOrV ta tb) Γ (k1 + k2) cBool (· = (a || b)) :=
  (td_orV h1 fun e => h2 e.symm).imp fun x h => by
    rcases h with ⟨e1, e2⟩ | ⟨e1, e2⟩
    · subst e1 e2; rfl
    · subst e2 e1; rfl
theorem td_notV' {a : Bool} (h1 : TD ta Γ k cBool (· = a)) : TD (tNotV ta) Γ k cBool (· = !a) := (td_notV h1).imp fun x h => by rw [← h, Bool.not_not]
/-! ### arguments, displays -/
variable {tx : TA} {B : Ctxt → Prop}
theorem ta_nil : TDA tNil Γ 0 (· = []) := fun O n σ Hf H _ S Q q => q [] Hf H [] rfl trivial (fun _ h => nomatch h) Fr.refl S
theorem ta_cons (h : TD te Γ k1 c P) (hr : TDA tx Γ k2 B) : TDA (tCons te tx) Γ (k1 + k2) (fun as => ∃ x r, P x ∧ B r ∧ as = .d c x :: r) := fun O n σ Hf H hn S Q q =>
  h O n σ Hf H (by omega) S _ fun v Hf1 H1 x p r f1 S1 => hr O (n + k1) σ Hf1 H1 (by omega) S1 _ fun vs Hf2 H2 as b o hb f2 S2 =>
    q (v :: vs) Hf2 H2 (.d c x :: as) ⟨x, as, p, b, rfl⟩ ⟨c.mono f2.ex r, o⟩ (fun a h => by
      rcases List.mem_cons.mp h with e | e
      · cases e
      · exact hb a e) (f1.trans f2 fun _ h => .inl h) (by rw [← Nat.add_assoc]; exact S2)
theorem ta_box {i : Nat} {a : Addr} (h : Γ[i]? = some (.bx a)) (hr : TDA tx Γ k2 B) : TDA (tCons (tVar i) tx) Γ k2 (fun as => ∃ r, B r ∧ as = .bx a :: r) := fun O n σ Hf H hn S Q q => by
  obtain ⟨h1, h2⟩ := S.at_ i _ h
  exact ⟨.ref a, h1, hr O n σ Hf H hn S _ fun vs Hf2 H2 as b o hb f2 S2 => q (.ref a :: vs) Hf2 H2 (.bx a :: as) ⟨as, b, rfl⟩ ⟨rfl, o⟩ (fun a' h' => by
    rcases List.mem_cons.mp h' with e | e
    · cases e; exact ⟨i, h⟩
    · exact hb a' e) f2 S2⟩
theorem TDA.imp {B' : Ctxt → Prop} (h : TDA tx Γ k B) (hp : ∀ x, B x → B' x) : TDA tx Γ k B' := fun O n σ Hf H hn S Q q => h O n σ Hf H hn S Q fun v Hf' H' x p => q v Hf' H' x (hp x p)
/-- items of one kind -/
theorem args_items {Hf : Hp} : ∀ {vs : List V} {xs : List α}, ArgsOk Hf vs (xs.map fun x => Sl.d c x) → Paired (c.rep Hf) vs xs
  | [], [], _ => .nil
  | [], _ :: _, h => h.elim
  | _ :: _, [], h => h.elim
  | v :: vs, x :: xs, h => .cons h.1 (args_items h.2)
theorem paired_len {F : V → α → Prop} {vs : List V} {xs : List α} (h : Paired F vs xs) : vs.length = xs.length := h.length
theorem td_lst {R : List α → Prop} (h : TDA tx Γ k B) (hi : ∀ as, B as → ∃ xs : List α, as = xs.map (fun x => Sl.d c x) ∧ xs.length ≤ 1000 ∧ R xs) : TD (tLst tx) Γ k (cList c) R := fun O n σ Hf H hn S Q q =>
  h O n σ Hf H hn S _ fun vs Hf1 H1 as b o _ f1 S1 => by
    obtain ⟨xs, e, l, r⟩ := hi as b
    subst e
    have pr := args_items o
    refine ⟨by rw [paired_len pr]; exact Nat.le_trans l (by decide), fun p hp => ?_⟩
    exact q _ (upd Hf1 p (.lst vs)) _ xs r ⟨p, vs, rfl, upd_same, paired_mono pr (fun _ _ z => c.mono (Ex.new (S1.ex.back hp)) z), by rw [paired_len pr]; exact Nat.le_trans l (by decide)⟩
      (f1.trans (Fr.new (M := Bx Γ) S1.ex hp) fun _ z => .inl z) (S1.new hp)
theorem td_tup {R : List α → Prop} (h : TDA tx Γ k B) (hi : ∀ as, B as → ∃ xs : List α, as = xs.map (fun x => Sl.d c x) ∧ xs.length ≤ 1000 ∧ R xs) : TD (tTup tx) Γ k (cTup c) R := fun O n σ Hf H hn S Q q =>
  h O n σ Hf H hn S _ fun vs Hf1 H1 as b o _ f1 S1 => by
    obtain ⟨xs, e, l, r⟩ := hi as b
    subst e
    have pr := args_items o
    refine ⟨by rw [paired_len pr]; exact Nat.le_trans l (by decide), fun p hp => ?_⟩
    exact q _ (upd Hf1 p (.tup vs)) _ xs r ⟨p, vs, rfl, upd_same, paired_mono pr (fun _ _ z => c.mono (Ex.new (S1.ex.back hp)) z), by rw [paired_len pr]; exact Nat.le_trans l (by decide)⟩
      (f1.trans (Fr.new (M := Bx Γ) S1.ex hp) fun _ z => .inl z) (S1.new hp)
theorem td_t2 (ha : TD ta Γ k1 c1 P1) (hb : TD tb Γ k2 c2 P2) : TD (tTup (tCons ta (tCons tb tNil))) Γ (k1 + k2) (cT2 c1 c2) (fun z => P1 z.1 ∧ P2 z.2) := fun O n σ Hf H hn S Q q =>
  ha O n σ Hf H (by omega) S _ fun v Hf1 H1 x p1 r1 f1 S1 => hb O (n + k1) σ Hf1 H1 (by omega) S1 _ fun u Hf2 H2 y p2 r2 f2 S2 =>
    ⟨by show 2 ≤ sizeLine; decide, fun p hp => q _ (upd Hf2 p (.tup [v, u])) _ (x, y) ⟨p1, p2⟩
      ⟨p, v, u, rfl, upd_same, c1.mono (f2.ex.trans (Ex.new (S2.ex.back hp))) r1, c2.mono (Ex.new (S2.ex.back hp)) r2⟩
      ((f1.trans f2 fun _ h => .inl h).trans (Fr.new (M := Bx Γ) S2.ex hp) fun _ z => .inl z) (by rw [← Nat.add_assoc]; exact S2.new hp)⟩
variable {td : TE}
theorem td_t3 (ha : TD ta Γ k1 c1 P1) (hb : TD tb Γ k2 c2 P2) (hd : TD td Γ k3 c3 P3) : TD (tTup (tCons ta (tCons tb (tCons td tNil)))) Γ (k1 + k2 + k3) (cT3 c1 c2 c3) (fun z => P1 z.1 ∧ P2 z.2.1 ∧ P3 z.2.2) := fun O n σ Hf H hn S Q q =>
  ha O n σ Hf H (by omega) S _ fun v Hf1 H1 x p1 r1 f1 S1 => hb O (n + k1) σ Hf1 H1 (by omega) S1 _ fun u Hf2 H2 y p2 r2 f2 S2 => hd O (n + k1 + k2) σ Hf2 H2 (by omega) S2 _ fun w Hf3 H3 z p3 r3 f3 S3 =>
    ⟨by show 3 ≤ sizeLine; decide, fun p hp => q _ (upd Hf3 p (.tup [v, u, w])) _ (x, y, z) ⟨p1, p2, p3⟩
      ⟨p, v, u, w, rfl, upd_same, c1.mono (f2.ex.trans (f3.ex.trans (Ex.new (S3.ex.back hp)))) r1, c2.mono (f3.ex.trans (Ex.new (S3.ex.back hp))) r2, c3.mono (Ex.new (S3.ex.back hp)) r3⟩
      (((f1.trans f2 fun _ h => .inl h).trans f3 fun _ h => .inl h).trans (Fr.new (M := Bx Γ) S3.ex hp) fun _ z => .inl z)
      (by rw [show n + (k1 + k2 + k3) = n + k1 + k2 + k3 by omega]; exact S3.new hp)⟩
theorem td_t2' {x : α} {y : β} (ha : TD ta Γ k1 c1 (· = x)) (hb : TD tb Γ k2 c2 (· = y)) : TD (tTup (tCons ta (tCons tb tNil))) Γ (k1 + k2) (cT2 c1 c2) (· = (x, y)) :=
  (td_t2 ha hb).imp fun z ⟨h1, h2⟩ => by cases z; subst h1 h2; rfl
theorem td_t3' {x : α} {y : β} {z : γ} (ha : TD ta Γ k1 c1 (· = x)) (hb : TD tb Γ k2 c2 (· = y)) (hd : TD td Γ k3 c3 (· = z)) : TD (tTup (tCons ta (tCons tb (tCons td tNil)))) Γ (k1 + k2 + k3) (cT3 c1 c2 c3) (· = (x, y, z)) :=
  (td_t3 ha hb hd).imp fun w ⟨h1, h2, h3⟩ => by obtain ⟨w1, w2, w3⟩ := w; subst h1 h2 h3; rfl
/-! ### operations on ints -/
theorem rd_I0 {g : Int → Int → Int} {i j : Int} : RD (rI0 fun i j => .int (g i j)) cInt i cInt j cInt (· = g i j) := fun Hf H v u e h1 h2 Q q => ⟨i, j, h1, h2, q _ Hf H _ rfl rfl Fr.refl e⟩
theorem rd_B0 {g : Int → Int → Bool} {i j : Int} : RD (rI0 fun i j => .bl (g i j)) cInt i cInt j cBool (· = g i j) := fun Hf H v u e h1 h2 Q q => ⟨i, j, h1, h2, q _ Hf H _ rfl rfl Fr.refl e⟩
theorem rd_I {C : Int → Int → Prop} {g : Int → Int → Int} {i j : Int} (hc : C i j) : RD (rI C fun i j => .int (g i j)) cInt i cInt j cInt (· = g i j) := fun Hf H v u e h1 h2 Q q => ⟨i, j, h1, h2, hc, q _ Hf H _ rfl rfl Fr.refl e⟩
theorem rd_eqI {i j : Int} : RD rEq cInt i cInt j cBool (· = decide (i = j)) := fun Hf H v u e h1 h2 Q q => by
  obtain rfl := h1; obtain rfl := h2
  exact ⟨rfl, q _ Hf H _ rfl (by show V.bl _ = V.bl _; congr 1; exact decide_eq_decide.mpr ⟨fun h => V.int.inj h, fun h => by rw [h]⟩) Fr.refl e⟩
theorem rd_neI {i j : Int} : RD rNe cInt i cInt j cBool (· = !decide (i = j)) := fun Hf H v u e h1 h2 Q q => by
  obtain rfl := h1; obtain rfl := h2
  exact ⟨rfl, q _ Hf H _ rfl (by show V.bl _ = V.bl _; congr 2; exact decide_eq_decide.mpr ⟨fun h => V.int.inj h, fun h => by rw [h]⟩) Fr.refl e⟩
theorem rd_eqB {i j : Bool} : RD rEq cBool i cBool j cBool (· = decide (i = j)) := fun Hf H v u e h1 h2 Q q => by
  obtain rfl := h1; obtain rfl := h2
  exact ⟨rfl, q _ Hf H _ rfl (by show V.bl _ = V.bl _; congr 1; exact decide_eq_decide.mpr ⟨fun h => V.bl.inj h, fun h => by rw [h]⟩) Fr.refl e⟩
theorem rd_neB {i j : Bool} : RD rNe cBool i cBool j cBool (· = !decide (i = j)) := fun Hf H v u e h1 h2 Q q => by
  obtain rfl := h1; obtain rfl := h2
  exact ⟨rfl, q _ Hf H _ rfl (by show V.bl _ = V.bl _; congr 2; exact decide_eq_decide.mpr ⟨fun h => V.bl.inj h, fun h => by rw [h]⟩) Fr.refl e⟩
theorem ru_negI {i : Int} : RU1 (rU fun i => .int (-i)) cInt i cInt (· = -i) := fun Hf H v e h1 Q q => ⟨i, h1, q _ Hf H _ rfl rfl Fr.refl e⟩
end
end DL

set_option Elab.async false
set_option linter.all false
set_option maxRecDepth 100000
set_option maxHeartbeats 2000000
namespace DL
open PySem PySem.Spec L2
/-! ### slots set -/
theorem sget.{u} {α : Type u} {l : List α} {i j : Nat} {x y : α} (h : (l.set i x)[j]? = some y) : (j = i ∧ y = x) ∨ (j ≠ i ∧ l[j]? = some y) := by
  by_cases e : j = i
  · subst e
    by_cases hl : j < l.length
    · rw [List.getElem?_set_self hl] at h; exact .inl ⟨rfl, (Option.some.inj h).symm⟩
    · rw [List.getElem?_eq_none (by simpa using hl)] at h; cases h
  · rw [List.getElem?_set_ne (Ne.symm e)] at h; exact .inr ⟨e, h⟩
def BxKeep (Γ Γ' : Ctxt) : Prop := ∀ (i : Nat) a, Γ[i]? = some (.bx a) → Γ'[i]? = some (.bx a)
theorem BxKeep.refl {Γ : Ctxt} : BxKeep Γ Γ := fun _ _ h => h
theorem BxKeep.trans {Γ Γ1 Γ2 : Ctxt} (a : BxKeep Γ Γ1) (b : BxKeep Γ1 Γ2) : BxKeep Γ Γ2 := fun i x h => b i x (a i x h)
/-- the slot i is no box -/
def NoBx (Γ : Ctxt) (i : Nat) : Prop := match Γ[i]? with
  | some (.bx _) => False
  | _ => True
theorem bxKeep_set {Γ : Ctxt} {i : Nat} {s : Sl} (h : NoBx Γ i) : BxKeep Γ (Γ.set i s) := fun j a e => by
  have ne : i ≠ j := fun z => by subst z; unfold NoBx at h; rw [e] at h; exact h
  rw [List.getElem?_set_ne ne]; exact e
section
variable {O : Org} {Hf H Hf' H' : Hp} {σ : Stt} {Γ : Ctxt} {n m : Nat} {α β : Type}
/-- a slot gets a piece of data, or is forgotten -/
theorem Sat.set (S : Sat O Hf H σ Γ n) {i : Nat} {c : Cod α} {x : α} {v : V} (r : c.rep Hf v x) : Sat O Hf H (σ.set i (some v)) (Γ.set i (.d c x)) n where
  len := by rw [List.length_set, List.length_set]; exact S.len
  ex := S.ex
  at_ := fun j s h => by
    have lt : j < σ.length := by
      have := (List.getElem?_eq_some_iff.mp h).1
      rw [List.length_set] at this
      rw [S.len]; exact this
    rcases sget h with ⟨e, e2⟩ | ⟨e, h2⟩
    · subst e e2
      exact ⟨v, List.getElem?_set_self lt, r⟩
    · rw [List.getElem?_set_ne (Ne.symm e)]
      exact S.at_ j s h2
  sep := fun j l sj sl a ne h1 h2 o1 o2 e => by
    rcases sget h1 with ⟨_, z⟩ | ⟨n1, h1⟩
    · subst z; cases o1
    rcases sget h2 with ⟨_, z⟩ | ⟨n2, h2⟩
    · subst z; cases o2
    rw [List.getElem?_set_ne (Ne.symm n1)] at e
    rw [List.getElem?_set_ne (Ne.symm n2)]
    exact S.sep j l sj sl a ne h1 h2 o1 o2 e
  fr := S.fr
  mine := fun a ⟨j, s, h1, h2, h3⟩ => by
    rcases sget h1 with ⟨_, z⟩ | ⟨n1, h1⟩
    · subst z; cases h2
    rw [List.getElem?_set_ne (Ne.symm n1)] at h3
    exact S.mine a ⟨j, s, h1, h2, h3⟩
/-- what is known of the slots may be less; a slot that is not known may hold anything -/
theorem Sat.weaken {σ' : Stt} {Γ' : Ctxt} (S : Sat O Hf H σ Γ n) (hl : σ'.length = Γ'.length) (h : ∀ (i : Nat) s, Γ'[i]? = some s → s = .un ∨ (Γ[i]? = some s ∧ σ'[i]? = σ[i]?)) : Sat O Hf H σ' Γ' n where
  len := hl
  ex := S.ex
  at_ := fun i s e => by
    rcases h i s e with z | ⟨h1, h2⟩
    · subst z; trivial
    · rw [h2]; exact S.at_ i s h1
  sep := fun i j si sj a ne h1 h2 o1 o2 e => by
    rcases h i si h1 with z | ⟨g1, e1⟩
    · subst z; cases o1
    rcases h j sj h2 with z | ⟨g2, e2⟩
    · subst z; cases o2
    rw [e2]
    exact S.sep i j si sj a ne g1 g2 o1 o2 (by rw [← e1]; exact e)
  fr := S.fr
  mine := fun a ⟨j, s, h1, h2, h3⟩ => by
    rcases h j s h1 with z | ⟨g1, e1⟩
    · subst z; cases h2
    exact S.mine a ⟨j, s, g1, h2, by rw [← e1]; exact h3⟩
def wipeC (Γ : Ctxt) : List Nat → Ctxt
  | [] => Γ
  | v :: vs => (wipeC Γ vs).set v .un
theorem wipeC_length (Γ : Ctxt) : ∀ vs : List Nat, (wipeC Γ vs).length = Γ.length
  | [] => rfl
  | v :: vs => by unfold wipeC; rw [List.length_set, wipeC_length Γ vs]
theorem wipe_at {i : Nat} {s : Sl} : ∀ {vs : List Nat}, (wipeC Γ vs)[i]? = some s → s = .un ∨ (Γ[i]? = some s ∧ (wipe σ vs)[i]? = σ[i]?)
  | [], h => .inr ⟨h, rfl⟩
  | v :: vs, h => by
    unfold wipeC at h
    rcases sget h with ⟨_, z⟩ | ⟨ne, h⟩
    · exact .inl z
    rcases wipe_at h with z | ⟨h1, h2⟩
    · exact .inl z
    · refine .inr ⟨h1, ?_⟩
      unfold wipe
      rw [List.getElem?_set_ne (Ne.symm ne)]; exact h2
theorem Sat.wipe (S : Sat O Hf H σ Γ n) (vs : List Nat) : Sat O Hf H (wipe σ vs) (wipeC Γ vs) n :=
  S.weaken (by rw [wipe_length, wipeC_length]; exact S.len) fun _ _ h => wipe_at h
/-- a list of one's own stays as it is from now on -/
theorem Sat.freeze (S : Sat O Hf H σ Γ n) {i : Nat} {c : Cod α} {xs : List α} (h : Γ[i]? = some (.l c xs)) :
    ∃ a vs, σ[i]? = some (some (V.ref a)) ∧ H a = some (.lst vs) ∧ Hf a = none ∧ ¬ Bx Γ a ∧ (∀ (j : Nat) s, j ≠ i → Γ[j]? = some s → s.own = true → σ[j]? ≠ some (some (V.ref a))) ∧ (cList c).rep (upd Hf a (.lst vs)) (.ref a) xs ∧ Sat O (upd Hf a (.lst vs)) H σ (Γ.set i (.d (cList c) xs)) n := by
  obtain ⟨a, vs, h1, h2, h3, h4, h5⟩ := S.at_ i _ h
  have e1 : Ex Hf (upd Hf a (.lst vs)) := Ex.new h3
  have oth : ∀ (j : Nat) s, j ≠ i → Γ[j]? = some s → s.own = true → σ[j]? ≠ some (some (V.ref a)) := fun j s ne hs o => S.sep i j _ s a (Ne.symm ne) h hs rfl o h1
  have rp : (cList c).rep (upd Hf a (.lst vs)) (.ref a) xs := ⟨a, vs, rfl, upd_same, paired_mono h4 (fun _ _ q => c.mono e1 q), h5⟩
  refine ⟨a, vs, h1, h2, h3, S.lNe h h1, oth, rp, ?_, ?_, ?_, ?_, ?_, ?_⟩
  · rw [List.length_set]; exact S.len
  · intro b o e
    by_cases q : b = a
    · subst q; rw [upd_same] at e; cases e; exact h2
    · rw [upd_ne q] at e; exact S.ex b o e
  · intro j s hs
    rcases sget hs with ⟨e, z⟩ | ⟨ne, hs⟩
    · subst e z; exact ⟨_, h1, rp⟩
    · have q := S.at_ j s hs
      cases s with
      | un => trivial
      | d c' x => obtain ⟨v, g1, g2⟩ := q; exact ⟨v, g1, c'.mono e1 g2⟩
      | l c' ys =>
        obtain ⟨a', vs', g1, g2, g3, g4, g5⟩ := q
        have nea : a' ≠ a := fun z => by subst z; exact oth j _ ne hs rfl g1
        exact ⟨a', vs', g1, g2, by rw [upd_ne nea]; exact g3, paired_mono g4 (fun _ _ r => c'.mono e1 r), g5⟩
      | bx b =>
        obtain ⟨g1, g2, g3⟩ := q
        have nea : b ≠ a := fun z => by subst z; exact oth j _ ne hs rfl g1
        exact ⟨g1, by rw [upd_ne nea]; exact g2, g3⟩
      | r p =>
        obtain ⟨a', o', g1, g2, g3, g4⟩ := q
        have nea : a' ≠ a := fun z => by subst z; exact oth j _ ne hs rfl g1
        exact ⟨a', o', g1, g2, by rw [upd_ne nea]; exact g3, p.mono e1 g4⟩
  · intro j l sj sl b ne g1 g2 o1 o2 e
    rcases sget g1 with ⟨_, z⟩ | ⟨_, g1⟩
    · subst z; cases o1
    rcases sget g2 with ⟨_, z⟩ | ⟨_, g2⟩
    · subst z; cases o2
    exact S.sep j l sj sl b ne g1 g2 o1 o2 e
  · refine ⟨S.fr.ex.trans e1, S.fr.keep, fun b o e nm z => ?_, S.fr.dom⟩
    have nb : b ≠ a := fun q => by
      subst q
      rcases S.mine b ⟨i, _, h, rfl, h1⟩ with w | w
      · exact nm w
      · rw [w] at e; cases e
    rw [upd_ne nb]; exact S.fr.fz b o e nm z
  · intro b ⟨j, s, g1, g2, g3⟩
    rcases sget g1 with ⟨_, z⟩ | ⟨_, g1⟩
    · subst z; cases g2
    exact S.mine b ⟨j, s, g1, g2, g3⟩
end
/-! ### statements -/
structure Fin (O : Org) (Γ : Ctxt) (Hf Hf' H' : Hp) (σ' : Stt) (Γ' : Ctxt) (m : Nat) : Prop where
  sat : Sat O Hf' H' σ' Γ' m
  bx : BxKeep Γ Γ'
  ex : Ex Hf Hf'
/-- where a block may lead: on, to a break, to a continue; what it may return -/
structure Po (ρ : Type) where
  N : Ctxt → Prop
  bk : Ctxt → Prop
  ct : Ctxt → Prop
  c : Cod ρ
  R : ρ → Prop
def HS {ρ : Type} (ts : TS) (Γ : Ctxt) (k : Nat) (p : Po ρ) : Prop :=
  ∀ (O : Org) (n : Nat) (σ : Stt) (Hf H : Hp), n + k ≤ LIM → Sat O Hf H σ Γ n → ∀ D : Ends,
    (∀ σ' Hf' H' Γ', p.N Γ' → Fin O Γ Hf Hf' H' σ' Γ' (n + k) → D.nx σ' H') → (∀ σ' Hf' H' Γ', p.bk Γ' → Fin O Γ Hf Hf' H' σ' Γ' (n + k) → D.bk σ' H') →
    (∀ σ' Hf' H' Γ', p.ct Γ' → Fin O Γ Hf Hf' H' σ' Γ' (n + k) → D.ct σ' H') → (∀ v σ' Hf' H' Γ' x, p.R x → p.c.rep Hf' v x → Fin O Γ Hf Hf' H' σ' Γ' (n + k) → D.rt v H') → ts D σ H
section
variable {Γ : Ctxt} {k k1 k2 k3 : Nat} {α β γ ρ : Type} {c : Cod α} {P : α → Prop} {te : TE} {tt : TT} {t u : TS} {p : Po ρ} {N N' : Ctxt → Prop}
theorem Fin.le {O : Org} {Γ' : Ctxt} {Hf Hf' H' : Hp} {σ' : Stt} {m m' : Nat} (f : Fin O Γ Hf Hf' H' σ' Γ' m) (l : m ≤ m') : Fin O Γ Hf Hf' H' σ' Γ' m' := ⟨f.sat.le l, f.bx, f.ex⟩
theorem HS.le (h : HS t Γ k p) (l : k ≤ k2) : HS t Γ k2 p := fun O n σ Hf H hn S D q1 q2 q3 q4 =>
  h O n σ Hf H (by omega) S D (fun _ _ _ _ a f => q1 _ _ _ _ a (f.le (by omega))) (fun _ _ _ _ a f => q2 _ _ _ _ a (f.le (by omega))) (fun _ _ _ _ a f => q3 _ _ _ _ a (f.le (by omega))) fun _ _ _ _ _ _ a r f => q4 _ _ _ _ _ _ a r (f.le (by omega))
theorem HS.imp (h : HS t Γ k { p with N := N }) (hp : ∀ Γ', N Γ' → N' Γ') : HS t Γ k { p with N := N' } := fun O n σ Hf H hn S D q1 q2 q3 q4 =>
  h O n σ Hf H hn S D (fun _ _ _ _ a f => q1 _ _ _ _ (hp _ a) f) q2 q3 q4
theorem hs_next (h : p.N Γ) : HS tNext Γ 0 p := fun O n σ Hf H _ S D q1 _ _ _ => q1 σ Hf H Γ h ⟨S, .refl, Ex.rfl'⟩
theorem hs_break (h : p.bk Γ) : HS tBreak Γ 0 p := fun O n σ Hf H _ S D _ q2 _ _ => q2 σ Hf H Γ h ⟨S, .refl, Ex.rfl'⟩
theorem hs_cont (h : p.ct Γ) : HS tCont Γ 0 p := fun O n σ Hf H _ S D _ _ q3 _ => q3 σ Hf H Γ h ⟨S, .refl, Ex.rfl'⟩
theorem hs_seq (h1 : HS t Γ k1 { p with N := N }) (h2 : ∀ Γ1, N Γ1 → HS u Γ1 k2 p) : HS (tSeq t u) Γ (k1 + k2) p := fun O n σ Hf H hn S D q1 q2 q3 q4 =>
  h1 O n σ Hf H (by omega) S { D with nx := u D } (fun σ1 Hf1 H1 Γ1 a f => h2 Γ1 a O (n + k1) σ1 Hf1 H1 (by omega) f.sat D
      (fun _ _ _ _ b g => q1 _ _ _ _ b ⟨by rw [← Nat.add_assoc]; exact g.sat, f.bx.trans g.bx, f.ex.trans g.ex⟩) (fun _ _ _ _ b g => q2 _ _ _ _ b ⟨by rw [← Nat.add_assoc]; exact g.sat, f.bx.trans g.bx, f.ex.trans g.ex⟩)
      (fun _ _ _ _ b g => q3 _ _ _ _ b ⟨by rw [← Nat.add_assoc]; exact g.sat, f.bx.trans g.bx, f.ex.trans g.ex⟩) fun _ _ _ _ _ _ b r g => q4 _ _ _ _ _ _ b r ⟨by rw [← Nat.add_assoc]; exact g.sat, f.bx.trans g.bx, f.ex.trans g.ex⟩)
    (fun _ _ _ _ a f => q2 _ _ _ _ a (f.le (by omega))) (fun _ _ _ _ a f => q3 _ _ _ _ a (f.le (by omega))) fun _ _ _ _ _ _ a r f => q4 _ _ _ _ _ _ a r (f.le (by omega))
theorem hs_if {b : Bool → Prop} (ht : TDT tt Γ k1 b) (ha : b true → HS t Γ k2 p) (hb : b false → HS u Γ k3 p) : HS (tIfS tt t u) Γ (k1 + max k2 k3) p := fun O n σ Hf H hn S D q1 q2 q3 q4 =>
  ht O n σ Hf H (by omega) S _ fun d Hf1 H1 pd f1 S1 => by
    cases d with
    | true =>
      rw [if_pos rfl]
      exact (ha pd).le (Nat.le_max_left k2 k3) O (n + k1) σ Hf1 H1 (by omega) S1 D (fun _ _ _ _ a f => q1 _ _ _ _ a ⟨by rw [← Nat.add_assoc]; exact f.sat, f.bx, f1.ex.trans f.ex⟩) (fun _ _ _ _ a f => q2 _ _ _ _ a ⟨by rw [← Nat.add_assoc]; exact f.sat, f.bx, f1.ex.trans f.ex⟩)
        (fun _ _ _ _ a f => q3 _ _ _ _ a ⟨by rw [← Nat.add_assoc]; exact f.sat, f.bx, f1.ex.trans f.ex⟩) fun _ _ _ _ _ _ a r f => q4 _ _ _ _ _ _ a r ⟨by rw [← Nat.add_assoc]; exact f.sat, f.bx, f1.ex.trans f.ex⟩
    | false =>
      rw [if_neg Bool.false_ne_true]
      exact (hb pd).le (Nat.le_max_right k2 k3) O (n + k1) σ Hf1 H1 (by omega) S1 D (fun _ _ _ _ a f => q1 _ _ _ _ a ⟨by rw [← Nat.add_assoc]; exact f.sat, f.bx, f1.ex.trans f.ex⟩) (fun _ _ _ _ a f => q2 _ _ _ _ a ⟨by rw [← Nat.add_assoc]; exact f.sat, f.bx, f1.ex.trans f.ex⟩)
        (fun _ _ _ _ a f => q3 _ _ _ _ a ⟨by rw [← Nat.add_assoc]; exact f.sat, f.bx, f1.ex.trans f.ex⟩) fun _ _ _ _ _ _ a r f => q4 _ _ _ _ _ _ a r ⟨by rw [← Nat.add_assoc]; exact f.sat, f.bx, f1.ex.trans f.ex⟩
theorem hs_ret (h : TD te Γ k c P) (hr : ∀ H v x, P x → c.rep H v x → ∃ y, p.R y ∧ p.c.rep H v y) : HS (tRet te) Γ k p := fun O n σ Hf H hn S D _ _ _ q4 =>
  h O n σ Hf H hn S _ fun v Hf' H' x px r f s => by
    obtain ⟨y, py, ry⟩ := hr Hf' v x px r
    exact q4 v σ Hf' H' Γ y py ry ⟨s, .refl, f.ex⟩
/-- return x, x a list of one's own -/
theorem hs_ret_l {i : Nat} {xs : List α} (h : Γ[i]? = some (.l c xs)) (nb : NoBx Γ i) (hr : ∀ H v, (cList c).rep H v xs → ∃ y, p.R y ∧ p.c.rep H v y) : HS (tRet (tVar i)) Γ 0 p := fun O n σ Hf H hn S D _ _ _ q4 => by
  obtain ⟨a, vs, h1, h2, h3, _, _, rp, S'⟩ := S.freeze h
  obtain ⟨y, py, ry⟩ := hr _ _ rp
  exact ⟨.ref a, h1, q4 (.ref a) σ _ H (Γ.set i (.d (cList c) xs)) y py ry ⟨S', bxKeep_set nb, Ex.new h3⟩⟩
/-- from here on x stays as it is -/
theorem hs_freeze {i : Nat} {xs : List α} (h : Γ[i]? = some (.l c xs)) (nb : NoBx Γ i) (hs : HS t (Γ.set i (.d (cList c) xs)) k p) : HS t Γ k p := fun O n σ Hf H hn S D q1 q2 q3 q4 => by
  obtain ⟨a, vs, h1, h2, h3, _, _, rp, S'⟩ := S.freeze h
  have bk := bxKeep_set (s := .d (cList c) xs) nb
  exact hs O n σ _ H hn S' D (fun _ _ _ _ a f => q1 _ _ _ _ a ⟨f.sat, bk.trans f.bx, (Ex.new h3).trans f.ex⟩) (fun _ _ _ _ a f => q2 _ _ _ _ a ⟨f.sat, bk.trans f.bx, (Ex.new h3).trans f.ex⟩)
    (fun _ _ _ _ a f => q3 _ _ _ _ a ⟨f.sat, bk.trans f.bx, (Ex.new h3).trans f.ex⟩) fun _ _ _ _ _ _ a r f => q4 _ _ _ _ _ _ a r ⟨f.sat, bk.trans f.bx, (Ex.new h3).trans f.ex⟩
theorem hs_set {i : Nat} (h : TD te Γ k c P) (nb : NoBx Γ i) (hp : ∀ x, P x → p.N (Γ.set i (.d c x))) : HS (tAsg te (gName i)) Γ k p := fun O n σ Hf H hn S D q1 _ _ _ =>
  h O n σ Hf H hn S _ fun v Hf' H' x px r f s => q1 _ Hf' H' _ (hp x px) ⟨s.set r, bxKeep_set nb, f.ex⟩
theorem hs_drop (h : TD te Γ k c P) (hp : p.N Γ) : HS (tDrop te) Γ k p := fun O n σ Hf H hn S D q1 _ _ _ =>
  h O n σ Hf H hn S _ fun v Hf' H' x px r f s => q1 _ Hf' H' _ hp ⟨s, .refl, f.ex⟩
end
end DL

set_option Elab.async false
set_option linter.all false
set_option maxRecDepth 100000
set_option maxHeartbeats 2000000
namespace DL
open PySem PySem.Spec L2
/-! ### what is walked -/
structure Walks {α : Type} (J : It) (Hf : Hp) (c : Cod α) (xs : List α) : Prop where
  go : ∀ (Hf' H' : Hp) (i : Nat), Ex Hf Hf' → Ex Hf' H' → i < xs.length → J.go i H'
  stop : ∀ (Hf' H' : Hp), Ex Hf Hf' → Ex Hf' H' → J.stop xs.length H'
  yld : ∀ (Hf' H' : Hp) (i : Nat) (v : V) (H1 : Hp) (x : α), Ex Hf Hf' → Ex Hf' H' → J.yld i H' v H1 → xs[i]? = some x → ∃ Hf1, c.rep Hf1 v x ∧ Fr (fun _ => False) Hf' H' Hf1 H1 ∧ Ex Hf1 H1
def TW {α : Type} (wi : TI) (Γ : Ctxt) (k : Nat) (c : Cod α) (X : List α → Prop) : Prop :=
  ∀ (O : Org) (n : Nat) (σ : Stt) (Hf H : Hp), n + k ≤ LIM → Sat O Hf H σ Γ n → ∀ R : It → Hp → Prop,
    (∀ J Hf' H' xs, X xs → Walks J Hf' c xs → xs.length ≤ LB → Fr (Bx Γ) Hf H Hf' H' → Sat O Hf' H' σ Γ (n + k) → R J H') → wi σ H R
/-- a target takes a value -/
def GD {α : Type} (g : TG) (c : Cod α) (x : α) (Γ Γ' : Ctxt) (is : List Nat) : Prop :=
  BxKeep Γ Γ' ∧ (∀ a, Bx Γ' a → Bx Γ a) ∧ ∀ (O : Org) (n : Nat) (σ : Stt) (Hf H : Hp) (v : V), c.rep Hf v x → Sat O Hf H σ Γ n → ∀ Q : Stt → Hp → Prop,
    (∀ σ', Sat O Hf H σ' Γ' n → (∀ vs : List Nat, (∀ i ∈ is, i ∈ vs) → wipe σ' vs = wipe σ vs) → Q σ' H) → g v σ H Q
theorem wipe_in {σ : Stt} {j : Nat} : ∀ {vs : List Nat}, j ∈ vs → (wipe σ vs)[j]? = if j < σ.length then some none else none
  | [], h => nomatch h
  | w :: ws, h => by
    unfold wipe
    by_cases e : w = j
    · subst e
      by_cases hl : w < σ.length
      · rw [List.getElem?_set_self (by rw [wipe_length]; exact hl), if_pos hl]
      · rw [if_neg hl, List.getElem?_eq_none (by rw [List.length_set, wipe_length]; omega)]
    · rw [List.getElem?_set_ne e]
      exact wipe_in (List.mem_of_ne_of_mem (Ne.symm e) h)
theorem wipe_set {σ : Stt} {i : Nat} {v : Option V} {vs : List Nat} (h : i ∈ vs) : wipe (σ.set i v) vs = wipe σ vs := by
  apply List.ext_getElem?
  intro j
  by_cases hj : j ∈ vs
  · rw [wipe_in hj, wipe_in hj, List.length_set]
  · rw [wipe_out hj, wipe_out hj, List.getElem?_set_ne (fun e => hj (by rw [← e]; exact h))]
theorem boxLt {Γ : Ctxt} {i : Nat} {c : Type} {d : Cod c} {x : c} {a : Addr} (h : Bx (Γ.set i (.d d x)) a) : Bx Γ a := by
  obtain ⟨j, h⟩ := h
  rcases sget h with ⟨_, z⟩ | ⟨_, z⟩
  · cases z
  · exact ⟨j, z⟩
section
variable {Γ Γ1 Γ2 Γ3 : Ctxt} {k k1 k2 k3 kk : Nat} {α β γ ρ : Type} {c : Cod α} {c' : Cod β} {c1 : Cod α} {c2 : Cod β} {c3 : Cod γ} {P : α → Prop} {te : TE} {tt : TT} {t u : TS} {p : Po ρ} {N N' : Ctxt → Prop} {ta : TA} {wi : TI} {g g1 g2 g3 : TG}
theorem gd_name {i : Nat} {x : α} (nb : NoBx Γ i) : GD (gName i) c x Γ (Γ.set i (.d c x)) [i] :=
  ⟨bxKeep_set nb, fun a h => boxLt h, fun O n σ Hf H v r S Q q => q _ (S.set r) fun vs hi => wipe_set (hi i (by simp))⟩
theorem gd_t2 {K : PySem.W.Frag} {x : α × β} {is js : List Nat} (h1 : GD g1 c1 x.1 Γ Γ1 is) (h2 : GD g2 c2 x.2 Γ1 Γ2 js) : GD (gTup K 2 (gCons g1 (gCons g2 gNil))) (cT2 c1 c2) x Γ Γ2 (is ++ js) := by
  obtain ⟨b1, d1, h1⟩ := h1
  obtain ⟨b2, d2, h2⟩ := h2
  refine ⟨b1.trans b2, fun a h => d1 a (d2 a h), fun O n σ Hf H v r S Q q => ?_⟩
  obtain ⟨a, u, w, e1, e2, r1, r2⟩ := r
  refine ⟨a, [u, w], e1, SqT.of (S.ex _ _ e2), rfl, u, [w], rfl, h1 O n σ Hf H u r1 S _ fun σ1 S1 w1 => ⟨w, [], rfl, h2 O n σ1 Hf H w r2 S1 _ fun σ2 S2 w2 => ⟨rfl, q σ2 S2 fun vs hi => ?_⟩⟩⟩
  rw [w2 vs fun i m => hi i (List.mem_append_right _ m), w1 vs fun i m => hi i (List.mem_append_left _ m)]
theorem gd_t3 {K : PySem.W.Frag} {x : α × β × γ} {is js ls : List Nat} (h1 : GD g1 c1 x.1 Γ Γ1 is) (h2 : GD g2 c2 x.2.1 Γ1 Γ2 js) (h3 : GD g3 c3 x.2.2 Γ2 Γ3 ls) : GD (gTup K 3 (gCons g1 (gCons g2 (gCons g3 gNil)))) (cT3 c1 c2 c3) x Γ Γ3 (is ++ js ++ ls) := by
  obtain ⟨b1, d1, h1⟩ := h1
  obtain ⟨b2, d2, h2⟩ := h2
  obtain ⟨b3, d3, h3⟩ := h3
  refine ⟨(b1.trans b2).trans b3, fun a h => d1 a (d2 a (d3 a h)), fun O n σ Hf H v r S Q q => ?_⟩
  obtain ⟨a, u, w, y, e1, e2, r1, r2, r3⟩ := r
  refine ⟨a, [u, w, y], e1, SqT.of (S.ex _ _ e2), rfl, u, [w, y], rfl, h1 O n σ Hf H u r1 S _ fun σ1 S1 w1 => ⟨w, [y], rfl, h2 O n σ1 Hf H w r2 S1 _ fun σ2 S2 w2 => ⟨y, [], rfl, h3 O n σ2 Hf H y r3 S2 _ fun σ3 S3 w3 => ⟨rfl, q σ3 S3 fun vs hi => ?_⟩⟩⟩⟩
  rw [w3 vs fun i m => hi i (List.mem_append_right _ m), w2 vs fun i m => hi i (List.mem_append_left _ (List.mem_append_right _ m)), w1 vs fun i m => hi i (List.mem_append_left _ (List.mem_append_left _ m))]
/-! ### the walked things -/
theorem paired_get {F : V → α → Prop} : ∀ {vs : List V} {xs : List α} {i : Nat} {v : V} {x : α}, Paired F vs xs → vs[i]? = some v → xs[i]? = some x → F v x
  | _, _, i, v, x, .nil, h, _ => by simp at h
  | _, _, 0, v, x, .cons r _, h1, h2 => by simp at h1 h2; subst h1 h2; exact r
  | _, _, i + 1, v, x, .cons _ t, h1, h2 => paired_get (i := i) t (by simpa using h1) (by simpa using h2)
theorem tw_list {K : PySem.W.Frag} {X : List α → Prop} (h : TD te Γ k (cList c) X) : TW (iList K te) Γ k c X := fun O n σ Hf H hn S R q =>
  h O n σ Hf H hn S _ fun v Hf' H' xs px ⟨a, vs, e, ha, pr, lb⟩ f s => by
    have hl := paired_len pr
    refine ⟨a, e, ⟨vs, SqL.of (s.ex _ _ ha)⟩, q _ Hf' H' xs px ⟨fun Hf2 H2 i e1 e2 hi => ?_, fun Hf2 H2 e1 e2 => ⟨vs, SqL.of (e2 _ _ (e1 _ _ ha)), by omega⟩, fun Hf2 H2 i w H1 x e1 e2 hy hx => ?_⟩ (by omega) f s⟩
    · exact ⟨vs, vs[i]'(by omega), SqL.of (e2 _ _ (e1 _ _ ha)), List.getElem?_eq_getElem (by omega)⟩
    · obtain ⟨rfl, hy⟩ := hy
      exact ⟨Hf2, c.mono e1 (paired_get pr (hy vs (SqL.of (e2 _ _ (e1 _ _ ha)))) hx), Fr.refl, e2⟩
theorem tw_tup {K : PySem.W.Frag} {X : List α → Prop} (h : TD te Γ k (cTup c) X) : TW (iTup K te) Γ k c X := fun O n σ Hf H hn S R q =>
  h O n σ Hf H hn S _ fun v Hf' H' xs px ⟨a, vs, e, ha, pr, lb⟩ f s => by
    have hl := paired_len pr
    refine ⟨a, e, ⟨vs, SqT.of (s.ex _ _ ha)⟩, q _ Hf' H' xs px ⟨fun Hf2 H2 i e1 e2 hi => ?_, fun Hf2 H2 e1 e2 => ⟨vs, SqT.of (e2 _ _ (e1 _ _ ha)), by omega⟩, fun Hf2 H2 i w H1 x e1 e2 hy hx => ?_⟩ (by omega) f s⟩
    · exact ⟨vs, vs[i]'(by omega), SqT.of (e2 _ _ (e1 _ _ ha)), List.getElem?_eq_getElem (by omega)⟩
    · obtain ⟨rfl, hy⟩ := hy
      exact ⟨Hf2, c.mono e1 (paired_get pr (hy vs (SqT.of (e2 _ _ (e1 _ _ ha)))) hx), Fr.refl, e2⟩
/-- the numbers lo, lo + 1, .. -/
def rangeL (lo : Int) (n : Nat) : List Int := (List.range n).map fun (i : Nat) => lo + (i : Int)
theorem rangeL_len {lo : Int} {n : Nat} : (rangeL lo n).length = n := by unfold rangeL; rw [List.length_map, List.length_range]
theorem rangeL_get {lo : Int} {n i : Nat} {x : Int} (h : (rangeL lo n)[i]? = some x) : x = lo + (i : Int) := by
  unfold rangeL at h
  rw [List.getElem?_map] at h
  cases e : (List.range n)[i]? with
  | none => rw [e] at h; cases h
  | some j =>
    rw [e] at h
    have : j = i := by
      rw [List.getElem?_eq_some_iff] at e
      obtain ⟨h1, h2⟩ := e
      rw [List.getElem_range] at h2
      exact h2.symm
    subst this
    exact (Option.some.inj h).symm
theorem walks_r {Hf : Hp} {lo : Int} {n : Nat} : Walks (Itr lo n) Hf cInt (rangeL lo n) where
  go := fun _ _ i _ _ h => by rw [rangeL_len] at h; exact h
  stop := fun _ _ _ _ => by rw [rangeL_len]; exact Nat.le_refl n
  yld := fun Hf' H' i v H1 x e1 e2 hy hx => by
    obtain ⟨rfl, rfl⟩ := hy
    exact ⟨Hf', by rw [rangeL_get hx]; rfl, Fr.refl, e2⟩
theorem tw_range1 {B : Ctxt → Prop} {X : List Int → Prop} (h : TDA ta Γ k B) (hi : ∀ as, B as → ∃ j : Int, as = [.d cInt j] ∧ -4611686018427387904 ≤ j ∧ j ≤ 1000000 ∧ X (rangeL 0 j.toNat)) : TW (iRng1 ta) Γ k cInt X := fun O n σ Hf H hn S R q =>
  h O n σ Hf H hn S _ fun vs Hf' H' as b o _ f s => by
    obtain ⟨j, rfl, l1, l2, x⟩ := hi as b
    cases vs with
    | nil => exact o.elim
    | cons v vs =>
      cases vs with
      | cons _ _ => exact o.2.elim
      | nil =>
        obtain ⟨h1, _⟩ := o
        obtain rfl : v = .int j := h1
        exact ⟨j, rfl, by omega, by omega, q _ Hf' H' _ x walks_r (by rw [rangeL_len]; unfold LB; omega) f s⟩
theorem tw_range2 {B : Ctxt → Prop} {X : List Int → Prop} (h : TDA ta Γ k B) (hi : ∀ as, B as → ∃ i j : Int, as = [.d cInt i, .d cInt j] ∧ -1000000000 ≤ i ∧ i ≤ 1000000000 ∧ -1000000000 ≤ j ∧ j ≤ 1000000000 ∧ j - i ≤ 1000000 ∧ X (rangeL i (j - i).toNat)) : TW (iRng2 ta) Γ k cInt X := fun O n σ Hf H hn S R q =>
  h O n σ Hf H hn S _ fun vs Hf' H' as b o _ f s => by
    obtain ⟨i, j, rfl, l1, l2, l3, l4, l5, x⟩ := hi as b
    match vs, o with
    | [v, w], o =>
      obtain ⟨h1, h2, _⟩ := o
      obtain rfl : v = .int i := h1
      obtain rfl : w = .int j := h2
      exact ⟨i, j, rfl, ⟨by omega, by omega, by omega, by omega⟩, q _ Hf' H' _ x walks_r (by rw [rangeL_len]; unfold LB; omega) f s⟩
/-! ### for -/
theorem take_snoc {l : List α} {i : Nat} {x : α} (h : l[i]? = some x) : l.take (i + 1) = l.take i ++ [x] := by rw [List.take_add_one, h]; rfl
theorem split_at {l : List α} {i : Nat} {x : α} (h : l[i]? = some x) : l = l.take i ++ x :: l.drop (i + 1) := by
  obtain ⟨h1, h2⟩ := List.getElem?_eq_some_iff.mp h
  subst h2
  rw [← List.drop_eq_getElem_cons h1, List.take_append_drop]
theorem hs_for {X : List α → Prop} {kn : Nat} (I : List α → List α → Ctxt → Prop) (hw : TW wi Γ k c X) (h0 : ∀ xs, X xs → I xs [] Γ) (hk : ∀ xs, X xs → xs.length * kk ≤ kn)
    (hs : ∀ xs, X xs → ∀ pre x post Γ1, xs = pre ++ x :: post → I xs pre Γ1 → ∃ Γ2 is, GD g c x Γ1 Γ2 is ∧ HS t Γ2 kk { N := I xs (pre ++ [x]), ct := I xs (pre ++ [x]), bk := p.N, c := p.c, R := p.R })
    (hd : ∀ xs Γ1, X xs → I xs xs Γ1 → p.N Γ1) : HS (tFor wi g t) Γ (k + kn) p := fun O n σ Hf H hn S D q1 q2 q3 q4 =>
  hw O n σ Hf H (by omega) S _ fun J Hf1 H1 xs px W lb f1 S1 => by
    have hk' := hk xs px
    have kle : ∀ i, i ≤ xs.length → i * kk ≤ kn := fun i hi => Nat.le_trans (Nat.mul_le_mul_right kk hi) hk'
    refine ⟨fun i m σ' H' => m = xs.length - i ∧ i ≤ xs.length ∧ ∃ Γ1 Hfi, I xs (xs.take i) Γ1 ∧ Fin O Γ Hf1 Hfi H' σ' Γ1 (n + k + i * kk),
      ⟨xs.length, by simp, Nat.zero_le _, Γ, Hf1, by rw [List.take_zero]; exact h0 xs px, by rw [Nat.zero_mul]; exact S1, .refl, Ex.rfl'⟩, ?_⟩
    rintro i m σ' H' ⟨rfl, hi, Γ1, Hfi, hI, F⟩
    have hki := kle i hi
    by_cases hlt : i < xs.length
    · have hx : xs[i]? = some xs[i] := List.getElem?_eq_getElem hlt
      have hki1 := kle (i + 1) hlt
      rw [Nat.succ_mul] at hki1
      refine .inr ⟨W.go Hfi H' i F.ex F.sat.ex hlt, fun σ2 H2 => ∃ Γ2 Hf2, I xs (xs.take (i + 1)) Γ2 ∧ Fin O Γ Hf1 Hf2 H2 σ2 Γ2 (n + k + (i + 1) * kk), fun σ2 H2 ⟨Γ2, Hf2, a, b⟩ => ⟨xs.length - (i + 1), by omega, rfl, hlt, Γ2, Hf2, a, b⟩, fun v H2 hy => ?_⟩
      obtain ⟨Hf2, rx, fy, ey⟩ := W.yld Hfi H' i v H2 _ F.ex F.sat.ex hy hx
      have S2 : Sat O Hf2 H2 σ' Γ1 (n + k + i * kk) := F.sat.grow0 fy ey
      obtain ⟨Γ2, is, gd, hb⟩ := hs xs px (xs.take i) xs[i] (xs.drop (i + 1)) Γ1 (split_at hx) hI
      have en : n + k + i * kk + kk = n + k + (i + 1) * kk := by rw [Nat.succ_mul]; omega
      refine gd.2.2 O _ σ' Hf2 H2 v rx S2 _ fun σ3 S3 _ => ?_
      have up : ∀ {σ4 : Stt} {Hf4 H4 : Hp} {Γ4 : Ctxt}, Fin O Γ2 Hf2 Hf4 H4 σ4 Γ4 (n + k + i * kk + kk) → Fin O Γ Hf1 Hf4 H4 σ4 Γ4 (n + k + (i + 1) * kk) := fun {σ4 Hf4 H4 Γ4} f => ⟨by rw [← en]; exact f.sat, (F.bx.trans gd.1).trans f.bx, (F.ex.trans fy.ex).trans f.ex⟩
      have up2 : ∀ {σ4 : Stt} {Hf4 H4 : Hp} {Γ4 : Ctxt}, Fin O Γ2 Hf2 Hf4 H4 σ4 Γ4 (n + k + i * kk + kk) → Fin O Γ Hf Hf4 H4 σ4 Γ4 (n + (k + kn)) := fun {σ4 Hf4 H4 Γ4} f => ⟨(up f).sat.le (by rw [Nat.succ_mul]; omega), (up f).bx, f1.ex.trans (up f).ex⟩
      refine hb O _ σ3 Hf2 H2 (by omega) S3 _ (fun σ4 Hf4 H4 Γ4 a f => ⟨Γ4, Hf4, by rw [take_snoc hx]; exact a, up f⟩) (fun σ4 Hf4 H4 Γ4 a f => q1 σ4 Hf4 H4 Γ4 a (up2 f)) (fun σ4 Hf4 H4 Γ4 a f => ⟨Γ4, Hf4, by rw [take_snoc hx]; exact a, up f⟩) (fun v4 σ4 Hf4 H4 Γ4 y a r f => q4 v4 σ4 Hf4 H4 Γ4 y a r (up2 f))
    · have e : i = xs.length := by omega
      subst e
      rw [List.take_length] at hI
      exact .inl ⟨W.stop Hfi H' F.ex F.sat.ex, q1 σ' Hfi H' Γ1 (hd xs Γ1 px hI) ⟨F.sat.le (by omega), F.bx, f1.ex.trans F.ex⟩⟩
end
end DL

set_option Elab.async false
set_option linter.all false
set_option maxRecDepth 100000
set_option maxHeartbeats 2000000
namespace DL
open PySem PySem.Spec L2
/-- a new list that nobody else has -/
def TDF {α : Type} (te : TE) (Γ : Ctxt) (k : Nat) (c : Cod α) (P : List α → Prop) : Prop :=
  ∀ (O : Org) (n : Nat) (σ : Stt) (Hf H : Hp), n + k ≤ LIM → Sat O Hf H σ Γ n → ∀ Q : VK,
    (∀ a vs Hf' H' xs, P xs → H' a = some (.lst vs) → Hf' a = none → H a = none → Paired (c.rep Hf') vs xs → vs.length ≤ LB → Fr (Bx Γ) Hf H Hf' H' → Sat O Hf' H' σ Γ (n + k) → Q (.ref a) H') → te σ H Q
section
variable {Γ Γ1 Γ2 Γ3 : Ctxt} {k k1 k2 k3 kk kt ke : Nat} {α β γ ρ : Type} {c : Cod α} {c' : Cod β} {c1 : Cod α} {c2 : Cod β} {c3 : Cod γ} {P : α → Prop} {te to : TE} {tt : TT} {t u : TS} {p : Po ρ} {N N' : Ctxt → Prop} {ta tx : TA} {wi : TI} {g g1 g2 g3 : TG}
variable {O : Org} {Hf H Hf' H' : Hp} {σ : Stt} {n m : Nat}
/-- an object of one's own becomes one that stays -/
theorem Fr.fix {M : Addr → Prop} {Hf H Hf' H' : Hp} {a : Addr} {o : HO} (f : Fr M Hf H Hf' H') (h0 : H a = none) (h1 : Hf' a = none) (h2 : H' a = some o) : Fr M Hf H (upd Hf' a o) H' where
  ex := f.ex.trans (Ex.new h1)
  keep := f.keep
  fz := fun b u e nm z => by rw [upd_ne (ne_of_none e h0)]; exact f.fz b u e nm z
  dom := f.dom
theorem Ex.fix {Hf H : Hp} {a : Addr} {o : HO} (e : Ex Hf H) (h : H a = some o) : Ex (upd Hf a o) H := fun b u q => by
  by_cases z : b = a
  · subst z; rw [upd_same] at q; cases q; exact h
  · rw [upd_ne z] at q; exact e b u q
theorem TDF.td {R : List α → Prop} (h : TDF te Γ k c R) : TD te Γ k (cList c) R := fun O n σ Hf H hn S Q q =>
  h O n σ Hf H hn S Q fun a vs Hf' H' xs p1 h1 h2 h3 pr lb f s => by
    have e1 : Ex Hf' (upd Hf' a (.lst vs)) := Ex.new h2
    refine q _ (upd Hf' a (.lst vs)) H' xs p1 ⟨a, vs, rfl, upd_same, paired_mono pr (fun _ _ z => c.mono e1 z), lb⟩ (f.fix h3 h2 h1) ?_
    have fr := f.fix h3 h2 h1
    refine S.grow fr (s.ex.fix h1) fun b hb => ?_
    obtain ⟨i, hi⟩ := hb
    obtain ⟨g1, g2, g3⟩ := s.at_ i _ hi
    refine ⟨?_, g3⟩
    have nb : b ≠ a := fun z => by
      subst z
      obtain ⟨_, _, z3⟩ := S.at_ i _ hi
      obtain ⟨_, _, _, _, z4, _⟩ := z3
      rw [h3] at z4; cases z4
    rw [upd_ne nb]; exact g2
theorem TDF.imp {R R' : List α → Prop} (h : TDF te Γ k c R) (hp : ∀ x, R x → R' x) : TDF te Γ k c R' := fun O n σ Hf H hn S Q q => h O n σ Hf H hn S Q fun a vs Hf' H' xs p1 => q a vs Hf' H' xs (hp xs p1)
theorem TDF.le {R : List α → Prop} (h : TDF te Γ k c R) (l : k ≤ k2) : TDF te Γ k2 c R := fun O n σ Hf H hn S Q q => h O n σ Hf H (by omega) S Q fun a vs Hf' H' xs p1 h1 h2 h3 h4 h5 f s => q a vs Hf' H' xs p1 h1 h2 h3 h4 h5 f (s.le (by omega))
theorem tdf_lst {B : Ctxt → Prop} {R : List α → Prop} (h : TDA tx Γ k B) (hi : ∀ as, B as → ∃ xs : List α, as = xs.map (fun x => Sl.d c x) ∧ xs.length ≤ 1000 ∧ R xs) : TDF (tLst tx) Γ k c R := fun O n σ Hf H hn S Q q =>
  h O n σ Hf H hn S _ fun vs Hf1 H1 as b o _ f1 S1 => by
    obtain ⟨xs, e, l, r⟩ := hi as b
    subst e
    have pr := args_items o
    refine ⟨by rw [paired_len pr]; exact Nat.le_trans l (by decide), fun p hp => ?_⟩
    exact q p vs Hf1 (upd H1 p (.lst vs)) xs r upd_same (S1.ex.back hp) (f1.dom p hp) pr (by rw [paired_len pr]; exact Nat.le_trans l (by decide))
      (f1.trans (Fr.newO (M := Bx Γ) hp) fun _ z => .inl z) (S1.grow0 (Fr.newO hp) (S1.ex.trans (Ex.new hp)))
/-! ### comprehensions -/
theorem bx_wipe {vs : List Nat} (h : ∀ i ∈ vs, NoBx Γ i) {a : Addr} : Bx (wipeC Γ vs) a ↔ Bx Γ a := by
  induction vs with
  | nil => exact Iff.rfl
  | cons v vs ih =>
    have ih := ih fun i hi => h i (List.mem_cons_of_mem _ hi)
    have hv := h v List.mem_cons_self
    rw [← ih]
    constructor
    · rintro ⟨j, hj⟩
      unfold wipeC at hj
      rcases sget hj with ⟨_, z⟩ | ⟨_, z⟩
      · cases z
      · exact ⟨j, z⟩
    · rintro ⟨j, hj⟩
      refine ⟨j, ?_⟩
      have ne : v ≠ j := fun z => by
        subst z
        have hj' := hj
        rcases wipe_at (σ := ([] : Stt)) hj' with w | ⟨w, _⟩
        · cases w
        · unfold NoBx at hv; rw [w] at hv; exact hv
      unfold wipeC
      rw [List.getElem?_set_ne ne]; exact hj
theorem wipeC_keep {vs : List Nat} (h : ∀ i ∈ vs, NoBx Γ i) : BxKeep Γ (wipeC Γ vs) := by
  induction vs with
  | nil => exact .refl
  | cons v vs ih =>
    have ih := ih fun i hi => h i (List.mem_cons_of_mem _ hi)
    intro j a hj
    have hv := h v List.mem_cons_self
    have ne : v ≠ j := fun z => by subst z; unfold NoBx at hv; rw [hj] at hv; exact hv
    unfold wipeC
    rw [List.getElem?_set_ne ne]; exact ih j a hj
theorem wipe_wipe {vs : List Nat} : wipe (wipe σ vs) vs = wipe σ vs := by
  apply List.ext_getElem?
  intro j
  by_cases hj : j ∈ vs
  · rw [wipe_in hj, wipe_in hj, wipe_length]
  · rw [wipe_out hj]
theorem tdf_lc {vs : List Nat} {X : List α → Prop} {kn : Nat} (I : List α → List α → List β → Prop) (hw : TW wi Γ k c X) (hv : ∀ i ∈ vs, NoBx Γ i) (h0 : ∀ xs, X xs → I xs [] []) (hk : ∀ xs, X xs → xs.length * (kt + ke) ≤ kn)
    (hs : ∀ xs, X xs → ∀ pre x post ys, xs = pre ++ x :: post → I xs pre ys → ∃ Γ1 is Pt, GD g c x (wipeC Γ vs) Γ1 is ∧ (∀ i ∈ is, i ∈ vs) ∧ TDT tt Γ1 kt Pt ∧
      (Pt true → TD te Γ1 ke c' fun y => I xs (pre ++ [x]) (ys ++ [y])) ∧ (Pt false → I xs (pre ++ [x]) ys)) :
    TDF (tLc wi g tt te vs) Γ (k + kn) c' (fun ys => ∃ xs, X xs ∧ I xs xs ys) := fun O n σ Hf H hn S Q q =>
  hw O n σ Hf H (by omega) S _ fun J Hf1 H1 xs px W lb f1 S1 D hD => by
    have hk' := hk xs px
    have kle : ∀ i, i ≤ xs.length → i * (kt + ke) ≤ kn := fun i hi => Nat.le_trans (Nat.mul_le_mul_right _ hi) hk'
    have hbx : ∀ a, Bx Γ a → a ≠ D := fun a ⟨i, hi⟩ z => by
      subst z
      obtain ⟨_, _, _, _, _, _, e, _⟩ := S1.at_ i _ hi
      rw [hD] at e; cases e
    have bx0 : ∀ a, Bx Γ a → Hf1 a = none ∧ BoxAt H1 a (n + k) := fun a ⟨i, hi⟩ => (S1.at_ i _ hi).2
    refine ⟨fun i m H' => m = xs.length - i ∧ i ≤ xs.length ∧ ∃ Hfi ys acc, I xs (xs.take i) ys ∧ Paired (c'.rep Hfi) acc ys ∧ acc.length ≤ i ∧ H' D = some (.lst acc) ∧ Hfi D = none ∧ Ex Hfi H' ∧ Fr (Bx Γ) Hf1 H1 Hfi H' ∧
        ∀ a, Bx Γ a → Hfi a = none ∧ BoxAt H' a (n + k + i * (kt + ke)),
      ⟨xs.length, by simp, Nat.zero_le _, Hf1, [], [], by rw [List.take_zero]; exact h0 xs px, .nil, Nat.le_refl _, upd_same, S1.ex.back hD, S1.ex.trans (Ex.new hD), Fr.newO hD, fun a ha => ⟨(bx0 a ha).1, by
        rw [Nat.zero_mul]; exact boxAt_ex (bx0 a ha).2 fun o e => by rw [upd_ne (hbx a ha)]; exact e⟩⟩, ?_⟩
    rintro i m H' ⟨rfl, hi, Hfi, ys, acc, hI, pr, al, hDi, hfD, ex, fr, hb⟩
    have Si : Sat O Hfi H' (wipe σ vs) (wipeC Γ vs) (n + k + i * (kt + ke)) := (S1.grow fr ex hb).wipe vs
    by_cases hlt : i < xs.length
    · have hx : xs[i]? = some xs[i] := List.getElem?_eq_getElem hlt
      have hki1 := kle (i + 1) hlt
      have en : n + k + i * (kt + ke) + (kt + ke) = n + k + (i + 1) * (kt + ke) := by rw [Nat.succ_mul]; omega
      refine .inr ⟨W.go Hfi H' i fr.ex ex hlt, fun H2 => ∃ Hfi ys acc, I xs (xs.take (i + 1)) ys ∧ Paired (c'.rep Hfi) acc ys ∧ acc.length ≤ i + 1 ∧ H2 D = some (.lst acc) ∧ Hfi D = none ∧ Ex Hfi H2 ∧ Fr (Bx Γ) Hf1 H1 Hfi H2 ∧
        ∀ a, Bx Γ a → Hfi a = none ∧ BoxAt H2 a (n + k + (i + 1) * (kt + ke)), fun H2 h2 => ⟨xs.length - (i + 1), by omega, rfl, hlt, h2⟩, fun v H2 hy => ?_⟩
      obtain ⟨Hf2, rx, fy, ey⟩ := W.yld Hfi H' i v H2 _ fr.ex ex hy hx
      have S2 : Sat O Hf2 H2 (wipe σ vs) (wipeC Γ vs) (n + k + i * (kt + ke)) := Si.grow0 fy ey
      obtain ⟨Γ1, is, Pt, gd, hin, ht, hT, hF⟩ := hs xs px (xs.take i) xs[i] (xs.drop (i + 1)) ys (split_at hx) hI
      have bx1 : ∀ a, Bx Γ1 a → Bx Γ a := fun a h => (bx_wipe hv).mp (gd.2.1 a h)
      have bx2 : ∀ a, Bx Γ a → Bx Γ1 a := fun a h => by
        obtain ⟨j, hj⟩ := (bx_wipe hv).mpr h
        exact ⟨j, gd.1 j a hj⟩
      have hD2 : H2 D = some (.lst acc) := fy.keep _ _ hDi id
      have hfD2 : Hf2 D = none := fy.fz _ _ hDi id hfD
      refine gd.2.2 O _ _ Hf2 H2 v rx S2 _ fun σ3 S3 w3 => ⟨(w3 vs hin).trans wipe_wipe, ?_⟩
      refine ht O _ σ3 Hf2 H2 (by omega) S3 _ fun b Hf3 H3 pb f3 S3' => ?_
      have nD1 : ¬ Bx Γ1 D := fun z => hbx D (bx1 D z) rfl
      have hD3 : H3 D = some (.lst acc) := f3.keep _ _ hD2 nD1
      have hfD3 : Hf3 D = none := f3.fz _ _ hD2 nD1 hfD2
      have F3 : Fr (Bx Γ) Hf1 H1 Hf3 H3 := (fr.trans fy fun _ z => z.elim).trans f3 fun a z => .inl (bx1 a z)
      cases b with
      | true =>
        rw [if_pos rfl]
        refine hT pb O _ σ3 Hf3 H3 (by omega) S3' _ fun y Hf4 H4 yx py ry f4 S4 => ?_
        have hD4 : H4 D = some (.lst acc) := f4.keep _ _ hD3 nD1
        have hfD4 : Hf4 D = none := f4.fz _ _ hD3 nD1 hfD3
        have F4 : Fr (Bx Γ) Hf1 H1 Hf4 H4 := F3.trans f4 fun a z => .inl (bx1 a z)
        refine ⟨acc, hD4, lb_lt (Nat.le_trans al (Nat.le_trans hi lb)), Hf4, ys ++ [yx], acc ++ [y], by rw [take_snoc hx]; exact py, ?_, by rw [List.length_append, List.length_singleton]; omega, upd_same, hfD4, S4.ex.mut hfD4, ?_, fun a ha => ?_⟩
        · have e4 : Ex Hfi Hf4 := (fy.ex.trans f3.ex).trans f4.ex
          exact Paired.snoc (paired_mono pr fun _ _ z => c'.mono e4 z) ry
        · refine ⟨F4.ex, fun a o e nm => ?_, F4.fz, fun a e => ?_⟩
          · rw [upd_ne (ne_of_none e hD)]; exact F4.keep a o e nm
          · by_cases z : a = D
            · subst z; exact hD
            · rw [upd_ne z] at e; exact F4.dom a e
        · obtain ⟨j, hj⟩ := bx2 a ha
          obtain ⟨_, z1, z2⟩ := S4.at_ j _ hj
          exact ⟨z1, by rw [← en, show n + k + i * (kt + ke) + (kt + ke) = n + k + i * (kt + ke) + kt + ke by omega]; exact boxAt_ex z2 fun o e => by rw [upd_ne (hbx a ha)]; exact e⟩
      | false =>
        rw [if_neg Bool.false_ne_true]
        refine ⟨Hf3, ys, acc, by rw [take_snoc hx]; exact hF pb, paired_mono pr fun _ _ z => c'.mono (fy.ex.trans f3.ex) z, by omega, hD3, hfD3, S3'.ex, F3, fun a ha => ?_⟩
        obtain ⟨j, hj⟩ := bx2 a ha
        obtain ⟨_, z1, z2⟩ := S3'.at_ j _ hj
        exact ⟨z1, boxAt_le z2 (by rw [← en]; omega)⟩
    · have e : i = xs.length := by omega
      subst e
      rw [List.take_length] at hI
      have hkl := kle xs.length (Nat.le_refl _)
      exact .inl ⟨W.stop Hfi H' fr.ex ex, q D acc Hfi H' ys ⟨xs, px, hI⟩ hDi hfD (f1.dom D hD) pr (by omega) (f1.trans fr fun _ z => .inl z) ((S1.grow fr ex hb).le (by omega))⟩
def NoBxs (Γ : Ctxt) : List Nat → Prop
  | [] => True
  | i :: is => match Γ[i]? with
    | some (.bx _) => False
    | _ => NoBxs Γ is
theorem noBxs_mem : ∀ {vs : List Nat}, NoBxs Γ vs → ∀ i ∈ vs, NoBx Γ i
  | [], _, _, h => nomatch h
  | v :: vs, h, i, hi => by
    have hv : NoBx Γ v ∧ NoBxs Γ vs := by
      unfold NoBxs at h
      unfold NoBx
      split at h
      · exact h.elim
      · rename_i z
        refine ⟨?_, h⟩
        first
          | trivial
          | (split
             · rename_i a e; exact z a e
             · trivial)
    rcases List.mem_cons.mp hi with e | e
    · subst e; exact hv.1
    · exact noBxs_mem hv.2 i e
theorem Sat.forget (S : Sat O Hf H σ Γ n) (vs : List Nat) : Sat O Hf H σ (wipeC Γ vs) n :=
  S.weaken (by rw [wipeC_length]; exact S.len) fun i s h => (wipe_at (σ := σ) h).imp id fun q => ⟨q.1, rfl⟩
theorem Fin.forget {σ' : Stt} {Γ' : Ctxt} (f : Fin O Γ Hf Hf' H' σ' Γ' m) (vs : List Nat) (h : NoBxs Γ' vs) : Fin O Γ Hf Hf' H' σ' (wipeC Γ' vs) m := ⟨f.sat.forget vs, f.bx.trans (wipeC_keep (noBxs_mem h)), f.ex⟩
theorem HS.forget (vs : List Nat) (h : HS t Γ k { p with N := N }) (hp : ∀ Γ', N Γ' → NoBxs Γ' vs ∧ N' (wipeC Γ' vs)) : HS t Γ k { p with N := N' } := fun O n σ Hf H hn S D q1 q2 q3 q4 =>
  h O n σ Hf H hn S D (fun σ' Hf' H' Γ' a f => q1 σ' Hf' H' _ (hp Γ' a).2 (f.forget vs (hp Γ' a).1)) q2 q3 q4
theorem tt_yes : TDT tYes Γ 0 (· = true) := fun O n σ Hf H hn S Q q => q true Hf H rfl Fr.refl S
/-- [f x for x in xs if b x], nothing drawn -/
theorem tdf_lc' {vs : List Nat} {xs : List α} (f : α → β) (b : α → Bool) (hw : TW wi Γ k c (· = xs)) (hv : ∀ i ∈ vs, NoBx Γ i)
    (hs : ∀ x, x ∈ xs → ∃ Γ1 is, GD g c x (wipeC Γ vs) Γ1 is ∧ (∀ i ∈ is, i ∈ vs) ∧ TDT tt Γ1 0 (· = b x) ∧ (b x = true → TD te Γ1 0 c' (· = f x))) :
    TDF (tLc wi g tt te vs) Γ k c' (· = (xs.filter b).map f) :=
  ((tdf_lc (kt := 0) (ke := 0) (kn := 0) (fun _ pre ys => ys = (pre.filter b).map f) hw hv (fun _ _ => rfl) (fun xs _ => by simp) fun xs' e pre x post ys hxs hI => by
    subst e
    obtain ⟨Γ1, is, h1, h2, h3, h4⟩ := hs x (by rw [hxs]; simp)
    refine ⟨Γ1, is, _, h1, h2, h3, fun e => (h4 e.symm).imp fun y hy => ?_, fun e => ?_⟩
    · rw [hI, hy, List.filter_append, List.map_append]; congr 1; simp [← e]
    · rw [hI, List.filter_append, List.map_append]; simp [← e]).imp fun ys ⟨xs', e, h⟩ => by subst e; exact h).le (by omega)
theorem tdf_lcm {vs : List Nat} {xs : List α} (f : α → β) (hw : TW wi Γ k c (· = xs)) (hv : ∀ i ∈ vs, NoBx Γ i)
    (hs : ∀ x, x ∈ xs → ∃ Γ1 is, GD g c x (wipeC Γ vs) Γ1 is ∧ (∀ i ∈ is, i ∈ vs) ∧ TD te Γ1 0 c' (· = f x)) :
    TDF (tLc wi g tYes te vs) Γ k c' (· = xs.map f) :=
  (tdf_lc' f (fun _ => true) hw hv fun x hx => by
    obtain ⟨Γ1, is, h1, h2, h3⟩ := hs x hx
    exact ⟨Γ1, is, h1, h2, tt_yes, fun _ => h3⟩).imp fun ys e => by rw [e]; congr 1; simp
end
end DL

set_option Elab.async false
set_option linter.all false
set_option maxRecDepth 100000
set_option maxHeartbeats 2000000
namespace DL
open PySem PySem.Spec L2
section
variable {Γ Γ1 Γ2 Γ3 : Ctxt} {k k1 k2 k3 kk kt ke : Nat} {α β γ ρ : Type} {c : Cod α} {c' : Cod β} {c1 : Cod α} {c2 : Cod β} {c3 : Cod γ} {P : α → Prop} {te to ti : TE} {tt : TT} {t u : TS} {p : Po ρ} {N N' : Ctxt → Prop} {ta tx : TA} {wi : TI} {g g1 g2 g3 : TG}
variable {O : Org} {Hf H Hf' H' : Hp} {σ : Stt} {n m : Nat}
/-! ### lists of one's own -/
/-- a slot takes a new list that nobody else has -/
theorem Sat.setL (S : Sat O Hf H σ Γ n) {i : Nat} {c : Cod α} {xs : List α} {a : Addr} {vs : List V} (h1 : H a = some (.lst vs)) (h2 : Hf a = none) (pr : Paired (c.rep Hf) vs xs) (lb : vs.length ≤ LB)
    (h3 : ∀ (j : Nat) s, j ≠ i → Γ[j]? = some s → s.own = true → σ[j]? ≠ some (some (V.ref a))) (h4 : O.M a ∨ O.H a = none) : Sat O Hf H (σ.set i (some (.ref a))) (Γ.set i (.l c xs)) n where
  len := by rw [List.length_set, List.length_set]; exact S.len
  ex := S.ex
  at_ := fun j s h => by
    have lt : j < σ.length := by
      have := (List.getElem?_eq_some_iff.mp h).1
      rw [List.length_set] at this
      rw [S.len]; exact this
    rcases sget h with ⟨e, e2⟩ | ⟨e, hh⟩
    · subst e e2
      exact ⟨a, vs, List.getElem?_set_self lt, h1, h2, pr, lb⟩
    · rw [List.getElem?_set_ne (Ne.symm e)]
      exact S.at_ j s hh
  sep := fun j l sj sl b ne g1 g2 o1 o2 e => by
    rcases sget g1 with ⟨z, z2⟩ | ⟨n1, g1'⟩
    · subst z
      rcases sget g2 with ⟨w, _⟩ | ⟨n2, g2⟩
      · exact absurd w.symm ne
      have lt : j < σ.length := by
        have := (List.getElem?_eq_some_iff.mp e).1
        rw [List.length_set] at this; exact this
      rw [List.getElem?_set_self lt] at e
      injection e with e; injection e with e; injection e with e
      subst e
      rw [List.getElem?_set_ne (Ne.symm n2)]
      exact h3 l sl n2 g2 o2
    · rw [List.getElem?_set_ne (Ne.symm n1)] at e
      rcases sget g2 with ⟨w, _⟩ | ⟨n2, g2⟩
      · subst w
        intro e'
        by_cases lt : l < σ.length
        · rw [List.getElem?_set_self lt] at e'
          injection e' with e'; injection e' with e'; injection e' with e'
          subst e'
          exact h3 j sj n1 g1' o1 e
        · rw [List.getElem?_eq_none (by rw [List.length_set]; omega)] at e'; cases e'
      · rw [List.getElem?_set_ne (Ne.symm n2)]
        exact S.sep j l sj sl b ne g1' g2 o1 o2 e
  fr := S.fr
  mine := fun b ⟨j, s, g1, g2, g3⟩ => by
    rcases sget g1 with ⟨z, z2⟩ | ⟨n1, g1⟩
    · subst z
      have lt : j < σ.length := by
        have := (List.getElem?_eq_some_iff.mp g3).1
        rw [List.length_set] at this; exact this
      rw [List.getElem?_set_self lt] at g3
      injection g3 with e; injection e with e; injection e with e
      subst e
      exact h4
    · rw [List.getElem?_set_ne (Ne.symm n1)] at g3
      exact S.mine b ⟨j, s, g1, g2, g3⟩
theorem Sat.setR (S : Sat O Hf H σ Γ n) {i : Nat} {p : OP} {a : Addr} {o : HO} (h1 : H a = some o) (h2 : Hf a = none) (hp : p.φ Hf a o)
    (h3 : ∀ (j : Nat) s, j ≠ i → Γ[j]? = some s → s.own = true → σ[j]? ≠ some (some (V.ref a))) (h4 : O.M a ∨ O.H a = none) : Sat O Hf H (σ.set i (some (.ref a))) (Γ.set i (.r p)) n where
  len := by rw [List.length_set, List.length_set]; exact S.len
  ex := S.ex
  at_ := fun j s h => by
    have lt : j < σ.length := by
      have := (List.getElem?_eq_some_iff.mp h).1
      rw [List.length_set] at this
      rw [S.len]; exact this
    rcases sget h with ⟨e, e2⟩ | ⟨e, hh⟩
    · subst e e2
      exact ⟨a, o, List.getElem?_set_self lt, h1, h2, hp⟩
    · rw [List.getElem?_set_ne (Ne.symm e)]
      exact S.at_ j s hh
  sep := fun j l sj sl b ne g1 g2 o1 o2 e => by
    rcases sget g1 with ⟨z, z2⟩ | ⟨n1, g1'⟩
    · subst z
      rcases sget g2 with ⟨w, _⟩ | ⟨n2, g2⟩
      · exact absurd w.symm ne
      have lt : j < σ.length := by
        have := (List.getElem?_eq_some_iff.mp e).1
        rw [List.length_set] at this; exact this
      rw [List.getElem?_set_self lt] at e
      injection e with e; injection e with e; injection e with e
      subst e
      rw [List.getElem?_set_ne (Ne.symm n2)]
      exact h3 l sl n2 g2 o2
    · rw [List.getElem?_set_ne (Ne.symm n1)] at e
      rcases sget g2 with ⟨w, _⟩ | ⟨n2, g2⟩
      · subst w
        intro e'
        by_cases lt : l < σ.length
        · rw [List.getElem?_set_self lt] at e'
          injection e' with e'; injection e' with e'; injection e' with e'
          subst e'
          exact h3 j sj n1 g1' o1 e
        · rw [List.getElem?_eq_none (by rw [List.length_set]; omega)] at e'; cases e'
      · rw [List.getElem?_set_ne (Ne.symm n2)]
        exact S.sep j l sj sl b ne g1' g2 o1 o2 e
  fr := S.fr
  mine := fun b ⟨j, s, g1, g2, g3⟩ => by
    rcases sget g1 with ⟨z, z2⟩ | ⟨n1, g1⟩
    · subst z
      have lt : j < σ.length := by
        have := (List.getElem?_eq_some_iff.mp g3).1
        rw [List.length_set] at this; exact this
      rw [List.getElem?_set_self lt] at g3
      injection g3 with e; injection e with e; injection e with e
      subst e
      exact h4
    · rw [List.getElem?_set_ne (Ne.symm n1)] at g3
      exact S.mine b ⟨j, s, g1, g2, g3⟩
theorem hs_setL {i : Nat} {R : List α → Prop} (h : TDF te Γ k c R) (nb : NoBx Γ i) (hp : ∀ xs, R xs → p.N (Γ.set i (.l c xs))) : HS (tAsg te (gName i)) Γ k p := fun O n σ Hf H hn S D q1 _ _ _ =>
  h O n σ Hf H hn S _ fun a vs Hf' H' xs rx h1 h2 h3 pr lb f s => q1 _ Hf' H' _ (hp xs rx) ⟨s.setL h1 h2 pr lb (fun j sl ne hj ho e => by
    obtain ⟨w1, o, w2⟩ := S.ownAt (a := a) ⟨j, sl, hj, ho, e⟩
    rw [h3] at w2; cases w2) (.inr (S.fr.dom a h3)), bxKeep_set nb, f.ex⟩
/-- the list in a slot is written -/
theorem Sat.wr (S : Sat O Hf H σ Γ n) {i : Nat} {c0 : Cod β} {zs : List β} (h : Γ[i]? = some (.l c0 zs)) {a : Addr} (e : σ[i]? = some (some (V.ref a))) {c : Cod α} {xs : List α} {vs : List V} (pr : Paired (c.rep Hf) vs xs) (lb : vs.length ≤ LB) :
    Sat O Hf (upd H a (.lst vs)) σ (Γ.set i (.l c xs)) n := by
  obtain ⟨a', vs', g1, g2, g3, g4, g5⟩ := S.at_ i _ h
  rw [e] at g1
  injection g1 with g1; injection g1 with g1; injection g1 with g1
  subst g1
  have oth : ∀ (j : Nat) s, j ≠ i → Γ[j]? = some s → s.own = true → σ[j]? ≠ some (some (V.ref a)) := fun j s ne hs o => S.sep i j _ s a (Ne.symm ne) h hs rfl o e
  refine ⟨by rw [List.length_set]; exact S.len, S.ex.mut g3, fun j s hs => ?_, fun j l sj sl b ne q1 q2 o1 o2 ee => ?_, ?_, fun b ⟨j, s, q1, q2, q3⟩ => ?_⟩
  · rcases sget hs with ⟨z, z2⟩ | ⟨ne, hs⟩
    · subst z z2
      exact ⟨a, vs, e, upd_same, g3, pr, lb⟩
    · have q := S.at_ j s hs
      cases s with
      | un => trivial
      | d c' x => exact q
      | l c' ys =>
        obtain ⟨a', vs', w1, w2, w3, w4, w5⟩ := q
        have nea : a' ≠ a := fun z => by subst z; exact oth j _ ne hs rfl w1
        exact ⟨a', vs', w1, by rw [upd_ne nea]; exact w2, w3, w4, w5⟩
      | bx b =>
        obtain ⟨w1, w2, w3⟩ := q
        have nea : b ≠ a := fun z => by subst z; exact oth j _ ne hs rfl w1
        exact ⟨w1, w2, boxAt_ex w3 fun o r => by rw [upd_ne nea]; exact r⟩
      | r p =>
        obtain ⟨a', o', w1, w2, w3, w4⟩ := q
        have nea : a' ≠ a := fun z => by subst z; exact oth j _ ne hs rfl w1
        exact ⟨a', o', w1, by rw [upd_ne nea]; exact w2, w3, w4⟩
  · have k1 : ∃ s, Γ[j]? = some s ∧ s.own = true := by
      rcases sget q1 with ⟨z, _⟩ | ⟨_, z⟩
      · subst z; exact ⟨_, h, rfl⟩
      · exact ⟨_, z, o1⟩
    have k2 : ∃ s, Γ[l]? = some s ∧ s.own = true := by
      rcases sget q2 with ⟨z, _⟩ | ⟨_, z⟩
      · subst z; exact ⟨_, h, rfl⟩
      · exact ⟨_, z, o2⟩
    obtain ⟨s1, y1, y2⟩ := k1
    obtain ⟨s2, y3, y4⟩ := k2
    exact S.sep j l s1 s2 b ne y1 y3 y2 y4 ee
  · have mine : O.M a ∨ O.H a = none := S.mine a ⟨i, _, h, rfl, e⟩
    refine ⟨S.fr.ex, fun b o q nm => ?_, S.fr.fz, fun b q => ?_⟩
    · have nb : b ≠ a := fun z => by
        subst z
        rcases mine with w | w
        · exact nm w
        · rw [w] at q; cases q
      rw [upd_ne nb]; exact S.fr.keep b o q nm
    · by_cases z : b = a
      · subst z; rw [upd_same] at q; cases q
      · rw [upd_ne z] at q; exact S.fr.dom b q
  · rcases sget q1 with ⟨z, _⟩ | ⟨_, z⟩
    · subst z
      exact S.mine b ⟨j, _, h, rfl, q3⟩
    · exact S.mine b ⟨j, s, z, q2, q3⟩
theorem Sat.wrR (S : Sat O Hf H σ Γ n) {i : Nat} {p0 : OP} (h : Γ[i]? = some (.r p0)) {a : Addr} (e : σ[i]? = some (some (V.ref a))) {p : OP} {o : HO} (hp : p.φ Hf a o) :
    Sat O Hf (upd H a o) σ (Γ.set i (.r p)) n := by
  obtain ⟨a', o', g1, g2, g3, g4⟩ := S.at_ i _ h
  rw [e] at g1
  injection g1 with g1; injection g1 with g1; injection g1 with g1
  subst g1
  have oth : ∀ (j : Nat) s, j ≠ i → Γ[j]? = some s → s.own = true → σ[j]? ≠ some (some (V.ref a)) := fun j s ne hs o => S.sep i j _ s a (Ne.symm ne) h hs rfl o e
  refine ⟨by rw [List.length_set]; exact S.len, S.ex.mut g3, fun j s hs => ?_, fun j l sj sl b ne q1 q2 o1 o2 ee => ?_, ?_, fun b ⟨j, s, q1, q2, q3⟩ => ?_⟩
  · rcases sget hs with ⟨z, z2⟩ | ⟨ne, hs⟩
    · subst z z2
      exact ⟨a, o, e, upd_same, g3, hp⟩
    · have q := S.at_ j s hs
      cases s with
      | un => trivial
      | d c' x => exact q
      | l c' ys =>
        obtain ⟨a', vs', w1, w2, w3, w4, w5⟩ := q
        have nea : a' ≠ a := fun z => by subst z; exact oth j _ ne hs rfl w1
        exact ⟨a', vs', w1, by rw [upd_ne nea]; exact w2, w3, w4, w5⟩
      | bx b =>
        obtain ⟨w1, w2, w3⟩ := q
        have nea : b ≠ a := fun z => by subst z; exact oth j _ ne hs rfl w1
        exact ⟨w1, w2, boxAt_ex w3 fun o r => by rw [upd_ne nea]; exact r⟩
      | r p =>
        obtain ⟨a', o', w1, w2, w3, w4⟩ := q
        have nea : a' ≠ a := fun z => by subst z; exact oth j _ ne hs rfl w1
        exact ⟨a', o', w1, by rw [upd_ne nea]; exact w2, w3, w4⟩
  · have k1 : ∃ s, Γ[j]? = some s ∧ s.own = true := by
      rcases sget q1 with ⟨z, _⟩ | ⟨_, z⟩
      · subst z; exact ⟨_, h, rfl⟩
      · exact ⟨_, z, o1⟩
    have k2 : ∃ s, Γ[l]? = some s ∧ s.own = true := by
      rcases sget q2 with ⟨z, _⟩ | ⟨_, z⟩
      · subst z; exact ⟨_, h, rfl⟩
      · exact ⟨_, z, o2⟩
    obtain ⟨s1, y1, y2⟩ := k1
    obtain ⟨s2, y3, y4⟩ := k2
    exact S.sep j l s1 s2 b ne y1 y3 y2 y4 ee
  · have mine : O.M a ∨ O.H a = none := S.mine a ⟨i, _, h, rfl, e⟩
    refine ⟨S.fr.ex, fun b o q nm => ?_, S.fr.fz, fun b q => ?_⟩
    · have nb : b ≠ a := fun z => by
        subst z
        rcases mine with w | w
        · exact nm w
        · rw [w] at q; cases q
      rw [upd_ne nb]; exact S.fr.keep b o q nm
    · by_cases z : b = a
      · subst z; rw [upd_same] at q; cases q
      · rw [upd_ne z] at q; exact S.fr.dom b q
  · rcases sget q1 with ⟨z, _⟩ | ⟨_, z⟩
    · subst z
      exact S.mine b ⟨j, _, h, rfl, q3⟩
    · exact S.mine b ⟨j, s, z, q2, q3⟩
/-- x.append(e) -/
theorem hs_append {K : PySem.W.Frag} {i : Nat} {xs : List α} (h : Γ[i]? = some (.l c xs)) (nb : NoBx Γ i) (he : TD te Γ k c P) (lb : xs.length + 1 ≤ LB) (hp : ∀ y, P y → p.N (Γ.set i (.l c (xs ++ [y])))) :
    HS (tDrop (tBM K "list" rAppend (tVar i) (tCons te tNil))) Γ k p := fun O n σ Hf H hn S D q1 _ _ _ => by
  obtain ⟨a, vs, h1, h2, h3, h4, h5⟩ := S.at_ i _ h
  refine ⟨.ref a, h1, .inl ⟨rfl, vs, SqL.of h2⟩, ?_⟩
  refine he O n σ Hf H hn S _ fun v Hf' H' y py ry f s => ?_
  obtain ⟨a', vs', w1, w2, w3, w4, w5⟩ := s.at_ i _ h
  rw [h1] at w1
  injection w1 with w1; injection w1 with w1; injection w1 with w1
  subst w1
  have hl := paired_len w4
  refine ⟨a, vs', v, rfl, rfl, w2, lb_lt w5, ?_⟩
  exact q1 σ Hf' _ _ (hp y py) ⟨s.wr h h1 (Paired.snoc w4 ry) (by rw [List.length_append, List.length_singleton]; omega), bxKeep_set nb, f.ex⟩
theorem paired_set {F : V → α → Prop} {v : V} {x : α} (r : F v x) : ∀ {vs : List V} {xs : List α} (i : Nat), Paired F vs xs → Paired F (vs.set i v) (xs.set i x)
  | _, _, _, .nil => .nil
  | _, _, 0, .cons _ t => .cons r t
  | _, _, i + 1, .cons q t => .cons q (paired_set r i t)
/-- x[e] = v -/
theorem hs_setItem {i : Nat} {xs : List α} {Pi : Int → Prop} (h : Γ[i]? = some (.l c xs)) (nb : NoBx Γ i) (he : TD te Γ k1 c P) (hi : TD ti Γ k2 cInt Pi) (hp : ∀ y z, P y → Pi z → ∃ j : Nat, ixN xs.length z = some j ∧ p.N (Γ.set i (.l c (xs.set j y)))) :
    HS (tAsg te (gSub (tVar i) ti rSetL)) Γ (k1 + k2) p := fun O n σ Hf H hn S D q1 _ _ _ => by
  obtain ⟨a, vs, h1, h2, h3, h4, h5⟩ := S.at_ i _ h
  refine he O n σ Hf H (by omega) S _ fun v Hf1 H1 y py ry f1 S1 => ?_
  refine ⟨.ref a, h1, ?_⟩
  refine hi O (n + k1) σ Hf1 H1 (by omega) S1 _ fun w Hf2 H2 z pz rz f2 S2 => ?_
  obtain ⟨a', vs', w1, w2, w3, w4, w5⟩ := S2.at_ i _ h
  rw [h1] at w1
  injection w1 with w1; injection w1 with w1; injection w1 with w1
  subst w1
  obtain ⟨j, hj, pn⟩ := hp y z py pz
  have hl := paired_len w4
  refine ⟨a, vs', z, j, rfl, rz, w2, by rw [hl]; exact hj, ?_⟩
  exact q1 σ Hf2 _ _ pn ⟨by rw [← Nat.add_assoc]; exact S2.wr h h1 (paired_set (c.mono f2.ex ry) j w4) (by rw [List.length_set]; exact w5), bxKeep_set nb, f1.ex.trans f2.ex⟩
theorem paired_erase {F : V → α → Prop} : ∀ {vs : List V} {xs : List α} (i : Nat), Paired F vs xs → Paired F (vs.eraseIdx i) (xs.eraseIdx i)
  | _, _, _, .nil => .nil
  | _, _, 0, .cons _ t => t
  | _, _, i + 1, .cons q t => .cons q (paired_erase i t)
theorem ixN_seqI {n j : Nat} (h : j < n) : seqIndex? (j : Int) n = some j := by
  rw [seqIndex_of (by omega) (by omega)]
  simp
/-- y.append(x.pop(e)) -/
theorem hs_appendPop {K : PySem.W.Frag} {i j : Nat} {xs ys : List α} {Pi : Int → Prop} (hij : i ≠ j) (h : Γ[i]? = some (.l c ys)) (h' : Γ[j]? = some (.l c xs)) (nb : NoBx Γ i) (nb' : NoBx Γ j) (hi : TD ti Γ k cInt Pi) (lb : ys.length + 1 ≤ LB) (lb' : xs.length ≤ LB)
    (hp : ∀ z, Pi z → ∃ (l : Nat) (y : α), z = (l : Int) ∧ xs[l]? = some y ∧ p.N ((Γ.set j (.l c (xs.eraseIdx l))).set i (.l c (ys ++ [y])))) :
    HS (tDrop (tBM K "list" rAppend (tVar i) (tCons (tBM K "list" rPopAt (tVar j) (tCons ti tNil)) tNil))) Γ k p := fun O n σ Hf H hn S D q1 _ _ _ => by
  obtain ⟨a, vs, h1, h2, h3, h4, h5⟩ := S.at_ i _ h
  obtain ⟨b, us, e1, e2, e3, e4, e5⟩ := S.at_ j _ h'
  refine ⟨.ref a, h1, .inl ⟨rfl, vs, SqL.of h2⟩, ?_⟩
  refine ⟨.ref b, e1, .inl ⟨rfl, us, SqL.of e2⟩, ?_⟩
  refine hi O n σ Hf H hn S _ fun v Hf' H' z pz rz f s => ?_
  obtain ⟨l, y, rfl, hl, pn⟩ := hp z pz
  obtain rfl : v = .int (l : Int) := rz
  have hll : l < xs.length := (List.getElem?_eq_some_iff.mp hl).1
  obtain ⟨b', us', w1, w2, w3, w4, w5⟩ := s.at_ j _ h'
  rw [e1] at w1
  injection w1 with w1; injection w1 with w1; injection w1 with w1
  subst w1
  have hul := paired_len w4
  have hu : us'[l]? = some (us'[l]'(by omega)) := List.getElem?_eq_getElem (by omega)
  unfold LB at lb'
  refine ⟨b, us', (l : Int), l, us'[l]'(by omega), rfl, rfl, w2, by omega, by omega, ixN_seqI (by omega), hu, ?_⟩
  have s2 := s.wr h' e1 (paired_erase l w4) (by rw [List.length_eraseIdx]; split <;> omega)
  have h'' : (Γ.set j (.l c (xs.eraseIdx l)))[i]? = some (.l c ys) := by rw [List.getElem?_set_ne (Ne.symm hij)]; exact h
  obtain ⟨a', vs', x1, x2, x3, x4, x5⟩ := s2.at_ i _ h''
  rw [h1] at x1
  injection x1 with x1; injection x1 with x1; injection x1 with x1
  subst x1
  have hvl := paired_len x4
  refine ⟨a, vs', us'[l]'(by omega), rfl, rfl, x2, lb_lt x5, ?_⟩
  have nb2 : NoBx (Γ.set j (.l c (xs.eraseIdx l))) i := by unfold NoBx; rw [h'']; trivial
  exact q1 σ Hf' _ _ pn ⟨s2.wr h'' h1 (Paired.snoc x4 (paired_get w4 hu hl)) (by rw [List.length_append, List.length_singleton]; omega), (bxKeep_set nb').trans (bxKeep_set nb2), f.ex⟩
/-! ### a list of one's own, only looked at -/
def Flat {α : Type} (c : Cod α) : Prop := ∀ (H H' : Hp) v x, c.rep H v x → c.rep H' v x
theorem flat_int : Flat cInt := fun _ _ _ _ h => h
theorem flat_bool : Flat cBool := fun _ _ _ _ h => h
theorem flat_str : Flat cStr := fun _ _ _ _ h => h
theorem Sat.view (S : Sat O Hf H σ Γ n) {i : Nat} {c : Cod α} {xs : List α} (h : Γ[i]? = some (.l c xs)) {Q : Hp → Prop}
    (run : ∀ Hf1, Sat O Hf1 H σ (Γ.set i (.d (cList c) xs)) n → (∀ Hf1' H', Fr (Bx (Γ.set i (.d (cList c) xs))) Hf1 H Hf1' H' → Sat O Hf1' H' σ (Γ.set i (.d (cList c) xs)) m →
      (∃ Hf', Fr (Bx Γ) Hf H Hf' H' ∧ Sat O Hf' H' σ Γ m)) → Q H) : Q H := by
  obtain ⟨a, vs, h1, h2, h3, nbx, oth, rp, S'⟩ := S.freeze h
  refine run _ S' fun Hf1' H' f s => ?_
  have bxe : ∀ b, Bx Γ b → Bx (Γ.set i (.d (cList c) xs)) b := fun b ⟨j, hj⟩ => ⟨j, by
    rw [List.getElem?_set_ne (fun z => by subst z; rw [h] at hj; cases hj)]; exact hj⟩
  have bxb : ∀ b, Bx (Γ.set i (.d (cList c) xs)) b → Bx Γ b := fun b hb => boxLt hb
  have F : Fr (Bx Γ) Hf H (fun b => if b = a then none else Hf1' b) H' := by
    refine ⟨fun b o e => ?_, fun b o e nm => f.keep b o e fun z => nm (bxb b z), fun b o e nm z => ?_, f.dom⟩
    · have nb := ne_of_none e h3
      show (if b = a then none else Hf1' b) = some o
      rw [if_neg nb]; exact f.ex b o (by rw [upd_ne nb]; exact e)
    · show (if b = a then none else Hf1' b) = none
      by_cases nb : b = a
      · rw [if_pos nb]
      · rw [if_neg nb]; exact f.fz b o e (fun w => nm (bxb b w)) (by rw [upd_ne nb]; exact z)
  refine ⟨_, F, S.grow F (fun b o e => ?_) fun b hb => ?_⟩
  · have e' : (if b = a then none else Hf1' b) = some o := e
    by_cases nb : b = a
    · rw [if_pos nb] at e'; cases e'
    · rw [if_neg nb] at e'; exact s.ex b o e'
  · obtain ⟨j, hj⟩ := bxe b hb
    obtain ⟨_, z2, z3⟩ := s.at_ j _ hj
    refine ⟨?_, z3⟩
    show (if b = a then none else Hf1' b) = none
    by_cases nb : b = a
    · rw [if_pos nb]
    · rw [if_neg nb]; exact z2
theorem td_view {i : Nat} {xs : List α} (h : Γ[i]? = some (.l c xs)) (fl : Flat c') {P : β → Prop} (ht : TD te (Γ.set i (.d (cList c) xs)) k c' P) : TD te Γ k c' P := fun O n σ Hf H hn S Q q => by
  refine S.view (m := n + k) h (Q := fun H => te σ H Q) fun Hf1 S1 back => ?_
  refine ht O n σ Hf1 H hn S1 Q fun v Hf' H' x px r f s => ?_
  obtain ⟨Hf2, F, S2⟩ := back Hf' H' f s
  exact q v Hf2 H' x px (fl _ _ _ _ r) F S2
theorem tt_view {i : Nat} {xs : List α} {P : Bool → Prop} (h : Γ[i]? = some (.l c xs)) (ht : TDT tt (Γ.set i (.d (cList c) xs)) k P) : TDT tt Γ k P := fun O n σ Hf H hn S Q q => by
  refine S.view (m := n + k) h (Q := fun H => tt σ H Q) fun Hf1 S1 back => ?_
  refine ht O n σ Hf1 H hn S1 Q fun b Hf' H' px f s => ?_
  obtain ⟨Hf2, F, S2⟩ := back Hf' H' f s
  exact q b Hf2 H' px F S2
theorem ixN_nat {n j : Nat} (h : j < n) (h2 : n ≤ LB) : ixN n (j : Int) = some j := by
  unfold ixN
  unfold LB at h2
  simp
  omega
end
end DL

set_option Elab.async false
set_option linter.all false
set_option maxRecDepth 100000
set_option maxHeartbeats 2000000
namespace DL
open PySem PySem.Spec L2
/-! ### promises -/
/-- parameters: data, and at most one box; kf: how often it draws at most -/
def spD {A ρ : Type} (ps : Addr → A → Ctxt) (kf : A → Nat) (pre : A → Prop) (c : Cod ρ) (P : A → ρ → Prop) : Sp := fun vs H Q _ =>
  ∃ (a : A) (b : Addr) (n : Nat) (Hf : Hp), pre a ∧ n + kf a ≤ LIM ∧ Ex Hf H ∧ ArgsOk Hf vs (ps b a) ∧ (∀ z, Sl.bx z ∈ ps b a → Hf z = none ∧ BoxAt H z n) ∧
    ∀ v Hf' H' x, P a x → c.rep Hf' v x → Fr (fun z => Sl.bx z ∈ ps b a) Hf H Hf' H' → Ex Hf' H' → (∀ z, Sl.bx z ∈ ps b a → Hf' z = none ∧ BoxAt H' z (n + kf a)) → Q v H'
/-- .. that draws nothing and gives f of its arguments -/
abbrev spP {A ρ : Type} (ps : A → Ctxt) (pre : A → Prop) (c : Cod ρ) (f : A → ρ) : Sp := spD (fun _ => ps) (fun _ => 0) pre c (fun a x => x = f a)
/-- at most one box -/
def NoB : Ctxt → Prop
  | [] => True
  | .bx _ :: _ => False
  | _ :: r => NoB r
def OneB : Ctxt → Prop
  | [] => True
  | .bx _ :: r => NoB r
  | _ :: r => OneB r
theorem noB_at : ∀ {Γ : Ctxt} {i : Nat} {a : Addr}, NoB Γ → Γ[i]? ≠ some (.bx a)
  | [], i, a, _, h => by simp at h
  | s :: r, 0, a, h, e => by
    simp at e
    subst e
    exact h
  | s :: r, i + 1, a, h, e => by
    have h' : NoB r := by cases s <;> first | exact h | exact h.elim
    exact noB_at (i := i) h' (by simpa using e)
theorem oneB_at : ∀ {Γ : Ctxt} {i j : Nat} {a b : Addr}, OneB Γ → Γ[i]? = some (.bx a) → Γ[j]? = some (.bx b) → i = j
  | [], i, _, _, _, _, h, _ => by simp at h
  | s :: r, 0, 0, _, _, _, _, _ => rfl
  | s :: r, 0, j + 1, a, b, h, e, e2 => by
    simp at e
    subst e
    exact absurd (show r[j]? = some (.bx b) by simpa using e2) (noB_at h)
  | s :: r, i + 1, 0, a, b, h, e, e2 => by
    simp at e2
    subst e2
    exact absurd (show r[i]? = some (.bx a) by simpa using e) (noB_at h)
  | s :: r, i + 1, j + 1, a, b, h, e, e2 => by
    have : i = j := by
      cases s with
      | bx z => exact absurd (show r[i]? = some (.bx a) by simpa using e) (noB_at h)
      | un => exact oneB_at (Γ := r) h (by simpa using e) (by simpa using e2)
      | d c x => exact oneB_at (Γ := r) h (by simpa using e) (by simpa using e2)
      | l c x => exact oneB_at (Γ := r) h (by simpa using e) (by simpa using e2)
      | r p => exact oneB_at (Γ := r) h (by simpa using e) (by simpa using e2)
    rw [this]
section
variable {Γ Γ1 Γ2 Γ3 : Ctxt} {k k1 k2 k3 kk kt ke : Nat} {A α β γ ρ : Type} {c : Cod α} {c' : Cod β} {cr : Cod ρ} {c1 : Cod α} {c2 : Cod β} {c3 : Cod γ} {P : α → Prop} {te to ti : TE} {tt : TT} {t u : TS} {p : Po ρ} {ta tx : TA}
variable {O : Org} {Hf H Hf' H' : Hp} {σ : Stt} {n m : Nat} {ps : Addr → A → Ctxt} {kf : A → Nat} {pre : A → Prop} {PR : A → ρ → Prop}
theorem argsOk_at : ∀ {vs : List V} {as : Ctxt} {i : Nat} {s : Sl}, ArgsOk Hf vs as → as[i]? = some s → (∃ α, ∃ (c : Cod α) (x : α) (v : V), s = .d c x ∧ vs[i]? = some v ∧ c.rep Hf v x) ∨ ∃ a, s = .bx a ∧ vs[i]? = some (.ref a)
  | [], [], i, s, _, e => by simp at e
  | [], _ :: _, i, s, h, e => h.elim
  | _ :: _, [], i, s, h, e => h.elim
  | v :: vs, s' :: as, 0, s, h, e => by
    simp at e
    subst e
    obtain ⟨h, _⟩ := h
    cases s' with
    | un => exact h.elim
    | d c x => exact .inl ⟨_, c, x, v, rfl, rfl, h⟩
    | l c x => exact h.elim
    | bx a =>
      have h : v = .ref a := h
      subst h
      exact .inr ⟨a, rfl, rfl⟩
    | r p => exact h.elim
  | v :: vs, s' :: as, i + 1, s, h, e => by
    have := argsOk_at (i := i) (s := s) h.2 (by simpa using e)
    simpa using this
theorem argsOk_len : ∀ {vs : List V} {as : Ctxt}, ArgsOk Hf vs as → vs.length = as.length
  | [], [], _ => rfl
  | [], _ :: _, h => h.elim
  | _ :: _, [], h => h.elim
  | _ :: _, _ :: _, h => by rw [List.length_cons, List.length_cons, argsOk_len h.2]
/-- what a callee leaves, seen by the caller -/
theorem Sat.called (S : Sat O Hf H σ Γ n) {as : Ctxt} {k : Nat} (hb : ∀ a, Sl.bx a ∈ as → Bx Γ a) (f : Fr (fun z => Sl.bx z ∈ as) Hf H Hf' H') (ex : Ex Hf' H') (bx : ∀ z, Sl.bx z ∈ as → Hf' z = none ∧ BoxAt H' z (n + k)) :
    Fr (Bx Γ) Hf H Hf' H' ∧ Sat O Hf' H' σ Γ (n + k) := by
  have F : Fr (Bx Γ) Hf H Hf' H' := f.mono fun a h => .inl (hb a h)
  refine ⟨F, S.grow F ex fun a ⟨i, hi⟩ => ?_⟩
  by_cases q : Sl.bx a ∈ as
  · exact bx a q
  · obtain ⟨_, z2, z3⟩ := S.at_ i _ hi
    have z4 := z3
    obtain ⟨_, _, _, _, e, _⟩ := z4
    exact ⟨f.fz a _ e q z2, boxAt_le (boxAt_ex z3 fun o r => f.keep a o r q) (by omega)⟩
theorem td_call {B : Ctxt → Prop} {P' : ρ → Prop} {E : XK} (h : TDA ta Γ k1 B) (hc : ∀ as, B as → ∃ a b, as = ps b a ∧ pre a ∧ kf a ≤ k2 ∧ ∀ x, PR a x → P' x) : TD (tCall (spD ps kf pre cr PR) [] E ta) Γ (k1 + k2) cr P' := fun O n σ Hf H hn S Q q =>
  h O n σ Hf H (by omega) S _ fun vs Hf1 H1 as b o hb f s => by
    obtain ⟨a, bb, e, pa, hk, hp⟩ := hc as b
    subst e
    refine ⟨a, bb, n + k1, Hf1, pa, by omega, s.ex, by rw [List.append_nil]; exact o, fun z hz => ?_, fun v Hf' H' x px r f2 ex bx => ?_⟩
    · obtain ⟨i, hi⟩ := hb z hz
      exact (s.at_ i _ hi).2
    · obtain ⟨F, S2⟩ := s.called hb f2 ex bx
      exact q v Hf' H' x (hp x px) r (f.trans F fun _ z => .inl z) (S2.le (by omega))
/-- instances: what the attributes say -/
def cIns (C : Addr) {ω : Type} (F : Hp → List (Str × V) → ω → Prop) (hm : ∀ {H H' fs y}, Ex H H' → F H fs y → F H' fs y) : Cod ω := ⟨fun H v y => ∃ a dx fs, v = .ref a ∧ H a = some (.ins C dx fs) ∧ F H fs y,
  fun e ⟨a, dx, fs, h1, h2, h3⟩ => ⟨a, dx, fs, h1, e _ _ h2, hm e h3⟩⟩
variable {C : Addr} {ω : Type} {F : Hp → List (Str × V) → ω → Prop} {hm : ∀ {H H' fs y}, Ex H H' → F H fs y → F H' fs y} {K : PySem.W.Frag}
theorem td_fld {f : Str} {y : ω → α} {Py : ω → Prop} (h : TD te Γ k (cIns C F hm) Py) (hC : Cls K C) (hN : NoAttr K C f) (hf : ∀ H fs y0, F H fs y0 → ∃ v, fs.lookup f = some v ∧ c.rep H v (y y0)) : TD (tFld K te f) Γ k c (fun x => ∃ z, Py z ∧ x = y z) := fun O n σ Hf H hn S Q q =>
  h O n σ Hf H hn S _ fun v Hf' H' z pz ⟨a, dx, fs, e1, e2, e3⟩ f s => by
    obtain ⟨w, l, r⟩ := hf _ _ _ e3
    exact ⟨a, C, dx, fs, w, e1, s.ex _ _ e2, hC, hN, l, q w Hf' H' _ ⟨z, pz, rfl⟩ r f s⟩
theorem td_meth {m : Str} {B : Ctxt → Prop} {P' : ρ → Prop} {Py : ω → Prop} {E : XK} (ho : TD te Γ k k1' Py) (hl : ∀ H fs y0, F H fs y0 → fs.lookup m = none) (h : TDA ta Γ k1 B) (hc : ∀ y as, Py y → B as → ∃ a b, .d k1' y :: as = ps b a ∧ pre a ∧ kf a ≤ k2 ∧ ∀ x, PR a x → P' x)
    (ek : k1' = cIns C F hm := by rfl) : TD (tMeth C m (spD ps kf pre cr PR) [] E te ta) Γ (k + k1 + k2) cr P' := fun O n σ Hf H hn S Q q => by
  subst ek
  refine ho O n σ Hf H (by omega) S _ fun v Hf0 H0 y py ry f0 s0 => ?_
  obtain ⟨a, dx, fs, e1, e2, e3⟩ := id ry
  refine ⟨a, dx, fs, e1, s0.ex _ _ e2, hl _ _ _ e3, ?_⟩
  refine h O (n + k) σ Hf0 H0 (by omega) s0 _ fun vs Hf1 H1 as b o hb f s => ?_
  obtain ⟨a', bb, e, pa, hk, hp⟩ := hc y as py b
  have hb' : ∀ z, Sl.bx z ∈ ps bb a' → Bx Γ z := fun z hz => by
    rw [← e] at hz
    rcases List.mem_cons.mp hz with w | w
    · cases w
    · exact hb z w
  refine ⟨a', bb, n + k + k1, Hf1, pa, by omega, s.ex, by rw [← e, List.append_nil]; exact ⟨(cIns C F hm).mono f.ex ry, o⟩, fun z hz => ?_, fun v' Hf' H' x px r f2 ex bx => ?_⟩
  · obtain ⟨i, hi⟩ := hb' z hz
    exact (s.at_ i _ hi).2
  · obtain ⟨F', S2⟩ := s.called hb' f2 ex bx
    exact q v' Hf' H' x (hp x px) r ((f0.trans f fun _ z => .inl z).trans F' fun _ z => .inl z) (S2.le (by omega))
/-! ### the making of an instance -/
/-- __init__'s promise: self is new, of the class at C, without attributes; behind it the attributes say y with P; nothing else of what stood is changed -/
def spI {A ω : Type} (C : Addr) (ps : A → Ctxt) (pre : A → Prop) (F : Hp → List (Str × V) → ω → Prop) (P : A → ω → Prop) : Sp := fun vs H Q _ =>
  ∃ (a : A) (x dx : Addr) (ws : List V) (Hf : Hp), pre a ∧ vs = .ref x :: ws ∧ H x = some (.ins C dx []) ∧ Hf x = none ∧ Ex Hf H ∧ ArgsOk Hf ws (ps a) ∧
    ∀ Hf' H' fs y, P a y → H' x = some (.ins C dx fs) → Hf' x = none → F Hf' fs y → Fr (fun z => z = x) Hf H Hf' H' → Ex Hf' H' → Q .non H'
theorem td_make {psi : A → Ctxt} {Pi : A → ω → Prop} {B : Ctxt → Prop} {P' : ω → Prop} {E : XK} (h : TDA ta Γ k1 B) (hc : ∀ as, B as → NoB as ∧ ∃ a, as = psi a ∧ pre a ∧ ∀ x, Pi a x → P' x) : TD (tMake C (spI C psi pre F Pi) [] E ta) Γ k1 (cIns C F hm) P' := fun O n σ Hf H hn S Q q =>
  h O n σ Hf H hn S _ fun vs Hf1 H1 as b o hb f s x dx hx hdx ne => by
    obtain ⟨nb, a, e, pa, hp⟩ := hc as b
    subst e
    have ex0 : Ex Hf1 (upd (upd H1 dx (.own x)) x (.ins C dx [])) := s.ex.trans ((Ex.new hdx).trans (Ex.new (by rw [upd_ne ne.symm]; exact hx)))
    have fx : Hf1 x = none := s.ex.back hx
    refine ⟨a, x, dx, vs, Hf1, pa, by rw [List.append_nil], upd_same, fx, ex0, o, fun Hf' H' fs y py hH hf hF fr ex => ⟨rfl, ?_⟩⟩
    have f1 : Fr (fun z => z = x) Hf1 H1 Hf' H' := by
      refine Fr.trans (M := fun z => z = x) (Fr.trans (M := fun z => z = x) (Hf1 := Hf1) (H1 := upd H1 dx (.own x)) (Fr.newO hdx) (Fr.newO (M := fun z => z = x) (by rw [upd_ne ne.symm]; exact hx)) fun _ z => .inl z) fr fun _ z => .inl z
    have f2 : Fr (Bx Γ) Hf1 H1 Hf' H' := f1.mono fun z e => .inr (by subst e; exact hx)
    have f3 : Fr (Bx Γ) Hf1 H1 (upd Hf' x (.ins C dx fs)) H' := f2.fix hx hf hH
    refine q _ _ _ y (hp y py) ⟨x, dx, fs, rfl, upd_same, hm (Ex.new hf) hF⟩ (f.trans f3 fun _ z => .inl z) ?_
    refine s.grow f3 (ex.fix hH) fun a' ⟨i, hi⟩ => ?_
    obtain ⟨_, z2, z3⟩ := s.at_ i _ hi
    have z4 := z3
    obtain ⟨_, _, _, _, e, _⟩ := z4
    have nx : a' ≠ x := ne_of_none e hx
    exact ⟨by rw [upd_ne nx]; exact f1.fz a' _ e nx z2, boxAt_ex z3 fun o r => f1.keep a' o r nx⟩
/-! ### a def's body -/
theorem ctx_at {as : Ctxt} {N : Nat} {i : Nat} {s : Sl} (h : (as ++ List.replicate N Sl.un)[i]? = some s) : as[i]? = some s ∨ s = .un := by
  by_cases hl : i < as.length
  · rw [List.getElem?_append_left hl] at h; exact .inl h
  · rw [List.getElem?_append_right (by omega)] at h
    exact .inr (List.eq_of_mem_replicate (List.mem_of_getElem? h))
theorem start_at {N : List Str} {vs : List V} {i : Nat} {v : V} (h : vs[i]? = some v) : (start N vs)[i]? = some (some v) := by
  unfold L2.start
  have hl : i < vs.length := (List.getElem?_eq_some_iff.mp h).1
  rw [List.getElem?_append_left (by rw [List.length_map]; exact hl), List.getElem?_map, h]; rfl
/-- the context at a def's entry -/
def entry (N : List Str) (as : Ctxt) : Ctxt := as ++ List.replicate (N.length - as.length) .un
theorem sat_entry {N : List Str} {vs : List V} {as : Ctxt} (hl : as.length ≤ N.length) (o : ArgsOk Hf vs as) (one : OneB as) (ex : Ex Hf H) (bx : ∀ z, Sl.bx z ∈ as → Hf z = none ∧ BoxAt H z n) :
    Sat ⟨fun z => Sl.bx z ∈ as, Hf, H⟩ Hf H (start N vs) (entry N as) n where
  len := by
    have := argsOk_len o
    unfold L2.start entry
    rw [List.length_append, List.length_append, List.length_map, List.length_replicate, List.length_replicate, this]
  ex := ex
  at_ := fun i s h => by
    rcases ctx_at h with h | h
    · rcases argsOk_at o h with ⟨α, c, x, v, rfl, hv, r⟩ | ⟨a, rfl, hv⟩
      · exact ⟨v, start_at hv, r⟩
      · have hm : Sl.bx a ∈ as := List.mem_of_getElem? h
        exact ⟨start_at hv, (bx a hm).1, (bx a hm).2⟩
    · subst h; trivial
  sep := fun i j si sj a ne h1 h2 o1 o2 e => by
    rcases ctx_at h1 with h1 | h1
    · rcases ctx_at h2 with h2 | h2
      · rcases argsOk_at o h1 with ⟨_, _, _, _, rfl, _⟩ | ⟨b, rfl, hv⟩
        · cases o1
        rcases argsOk_at o h2 with ⟨_, _, _, _, rfl, _⟩ | ⟨b', rfl, hv'⟩
        · cases o2
        exact absurd (oneB_at one h1 h2) ne
      · subst h2; cases o2
    · subst h1; cases o1
  fr := Fr.refl
  mine := fun a ⟨i, s, h1, h2, h3⟩ => by
    rcases ctx_at h1 with h1 | h1
    · rcases argsOk_at o h1 with ⟨_, _, _, _, rfl, _⟩ | ⟨b, rfl, hv⟩
      · cases h2
      · rw [start_at hv] at h3
        injection h3 with h3; injection h3 with h3; injection h3 with h3
        subst h3
        exact .inl (List.mem_of_getElem? h1)
    · subst h1; cases h2
/-- the reading of a body gives the promise -/
theorem body_ok {N : List Str} {vs : List V} {Q : VK} {ts : TS} {a : A} {b : Addr} (hl : (ps b a).length ≤ N.length) (one : OneB (ps b a)) (hn : n + kf a ≤ LIM) (ex : Ex Hf H) (o : ArgsOk Hf vs (ps b a)) (bx : ∀ z, Sl.bx z ∈ ps b a → Hf z = none ∧ BoxAt H z n)
    (q : ∀ v Hf' H' x, PR a x → cr.rep Hf' v x → Fr (fun z => Sl.bx z ∈ ps b a) Hf H Hf' H' → Ex Hf' H' → (∀ z, Sl.bx z ∈ ps b a → Hf' z = none ∧ BoxAt H' z (n + kf a)) → Q v H')
    (hs : HS ts (entry N (ps b a)) (kf a) { N := fun _ => False, bk := fun _ => False, ct := fun _ => False, c := cr, R := PR a }) : ts { nx := fun _ H' => Q .non H', rt := Q } (start N vs) H :=
  hs _ n _ Hf H hn (sat_entry hl o one ex bx) _ (fun _ _ _ _ z _ => z.elim) (fun _ _ _ _ z _ => z.elim) (fun _ _ _ _ z _ => z.elim) fun v σ' Hf' H' Γ' x px r f => q v Hf' H' x px r f.sat.fr f.sat.ex fun z hz => by
    obtain ⟨i, hi⟩ := List.getElem?_of_mem hz
    have hi' : (entry N (ps b a))[i]? = some (.bx z) := by
      unfold entry
      rw [List.getElem?_append_left (List.getElem?_eq_some_iff.mp hi).1]; exact hi
    exact (f.sat.at_ i _ (f.bx i z hi')).2
end
end DL

set_option Elab.async false
set_option linter.all false
set_option maxRecDepth 100000
set_option maxHeartbeats 2000000
namespace DL
open PySem PySem.Spec L2
/-! ### where a piece of the text stands -/
structure Stc where
  N : List Str
  sc : Scope
  K : PySem.W.Frag
  mg : Str → Option Value
  prog : Program
  w : World
  base : Heap
  lv : Nat
  fn : Str → Bool
  /-- it is known that nothing is being shown -/
  gd : Bool
structure Good (S : Stc) (X : Cx) : Prop where
  N : X.N = S.N
  sc : X.env.scope = S.sc
  K : X.K = S.K
  mg : X.mg = S.mg
  prog : X.prog = S.prog
  w : X.w = S.w
  base : X.base = S.base
  calm : X.calm = true
  room : Room S.lv X.A
  fn : X.fn = S.fn
  nox : X.xe = fun _ _ => False
  nd : S.N.Nodup
  gd : S.gd = true → X.A.guards = some []
abbrev Stc.blk (S : Stc) (scope : Scope) : Stc := { S with sc := relS scope S.sc, fn := fun x => scope.names.lookup x == some .cell, gd := false }
theorem Good.blk {S : Stc} {X : Cx} (G : Good S X) (scope : Scope) (s : Shared) (H : Hp) (C : Addr) (cl : List (Str × Addr)) (fp : List Addr) : Good (S.blk scope) (X.blk s H scope (compEnvC scope cl C X.env) fp) where
  N := G.N
  sc := by
    show relS scope X.env.scope = relS scope S.sc
    rw [G.sc]
  K := G.K
  mg := G.mg
  prog := G.prog
  w := G.w
  base := G.base
  calm := G.calm
  room := G.room
  fn := rfl
  nox := rfl
  nd := G.nd
  gd := fun h => nomatch h
variable {S : Stc} {X : Cx}
def tE (S : Stc) (e : Expr) : TE := fun σ H Q => ∃ t, (∀ X, Good S X → PE X e t) ∧ t σ H Q
def tT (S : Stc) (e : Expr) : TT := fun σ H Q => ∃ t, (∀ X, Good S X → PT X e t) ∧ t σ H Q
def tWt (S : Stc) (e : Expr) : TT := fun σ H Q => ∃ t, (∀ X, Good S X → PW X e t) ∧ t σ H Q
def tTs (S : Stc) (es : List Expr) : TT := fun σ H Q => ∃ t, (∀ X, Good S X → PTs X es t) ∧ t σ H Q
def tA (S : Stc) (es : List Expr) : TA := fun σ H Q => ∃ t, (∀ X, Good S X → PA X es t) ∧ t σ H Q
def tK (S : Stc) (es : List Keyword) : TA := fun σ H Q => ∃ t, (∀ X, Good S X → PK X es t) ∧ t σ H Q
def tI (S : Stc) (tg e : Expr) : TI := fun σ H R => ∃ t, (∀ X, Good S X → PI X tg e t) ∧ t σ H R
def tGt (S : Stc) (e : Expr) : TG := fun v σ H Q => ∃ t, (∀ X, Good S X → PG X e t) ∧ t v σ H Q
def tGts (S : Stc) (es : List Expr) : TGs := fun v σ H Q => ∃ t, (∀ X, Good S X → PGs X es t) ∧ t v σ H Q
def tS1 (S : Stc) (st : Stmt) : TS := fun D σ H => ∃ t, (∀ X, Good S X → PS X st t) ∧ t D σ H
def tSs (S : Stc) (st : List Stmt) : TS := fun D σ H => ∃ t, (∀ X, Good S X → PSs X st t) ∧ t D σ H
theorem tE_ok (G : Good S X) {e : Expr} : PE X e (tE S e) := ⟨fun pins s σ H Q I ⟨t, ht, h⟩ => (ht X G).run pins s σ H Q I h⟩
theorem tT_ok (G : Good S X) {e : Expr} : PT X e (tT S e) := ⟨fun pins s σ H Q I ⟨t, ht, h⟩ => (ht X G).run pins s σ H Q I h⟩
theorem tWt_ok (G : Good S X) {e : Expr} : PW X e (tWt S e) := ⟨fun w pins s σ H Q I ⟨t, ht, h⟩ => (ht X G).run w pins s σ H Q I h⟩
theorem tTs_ok (G : Good S X) {e : List Expr} : PTs X e (tTs S e) := ⟨fun pins s σ H Q I ⟨t, ht, h⟩ => (ht X G).run pins s σ H Q I h⟩
theorem tA_ok (G : Good S X) {e : List Expr} : PA X e (tA S e) := ⟨fun pos pins s σ H Q I ⟨t, ht, h⟩ => (ht X G).run pos pins s σ H Q I h⟩
theorem tK_ok (G : Good S X) {e : List Keyword} : PK X e (tK S e) := ⟨fun pos pins s σ H Q I ⟨t, ht, h⟩ => (ht X G).run pos pins s σ H Q I h⟩
theorem tI_ok (G : Good S X) {tg e : Expr} : PI X tg e (tI S tg e) := ⟨fun pins s σ H Q I ⟨t, ht, h⟩ => (ht X G).run pins s σ H Q I h⟩
theorem tGt_ok (G : Good S X) {e : Expr} : PG X e (tGt S e) := ⟨fun pins s σ H v u Q I r ⟨t, ht, h⟩ => (ht X G).run pins s σ H v u Q I r h⟩
theorem tGts_ok (G : Good S X) {e : List Expr} : PGs X e (tGts S e) := ⟨fun pins s σ H v u Q I r ⟨t, ht, h⟩ => (ht X G).run pins s σ H v u Q I r h⟩
theorem tS1_ok (G : Good S X) {e : Stmt} : PS X e (tS1 S e) := ⟨fun pins s σ H D I ⟨t, ht, h⟩ => (ht X G).run pins s σ H D I h⟩
theorem tSs_ok (G : Good S X) {e : List Stmt} : PSs X e (tSs S e) := ⟨fun pins s σ H D I ⟨t, ht, h⟩ => (ht X G).run pins s σ H D I h⟩
/-! ### judgements on the text -/
abbrev PD {α : Type} (S : Stc) (Γ : Ctxt) (k : Nat) (e : Expr) (c : Cod α) (P : α → Prop) : Prop := TD (tE S e) Γ k c P
abbrev PDF {α : Type} (S : Stc) (Γ : Ctxt) (k : Nat) (e : Expr) (c : Cod α) (P : List α → Prop) : Prop := TDF (tE S e) Γ k c P
abbrev PDT (S : Stc) (Γ : Ctxt) (k : Nat) (e : Expr) (P : Bool → Prop) : Prop := TDT (tT S e) Γ k P
abbrev PDW (S : Stc) (Γ : Ctxt) (k : Nat) (e : Expr) (P : Bool → Prop) : Prop := TDT (tWt S e) Γ k P
abbrev PDA (S : Stc) (Γ : Ctxt) (k : Nat) (es : List Expr) (B : Ctxt → Prop) : Prop := TDA (tA S es) Γ k B
abbrev PDK (S : Stc) (Γ : Ctxt) (k : Nat) (es : List Keyword) (B : Ctxt → Prop) : Prop := TDA (tK S es) Γ k B
abbrev PDI {α : Type} (S : Stc) (Γ : Ctxt) (k : Nat) (tg e : Expr) (c : Cod α) (P : List α → Prop) : Prop := TW (tI S tg e) Γ k c P
abbrev PDG {α : Type} (S : Stc) (g : Expr) (c : Cod α) (x : α) (Γ Γ' : Ctxt) (is : List Nat) : Prop := GD (tGt S g) c x Γ Γ' is
abbrev PH {ρ : Type} (S : Stc) (Γ : Ctxt) (k : Nat) (st : Stmt) (p : Po ρ) : Prop := HS (tS1 S st) Γ k p
abbrev PHs {ρ : Type} (S : Stc) (Γ : Ctxt) (k : Nat) (st : List Stmt) (p : Po ρ) : Prop := HS (tSs S st) Γ k p
section
variable {Γ Γ1 Γ2 Γ3 : Ctxt} {k k1 k2 k3 kk kt ke : Nat} {A α β γ ρ : Type} {c : Cod α} {c' : Cod β} {cr : Cod ρ} {c1 : Cod α} {c2 : Cod β} {c3 : Cod γ} {P P1 : α → Prop} {P2 : β → Prop} {P3 : γ → Prop} {te to ti : TE} {tt : TT} {t u : TS} {p : Po ρ} {ta tx : TA} {e a b d : Expr} {es : List Expr} {pos pos' : Pos}
theorem pd_of {te : TE} (ht : ∀ X, Good S X → PE X e te) (h : TD te Γ k c P) : PD S Γ k e c P := fun O n σ Hf H hn s Q q => ⟨te, ht, h O n σ Hf H hn s Q q⟩
theorem pdf_of {te : TE} {P : List α → Prop} (ht : ∀ X, Good S X → PE X e te) (h : TDF te Γ k c P) : PDF S Γ k e c P := fun O n σ Hf H hn s Q q => ⟨te, ht, h O n σ Hf H hn s Q q⟩
theorem pdt_of {tt : TT} {P : Bool → Prop} (ht : ∀ X, Good S X → PT X e tt) (h : TDT tt Γ k P) : PDT S Γ k e P := fun O n σ Hf H hn s Q q => ⟨tt, ht, h O n σ Hf H hn s Q q⟩
theorem pdw_of {tt : TT} {P : Bool → Prop} (ht : ∀ X, Good S X → PW X e tt) (h : TDT tt Γ k P) : PDW S Γ k e P := fun O n σ Hf H hn s Q q => ⟨tt, ht, h O n σ Hf H hn s Q q⟩
theorem pda_of {ta : TA} {B : Ctxt → Prop} (ht : ∀ X, Good S X → PA X es ta) (h : TDA ta Γ k B) : PDA S Γ k es B := fun O n σ Hf H hn s Q q => ⟨ta, ht, h O n σ Hf H hn s Q q⟩
theorem pdi_of {wi : TI} {tg : Expr} {P : List α → Prop} (ht : ∀ X, Good S X → PI X tg e wi) (h : TW wi Γ k c P) : PDI S Γ k tg e c P := fun O n σ Hf H hn s R q => ⟨wi, ht, h O n σ Hf H hn s R q⟩
theorem pdg_of {g : TG} {x : α} {is : List Nat} (ht : ∀ X, Good S X → PG X e g) (h : GD g c x Γ Γ1 is) : PDG S e c x Γ Γ1 is := ⟨h.1, h.2.1, fun O n σ Hf H v r s Q q => ⟨g, ht, h.2.2 O n σ Hf H v r s Q q⟩⟩
theorem ph_of {ts : TS} {st : Stmt} (ht : ∀ X, Good S X → PS X st ts) (h : HS ts Γ k p) : PH S Γ k st p := fun O n σ Hf H hn s D q1 q2 q3 q4 => ⟨ts, ht, h O n σ Hf H hn s D q1 q2 q3 q4⟩
theorem phs_of {ts : TS} {sts : List Stmt} (ht : ∀ X, Good S X → PSs X sts ts) (h : HS ts Γ k p) : PHs S Γ k sts p := fun O n σ Hf H hn s D q1 q2 q3 q4 => ⟨ts, ht, h O n σ Hf H hn s D q1 q2 q3 q4⟩
/-! ### names, constants -/
theorem vis (G : Good S X) {x : Str} (h : Vis S.sc x) : Vis X.env.scope x := by rw [G.sc]; exact h
theorem loc (G : Good S X) {x : Str} (h : Loc S.sc x) : Loc X.env.scope x := by rw [G.sc]; exact h
theorem glb (G : Good S X) {x : Str} (h : S.sc.names.lookup x = some .globalImplicit) : Gl X x := by
  show X.env.scope.names.lookup x = _
  rw [G.sc]; exact h
theorem pe_slot (G : Good S X) {i : Nat} {x : Str} (hN : S.N[i]? = some x) (hv : Vis S.sc x) (hd : (x == ("__debug__" : Str)) = false := by decide) (hcd : (x == ("__classdict__" : Str)) = false := by decide) : PE X (.Name x pos) (tVar i) := pe_var (by rw [G.N]; exact hN) (vis G hv) hd hcd
theorem pd_name {i : Nat} {x : Str} {y : α} (hΓ : Γ[i]? = some (.d c y)) (hN : S.N[i]? = some x) (hv : Vis S.sc x) (hd : (x == ("__debug__" : Str)) = false := by decide) (hcd : (x == ("__classdict__" : Str)) = false := by decide) : PD S Γ 0 (.Name x pos) c (· = y) :=
  pd_of (fun X G => pe_slot G hN hv hd hcd) (td_var hΓ)
theorem pd_int {i : Int} {j : Nat} : PD S Γ 0 (.Constant (.int i) j pos) cInt (· = i) := pd_of (fun X G => pe_int) (td_c fun _ => rfl)
theorem pd_bool {i : Bool} {j : Nat} : PD S Γ 0 (.Constant (.bool i) j pos) cBool (· = i) := pd_of (fun X G => pe_bl) (td_c fun _ => rfl)
theorem pd_str {i : Str} {j : Nat} : PD S Γ 0 (.Constant (.str i) j pos) cStr (· = i) := pd_of (fun X G => pe_str) (td_c fun _ => rfl)
theorem pd_none {j : Nat} : PD S Γ 0 (.Constant .none j pos) cNon (· = ()) := pd_of (fun X G => pe_non) (td_c fun _ => rfl)
/-- a module's constant -/
theorem pd_glob {x : Str} {v : V} {u : Value} {y : α} (hg : S.sc.names.lookup x = some .globalImplicit) (hm : S.mg x = some u) (r : RelV v u) (hc : ∀ H, c.rep H v y) (hd : (x == ("__debug__" : Str)) = false := by decide) : PD S Γ 0 (.Name x pos) c (· = y) :=
  pd_of (fun X G => pe_glob (glb G hg) (by rw [G.mg]; exact hm) r hd) (td_c hc)
/-! ### operators -/
theorem pd_bin {op : Operator} {r : R2} (ho : ∀ X, Good S X → OpR X (binaryOp op) r) (ha : PD S Γ k1 a c1 P1) (hb : PD S Γ k2 b c2 P2) (hr : ∀ x y, P1 x → P2 y → RD r c1 x c2 y c3 P3) : PD S Γ (k1 + k2) (.BinOp a op b pos) c3 P3 :=
  pd_of (fun X G => pe_op (ho X G) (tE_ok G) (tE_ok G)) (td_op ha hb hr)
theorem pd_un {op : UnaryOp} {r : V → Hp → VK → Prop} (ho : ∀ X, Good S X → UnR X (unaryOp op) r) (ha : PD S Γ k1 a c1 P1) (hr : ∀ x, P1 x → RU1 r c1 x c3 P3) : PD S Γ k1 (.UnaryOp op a pos) c3 P3 :=
  pd_of (fun X G => pe_un (ho X G) (tE_ok G)) (td_un ha hr)
theorem pd_cmp {op : CmpOp} {r : R2} {P3 : Bool → Prop} (ho : ∀ X, Good S X → OpR X (compareOp op) r) (ha : PD S Γ k1 a c1 P1) (hb : PD S Γ k2 b c2 P2) (hr : ∀ x y, P1 x → P2 y → RD r c1 x c2 y cBool P3) (hm : behindInMarks op b = false) : PD S Γ (k1 + k2) (.Compare a [op] [b] pos) cBool P3 :=
  pd_of (fun X G => pe_cmpR (ho X G) (tE_ok G) (tE_ok G) hm) (td_op ha hb hr)
theorem pdt_cmp {op : CmpOp} {r : R2} {P3 : Bool → Prop} (ho : ∀ X, Good S X → OpR X (compareOp op) r) (ha : PD S Γ k1 a c1 P1) (hb : PD S Γ k2 b c2 P2) (hr : ∀ x y, P1 x → P2 y → RD r c1 x c2 y cBool P3) (hm : behindInMarks op b = false) : PDT S Γ (k1 + k2) (.Compare a [op] [b] pos) P3 :=
  pdt_of (fun X G => pt_cmpR (ho X G) (tE_ok G) (tE_ok G) hm) (tt_test (td_op ha hb hr))
/-- a value that is a bool, as a test -/
theorem pdt_val {P : Bool → Prop} (h : PD S Γ k e cBool P) (he : ∀ (env : Env) whole, isTrue e env whole = (do let v ← whole; standAt e.pos; holding [v] (truthy v))) : PDT S Γ k e P :=
  pdt_of (fun X G => pt_val (tE_ok G) (he _)) (tt_B h)
theorem pdt_not {b : Bool} (h : PDT S Γ k a (· = b)) : PDT S Γ k (.UnaryOp .Not a pos) (· = !b) := pdt_of (fun X G => pt_not (tT_ok G)) (tt_not' h)
theorem pdt_w {P : Bool → Prop} (h : PDW S Γ k e P) : PDT S Γ k e P := pdt_of (fun X G => (tWt_ok G).pt) h
theorem pdw_and1 {P : Bool → Prop} (h : PDT S Γ k a P) : PDW S Γ k (.BoolOp .And [a] pos) P := pdw_of (fun X G => pw_and1 (tT_ok G)) h
theorem pdw_or1 {P : Bool → Prop} (h : PDT S Γ k a P) : PDW S Γ k (.BoolOp .Or [a] pos) P := pdw_of (fun X G => pw_or1 (tT_ok G)) h
theorem pdw_and {x y : Bool} {rest : List Expr} (h1 : PDT S Γ k1 a (· = x)) (h2 : x = true → PDW S Γ k2 (.BoolOp .And (b :: rest) pos) (· = y)) : PDW S Γ (k1 + k2) (.BoolOp .And (a :: b :: rest) pos) (· = (x && y)) :=
  pdw_of (fun X G => pw_and (tT_ok G) (tWt_ok G)) (tt_and' h1 h2)
theorem pdw_or {x y : Bool} {rest : List Expr} (h1 : PDT S Γ k1 a (· = x)) (h2 : x = false → PDW S Γ k2 (.BoolOp .Or (b :: rest) pos) (· = y)) : PDW S Γ (k1 + k2) (.BoolOp .Or (a :: b :: rest) pos) (· = (x || y)) :=
  pdw_of (fun X G => pw_or (tT_ok G) (tWt_ok G)) (tt_or' h1 h2)
theorem pd_and {x y : Bool} {rest : List Expr} (h1 : PD S Γ k1 a cBool (· = x)) (h2 : x = true → PD S Γ k2 (.BoolOp .And (b :: rest) pos) cBool (· = y)) : PD S Γ (k1 + k2) (.BoolOp .And (a :: b :: rest) pos) cBool (· = (x && y)) :=
  pd_of (fun X G => pe_and (tE_ok G) (tE_ok G)) (td_andV' h1 h2)
theorem pd_or {x y : Bool} {rest : List Expr} (h1 : PD S Γ k1 a cBool (· = x)) (h2 : x = false → PD S Γ k2 (.BoolOp .Or (b :: rest) pos) cBool (· = y)) : PD S Γ (k1 + k2) (.BoolOp .Or (a :: b :: rest) pos) cBool (· = (x || y)) :=
  pd_of (fun X G => pe_or (tE_ok G) (tE_ok G)) (td_orV' h1 h2)
theorem pd_one {op : BoolOp} (h : PD S Γ k a c P) : PD S Γ k (.BoolOp op [a] pos) c P := pd_of (fun X G => pe_one (tE_ok G)) h
theorem pd_not {b : Bool} (h : PD S Γ k a cBool (· = b)) : PD S Γ k (.UnaryOp .Not a pos) cBool (· = !b) := pd_of (fun X G => pe_not (tE_ok G)) (td_notV' h)
theorem pd_if {b' : Bool → Prop} (h : PDT S Γ k1 d b') (ha : b' true → PD S Γ k2 a c P) (hb : b' false → PD S Γ k3 b c P) : PD S Γ (k1 + max k2 k3) (.IfExp d a b pos) c P := pd_of (fun X G => pe_ifExp (tT_ok G) (tE_ok G) (tE_ok G)) (td_if h ha hb)
/-! ### arguments, displays -/
theorem pda_nil : PDA S Γ 0 [] (· = []) := pda_of (fun X G => pa_nil) ta_nil
theorem pda_cons {B : Ctxt → Prop} (h : PD S Γ k1 e c P) (hr : PDA S Γ k2 es B) (hs : ∀ env : Env, starEach (e :: es) env = (false, eval e env) :: starEach es env) : PDA S Γ (k1 + k2) (e :: es) (fun as => ∃ x r, P x ∧ B r ∧ as = .d c x :: r) :=
  pda_of (fun X G => pa_cons (tE_ok G) (tA_ok G) (hs _)) (ta_cons h hr)
theorem pda_box {B : Ctxt → Prop} {i : Nat} {x : Str} {z : Addr} (hΓ : Γ[i]? = some (.bx z)) (hN : S.N[i]? = some x) (hv : Vis S.sc x) (hr : PDA S Γ k2 es B) (hd : (x == ("__debug__" : Str)) = false := by decide) (hcd : (x == ("__classdict__" : Str)) = false := by decide) : PDA S Γ k2 (.Name x pos :: es) (fun as => ∃ r, B r ∧ as = .bx z :: r) :=
  pda_of (fun X G => pa_cons (pe_slot G hN hv hd hcd) (tA_ok G) rfl) (ta_box hΓ hr)
/-- the pure ones -/
theorem pda_one {x : α} (h : PD S Γ k e c (· = x)) (hs : ∀ env : Env, starEach [e] env = (false, eval e env) :: starEach [] env) : PDA S Γ (k + 0) [e] (· = [.d c x]) := (pda_cons h pda_nil hs).imp fun as ⟨y, r, h1, h2, h3⟩ => by subst h1 h2; exact h3
theorem pda_more {x : α} {l : Ctxt} (h : PD S Γ k1 e c (· = x)) (hr : PDA S Γ k2 es (· = l)) (hs : ∀ env : Env, starEach (e :: es) env = (false, eval e env) :: starEach es env) : PDA S Γ (k1 + k2) (e :: es) (· = .d c x :: l) := (pda_cons h hr hs).imp fun as ⟨y, r, h1, h2, h3⟩ => by subst h1 h2; exact h3
theorem pda_boxp {i : Nat} {x : Str} {z : Addr} {l : Ctxt} (hΓ : Γ[i]? = some (.bx z)) (hN : S.N[i]? = some x) (hv : Vis S.sc x) (hr : PDA S Γ k2 es (· = l)) (hd : (x == ("__debug__" : Str)) = false := by decide) (hcd : (x == ("__classdict__" : Str)) = false := by decide) : PDA S Γ k2 (.Name x pos :: es) (· = .bx z :: l) :=
  (pda_box hΓ hN hv hr hd hcd).imp fun as ⟨r, h2, h3⟩ => by subst h2; exact h3
theorem pdf_lst {B : Ctxt → Prop} {R : List α → Prop} (h : PDA S Γ k es B) (hi : ∀ as, B as → ∃ xs : List α, as = xs.map (fun x => Sl.d c x) ∧ xs.length ≤ 1000 ∧ R xs) : PDF S Γ k (.List es pos) c R := pdf_of (fun X G => pe_lst (tA_ok G)) (tdf_lst h hi)
theorem pdf_nil : PDF S Γ 0 (.List [] pos) c (· = []) := pdf_lst pda_nil fun as e => ⟨[], e, by simp, rfl⟩
theorem pd_tupl {kx : Nat} {B : Ctxt → Prop} {R : List α → Prop} (h : PDA S Γ k es B) (hi : ∀ as, B as → ∃ xs : List α, as = xs.map (fun x => Sl.d c x) ∧ xs.length ≤ 1000 ∧ R xs) : PD S Γ k (.Tuple es kx pos) (cTup c) R := pd_of (fun X G => pe_tup (tA_ok G)) (td_tup h hi)
theorem pd_t2 {kx : Nat} (ha : PD S Γ k1 a c1 P1) (hb : PD S Γ k2 b c2 P2) (hs : ∀ env : Env, starEach [a, b] env = (false, eval a env) :: starEach [b] env) (hs2 : ∀ env : Env, starEach [b] env = (false, eval b env) :: starEach [] env) : PD S Γ (k1 + k2) (.Tuple [a, b] kx pos) (cT2 c1 c2) (fun z => P1 z.1 ∧ P2 z.2) :=
  pd_of (fun X G => pe_tup (pa_cons (tE_ok G) (pa_cons (tE_ok G) pa_nil (hs2 _)) (hs _))) (td_t2 ha hb)
theorem pd_t3 {kx : Nat} (ha : PD S Γ k1 a c1 P1) (hb : PD S Γ k2 b c2 P2) (hd : PD S Γ k3 d c3 P3) (hs : ∀ env : Env, starEach [a, b, d] env = (false, eval a env) :: starEach [b, d] env) (hs2 : ∀ env : Env, starEach [b, d] env = (false, eval b env) :: starEach [d] env) (hs3 : ∀ env : Env, starEach [d] env = (false, eval d env) :: starEach [] env) :
    PD S Γ (k1 + k2 + k3) (.Tuple [a, b, d] kx pos) (cT3 c1 c2 c3) (fun z => P1 z.1 ∧ P2 z.2.1 ∧ P3 z.2.2) :=
  pd_of (fun X G => pe_tup (pa_cons (tE_ok G) (pa_cons (tE_ok G) (pa_cons (tE_ok G) pa_nil (hs3 _)) (hs2 _)) (hs _))) (td_t3 ha hb hd)
theorem pd_t2' {kx : Nat} {x : α} {y : β} (ha : PD S Γ k1 a c1 (· = x)) (hb : PD S Γ k2 b c2 (· = y)) (hs : ∀ env : Env, starEach [a, b] env = (false, eval a env) :: starEach [b] env) (hs2 : ∀ env : Env, starEach [b] env = (false, eval b env) :: starEach [] env) : PD S Γ (k1 + k2) (.Tuple [a, b] kx pos) (cT2 c1 c2) (· = (x, y)) :=
  (pd_t2 ha hb hs hs2).imp fun z ⟨h1, h2⟩ => by cases z; subst h1 h2; rfl
theorem pd_t3' {kx : Nat} {x : α} {y : β} {z : γ} (ha : PD S Γ k1 a c1 (· = x)) (hb : PD S Γ k2 b c2 (· = y)) (hd : PD S Γ k3 d c3 (· = z)) (hs : ∀ env : Env, starEach [a, b, d] env = (false, eval a env) :: starEach [b, d] env) (hs2 : ∀ env : Env, starEach [b, d] env = (false, eval b env) :: starEach [d] env) (hs3 : ∀ env : Env, starEach [d] env = (false, eval d env) :: starEach [] env) :
    PD S Γ (k1 + k2 + k3) (.Tuple [a, b, d] kx pos) (cT3 c1 c2 c3) (· = (x, y, z)) :=
  (pd_t3 ha hb hd hs hs2 hs3).imp fun w ⟨h1, h2, h3⟩ => by obtain ⟨w1, w2, w3⟩ := w; subst h1 h2 h3; rfl
/-! ### targets, walks, comprehensions -/
theorem fnOr (G : Good S X) {x : Str} (h : S.fn x = true ∨ S.sc.names.lookup x = some .local) : X.fn x = true ∨ X.env.scope.names.lookup x = some .local := by rw [G.fn, G.sc]; exact h
theorem pdg_name {i : Nat} {x : Str} {y : α} (nb : NoBx Γ i) (hi : S.N[i]? = some x) (hx : Loc S.sc x) (hf : S.fn x = true ∨ S.sc.names.lookup x = some .local) : PDG S (.Name x pos) c y Γ (Γ.set i (.d c y)) [i] :=
  pdg_of (fun X G => pg_name (by rw [G.N]; exact G.nd) (by rw [G.N]; exact hi) (loc G hx) (fnOr G hf)) (gd_name nb)
theorem pdg_t2 {kx : Nat} {x : α × β} {is js : List Nat} (h1 : PDG S a c1 x.1 Γ Γ1 is) (h2 : PDG S b c2 x.2 Γ1 Γ2 js) (hs : ∀ env : Env, (assignEach [a, b] env).map (·.2) = assign a env :: (assignEach [b] env).map (·.2)) (hs2 : ∀ env : Env, (assignEach [b] env).map (·.2) = assign b env :: (assignEach [] env).map (·.2))
    (hn : ∀ env : Env, (assignEach [a, b] env).length = 2) (hst : ∀ env : Env, (assignEach [a, b] env).findIdx? (·.1) = none) : PDG S (.Tuple [a, b] kx pos) (cT2 c1 c2) x Γ Γ2 (is ++ js) :=
  pdg_of (g := gTup S.K 2 (gCons (tGt S a) (gCons (tGt S b) gNil))) (fun X G => by rw [← G.K]; exact pg_tup G.calm (pgs_cons (tGt_ok G) (pgs_cons (tGt_ok G) pgs_nil (hs2 _)) (hs _)) (hn _) (hst _)) (gd_t2 h1 h2)
theorem pdg_t3 {kx : Nat} {x : α × β × γ} {is js ls : List Nat} (h1 : PDG S a c1 x.1 Γ Γ1 is) (h2 : PDG S b c2 x.2.1 Γ1 Γ2 js) (h3 : PDG S d c3 x.2.2 Γ2 Γ3 ls) (hs : ∀ env : Env, (assignEach [a, b, d] env).map (·.2) = assign a env :: (assignEach [b, d] env).map (·.2)) (hs2 : ∀ env : Env, (assignEach [b, d] env).map (·.2) = assign b env :: (assignEach [d] env).map (·.2))
    (hs3 : ∀ env : Env, (assignEach [d] env).map (·.2) = assign d env :: (assignEach [] env).map (·.2)) (hn : ∀ env : Env, (assignEach [a, b, d] env).length = 3) (hst : ∀ env : Env, (assignEach [a, b, d] env).findIdx? (·.1) = none) : PDG S (.Tuple [a, b, d] kx pos) (cT3 c1 c2 c3) x Γ Γ3 (is ++ js ++ ls) :=
  pdg_of (g := gTup S.K 3 (gCons (tGt S a) (gCons (tGt S b) (gCons (tGt S d) gNil)))) (fun X G => by rw [← G.K]; exact pg_tup G.calm (pgs_cons (tGt_ok G) (pgs_cons (tGt_ok G) (pgs_cons (tGt_ok G) pgs_nil (hs3 _)) (hs2 _)) (hs _)) (hn _) (hst _)) (gd_t3 h1 h2 h3)
theorem pdi_list {tg : Expr} {R : List α → Prop} (h : PD S Γ k e (cList c) R) : PDI S Γ k tg e c R := pdi_of (wi := iList S.K (tE S e)) (fun X G => by rw [← G.K]; exact pi_list (tE_ok G)) (tw_list h)
theorem pdi_tup {tg : Expr} {R : List α → Prop} (h : PD S Γ k e (cTup c) R) : PDI S Γ k tg e c R := pdi_of (wi := iTup S.K (tE S e)) (fun X G => by rw [← G.K]; exact pi_tup (tE_ok G)) (tw_tup h)
theorem pdi_range1 {tg : Expr} {pn : Pos} {B : Ctxt → Prop} {R : List Int → Prop} (hg : S.sc.names.lookup ("range" : Str) = some .globalImplicit) (hm : S.mg "range" = none) (h : PDA S Γ k [a] B) (hi : ∀ as, B as → ∃ j : Int, as = [.d cInt j] ∧ -4611686018427387904 ≤ j ∧ j ≤ 1000000 ∧ R (rangeL 0 j.toNat))
    (hs : ∀ env : Env, starEach [a] env = [(false, eval a env)]) : PDI S Γ k tg (.Call (.Name "range" pn) [a] [] pos) cInt R := pdi_of (fun X G => pi_range1 (glb G hg) (by rw [G.mg]; exact hm) (tA_ok G) (hs _)) (tw_range1 h hi)
theorem pdi_range2 {tg : Expr} {pn : Pos} {B : Ctxt → Prop} {R : List Int → Prop} (hg : S.sc.names.lookup ("range" : Str) = some .globalImplicit) (hm : S.mg "range" = none) (h : PDA S Γ k [a, b] B)
    (hi : ∀ as, B as → ∃ i j : Int, as = [.d cInt i, .d cInt j] ∧ -1000000000 ≤ i ∧ i ≤ 1000000000 ∧ -1000000000 ≤ j ∧ j ≤ 1000000000 ∧ j - i ≤ 1000000 ∧ R (rangeL i (j - i).toNat))
    (hs : ∀ env : Env, starEach [a, b] env = [(false, eval a env), (false, eval b env)]) (hs2 : ∀ env : Env, starEach [b] env = [(false, eval b env)]) : PDI S Γ k tg (.Call (.Name "range" pn) [a, b] [] pos) cInt R := pdi_of (fun X G => pi_range2 (glb G hg) (by rw [G.mg]; exact hm) (tA_ok G) (hs _) (hs2 _)) (tw_range2 h hi)
theorem tts_nil : TDT (tTs S []) Γ 0 (· = true) := fun O n σ Hf H hn s Q q => ⟨tYes, fun X G => pts_nil, tt_yes O n σ Hf H hn s Q q⟩
theorem tts_one {P : Bool → Prop} (h : PDT S Γ k e P) : TDT (tTs S [e]) Γ k P := fun O n σ Hf H hn s Q q => ⟨tT S e, fun X G => pts_one (tT_ok G), h O n σ Hf H hn s Q q⟩
abbrev lcRd (S : Stc) (tg iter : Expr) (ifs : List Expr) (elt : Expr) (scope : Scope) (own : List (Str × Nat)) : TE := tLc (tI S tg iter) (tGt (S.blk scope) tg) (tTs (S.blk scope) ifs) (tE (S.blk scope) elt) (own.map (·.2))
theorem pe_lcR (G : Good S X) {elt tg iter : Expr} {ifs : List Expr} {scope : Scope} {own : List (Str × Nat)} (ok : blkC S.N S.sc scope own = true) (hs : ∀ (env : Env) x, foldedSetIterable iter env x = pure x) : PE X (.ListComp elt [⟨tg, iter, ifs, 0⟩] scope pos) (lcRd S tg iter ifs elt scope own) :=
  pe_lc G.calm (by rw [G.N]; exact G.nd) (tI_ok G) (blkOk_by (by rw [G.N, G.sc]; exact ok)) (fun s H C cl fp => tGt_ok (G.blk scope s H C cl fp)) (fun s H C cl fp => tTs_ok (G.blk scope s H C cl fp)) (fun s H C cl fp => tE_ok (G.blk scope s H C cl fp)) (hs _)
theorem pdf_lc {elt tg iter : Expr} {ifs : List Expr} {scope : Scope} {own : List (Str × Nat)} {R : List β → Prop} (ok : blkC S.N S.sc scope own = true) (hs : ∀ (env : Env) x, foldedSetIterable iter env x = pure x) (h : TDF (lcRd S tg iter ifs elt scope own) Γ k c' R) : PDF S Γ k (.ListComp elt [⟨tg, iter, ifs, 0⟩] scope pos) c' R :=
  pdf_of (fun X G => pe_lcR G ok hs) h
/-! ### statements -/
variable {st : Stmt} {sts sts2 : List Stmt} {N1 : Ctxt → Prop}
theorem phs_nil (h : p.N Γ) : PHs S Γ 0 [] p := phs_of (fun X G => pss_nil) (hs_next h)
theorem phs_cons (h1 : PH S Γ k1 st { p with N := N1 }) (h2 : ∀ Γ1, N1 Γ1 → PHs S Γ1 k2 sts p) : PHs S Γ (k1 + k2) (st :: sts) p := phs_of (fun X G => pss_cons (tS1_ok G) (tSs_ok G)) (hs_seq h1 h2)
theorem phs_one (h1 : PH S Γ k1 st p) : PHs S Γ k1 [st] p := phs_of (fun X G => pss_one (tS1_ok G)) h1
theorem ph_ret (h : PD S Γ k e c P) (hr : ∀ H v x, P x → c.rep H v x → ∃ y, p.R y ∧ p.c.rep H v y) : PH S Γ k (.Return (some e) pos) p := ph_of (fun X G => ps_ret (tE_ok G)) (hs_ret h hr)
theorem ph_ret' {R' : ρ → Prop} (h : PD S Γ k e p.c R') (hr : ∀ x, R' x → p.R x) : PH S Γ k (.Return (some e) pos) p := ph_ret h fun H v x px r => ⟨x, hr x px, r⟩
theorem ph_ret_l {i : Nat} {x : Str} {xs : List α} (hΓ : Γ[i]? = some (.l c xs)) (nb : NoBx Γ i) (hN : S.N[i]? = some x) (hv : Vis S.sc x) (hr : ∀ H v, (cList c).rep H v xs → ∃ y, p.R y ∧ p.c.rep H v y) (hd : (x == ("__debug__" : Str)) = false := by decide) (hcd : (x == ("__classdict__" : Str)) = false := by decide) : PH S Γ 0 (.Return (some (.Name x pos')) pos) p :=
  ph_of (fun X G => ps_ret (pe_slot G hN hv hd hcd)) (hs_ret_l hΓ nb hr)
theorem ph_if {b' : Bool → Prop} (h : PDT S Γ k1 e b') (ha : b' true → PHs S Γ k2 sts p) (hb : b' false → PHs S Γ k3 sts2 p) : PH S Γ (k1 + max k2 k3) (.If e sts sts2 pos) p := ph_of (fun X G => ps_if (tT_ok G) (tSs_ok G) (tSs_ok G)) (hs_if h ha hb)
theorem ph_set {i : Nat} {x : Str} (h : PD S Γ k e c P) (nb : NoBx Γ i) (hp : ∀ y, P y → p.N (Γ.set i (.d c y))) (hi : S.N[i]? = some x) (hx : Loc S.sc x) (hs : ∀ env : Env, env.scope = S.sc → swapsWith e (some (.Name x pos')) pos.line env = pure false) (hf : S.fn x = true ∨ S.sc.names.lookup x = some .local) : PH S Γ k (.Assign [.Name x pos'] e pos) p :=
  ph_of (fun X G => ps_set (by rw [G.N]; exact G.nd) (by rw [G.N]; exact hi) (loc G hx) (tE_ok G) (hs _ G.sc) (fnOr G hf)) (hs_set h nb hp)
theorem ph_setL {i : Nat} {x : Str} {R : List α → Prop} (h : PDF S Γ k e c R) (nb : NoBx Γ i) (hp : ∀ y, R y → p.N (Γ.set i (.l c y))) (hi : S.N[i]? = some x) (hx : Loc S.sc x) (hs : ∀ env : Env, env.scope = S.sc → swapsWith e (some (.Name x pos')) pos.line env = pure false) (hf : S.fn x = true ∨ S.sc.names.lookup x = some .local) : PH S Γ k (.Assign [.Name x pos'] e pos) p :=
  ph_of (fun X G => ps_set (by rw [G.N]; exact G.nd) (by rw [G.N]; exact hi) (loc G hx) (tE_ok G) (hs _ G.sc) (fnOr G hf)) (hs_setL h nb hp)
theorem ps_lcR (G : Good S X) {i : Nat} {y : Str} {py spos : Pos} {elt tg iter : Expr} {ifs : List Expr} {scope : Scope} {own : List (Str × Nat)} (hi : S.N[i]? = some y) (hyl : S.sc.names.lookup y = some .local) (hl : (py.line == pos.line) = true) (hk : S.sc.kind = .function)
    (ha : (scope.names.any fun (n, k) => n == y && (k == .local || k == .cell)) = false) (ok : blkC S.N S.sc scope own = true) (hs : ∀ (env : Env) x, foldedSetIterable iter env x = pure x) : PS X (.Assign [.Name y py] (.ListComp elt [⟨tg, iter, ifs, 0⟩] scope pos) spos) (tAsg (lcRd S tg iter ifs elt scope own) (gName i)) :=
  ps_setLc G.calm (by rw [G.N]; exact G.nd) (by rw [G.N]; exact hi) (by rw [G.sc]; exact hyl) (sw_true (by rw [G.sc]; exact hk) (by rw [G.sc]; exact hyl) hl ha) (tI_ok G) (blkOk_by (by rw [G.N, G.sc]; exact ok))
    (fun s H C cl fp => tGt_ok (G.blk scope s H C cl fp)) (fun s H C cl fp => tTs_ok (G.blk scope s H C cl fp)) (fun s H C cl fp => tE_ok (G.blk scope s H C cl fp)) (hs _)
/-- x = [..], x a plain local: as data, as a list of one's own -/
theorem ph_setLc {i : Nat} {y : Str} {py spos : Pos} {elt tg iter : Expr} {ifs : List Expr} {scope : Scope} {own : List (Str × Nat)} {R : List β → Prop} (h : TDF (lcRd S tg iter ifs elt scope own) Γ k c' R) (nb : NoBx Γ i) (hp : ∀ y, R y → p.N (Γ.set i (.d (cList c') y))) (hi : S.N[i]? = some y) (hyl : S.sc.names.lookup y = some .local) (hl : (py.line == pos.line) = true) (hk : S.sc.kind = .function)
    (ha : (scope.names.any fun (n, k) => n == y && (k == .local || k == .cell)) = false) (ok : blkC S.N S.sc scope own = true) (hs : ∀ (env : Env) x, foldedSetIterable iter env x = pure x) : PH S Γ k (.Assign [.Name y py] (.ListComp elt [⟨tg, iter, ifs, 0⟩] scope pos) spos) p :=
  ph_of (fun X G => ps_lcR G hi hyl hl hk ha ok hs) (hs_set h.td nb hp)
theorem ph_for {tg iter : Expr} {X' : List α → Prop} {kn : Nat} (I : List α → List α → Ctxt → Prop) (hw : PDI S Γ k tg iter c X') (h0 : ∀ xs, X' xs → I xs [] Γ) (hk : ∀ xs, X' xs → xs.length * kk ≤ kn)
    (hs : ∀ xs, X' xs → ∀ pre x post Γ1, xs = pre ++ x :: post → I xs pre Γ1 → ∃ Γ2 is, PDG S tg c x Γ1 Γ2 is ∧ PHs S Γ2 kk sts { N := I xs (pre ++ [x]), ct := I xs (pre ++ [x]), bk := p.N, c := p.c, R := p.R })
    (hd : ∀ xs Γ1, X' xs → I xs xs Γ1 → p.N Γ1) (hfs : ∀ (env : Env) x, foldedSetIterable iter env x = pure x) : PH S Γ (k + kn) (.For tg iter sts [] pos) p :=
  ph_of (fun X G => ps_for (by rw [G.nox]; exact PassesOwn.never) G.calm (tI_ok G) (tGt_ok G) (tSs_ok G) (hfs _)) (hs_for I hw h0 hk hs hd)
/-- .. the names at vs are forgotten between the turns -/
theorem ph_forV {tg iter : Expr} {X' : List α → Prop} {kn : Nat} (vs : List Nat) (I : List α → List α → Ctxt → Prop) (hw : PDI S Γ k tg iter c X') (h0 : ∀ xs, X' xs → I xs [] Γ) (hk : ∀ xs, X' xs → xs.length * kk ≤ kn)
    (hs : ∀ xs, X' xs → ∀ pre x post Γ1, xs = pre ++ x :: post → I xs pre Γ1 → ∃ Γ2 is, PDG S tg c x Γ1 Γ2 is ∧ PHs S Γ2 kk sts { N := fun Γ' => NoBxs Γ' vs ∧ I xs (pre ++ [x]) (wipeC Γ' vs), ct := I xs (pre ++ [x]), bk := p.N, c := p.c, R := p.R })
    (hd : ∀ xs Γ1, X' xs → I xs xs Γ1 → p.N Γ1) (hfs : ∀ (env : Env) x, foldedSetIterable iter env x = pure x) : PH S Γ (k + kn) (.For tg iter sts [] pos) p :=
  ph_for I hw h0 hk (fun xs hx pre x post Γ1 e hI => by
    obtain ⟨Γ2, is, g, h⟩ := hs xs hx pre x post Γ1 e hI
    exact ⟨Γ2, is, g, HS.forget (p := { N := I xs (pre ++ [x]), ct := I xs (pre ++ [x]), bk := p.N, c := p.c, R := p.R }) vs h fun Γ' z => z⟩) hd hfs
theorem ph_append {i : Nat} {x : Str} {xs : List α} {p1 p2 : Pos} (hΓ : Γ[i]? = some (.l c xs)) (nb : NoBx Γ i) (he : PD S Γ k e c P) (lb : xs.length + 1 ≤ LB) (hp : ∀ y, P y → p.N (Γ.set i (.l c (xs ++ [y])))) (hN : S.N[i]? = some x) (hv : Vis S.sc x)
    (hfew : ∀ env : Env, ((backTo p2 (starEach [e] env)).all (fun x => !x.1) && (backToKw p2 (keywordEach [] env)).all (fun x => x.1.isSome) && decide ([e].length + ([] : List Keyword).length + (if ([] : List Keyword).isEmpty then 0 else 1) < 30)) = true)
    (hline : (p1.endLine == p2.line) = true) (hs : ∀ env : Env, starEach [e] env = (false, eval e env) :: starEach [] env) (hsw : ∀ env : Env, swapsWith (.Call (.Attribute (.Name x pos') "append" p1) [e] [] p2) none pos.line env = pure false) (hd : (x == ("__debug__" : Str)) = false := by decide) (hcd : (x == ("__classdict__" : Str)) = false := by decide) :
    PH S Γ k (.Expr (.Call (.Attribute (.Name x pos') "append" p1) [e] [] p2) pos) p :=
  ph_of (ts := tDrop (tBM S.K "list" rAppend (tVar i) (tCons (tE S e) tNil))) (fun X G => by
    rw [← G.K]
    exact ps_expr (pe_bm PySem.F.plainAttrs_list PySem.F.slot_list_append PySem.F.type_list_append mt_append (pe_slot G hN hv hd hcd) (pa_cons (tE_ok G) pa_nil (hs _)) rfl (hfew _) hline (hs _) rfl) (hsw _)) (hs_append hΓ nb he lb hp)
end
end DL

set_option Elab.async false
set_option linter.all false
set_option maxRecDepth 100000
set_option maxHeartbeats 2000000
namespace DL
open PySem PySem.Spec L2
/-! ### data that can be compared at any depth -/
structure EqC {α : Type} [DecidableEq α] (c : Cod α) where
  D : α → PyData
  n : Nat
  dp : ∀ (K : PySem.W.Frag) (H : Hp) v x, c.rep H v x → Dp K H v (D x)
  lay : ∀ x, (D x).canLay0 = true
  dep : ∀ x, (D x).depth ≤ n
  eqv : ∀ x y, PyData.eqv (D x) (D y) = decide (x = y)
def eInt : EqC cInt := ⟨.int, 1, fun _ _ _ _ h => by obtain rfl := h; exact .int _, fun _ => rfl, fun _ => by simp [PyData.depth], fun x y => by simp only [PyData.eqv]; exact Bool.beq_eq_decide_eq x y⟩
def eBool : EqC cBool := ⟨.bool, 1, fun _ _ _ _ h => by obtain rfl := h; exact .bl _, fun _ => rfl, fun _ => by simp [PyData.depth], fun x y => by simp only [PyData.eqv]; exact Bool.beq_eq_decide_eq x y⟩
theorem dpAll_of {α : Type} {c : Cod α} {D : α → PyData} {K : PySem.W.Frag} {H : Hp} (h : ∀ v x, c.rep H v x → Dp K H v (D x)) : ∀ {vs : List V} {xs : List α}, Paired (c.rep H) vs xs → DpAll K H vs (xs.map D)
  | _, _, .nil => .nil
  | _, _, .cons r t => .cons (h _ _ r) (dpAll_of h t)
theorem layAll {α : Type} {D : α → PyData} (h : ∀ x, (D x).canLay0 = true) : ∀ xs : List α, PyData.canLayAll0 (xs.map D) = true
  | [] => rfl
  | x :: xs => by simp [PyData.canLayAll0, h x, layAll h xs]
theorem depAll {α : Type} {D : α → PyData} {n : Nat} (h : ∀ x, (D x).depth ≤ n) : ∀ xs : List α, PyData.depthAll (xs.map D) ≤ n
  | [] => by simp [PyData.depthAll]
  | x :: xs => by
    have h1 := h x
    have h2 := depAll h xs
    simp only [List.map_cons, PyData.depthAll]
    omega
theorem eqvAll_dec {α : Type} [DecidableEq α] {D : α → PyData} (h : ∀ x y, PyData.eqv (D x) (D y) = decide (x = y)) : ∀ xs ys : List α, PyData.eqvAll (xs.map D) (ys.map D) = decide (xs = ys)
  | [], [] => by simp [PyData.eqvAll]
  | [], _ :: _ => by simp [PyData.eqvAll]
  | _ :: _, [] => by simp [PyData.eqvAll]
  | x :: xs, y :: ys => by
    simp only [List.map_cons, PyData.eqvAll, h x y, eqvAll_dec h xs ys]
    by_cases e1 : x = y <;> by_cases e2 : xs = ys <;> simp [e1, e2]
def eList {α : Type} [DecidableEq α] {c : Cod α} (e : EqC c) : EqC (cList c) := ⟨fun xs => .list (xs.map e.D), e.n + 1, fun K H v xs ⟨a, vs, h1, h2, h3, _⟩ => by
    subst h1; exact .lst (SqL.of h2) (dpAll_of (fun v x r => e.dp K H v x r) h3),
  fun xs => layAll e.lay xs, fun xs => by simp only [PyData.depth]; exact Nat.succ_le_succ (depAll e.dep xs), fun xs ys => by simp only [PyData.eqv]; exact eqvAll_dec e.eqv xs ys⟩
def eTup {α : Type} [DecidableEq α] {c : Cod α} (e : EqC c) : EqC (cTup c) := ⟨fun xs => .tuple (xs.map e.D), e.n + 1, fun K H v xs ⟨a, vs, h1, h2, h3, _⟩ => by
    subst h1; exact .tup (SqT.of h2) (dpAll_of (fun v x r => e.dp K H v x r) h3),
  fun xs => layAll e.lay xs, fun xs => by simp only [PyData.depth]; exact Nat.succ_le_succ (depAll e.dep xs), fun xs ys => by simp only [PyData.eqv]; exact eqvAll_dec e.eqv xs ys⟩
def eT2 {α β : Type} [DecidableEq α] [DecidableEq β] {c : Cod α} {d : Cod β} (e : EqC c) (f : EqC d) : EqC (cT2 c d) := ⟨fun x => .tuple [e.D x.1, f.D x.2], max e.n f.n + 1, fun K H v x ⟨a, u, w, h1, h2, h3, h4⟩ => by
    subst h1; exact .tup (SqT.of h2) (.cons (e.dp K H _ _ h3) (.cons (f.dp K H _ _ h4) .nil)),
  fun x => by simp [PyData.canLay0, PyData.canLayAll0, e.lay, f.lay], fun x => by
    have h1 := e.dep x.1; have h2 := f.dep x.2
    simp only [PyData.depth, PyData.depthAll]; omega, fun x y => by
    simp only [PyData.eqv, PyData.eqvAll, e.eqv, f.eqv]
    obtain ⟨x1, x2⟩ := x; obtain ⟨y1, y2⟩ := y
    by_cases e1 : x1 = y1 <;> by_cases e2 : x2 = y2 <;> simp [e1, e2]⟩
def eT3 {α β γ : Type} [DecidableEq α] [DecidableEq β] [DecidableEq γ] {c : Cod α} {d : Cod β} {g : Cod γ} (e : EqC c) (f : EqC d) (l : EqC g) : EqC (cT3 c d g) := ⟨fun x => .tuple [e.D x.1, f.D x.2.1, l.D x.2.2], max e.n (max f.n l.n) + 1, fun K H v x ⟨a, u, w, y, h1, h2, h3, h4, h5⟩ => by
    subst h1; exact .tup (SqT.of h2) (.cons (e.dp K H _ _ h3) (.cons (f.dp K H _ _ h4) (.cons (l.dp K H _ _ h5) .nil))),
  fun x => by simp [PyData.canLay0, PyData.canLayAll0, e.lay, f.lay, l.lay], fun x => by
    have h1 := e.dep x.1; have h2 := f.dep x.2.1; have h3 := l.dep x.2.2
    simp only [PyData.depth, PyData.depthAll]; omega, fun x y => by
    simp only [PyData.eqv, PyData.eqvAll, e.eqv, f.eqv, l.eqv]
    obtain ⟨x1, x2, x3⟩ := x; obtain ⟨y1, y2, y3⟩ := y
    by_cases e1 : x1 = y1 <;> by_cases e2 : x2 = y2 <;> by_cases e3 : x3 = y3 <;> simp [e1, e2, e3]⟩
abbrev cI3 : Cod (Int × Int × Int) := cT3 cInt cInt cInt
abbrev eI3 : EqC cI3 := eT3 eInt eInt eInt
section
variable {S : Stc} {X : Cx}
variable {Γ Γ1 Γ2 Γ3 : Ctxt} {k k1 k2 k3 kk kt ke : Nat} {A α β γ ρ : Type} {c : Cod α} {c' : Cod β} {cr : Cod ρ} {c1 : Cod α} {c2 : Cod β} {c3 : Cod γ} {P P1 : α → Prop} {P2 : β → Prop} {P3 : γ → Prop} {te to ti : TE} {tt : TT} {t u : TS} {p : Po ρ} {ta tx : TA} {e a b d : Expr} {es : List Expr} {pos pos' pn : Pos}
theorem rd_eqD [DecidableEq α] {K : PySem.W.Frag} {x y : α} (q : EqC c) (hn : q.n ≤ 64) : RD (rEqD K) c x c y cBool (· = decide (x = y)) := fun Hf H v u e h1 h2 Q k =>
  ⟨_, _, q.dp K H _ _ (c.mono e h1), q.dp K H _ _ (c.mono e h2), by unfold SeqAt.shaped; rw [q.lay, Bool.true_and]; exact decide_eq_true (Nat.le_trans (q.dep x) hn), by unfold SeqAt.shaped; rw [q.lay, Bool.true_and]; exact decide_eq_true (Nat.le_trans (q.dep y) hn), by
    rw [q.eqv]; exact k _ Hf H _ rfl rfl Fr.refl e⟩
theorem rd_neD [DecidableEq α] {K : PySem.W.Frag} {x y : α} (q : EqC c) (hn : q.n ≤ 64) : RD (rNeD K) c x c y cBool (· = !decide (x = y)) := fun Hf H v u e h1 h2 Q k =>
  ⟨_, _, q.dp K H _ _ (c.mono e h1), q.dp K H _ _ (c.mono e h2), by unfold SeqAt.shaped; rw [q.lay, Bool.true_and]; exact decide_eq_true (Nat.le_trans (q.dep x) hn), by unfold SeqAt.shaped; rw [q.lay, Bool.true_and]; exact decide_eq_true (Nat.le_trans (q.dep y) hn), by
    rw [q.eqv]; exact k _ Hf H _ rfl rfl Fr.refl e⟩
theorem op_eqDG {K : PySem.W.Frag} (hK : S.K = K) : ∀ X, Good S X → OpR X (compareOp .Eq) (rEqD K) := fun X G => by rw [← hK, ← G.K]; exact op_eqD G.room.units
theorem op_neDG {K : PySem.W.Frag} (hK : S.K = K) : ∀ X, Good S X → OpR X (compareOp .NotEq) (rNeD K) := fun X G => by rw [← hK, ← G.K]; exact op_neD G.room.units
/-- ints in a list, a tuple -/
theorem inV_ints (i : Int) : ∀ ns : List Int, inV (.int i) (ns.map V.int) = decide (i ∈ ns)
  | [] => by simp [inV]
  | n :: ns => by
    have ih := inV_ints i ns
    unfold inV at ih ⊢
    rw [List.map_cons, List.any_cons, ih]
    simp only [eqV, List.mem_cons]
    by_cases e : n = i
    · subst e; simp
    · have e2 : ¬ i = n := fun z => e z.symm
      simp [e, e2]
theorem ints_of_paired : ∀ {vs : List V} {ns : List Int} {H : Hp}, Paired (cInt.rep H) vs ns → vs = ns.map V.int
  | _, _, _, .nil => rfl
  | _, _, _, .cons r t => by obtain rfl := r; rw [ints_of_paired t]; rfl
theorem bools_of_paired : ∀ {vs : List V} {ns : List Bool} {H : Hp}, Paired (cBool.rep H) vs ns → vs = ns.map V.bl
  | _, _, _, .nil => rfl
  | _, _, _, .cons r t => by obtain rfl := r; rw [bools_of_paired t]; rfl
theorem flat_ints : ∀ ns : List Int, (ns.map V.int).all flatV = true
  | [] => rfl
  | n :: ns => by simp [flatV]
theorem rd_inI {K : PySem.W.Frag} {neg : Bool} {x : Int} {xs : List Int} : RD (rIn K neg) cInt x (cList cInt) xs cBool (· = if neg then !decide (x ∈ xs) else decide (x ∈ xs)) := fun Hf H v u e h1 ⟨a, vs, h2, h3, h4, _⟩ Q k => by
  obtain rfl := h1
  have := ints_of_paired h4
  subst this
  refine ⟨a, xs.map V.int, h2, .inl (SqL.of (e _ _ h3)), rfl, flat_ints xs, ?_⟩
  rw [inV_ints]
  exact k _ Hf H _ rfl rfl Fr.refl e
theorem rd_inIT {K : PySem.W.Frag} {neg : Bool} {x : Int} {xs : List Int} : RD (rIn K neg) cInt x (cTup cInt) xs cBool (· = if neg then !decide (x ∈ xs) else decide (x ∈ xs)) := fun Hf H v u e h1 ⟨a, vs, h2, h3, h4, _⟩ Q k => by
  obtain rfl := h1
  have := ints_of_paired h4
  subst this
  refine ⟨a, xs.map V.int, h2, .inr (SqT.of (e _ _ h3)), rfl, flat_ints xs, ?_⟩
  rw [inV_ints]
  exact k _ Hf H _ rfl rfl Fr.refl e
theorem op_inG : ∀ X, Good S X → OpR X (compareOp .In) (rIn S.K false) := fun X G => by rw [← G.K]; exact op_in_seq
theorem op_notInG : ∀ X, Good S X → OpR X (compareOp .NotIn) (rIn S.K true) := fun X G => by rw [← G.K]; exact op_notIn_seq
/-- xs + ys -/
theorem tdf_cat {xs ys : List α} (ha : TD te Γ k1 (cList c) (· = xs)) (hb : TD to Γ k2 (cList c) (· = ys)) (lb : xs.length + ys.length ≤ LB) : TDF (tOp rCat te to) Γ (k1 + k2) c (· = xs ++ ys) := fun O n σ Hf H hn S Q q =>
  ha O n σ Hf H (by omega) S _ fun v Hf1 H1 x ex ⟨a, vs, e1, e2, e3, _⟩ f1 S1 => hb O (n + k1) σ Hf1 H1 (by omega) S1 _ fun u Hf2 H2 y ey ⟨b, us, g1, g2, g3, _⟩ f2 S2 => by
    subst ex ey
    have l1 := paired_len e3
    have l2 := paired_len g3
    refine ⟨a, b, vs, us, e1, g1, S2.ex _ _ (f2.ex _ _ e2), S2.ex _ _ g2, lb_line (by omega), fun p hp => ?_⟩
    have e3' : Paired (c.rep Hf2) vs x := paired_mono e3 fun _ _ z => c.mono f2.ex z
    have pap : ∀ {l1 l2 : List V} {m1 m2 : List α}, Paired (c.rep Hf2) l1 m1 → Paired (c.rep Hf2) l2 m2 → Paired (c.rep Hf2) (l1 ++ l2) (m1 ++ m2) := fun {l1 l2 m1 m2} h1 h2 => by
      induction h1 with
      | nil => exact h2
      | cons r t ih => exact .cons r ih
    exact q p (vs ++ us) Hf2 (upd H2 p (.lst (vs ++ us))) _ rfl upd_same (S2.ex.back hp) (f1.dom p (f2.dom p hp)) (pap e3' g3) (by rw [List.length_append]; omega)
      ((f1.trans f2 fun _ h => .inl h).trans (Fr.newO (M := Bx Γ) hp) fun _ z => .inl z) (by rw [← Nat.add_assoc]; exact S2.grow0 (Fr.newO hp) (S2.ex.trans (Ex.new hp)))
theorem pdf_cat {xs ys : List α} (ha : PD S Γ k1 a (cList c) (· = xs)) (hb : PD S Γ k2 b (cList c) (· = ys)) (lb : xs.length + ys.length ≤ LB) : PDF S Γ (k1 + k2) (.BinOp a .Add b pos) c (· = xs ++ ys) := pdf_of (fun X G => pe_op op_cat (tE_ok G) (tE_ok G)) (tdf_cat ha hb lb)
/-- items by place -/
theorem rd_ixL {K : PySem.W.Frag} {xs : List α} {i : Int} {Pz : α → Prop} (h : ∃ z, atI xs i = some z ∧ Pz z) : RD (rIxL K) (cList c) xs cInt i c Pz := fun Hf H v u e ⟨a, vs, h1, h2, h3, _⟩ h4 Q k => by
  obtain ⟨z, hz, pz⟩ := h
  obtain rfl := h4
  have hl := paired_len h3
  unfold atI at hz
  cases e1 : ixN xs.length i with
  | none => rw [e1] at hz; cases hz
  | some j =>
    rw [e1] at hz
    have hz' : xs[j]? = some z := hz
    have hj : j < vs.length := by rw [hl]; exact (List.getElem?_eq_some_iff.mp hz').1
    have hv : vs[j]? = some (vs[j]'hj) := List.getElem?_eq_getElem hj
    exact ⟨a, vs, i, vs[j]'hj, h1, rfl, SqL.of (e _ _ h2), by unfold atI; rw [hl, e1]; exact hv, k z Hf H _ pz (paired_get h3 hv hz') Fr.refl e⟩
theorem rd_ixT {K : PySem.W.Frag} {xs : List α} {i : Int} {Pz : α → Prop} (h : ∃ z, atI xs i = some z ∧ Pz z) : RD (rIxT K) (cTup c) xs cInt i c Pz := fun Hf H v u e ⟨a, vs, h1, h2, h3, _⟩ h4 Q k => by
  obtain ⟨z, hz, pz⟩ := h
  obtain rfl := h4
  have hl := paired_len h3
  unfold atI at hz
  cases e1 : ixN xs.length i with
  | none => rw [e1] at hz; cases hz
  | some j =>
    rw [e1] at hz
    have hz' : xs[j]? = some z := hz
    have hj : j < vs.length := by rw [hl]; exact (List.getElem?_eq_some_iff.mp hz').1
    have hv : vs[j]? = some (vs[j]'hj) := List.getElem?_eq_getElem hj
    exact ⟨a, vs, i, vs[j]'hj, h1, rfl, SqT.of (e _ _ h2), by unfold atI; rw [hl, e1]; exact hv, k z Hf H _ pz (paired_get h3 hv hz') Fr.refl e⟩
theorem rd_ix3_0 {K : PySem.W.Frag} {x : α × β × γ} : RD (rIxT K) (cT3 c1 c2 c3) x cInt 0 c1 (· = x.1) := fun Hf H v u e ⟨a, w1, w2, w3, h1, h2, h3, h4, h5⟩ h6 Q k => by
  obtain rfl := h6
  exact ⟨a, [w1, w2, w3], 0, w1, h1, rfl, SqT.of (e _ _ h2), rfl, k _ Hf H _ rfl h3 Fr.refl e⟩
theorem rd_ix3_1 {K : PySem.W.Frag} {x : α × β × γ} : RD (rIxT K) (cT3 c1 c2 c3) x cInt 1 c2 (· = x.2.1) := fun Hf H v u e ⟨a, w1, w2, w3, h1, h2, h3, h4, h5⟩ h6 Q k => by
  obtain rfl := h6
  exact ⟨a, [w1, w2, w3], 1, w2, h1, rfl, SqT.of (e _ _ h2), rfl, k _ Hf H _ rfl h4 Fr.refl e⟩
theorem rd_ix3_2 {K : PySem.W.Frag} {x : α × β × γ} : RD (rIxT K) (cT3 c1 c2 c3) x cInt 2 c3 (· = x.2.2) := fun Hf H v u e ⟨a, w1, w2, w3, h1, h2, h3, h4, h5⟩ h6 Q k => by
  obtain rfl := h6
  exact ⟨a, [w1, w2, w3], 2, w3, h1, rfl, SqT.of (e _ _ h2), rfl, k _ Hf H _ rfl h5 Fr.refl e⟩
theorem rd_ix2_0 {K : PySem.W.Frag} {x : α × β} : RD (rIxT K) (cT2 c1 c2) x cInt 0 c1 (· = x.1) := fun Hf H v u e ⟨a, w1, w2, h1, h2, h3, h4⟩ h6 Q k => by
  obtain rfl := h6
  exact ⟨a, [w1, w2], 0, w1, h1, rfl, SqT.of (e _ _ h2), rfl, k _ Hf H _ rfl h3 Fr.refl e⟩
theorem rd_ix2_1 {K : PySem.W.Frag} {x : α × β} : RD (rIxT K) (cT2 c1 c2) x cInt 1 c2 (· = x.2) := fun Hf H v u e ⟨a, w1, w2, h1, h2, h3, h4⟩ h6 Q k => by
  obtain rfl := h6
  exact ⟨a, [w1, w2], 1, w2, h1, rfl, SqT.of (e _ _ h2), rfl, k _ Hf H _ rfl h4 Fr.refl e⟩
theorem pd_ixR {r : R2} (hr : ∀ X, Good S X → IxR X r) (ha : PD S Γ k1 a c1 P1) (hb : PD S Γ k2 b c2 P2) (hrd : ∀ x y, P1 x → P2 y → RD r c1 x c2 y c3 P3) (hs : PlainIx b) : PD S Γ (k1 + k2) (.Subscript a b pos) c3 P3 := pd_of (fun X G => pe_ix (hr X G) (tE_ok G) (tE_ok G) hs) (td_op ha hb hrd)
theorem ixLG : ∀ X, Good S X → IxR X (rIxL S.K) := fun X G => by rw [← G.K]; exact ix_list
theorem ixTG : ∀ X, Good S X → IxR X (rIxT S.K) := fun X G => by rw [← G.K]; exact ix_tup
/-! ### calls of built-ins by values -/
def RC1 {α γ : Type} (r : List V → Hp → VK → Prop) (c1 : Cod α) (x : α) (c : Cod γ) (P : γ → Prop) : Prop :=
  ∀ (Hf H : Hp) (v : V), Ex Hf H → c1.rep Hf v x → ∀ Q : VK, (∀ z Hf' H' w, P z → c.rep Hf' w z → Fr (fun _ => False) Hf H Hf' H' → Ex Hf' H' → Q w H') → r [v] H Q
def RC1F {α γ : Type} (r : List V → Hp → VK → Prop) (c1 : Cod α) (x : α) (c : Cod γ) (P : List γ → Prop) : Prop :=
  ∀ (Hf H : Hp) (v : V), Ex Hf H → c1.rep Hf v x → ∀ Q : VK, (∀ p vs zs, P zs → H p = none → Paired (c.rep Hf) vs zs → vs.length ≤ LB → Q (.ref p) (upd H p (.lst vs))) → r [v] H Q
theorem td_cb {r : List V → Hp → VK → Prop} (h : TD te Γ k c1 P1) (hr : ∀ x, P1 x → RC1 r c1 x c3 P3) : TD (tCB r (tCons te tNil)) Γ k c3 P3 := fun O n σ Hf H hn S Q q =>
  h O n σ Hf H hn S _ fun v Hf1 H1 x p1 r1 f1 S1 => hr x p1 Hf1 H1 v S1.ex r1 Q fun z Hf3 H3 w p3 r3 f3 e3 => q w Hf3 H3 z p3 r3 (f1.trans f3 fun _ h => h.elim) (S1.grow0 f3 e3)
theorem tdf_cb {r : List V → Hp → VK → Prop} {R : List γ → Prop} (h : TD te Γ k c1 P1) (hr : ∀ x, P1 x → RC1F r c1 x c3 R) : TDF (tCB r (tCons te tNil)) Γ k c3 R := fun O n σ Hf H hn S Q q =>
  h O n σ Hf H hn S _ fun v Hf1 H1 x p1 r1 f1 S1 => hr x p1 Hf1 H1 v S1.ex r1 Q fun p vs zs pz hp pr lb =>
    q p vs Hf1 _ zs pz upd_same (S1.ex.back hp) (f1.dom p hp) pr lb (f1.trans (Fr.newO (M := Bx Γ) hp) fun _ z => .inl z) (S1.grow0 (Fr.newO hp) (S1.ex.trans (Ex.new hp)))
theorem pd_b1 {r : List V → Hp → VK → Prop} {x : Str} {id : String} (hc : ∀ X, Good S X → CallR X (.builtin id) r) (hg : S.sc.names.lookup x = some .globalImplicit) (hm : S.mg x = none) (hv : bootBuiltins x = some (.builtin id)) (h : PD S Γ k e c1 P1) (hr : ∀ x, P1 x → RC1 r c1 x c3 P3)
    (he : ∀ env : Env, starEach [e] env = (false, eval e env) :: starEach [] env) (hn : x ≠ "__name__" := by decide) (hdb : (x == ("__debug__" : Str)) = false := by decide) : PD S Γ k (.Call (.Name x pn) [e] [] pos) c3 P3 :=
  pd_of (fun X G => pe_callB (hc X G) (glb G hg) (by rw [G.mg]; exact hm) hv (pa_cons (tE_ok G) pa_nil (he _)) hn hdb (he _) rfl) (td_cb h hr)
theorem pd_y1 {r : List V → Hp → VK → Prop} {x : Str} {T : String} (hc : ∀ X, Good S X → CallR X (.type T) r) (hg : S.sc.names.lookup x = some .globalImplicit) (hm : S.mg x = none) (hv : bootBuiltins x = some (.type T)) (h : PD S Γ k e c1 P1) (hr : ∀ x, P1 x → RC1 r c1 x c3 P3)
    (he : ∀ env : Env, starEach [e] env = (false, eval e env) :: starEach [] env) (hn : x ≠ "__name__" := by decide) (hdb : (x == ("__debug__" : Str)) = false := by decide) : PD S Γ k (.Call (.Name x pn) [e] [] pos) c3 P3 :=
  pd_of (fun X G => pe_callTy (hc X G) (glb G hg) (by rw [G.mg]; exact hm) hv (pa_cons (tE_ok G) pa_nil (he _)) hn hdb (he _) rfl) (td_cb h hr)
theorem pdf_b1 {r : List V → Hp → VK → Prop} {R : List γ → Prop} {x : Str} {id : String} (hc : ∀ X, Good S X → CallR X (.builtin id) r) (hg : S.sc.names.lookup x = some .globalImplicit) (hm : S.mg x = none) (hv : bootBuiltins x = some (.builtin id)) (h : PD S Γ k e c1 P1) (hr : ∀ x, P1 x → RC1F r c1 x c3 R)
    (he : ∀ env : Env, starEach [e] env = (false, eval e env) :: starEach [] env) (hn : x ≠ "__name__" := by decide) (hdb : (x == ("__debug__" : Str)) = false := by decide) : PDF S Γ k (.Call (.Name x pn) [e] [] pos) c3 R :=
  pdf_of (fun X G => pe_callB (hc X G) (glb G hg) (by rw [G.mg]; exact hm) hv (pa_cons (tE_ok G) pa_nil (he _)) hn hdb (he _) rfl) (tdf_cb h hr)
theorem pdf_y1 {r : List V → Hp → VK → Prop} {R : List γ → Prop} {x : Str} {T : String} (hc : ∀ X, Good S X → CallR X (.type T) r) (hg : S.sc.names.lookup x = some .globalImplicit) (hm : S.mg x = none) (hv : bootBuiltins x = some (.type T)) (h : PD S Γ k e c1 P1) (hr : ∀ x, P1 x → RC1F r c1 x c3 R)
    (he : ∀ env : Env, starEach [e] env = (false, eval e env) :: starEach [] env) (hn : x ≠ "__name__" := by decide) (hdb : (x == ("__debug__" : Str)) = false := by decide) : PDF S Γ k (.Call (.Name x pn) [e] [] pos) c3 R :=
  pdf_of (fun X G => pe_callTy (hc X G) (glb G hg) (by rw [G.mg]; exact hm) hv (pa_cons (tE_ok G) pa_nil (he _)) hn hdb (he _) rfl) (tdf_cb h hr)
/-- len -/
theorem rc_lenL {K : PySem.W.Frag} {xs : List α} : RC1 (fun xs H Q => ∃ p ys, xs = [.ref p] ∧ (SqL K H p ys ∨ SqT K H p ys) ∧ Q (.int ys.length) H) (cList c) xs cInt (· = (xs.length : Int)) := fun Hf H v e ⟨a, vs, h1, h2, h3, _⟩ Q q =>
  ⟨a, vs, by rw [h1], .inl (SqL.of (e _ _ h2)), q _ Hf H _ rfl (by rw [paired_len h3]; rfl) Fr.refl e⟩
theorem rc_lenT {K : PySem.W.Frag} {xs : List α} : RC1 (fun xs H Q => ∃ p ys, xs = [.ref p] ∧ (SqL K H p ys ∨ SqT K H p ys) ∧ Q (.int ys.length) H) (cTup c) xs cInt (· = (xs.length : Int)) := fun Hf H v e ⟨a, vs, h1, h2, h3, _⟩ Q q =>
  ⟨a, vs, by rw [h1], .inr (SqT.of (e _ _ h2)), q _ Hf H _ rfl (by rw [paired_len h3]; rfl) Fr.refl e⟩
theorem lenG : ∀ X, Good S X → CallR X (.builtin "len") (fun xs H Q => ∃ p ys, xs = [.ref p] ∧ (SqL S.K H p ys ∨ SqT S.K H p ys) ∧ Q (.int ys.length) H) := fun X G => by rw [← G.K]; exact call_len_seq
theorem pd_lenL {xs : List α} (hg : S.sc.names.lookup ("len" : Str) = some .globalImplicit) (hm : S.mg "len" = none) (h : PD S Γ k e (cList c) (· = xs)) (he : ∀ env : Env, starEach [e] env = (false, eval e env) :: starEach [] env) : PD S Γ k (.Call (.Name "len" pn) [e] [] pos) cInt (· = (xs.length : Int)) :=
  pd_b1 lenG hg hm PySem.boot_len h (fun x e => by subst e; exact rc_lenL) he
theorem pd_lenT {xs : List α} (hg : S.sc.names.lookup ("len" : Str) = some .globalImplicit) (hm : S.mg "len" = none) (h : PD S Γ k e (cTup c) (· = xs)) (he : ∀ env : Env, starEach [e] env = (false, eval e env) :: starEach [] env) : PD S Γ k (.Call (.Name "len" pn) [e] [] pos) cInt (· = (xs.length : Int)) :=
  pd_b1 lenG hg hm PySem.boot_len h (fun x e => by subst e; exact rc_lenT) he
/-! ### calls of one's own -/
theorem fnG {f : Addr} {fd : FuncData} {ps : List Str} {sp : Sp} {l : Nat} (F : FnOk S.prog S.w S.K S.mg S.base CX0 l f fd ps sp) (G : Good S X) : FnOk X.prog X.w X.K X.mg X.base CX0 l f fd ps sp := by rw [G.prog, G.w, G.K, G.mg, G.base]; exact F
theorem pd_call {ps : Addr → A → Ctxt} {kf : A → Nat} {pre : A → Prop} {PR : A → ρ → Prop} {B : Ctxt → Prop} {P' : ρ → Prop} {f : Addr} {fd : FuncData} {pn' : List Str} {x : Str} {l : Nat} (F : FnOk S.prog S.w S.K S.mg S.base CX0 l f fd pn' (spD ps kf pre cr PR)) (hl : l ≤ S.lv) (hg : S.sc.names.lookup x = some .globalImplicit)
    (hm : S.mg x = some (.ref f)) (hk : PySem.W.keepIn S.K (.ref f) = true) (hb : Binds S.K fd pn' []) (h : PDA S Γ k1 (e :: es) B) (hc : ∀ as, B as → ∃ a b, as = ps b a ∧ pre a ∧ kf a ≤ k2 ∧ ∀ x, PR a x → P' x)
    (he : ∀ env : Env, starEach (e :: es) env = (false, eval e env) :: starEach es env) (hpl : ∀ env : Env, (backTo pos (starEach es env)).any (·.1) = false) (hdb : (x == ("__debug__" : Str)) = false := by decide) : PD S Γ (k1 + k2) (.Call (.Name x pn) (e :: es) [] pos) cr P' :=
  pd_of (fun X G => pe_call (fnG F G) (G.room.mono hl) (glb G hg) (by rw [G.mg]; exact hm) (by rw [G.K]; exact hk) (by rw [G.K]; exact hb) .nil pass0 (tA_ok G) hdb (he _) (hpl _)) (td_call h hc)
theorem cxG {P : Program} {w : World} {K : PySem.W.Frag} {mg : Str → Option Value} {base : Heap} {N : List Str} {qual : Str} {st : Stmt} {f : Addr} {cdv : Value} {A : Around} {outer : List Env} {s : Shared} {H : Hp} {E : XK} {lv : Nat} (hr : Room lv (A.deeper (PyProof.Rows.envOfC qual (defScope st) s.heap.objs.size f cdv))) (nd : N.Nodup) :
    Good ⟨N, defScope st, K, mg, P, w, base, lv, fun _ => true, false⟩ (cxOf CX0 P w K mg base N qual (defScope st) f cdv A outer s H E).nox := ⟨rfl, rfl, rfl, rfl, rfl, rfl, rfl, rfl, hr, rfl, rfl, nd, fun h => nomatch h⟩
/-- a def keeps its promise, by its body -/
theorem fn_D {P : Program} {w : World} {K : PySem.W.Frag} {mg : Str → Option Value} {base : Heap} {x qual : Str} {st : Stmt} {f : Addr} {fd : FuncData} {N pn : List Str} {lv : Nat} {ps : Addr → A → Ctxt} {kf : A → Nat} {pre : A → Prop} {PR : A → ρ → Prop} (F : Fun K x qual st f fd) (Sc : FnScope N pn (defScope st))
    (hl : ∀ b a, (ps b a).length = pn.length) (hN : pn.length ≤ N.length) (one : ∀ b a, OneB (ps b a))
    (body : ∀ b a, pre a → PHs ⟨N, defScope st, K, mg, P, w, base, lv, fun _ => true, false⟩ (entry N (ps b a)) (kf a) (defBody st) { N := fun _ => False, bk := fun _ => False, ct := fun _ => False, c := cr, R := PR a }) :
    FnOk P w K mg base CX0 (lv + 1) f fd pn (spD ps kf pre cr PR) := by
  refine F.ok Sc (fun vs H Q E h => ?_) (fun cdv A outer s H vs Q E hr h => ?_)
  · obtain ⟨a, b, n, Hf, _, _, _, o, _⟩ := h
    rw [argsOk_len o]; exact hl b a
  · obtain ⟨a, b, n, Hf, hp, hn, ex, o, bx, q⟩ := h
    refine ⟨tSs ⟨N, defScope st, K, mg, P, w, base, lv, fun _ => true, false⟩ (defBody st), tSs_ok (cxG hr Sc.nd), ?_⟩
    exact body_ok (by rw [hl]; exact hN) (one b a) hn ex o bx q (body b a hp)
end
end DL

set_option Elab.async false
set_option linter.all false
set_option maxRecDepth 100000
set_option maxHeartbeats 2000000
namespace DL
open PySem PySem.Spec L2
section
variable {S : Stc} {X : Cx}
variable {Γ Γ1 Γ2 Γ3 : Ctxt} {k k1 k2 k3 kk kt ke : Nat} {A α β γ ρ : Type} {c : Cod α} {c' : Cod β} {cr : Cod ρ} {c1 : Cod α} {c2 : Cod β} {c3 : Cod γ} {P P1 : α → Prop} {P2 : β → Prop} {P3 : γ → Prop} {te to ti : TE} {tt : TT} {t u : TS} {p : Po ρ} {ta tx : TA} {e a b d : Expr} {es : List Expr} {pos pos' pn : Pos}
variable {x : α} {y : β} {z : γ}
/-! ### nothing is drawn, one value -/
theorem pbin {op : Operator} {r : R2} (ho : ∀ X, Good S X → OpR X (binaryOp op) r) (ha : PD S Γ 0 a c1 (· = x)) (hb : PD S Γ 0 b c2 (· = y)) (hr : RD r c1 x c2 y c3 P3) : PD S Γ 0 (.BinOp a op b pos) c3 P3 :=
  pd_bin (k1 := 0) (k2 := 0) ho ha hb fun _ _ h1 h2 => by subst h1 h2; exact hr
theorem pun {op : UnaryOp} {r : V → Hp → VK → Prop} (ho : ∀ X, Good S X → UnR X (unaryOp op) r) (ha : PD S Γ 0 a c1 (· = x)) (hr : RU1 r c1 x c3 P3) : PD S Γ 0 (.UnaryOp op a pos) c3 P3 :=
  pd_un ho ha fun _ h1 => by subst h1; exact hr
theorem pcmp {op : CmpOp} {r : R2} {P3 : Bool → Prop} (ho : ∀ X, Good S X → OpR X (compareOp op) r) (ha : PD S Γ 0 a c1 (· = x)) (hb : PD S Γ 0 b c2 (· = y)) (hr : RD r c1 x c2 y cBool P3) (hm : behindInMarks op b = false) : PD S Γ 0 (.Compare a [op] [b] pos) cBool P3 :=
  pd_cmp (k1 := 0) (k2 := 0) ho ha hb (fun _ _ h1 h2 => by subst h1 h2; exact hr) hm
theorem tcmp {op : CmpOp} {r : R2} {P3 : Bool → Prop} (ho : ∀ X, Good S X → OpR X (compareOp op) r) (ha : PD S Γ 0 a c1 (· = x)) (hb : PD S Γ 0 b c2 (· = y)) (hr : RD r c1 x c2 y cBool P3) (hm : behindInMarks op b = false) : PDT S Γ 0 (.Compare a [op] [b] pos) P3 :=
  pdt_cmp (k1 := 0) (k2 := 0) ho ha hb (fun _ _ h1 h2 => by subst h1 h2; exact hr) hm
theorem tand {x y : Bool} {rest : List Expr} (h1 : PDT S Γ 0 a (· = x)) (h2 : x = true → PDW S Γ 0 (.BoolOp .And (b :: rest) pos) (· = y)) : PDW S Γ 0 (.BoolOp .And (a :: b :: rest) pos) (· = (x && y)) := pdw_and (k1 := 0) (k2 := 0) h1 h2
theorem tor {x y : Bool} {rest : List Expr} (h1 : PDT S Γ 0 a (· = x)) (h2 : x = false → PDW S Γ 0 (.BoolOp .Or (b :: rest) pos) (· = y)) : PDW S Γ 0 (.BoolOp .Or (a :: b :: rest) pos) (· = (x || y)) := pdw_or (k1 := 0) (k2 := 0) h1 h2
theorem pand {x y : Bool} {rest : List Expr} (h1 : PD S Γ 0 a cBool (· = x)) (h2 : x = true → PD S Γ 0 (.BoolOp .And (b :: rest) pos) cBool (· = y)) : PD S Γ 0 (.BoolOp .And (a :: b :: rest) pos) cBool (· = (x && y)) := pd_and (k1 := 0) (k2 := 0) h1 h2
theorem por {x y : Bool} {rest : List Expr} (h1 : PD S Γ 0 a cBool (· = x)) (h2 : x = false → PD S Γ 0 (.BoolOp .Or (b :: rest) pos) cBool (· = y)) : PD S Γ 0 (.BoolOp .Or (a :: b :: rest) pos) cBool (· = (x || y)) := pd_or (k1 := 0) (k2 := 0) h1 h2
theorem pif {b' : Bool} {x y : α} (h : PDT S Γ 0 d (· = b')) (ha : b' = true → PD S Γ 0 a c (· = x)) (hb : b' = false → PD S Γ 0 b c (· = y)) : PD S Γ 0 (.IfExp d a b pos) c (· = if b' = true then x else y) :=
  (pd_if (k1 := 0) (k2 := 0) (k3 := 0) h (fun e => (ha e.symm).imp fun z hz => by subst e; rw [hz]; rfl) fun e => (hb e.symm).imp fun z hz => by subst e; rw [hz]; rfl)
theorem pix {r : R2} (hr : ∀ X, Good S X → IxR X r) (ha : PD S Γ 0 a c1 (· = x)) (hb : PD S Γ 0 b c2 (· = y)) (hrd : RD r c1 x c2 y c3 P3) (hs : PlainIx b) : PD S Γ 0 (.Subscript a b pos) c3 P3 :=
  pd_ixR (k1 := 0) (k2 := 0) hr ha hb (fun _ _ h1 h2 => by subst h1 h2; exact hrd) hs
theorem pt2 {kx : Nat} (ha : PD S Γ 0 a c1 (· = x)) (hb : PD S Γ 0 b c2 (· = y)) (hs : ∀ env : Env, starEach [a, b] env = (false, eval a env) :: starEach [b] env) (hs2 : ∀ env : Env, starEach [b] env = (false, eval b env) :: starEach [] env) : PD S Γ 0 (.Tuple [a, b] kx pos) (cT2 c1 c2) (· = (x, y)) := pd_t2' (k1 := 0) (k2 := 0) ha hb hs hs2
theorem pt3 {kx : Nat} (ha : PD S Γ 0 a c1 (· = x)) (hb : PD S Γ 0 b c2 (· = y)) (hd : PD S Γ 0 d c3 (· = z)) (hs : ∀ env : Env, starEach [a, b, d] env = (false, eval a env) :: starEach [b, d] env) (hs2 : ∀ env : Env, starEach [b, d] env = (false, eval b env) :: starEach [d] env) (hs3 : ∀ env : Env, starEach [d] env = (false, eval d env) :: starEach [] env) :
    PD S Γ 0 (.Tuple [a, b, d] kx pos) (cT3 c1 c2 c3) (· = (x, y, z)) := pd_t3' (k1 := 0) (k2 := 0) (k3 := 0) ha hb hd hs hs2 hs3
/-- a list, item by item -/
inductive PDL {α : Type} (S : Stc) (Γ : Ctxt) (c : Cod α) : List Expr → List α → Prop
  | nil : PDL S Γ c [] []
  | cons {e : Expr} {es : List Expr} {x : α} {xs : List α} : PD S Γ 0 e c (· = x) → PDL S Γ c es xs → (∀ env : Env, starEach (e :: es) env = (false, eval e env) :: starEach es env) → PDL S Γ c (e :: es) (x :: xs)
theorem PDL.pda {es : List Expr} {xs : List α} (h : PDL S Γ c es xs) : PDA S Γ 0 es (· = xs.map fun x => Sl.d c x) := by
  induction h with
  | nil => exact pda_nil
  | cons h _ hs ih => exact pda_more (k1 := 0) (k2 := 0) h ih hs
theorem plst {xs : List α} (h : PDL S Γ c es xs) (hl : xs.length ≤ 1000) : PDF S Γ 0 (.List es pos) c (· = xs) := pdf_lst h.pda fun as e => ⟨xs, e, hl, rfl⟩
theorem ptup {kx : Nat} {xs : List α} (h : PDL S Γ c es xs) (hl : xs.length ≤ 1000) : PD S Γ 0 (.Tuple es kx pos) (cTup c) (· = xs) := pd_tupl h.pda fun as e => ⟨xs, e, hl, rfl⟩
theorem pcat {xs ys : List α} (ha : PD S Γ 0 a (cList c) (· = xs)) (hb : PD S Γ 0 b (cList c) (· = ys)) (lb : xs.length + ys.length ≤ LB) : PDF S Γ 0 (.BinOp a .Add b pos) c (· = xs ++ ys) := pdf_cat (k1 := 0) (k2 := 0) ha hb lb
theorem pcall {ps : Addr → A → Ctxt} {kf : A → Nat} {pre : A → Prop} {g : A → ρ} {l : Ctxt} {f : Addr} {fd : FuncData} {pn' : List Str} {x : Str} {lv : Nat} (F : FnOk S.prog S.w S.K S.mg S.base CX0 lv f fd pn' (spD ps (fun _ => 0) pre cr (fun a x => x = g a))) (hl : lv ≤ S.lv) (hg : S.sc.names.lookup x = some .globalImplicit)
    (hm : S.mg x = some (.ref f)) (hk : PySem.W.keepIn S.K (.ref f) = true) (hb : Binds S.K fd pn' []) (h : PDA S Γ 0 (e :: es) (· = l)) (a : A) (b : Addr) (hc : l = ps b a) (hp : pre a)
    (he : ∀ env : Env, starEach (e :: es) env = (false, eval e env) :: starEach es env) (hpl : ∀ env : Env, (backTo pos (starEach es env)).any (·.1) = false) (hdb : (x == ("__debug__" : Str)) = false := by decide) : PD S Γ 0 (.Call (.Name x pn) (e :: es) [] pos) cr (· = g a) :=
  pd_call (k1 := 0) (k2 := 0) F hl hg hm hk hb h (fun as e => ⟨a, b, e.trans hc, hp, Nat.le_refl _, fun _ h => h⟩) he hpl hdb
theorem pb1 {r : List V → Hp → VK → Prop} {nm : Str} {id : String} (hc : ∀ X, Good S X → CallR X (.builtin id) r) (hg : S.sc.names.lookup nm = some .globalImplicit) (hm : S.mg nm = none) (hv : bootBuiltins nm = some (.builtin id)) (h : PD S Γ 0 e c1 (· = x)) (hr : RC1 r c1 x c3 P3)
    (he : ∀ env : Env, starEach [e] env = (false, eval e env) :: starEach [] env) (hn : nm ≠ "__name__" := by decide) (hdb : (nm == ("__debug__" : Str)) = false := by decide) : PD S Γ 0 (.Call (.Name nm pn) [e] [] pos) c3 P3 :=
  pd_b1 hc hg hm hv h (fun _ h => by subst h; exact hr) he hn hdb
theorem py1 {r : List V → Hp → VK → Prop} {nm : Str} {T : String} (hc : ∀ X, Good S X → CallR X (.type T) r) (hg : S.sc.names.lookup nm = some .globalImplicit) (hm : S.mg nm = none) (hv : bootBuiltins nm = some (.type T)) (h : PD S Γ 0 e c1 (· = x)) (hr : RC1 r c1 x c3 P3)
    (he : ∀ env : Env, starEach [e] env = (false, eval e env) :: starEach [] env) (hn : nm ≠ "__name__" := by decide) (hdb : (nm == ("__debug__" : Str)) = false := by decide) : PD S Γ 0 (.Call (.Name nm pn) [e] [] pos) c3 P3 :=
  pd_y1 hc hg hm hv h (fun _ h => by subst h; exact hr) he hn hdb
theorem pfb1 {r : List V → Hp → VK → Prop} {R : List γ → Prop} {nm : Str} {id : String} (hc : ∀ X, Good S X → CallR X (.builtin id) r) (hg : S.sc.names.lookup nm = some .globalImplicit) (hm : S.mg nm = none) (hv : bootBuiltins nm = some (.builtin id)) (h : PD S Γ 0 e c1 (· = x)) (hr : RC1F r c1 x c3 R)
    (he : ∀ env : Env, starEach [e] env = (false, eval e env) :: starEach [] env) (hn : nm ≠ "__name__" := by decide) (hdb : (nm == ("__debug__" : Str)) = false := by decide) : PDF S Γ 0 (.Call (.Name nm pn) [e] [] pos) c3 R :=
  pdf_b1 hc hg hm hv h (fun _ h => by subst h; exact hr) he hn hdb
theorem pfy1 {r : List V → Hp → VK → Prop} {R : List γ → Prop} {nm : Str} {T : String} (hc : ∀ X, Good S X → CallR X (.type T) r) (hg : S.sc.names.lookup nm = some .globalImplicit) (hm : S.mg nm = none) (hv : bootBuiltins nm = some (.type T)) (h : PD S Γ 0 e c1 (· = x)) (hr : RC1F r c1 x c3 R)
    (he : ∀ env : Env, starEach [e] env = (false, eval e env) :: starEach [] env) (hn : nm ≠ "__name__" := by decide) (hdb : (nm == ("__debug__" : Str)) = false := by decide) : PDF S Γ 0 (.Call (.Name nm pn) [e] [] pos) c3 R :=
  pdf_y1 hc hg hm hv h (fun _ h => by subst h; exact hr) he hn hdb
theorem prng1 {tg : Expr} {i : Int} (hg : S.sc.names.lookup ("range" : Str) = some .globalImplicit) (hm : S.mg "range" = none) (h : PD S Γ 0 a cInt (· = i)) (hi : -4611686018427387904 ≤ i ∧ i ≤ 1000000) (hs : ∀ env : Env, starEach [a] env = [(false, eval a env)]) : PDI S Γ 0 tg (.Call (.Name "range" pn) [a] [] pos) cInt (· = rangeL 0 i.toNat) :=
  pdi_range1 hg hm (pda_one h hs) (fun as e => ⟨i, e, hi.1, hi.2, rfl⟩) hs
theorem prng2 {tg : Expr} {i j : Int} (hg : S.sc.names.lookup ("range" : Str) = some .globalImplicit) (hm : S.mg "range" = none) (h : PD S Γ 0 a cInt (· = i)) (h' : PD S Γ 0 b cInt (· = j)) (hi : -1000000000 ≤ i ∧ i ≤ 1000000000 ∧ -1000000000 ≤ j ∧ j ≤ 1000000000 ∧ j - i ≤ 1000000) (hs : ∀ env : Env, starEach [a, b] env = [(false, eval a env), (false, eval b env)]) (hs2 : ∀ env : Env, starEach [b] env = [(false, eval b env)]) :
    PDI S Γ 0 tg (.Call (.Name "range" pn) [a, b] [] pos) cInt (· = rangeL i (j - i).toNat) :=
  pdi_range2 hg hm (pda_more (k1 := 0) (k2 := 0) h (pda_one h' hs2) fun env => by rw [hs, hs2]) (fun as e => ⟨i, j, e, hi.1, hi.2.1, hi.2.2.1, hi.2.2.2.1, hi.2.2.2.2, rfl⟩) hs hs2
/-! ### comprehensions: filter and map -/
theorem tdf_lcT {elt tg iter : Expr} {ifs : List Expr} {scope : Scope} {own : List (Str × Nat)} {xs : List α} {f : α → β} {q : α → Bool} (hw : PDI S Γ k tg iter c (· = xs)) (nv : NoBxs Γ (own.map (·.2)))
    (hs : ∀ x, x ∈ xs → ∃ Γ1 is, PDG (S.blk scope) tg c x (wipeC Γ (own.map (·.2))) Γ1 is ∧ (∀ i ∈ is, i ∈ own.map (·.2)) ∧ TDT (tTs (S.blk scope) ifs) Γ1 0 (· = q x) ∧ (q x = true → PD (S.blk scope) Γ1 0 elt c' (· = f x))) :
    TDF (lcRd S tg iter ifs elt scope own) Γ k c' (· = (xs.filter q).map f) := tdf_lc' f q hw (noBxs_mem nv) hs
theorem tdf_lcN {elt tg iter : Expr} {scope : Scope} {own : List (Str × Nat)} {xs : List α} {f : α → β} (hw : PDI S Γ k tg iter c (· = xs)) (nv : NoBxs Γ (own.map (·.2)))
    (hs : ∀ x, x ∈ xs → ∃ Γ1 is, PDG (S.blk scope) tg c x (wipeC Γ (own.map (·.2))) Γ1 is ∧ (∀ i ∈ is, i ∈ own.map (·.2)) ∧ PD (S.blk scope) Γ1 0 elt c' (· = f x)) :
    TDF (lcRd S tg iter [] elt scope own) Γ k c' (· = xs.map f) := (tdf_lcT (q := fun _ => true) hw nv fun x hx => by
    obtain ⟨Γ1, is, h1, h2, h3⟩ := hs x hx
    exact ⟨Γ1, is, h1, h2, tts_nil, fun _ => h3⟩).imp fun ys e => by rw [e]; congr 1; simp
theorem plcT (own : List (Str × Nat)) {elt tg iter : Expr} {ifs : List Expr} {scope : Scope} {xs : List α} {f : α → β} {q : α → Bool} (hw : PDI S Γ k tg iter c (· = xs)) (nv : NoBxs Γ (own.map (·.2))) (ok : blkC S.N S.sc scope own = true) (hfs : ∀ (env : Env) x, foldedSetIterable iter env x = pure x)
    (hs : ∀ x, x ∈ xs → ∃ Γ1 is, PDG (S.blk scope) tg c x (wipeC Γ (own.map (·.2))) Γ1 is ∧ (∀ i ∈ is, i ∈ own.map (·.2)) ∧ TDT (tTs (S.blk scope) ifs) Γ1 0 (· = q x) ∧ (q x = true → PD (S.blk scope) Γ1 0 elt c' (· = f x))) :
    PDF S Γ k (.ListComp elt [⟨tg, iter, ifs, 0⟩] scope pos) c' (· = (xs.filter q).map f) := pdf_lc ok hfs (tdf_lcT hw nv hs)
theorem plcN (own : List (Str × Nat)) {elt tg iter : Expr} {scope : Scope} {xs : List α} {f : α → β} (hw : PDI S Γ k tg iter c (· = xs)) (nv : NoBxs Γ (own.map (·.2))) (ok : blkC S.N S.sc scope own = true) (hfs : ∀ (env : Env) x, foldedSetIterable iter env x = pure x)
    (hs : ∀ x, x ∈ xs → ∃ Γ1 is, PDG (S.blk scope) tg c x (wipeC Γ (own.map (·.2))) Γ1 is ∧ (∀ i ∈ is, i ∈ own.map (·.2)) ∧ PD (S.blk scope) Γ1 0 elt c' (· = f x)) :
    PDF S Γ k (.ListComp elt [⟨tg, iter, [], 0⟩] scope pos) c' (· = xs.map f) := pdf_lc ok hfs (tdf_lcN hw nv hs)
/-! ### blocks -/
variable {st : Stmt} {sts sts2 rest : List Stmt} {N1 : Ctxt → Prop}
theorem bset (i : Nat) {nm : Str} (h : PD S Γ k e c P) (nb : NoBx Γ i) (hi : S.N[i]? = some nm) (hx : Loc S.sc nm) (hs : ∀ env : Env, env.scope = S.sc → swapsWith e (some (.Name nm pos')) pos.line env = pure false) (hf : S.fn nm = true ∨ S.sc.names.lookup nm = some .local) (hr : ∀ x, P x → PHs S (Γ.set i (.d c x)) k2 rest p) : PHs S Γ (k + k2) (.Assign [.Name nm pos'] e pos :: rest) p :=
  phs_cons (N1 := fun G => ∃ x, P x ∧ G = Γ.set i (.d c x)) (ph_set h nb (fun y hy => ⟨y, hy, rfl⟩) hi hx hs hf) fun Γ1 ⟨x, hx, e⟩ => by subst e; exact hr x hx
theorem bsetL (i : Nat) {nm : Str} {R : List α → Prop} (h : PDF S Γ k e c R) (nb : NoBx Γ i) (hi : S.N[i]? = some nm) (hx : Loc S.sc nm) (hs : ∀ env : Env, env.scope = S.sc → swapsWith e (some (.Name nm pos')) pos.line env = pure false) (hf : S.fn nm = true ∨ S.sc.names.lookup nm = some .local) (hr : ∀ x, R x → PHs S (Γ.set i (.l c x)) k2 rest p) : PHs S Γ (k + k2) (.Assign [.Name nm pos'] e pos :: rest) p :=
  phs_cons (N1 := fun G => ∃ x, R x ∧ G = Γ.set i (.l c x)) (ph_setL h nb (fun y hy => ⟨y, hy, rfl⟩) hi hx hs hf) fun Γ1 ⟨x, hx, e⟩ => by subst e; exact hr x hx
theorem bsetLc (i : Nat) {nm : Str} {py : Pos} {elt tg iter : Expr} {ifs : List Expr} {scope : Scope} (own : List (Str × Nat)) {R : List β → Prop} (h : TDF (lcRd S tg iter ifs elt scope own) Γ k c' R) (nb : NoBx Γ i) (hi : S.N[i]? = some nm) (hyl : S.sc.names.lookup nm = some .local) (hl : (py.line == pos.line) = true) (hk : S.sc.kind = .function)
    (ha : (scope.names.any fun (n, k) => n == nm && (k == .local || k == .cell)) = false) (ok : blkC S.N S.sc scope own = true) (hfs : ∀ (env : Env) x, foldedSetIterable iter env x = pure x) (hr : ∀ x, R x → PHs S (Γ.set i (.d (cList c') x)) k2 rest p) : PHs S Γ (k + k2) (.Assign [.Name nm py] (.ListComp elt [⟨tg, iter, ifs, 0⟩] scope pos) pos' :: rest) p :=
  phs_cons (N1 := fun G => ∃ x, R x ∧ G = Γ.set i (.d (cList c') x)) (ph_setLc h nb (fun y hy => ⟨y, hy, rfl⟩) hi hyl hl hk ha ok hfs) fun Γ1 ⟨x, hx, e⟩ => by subst e; exact hr x hx
theorem bret {R' : ρ → Prop} (h : PD S Γ k e p.c R') (hr : ∀ x, R' x → p.R x) : PHs S Γ k [.Return (some e) pos] p := phs_one (ph_ret' h hr)
/-- if e: .. return ..; rest -/
theorem bifR {b' : Bool → Prop} (h : PDT S Γ k1 e b') (ha : b' true → PHs S Γ k2 sts { p with N := fun _ => False }) (hb : b' false → PHs S Γ k3 rest p) : PHs S Γ (k1 + k2 + k3) (.If e sts [] pos :: rest) p :=
  phs_cons (N1 := fun G => b' false ∧ G = Γ) (k1 := k1 + k2) (HS.le (ph_if (k2 := k2) (k3 := 0) h (fun q => (ha q).imp (N' := fun G => b' false ∧ G = Γ) fun _ z => z.elim) fun q => phs_nil ⟨q, rfl⟩) (by omega)) fun Γ1 ⟨q, e⟩ => by subst e; exact hb q
theorem bfor {tg iter : Expr} {X' : List α → Prop} {kn : Nat} (vs : List Nat) (I : List α → List α → Ctxt → Prop) (hw : PDI S Γ k tg iter c X') (h0 : ∀ xs, X' xs → I xs [] Γ) (hk : ∀ xs, X' xs → xs.length * kk ≤ kn)
    (hs : ∀ xs, X' xs → ∀ pre x post Γ1, xs = pre ++ x :: post → I xs pre Γ1 → ∃ Γ2 is, PDG S tg c x Γ1 Γ2 is ∧ PHs S Γ2 kk sts { N := fun Γ' => NoBxs Γ' vs ∧ I xs (pre ++ [x]) (wipeC Γ' vs), ct := I xs (pre ++ [x]), bk := fun _ => False, c := p.c, R := p.R })
    (hfs : ∀ (env : Env) x, foldedSetIterable iter env x = pure x) (hr : ∀ xs Γ1, X' xs → I xs xs Γ1 → PHs S Γ1 k2 rest p) : PHs S Γ (k + kn + k2) (.For tg iter sts [] pos :: rest) p :=
  phs_cons (N1 := fun G => ∃ xs, X' xs ∧ I xs xs G) (ph_forV vs I hw h0 hk (fun xs hx pre x post Γ1 e hI => by
    obtain ⟨Γ2, is, g, h⟩ := hs xs hx pre x post Γ1 e hI
    exact ⟨Γ2, is, g, fun O n σ Hf H hn s D q1 q2 q3 q4 => h O n σ Hf H hn s D q1 (fun _ _ _ _ z _ => z.elim) q3 q4⟩) (fun xs Γ1 hx hI => ⟨xs, hx, hI⟩) hfs) fun Γ1 ⟨xs, hx, hI⟩ => hr xs Γ1 hx hI
theorem bappend (i : Nat) {nm : Str} {xs : List α} {p1 p2 : Pos} (hΓ : Γ[i]? = some (.l c xs)) (he : PD S Γ k e c P) (lb : xs.length + 1 ≤ LB) (hN : S.N[i]? = some nm) (hv : Vis S.sc nm)
    (hfew : ∀ env : Env, ((backTo p2 (starEach [e] env)).all (fun x => !x.1) && (backToKw p2 (keywordEach [] env)).all (fun x => x.1.isSome) && decide ([e].length + ([] : List Keyword).length + (if ([] : List Keyword).isEmpty then 0 else 1) < 30)) = true)
    (hline : (p1.endLine == p2.line) = true) (hs : ∀ env : Env, starEach [e] env = (false, eval e env) :: starEach [] env) (hsw : ∀ env : Env, swapsWith (.Call (.Attribute (.Name nm pos') "append" p1) [e] [] p2) none pos.line env = pure false)
    (hr : ∀ y, P y → PHs S (Γ.set i (.l c (xs ++ [y]))) k2 rest p) (hd : (nm == ("__debug__" : Str)) = false := by decide) (hcd : (nm == ("__classdict__" : Str)) = false := by decide) :
    PHs S Γ (k + k2) (.Expr (.Call (.Attribute (.Name nm pos') "append" p1) [e] [] p2) pos :: rest) p :=
  phs_cons (N1 := fun G => ∃ y, P y ∧ G = Γ.set i (.l c (xs ++ [y]))) (ph_append hΓ (by unfold NoBx; rw [hΓ]; trivial) he lb (fun y hy => ⟨y, hy, rfl⟩) hN hv hfew hline hs hsw hd hcd) fun Γ1 ⟨x, hx, e⟩ => by subst e; exact hr x hx
theorem bretL (i : Nat) {nm : Str} {xs : List α} (hΓ : Γ[i]? = some (.l c xs)) (hN : S.N[i]? = some nm) (hv : Vis S.sc nm) (hr : ∀ H v, (cList c).rep H v xs → ∃ y, p.R y ∧ p.c.rep H v y) (hd : (nm == ("__debug__" : Str)) = false := by decide) (hcd : (nm == ("__classdict__" : Str)) = false := by decide) : PHs S Γ 0 [.Return (some (.Name nm pos')) pos] p :=
  phs_one (ph_ret_l hΓ (by unfold NoBx; rw [hΓ]; trivial) hN hv hr hd hcd)
theorem kcl : (some NameKind.cell == some NameKind.local) = false := rfl
theorem sw_cell {sc : Scope} {nm : Str} {v : Expr} {l : Nat} {pp : Pos} (h : sc.names.lookup nm = some .cell) (env : Env) (he : env.scope = sc) : swapsWith v (some (.Name nm pp)) l env = pure false := by
  have ek : env.kindOf nm = some .cell := by show env.scope.names.lookup nm = _; rw [he]; exact h
  cases v <;> first | rfl | (show (pure (env.blockKind == ScopeKind.function && env.kindOf nm == some .local && _ && _) : Sem Bool) = pure false; rw [ek, kcl, Bool.and_false, Bool.false_and, Bool.false_and])
end
end DL

set_option Elab.async false
set_option linter.all false
set_option maxRecDepth 100000
set_option maxHeartbeats 2000000
namespace DL
open PySem PySem.Spec L2
/-- a list or a tuple -/
def cSeq {α : Type} (c : Cod α) : Cod (List α) := ⟨fun H v xs => (cList c).rep H v xs ∨ (cTup c).rep H v xs, fun e h => h.imp ((cList c).mono e) ((cTup c).mono e)⟩
section
variable {S : Stc} {X : Cx}
variable {Γ Γ1 Γ2 Γ3 : Ctxt} {k k1 k2 k3 kk kt ke : Nat} {A α β γ ρ : Type} {c : Cod α} {c' : Cod β} {cr : Cod ρ} {c1 : Cod α} {c2 : Cod β} {c3 : Cod γ} {P P1 : α → Prop} {P2 : β → Prop} {P3 : γ → Prop} {te to ti : TE} {tt : TT} {t u : TS} {p : Po ρ} {ta tx : TA} {e a b d : Expr} {es : List Expr} {pos pos' pn pt : Pos}
variable {x : α} {y : β} {z : γ}
theorem TD.seqL {xs : List α → Prop} (h : TD te Γ k (cList c) xs) : TD te Γ k (cSeq c) xs := h.conv fun H v x px r => ⟨x, px, .inl r⟩
theorem TD.seqT {xs : List α → Prop} (h : TD te Γ k (cTup c) xs) : TD te Γ k (cSeq c) xs := h.conv fun H v x px r => ⟨x, px, .inr r⟩
theorem sq_seq {K : PySem.W.Frag} {Hf H : Hp} {v : V} {xs : List α} (e : Ex Hf H) (h : (cSeq c).rep Hf v xs) : ∃ a vs, v = .ref a ∧ (SqL K H a vs ∨ SqT K H a vs) ∧ Paired (c.rep Hf) vs xs ∧ vs.length ≤ LB := by
  rcases h with ⟨a, vs, h1, h2, h3, h4⟩ | ⟨a, vs, h1, h2, h3, h4⟩
  · exact ⟨a, vs, h1, .inl (SqL.of (e _ _ h2)), h3, h4⟩
  · exact ⟨a, vs, h1, .inr (SqT.of (e _ _ h2)), h3, h4⟩
abbrev rLenR (K : PySem.W.Frag) : List V → Hp → VK → Prop := fun xs H Q => ∃ p ys, xs = [.ref p] ∧ (SqL K H p ys ∨ SqT K H p ys) ∧ Q (.int ys.length) H
abbrev rListR (K : PySem.W.Frag) : List V → Hp → VK → Prop := fun xs H Q => ∃ p ys, xs = [.ref p] ∧ (SqL K H p ys ∨ SqT K H p ys) ∧ ∀ l, H l = none → Q (.ref l) (upd H l (.lst ys))
abbrev rTupR (K : PySem.W.Frag) : List V → Hp → VK → Prop := fun xs H Q => ∃ p ys, xs = [.ref p] ∧ ((SqL K H p ys ∧ ∀ l, H l = none → Q (.ref l) (upd H l (.tup ys))) ∨ (SqT K H p ys ∧ Q (.ref p) H))
theorem rc_len {K : PySem.W.Frag} {xs : List α} : RC1 (rLenR K) (cSeq c) xs cInt (· = (xs.length : Int)) := fun Hf H v e h Q q => by
  obtain ⟨a, vs, h1, h2, h3, _⟩ := sq_seq (K := K) e h
  exact ⟨a, vs, by rw [h1], h2, q _ Hf H _ rfl (by rw [paired_len h3]; rfl) Fr.refl e⟩
theorem rc_list {K : PySem.W.Frag} {xs : List α} : RC1F (rListR K) (cSeq c) xs c (· = xs) := fun Hf H v e h Q q => by
  obtain ⟨a, vs, h1, h2, h3, h4⟩ := sq_seq (K := K) e h
  exact ⟨a, vs, by rw [h1], h2, fun l hl => q l vs xs rfl hl h3 h4⟩
theorem rc_tuple {K : PySem.W.Frag} {xs : List α} : RC1 (rTupR K) (cSeq c) xs (cTup c) (· = xs) := fun Hf H v e h Q q => by
  rcases h with ⟨a, vs, h1, h2, h3, h4⟩ | ⟨a, vs, h1, h2, h3, h4⟩
  · refine ⟨a, vs, by rw [h1], .inl ⟨SqL.of (e _ _ h2), fun l hl => ?_⟩⟩
    exact q xs (upd Hf l (.tup vs)) _ _ rfl ⟨l, vs, rfl, upd_same, paired_mono h3 (fun _ _ z => c.mono (Ex.new (e.back hl)) z), h4⟩ (Fr.new e hl) (e.both (e.back hl))
  · exact ⟨a, vs, by rw [h1], .inr ⟨SqT.of (e _ _ h2), q xs Hf H _ rfl ⟨a, vs, rfl, h2, h3, h4⟩ Fr.refl e⟩⟩
theorem listG : ∀ X, Good S X → CallR X (.type "list") (rListR S.K) := fun X G => by rw [← G.K]; exact call_list_of
theorem tupG : ∀ X, Good S X → CallR X (.type "tuple") (rTupR S.K) := fun X G => by rw [← G.K]; exact call_tuple_of
variable {xs : List α}
theorem plen (hg : S.sc.names.lookup ("len" : Str) = some .globalImplicit) (hm : S.mg "len" = none) (h : PD S Γ 0 e (cSeq c) (· = xs)) (he : ∀ env : Env, starEach [e] env = (false, eval e env) :: starEach [] env) : PD S Γ 0 (.Call (.Name "len" pn) [e] [] pos) cInt (· = (xs.length : Int)) := pb1 lenG hg hm PySem.boot_len h rc_len he
theorem plist (hg : S.sc.names.lookup ("list" : Str) = some .globalImplicit) (hm : S.mg "list" = none) (h : PD S Γ 0 e (cSeq c) (· = xs)) (he : ∀ env : Env, starEach [e] env = (false, eval e env) :: starEach [] env) : PDF S Γ 0 (.Call (.Name "list" pn) [e] [] pos) c (· = xs) := pfy1 listG hg hm PyProof.Rows.boot_list h rc_list he
theorem ptuple (hg : S.sc.names.lookup ("tuple" : Str) = some .globalImplicit) (hm : S.mg "tuple" = none) (h : PD S Γ 0 e (cSeq c) (· = xs)) (he : ∀ env : Env, starEach [e] env = (false, eval e env) :: starEach [] env) : PD S Γ 0 (.Call (.Name "tuple" pn) [e] [] pos) (cTup c) (· = xs) := py1 tupG hg hm PyProof.Rows.boot_tuple h rc_tuple he
/-- walks over either -/
theorem pdi_seq {tg : Expr} {R : List α → Prop} (h : PD S Γ k e (cSeq c) R) : PDI S Γ k tg e c R := fun O n σ Hf H hn s Rr q => by
  obtain hh := h O n σ Hf H hn s
  -- the reading of e decides which rule walks
  refine ⟨fun σ H R => tE S e σ H fun v H1 => ∃ a, v = .ref a ∧ ((∃ vs, SqL S.K H1 a vs) ∧ R (Itl S.K a) H1 ∨ (∃ vs, SqT S.K H1 a vs) ∧ R (Itt S.K a) H1), fun X G => ?_, ?_⟩
  · refine ⟨fun pins s σ H R I w => ?_⟩
    refine thn ((tE_ok G).run pins s σ H _ I w) fun v s1 ⟨x, H1, I1, r1, a, ex, q1⟩ => ?_
    subst ex
    have hK := G.K
    rcases q1 with ⟨⟨vs, hs⟩, q1⟩ | ⟨⟨vs, hs⟩, q1⟩
    · have one : PE X e (fun σ H Q => tE S e σ H Q) := tE_ok G
      cases r1
      rw [← hK] at hs q1
      obtain ⟨its, rv, p, hz⟩ := I1.list hs
      refine wpAny_pyIter_list p.isList ?_
      refine ⟨s1.heap.objs.size, [s1.heap.objs.size], _, _, H1, rfl, I1.kept (t' := s1.toks) fun b o e => Heap.get?_push_of_some _ e, turn_list a _, ⟨_, Heap.get?_push_size _ rfl, rfl, rfl⟩, fun b hb => ?_, q1⟩
      have e : b = s1.heap.objs.size := by simpa using hb
      subst e
      exact I1.fpOk (Nat.le_refl _) (I1.hok.fresh (Nat.le_refl _))
    · cases r1
      rw [← hK] at hs q1
      obtain ⟨its, rv, p, hz⟩ := I1.tuple hs
      refine wpAny_pyIter_tuple (show s1.heap.IsTuple a its.toArray from p) ?_
      refine ⟨s1.heap.objs.size, [s1.heap.objs.size], _, _, H1, rfl, I1.kept (t' := s1.toks) fun b o e => Heap.get?_push_of_some _ e, turn_tuple a _, ⟨_, Heap.get?_push_size _ rfl, rfl, rfl⟩, fun b hb => ?_, q1⟩
      have e : b = s1.heap.objs.size := by simpa using hb
      subst e
      exact I1.fpOk (Nat.le_refl _) (I1.hok.fresh (Nat.le_refl _))
  · refine hh _ fun v Hf' H' xs px r f s' => ?_
    rcases r with ⟨a, vs, h1, h2, h3, h4⟩ | ⟨a, vs, h1, h2, h3, h4⟩
    · refine ⟨a, h1, .inl ⟨⟨vs, SqL.of (s'.ex _ _ h2)⟩, q _ Hf' H' xs px ?_ (by rw [← paired_len h3]; exact h4) f s'⟩⟩
      have hl := paired_len h3
      exact ⟨fun Hf2 H2 i e1 e2 hi => ⟨vs, vs[i]'(by omega), SqL.of (e2 _ _ (e1 _ _ h2)), List.getElem?_eq_getElem (by omega)⟩, fun Hf2 H2 e1 e2 => ⟨vs, SqL.of (e2 _ _ (e1 _ _ h2)), by omega⟩, fun Hf2 H2 i w H1 x e1 e2 hy hx => by
        obtain ⟨rfl, hy⟩ := hy
        exact ⟨Hf2, c.mono e1 (paired_get h3 (hy vs (SqL.of (e2 _ _ (e1 _ _ h2)))) hx), Fr.refl, e2⟩⟩
    · refine ⟨a, h1, .inr ⟨⟨vs, SqT.of (s'.ex _ _ h2)⟩, q _ Hf' H' xs px ?_ (by rw [← paired_len h3]; exact h4) f s'⟩⟩
      have hl := paired_len h3
      exact ⟨fun Hf2 H2 i e1 e2 hi => ⟨vs, vs[i]'(by omega), SqT.of (e2 _ _ (e1 _ _ h2)), List.getElem?_eq_getElem (by omega)⟩, fun Hf2 H2 e1 e2 => ⟨vs, SqT.of (e2 _ _ (e1 _ _ h2)), by omega⟩, fun Hf2 H2 i w H1 x e1 e2 hy hx => by
        obtain ⟨rfl, hy⟩ := hy
        exact ⟨Hf2, c.mono e1 (paired_get h3 (hy vs (SqT.of (e2 _ _ (e1 _ _ h2)))) hx), Fr.refl, e2⟩⟩
end
end DL

set_option Elab.async false
set_option linter.all false
set_option maxRecDepth 100000
set_option maxHeartbeats 2000000
namespace DL
open PySem PySem.Spec L2 StX
section
variable {S : Stc} {X : Cx}
variable {Γ Γ1 Γ2 Γ3 : Ctxt} {k k1 k2 k3 kk kt ke : Nat} {A α β γ ρ : Type} {c : Cod α} {c' : Cod β} {cr : Cod ρ} {c1 : Cod α} {c2 : Cod β} {c3 : Cod γ} {P P1 : α → Prop} {P2 : β → Prop} {P3 : γ → Prop} {te to ti : TE} {tt : TT} {t u : TS} {p : Po ρ} {ta tx : TA} {e a b d : Expr} {es : List Expr} {pos pos' pn pt : Pos}
variable {x : α} {y : β} {z : γ} {xs : List α}
/-! ### isinstance -/
/-- the class of such data -/
def TyC {α : Type} (K : PySem.W.Frag) (c : Cod α) (x : α) (t : Value) : Prop := ∀ H v, c.rep H v x → TyX K H v t
variable {K : PySem.W.Frag}
theorem ty_int {i : Int} : TyC K cInt i (.type "int") := fun H v h => by obtain rfl := h; exact .base (.int i)
theorem ty_bool {i : Bool} : TyC K cBool i (.type "bool") := fun H v h => by obtain rfl := h; exact .base (.bl i)
theorem ty_str {i : Str} : TyC K cStr i (.type "str") := fun H v h => by obtain rfl := h; exact .base (.str i)
theorem ty_list : TyC K (cList c) xs (.type "list") := fun H v ⟨a, vs, h1, h2, _⟩ => by subst h1; exact .base (.lst h2)
theorem ty_tup : TyC K (cTup c) xs (.type "tuple") := fun H v ⟨a, vs, h1, h2, _⟩ => by subst h1; exact .base (.tup h2)
theorem ty_t2 {w : α × β} : TyC K (cT2 c1 c2) w (.type "tuple") := fun H v ⟨a, _, _, h1, h2, _⟩ => by subst h1; exact .base (.tup h2)
theorem ty_t3 {w : α × β × γ} : TyC K (cT3 c1 c2 c3) w (.type "tuple") := fun H v ⟨a, _, _, _, h1, h2, _⟩ => by subst h1; exact .base (.tup h2)
structure OwnC (K : PySem.W.Frag) (C : Addr) : Prop where
  cl : Cls K C
  ha : PySem.W.findIn K (.ref C) "__class__" = some (some (.builtin "object.__class__"))
  hn : PySem.W.specialIn K (.builtin "object.__class__") "__get__" = some (some (.builtin "getset_descriptor.__get__"))
  ht : PySem.W.takesIn K (.builtin "object.__class__") = some true
  hm : PySem.W.mroIn K C (.type "object") = some true
theorem ty_ins {C : Addr} {ω : Type} {F : Hp → List (Str × V) → ω → Prop} {hm : ∀ {H H' fs y}, Ex H H' → F H fs y → F H' fs y} {y : ω} (o : OwnC K C) : TyC K (cIns C F hm) y (.ref C) := fun H v ⟨a, dx, fs, h1, h2, _⟩ => by subst h1; exact .base (.ins h2 o.cl o.ha o.hn o.ht o.hm)
/-- isinstance(e, T), T the name of a built-in type or of an own class -/
theorem pisi {T : Str} {cv : V} {u ty : Value} {r : Bool} {p1 p2 : Pos} (hg : S.sc.names.lookup ("isinstance" : Str) = some .globalImplicit) (hm : S.mg "isinstance" = none) (h : PD S Γ 0 e c (· = x)) (hT : ∀ X, Good S X → PE X (.Name T p2) (tC cv)) (hc : ClsV cv u) (ht : TyC S.K c x ty) (hk : PySem.W.kitOne S.K ty u = some r)
    (he : ∀ env : Env, starEach [e, .Name T p2] env = (false, eval e env) :: starEach [.Name T p2] env) : PD S Γ 0 (.Call (.Name "isinstance" p1) [e, .Name T p2] [] pos) cBool (· = r) :=
  pd_of (te := tCB (rIsi S.K) (tCons (tE S e) (tCons (tC cv) tNil))) (fun X G => by
    rw [← G.K]
    exact pe_callB call_isi (glb G hg) (by rw [G.mg]; exact hm) (by decide +kernel) (pa_cons (tE_ok G) (pa_cons (hT X G) pa_nil) (he _)) (by decide) (by decide) (he _) rfl)
    fun O n σ Hf H hn s Q q => h O n σ Hf H hn s _ fun v Hf' H' y py r' f s' => by
      subst py
      exact ⟨v, cv, ty, u, r, rfl, hc, ht _ _ (c.mono s'.ex r'), hk, q _ Hf' H' r rfl rfl f s'⟩
theorem nmTy {T : Str} {n : String} {p2 : Pos} (hg : S.sc.names.lookup T = some .globalImplicit) (hm : S.mg T = none) (hv : bootBuiltins T = some (.type n)) (hn : T ≠ "__name__" := by decide) (hd : (T == ("__debug__" : Str)) = false := by decide) : ∀ X, Good S X → PE X (.Name T p2) (tC (.ty n)) :=
  fun X G => pe_bltn (glb G hg) (by rw [G.mg]; exact hm) hv rfl hn hd
theorem nmOwn {T : Str} {C : Addr} {p2 : Pos} (hg : S.sc.names.lookup T = some .globalImplicit) (hm : S.mg T = some (.ref C)) (hd : (T == ("__debug__" : Str)) = false := by decide) : ∀ X, Good S X → PE X (.Name T p2) (tC (.ref C)) :=
  fun X G => pe_glob (glb G hg) (by rw [G.mg]; exact hm) rfl hd
/-- isinstance(e, (list, tuple)) -/
theorem pisiLT {p1 p2 p3 p4 : Pos} {kx : Nat} {ty : Value} {r : Bool} (hg : S.sc.names.lookup ("isinstance" : Str) = some .globalImplicit) (hm : S.mg "isinstance" = none) (hgl : S.sc.names.lookup ("list" : Str) = some .globalImplicit) (hml : S.mg "list" = none) (hgt : S.sc.names.lookup ("tuple" : Str) = some .globalImplicit) (hmt : S.mg "tuple" = none)
    (h : PD S Γ 0 e c (· = x)) (ht : TyC S.K c x ty) (hk : PySem.W.kitAny S.K ty [.type "list", .type "tuple"] = some r)
    (he : ∀ env : Env, starEach [e, .Tuple [.Name "list" p2, .Name "tuple" p3] kx p4] env = (false, eval e env) :: starEach [.Tuple [.Name "list" p2, .Name "tuple" p3] kx p4] env) :
    PD S Γ 0 (.Call (.Name "isinstance" p1) [e, .Tuple [.Name "list" p2, .Name "tuple" p3] kx p4] [] pos) cBool (· = r) :=
  pd_of (te := tCB (rIsiT S.K) (tCons (tE S e) (tCons (tTup (tCons (tC (.ty "list")) (tCons (tC (.ty "tuple")) tNil))) tNil))) (fun X G => by
    rw [← G.K]
    exact pe_callB call_isiT (glb G hg) (by rw [G.mg]; exact hm) (by decide +kernel) (pa_cons (tE_ok G) (pa_cons (pe_tup (pa_cons (nmTy hgl hml PyProof.Rows.boot_list (by decide) (by decide) X G) (pa_cons (nmTy hgt hmt PyProof.Rows.boot_tuple (by decide) (by decide) X G) pa_nil))) pa_nil) (he _)) (by decide) (by decide) (he _) rfl)
    fun O n σ Hf H hn s Q q => h O n σ Hf H hn s _ fun v Hf' H' y py r' f s' => by
      subst py
      refine ⟨by show 2 ≤ sizeLine; decide, fun tp htp => ?_⟩
      refine ⟨v, tp, [.ty "list", .ty "tuple"], ty, [.type "list", .type "tuple"], r, rfl, upd_same, .cons (.ty _) (.cons (.ty _) .nil), ht _ _ (c.mono (s'.ex.trans (Ex.new htp)) r'), hk, ?_⟩
      exact q _ (upd Hf' tp (.tup [.ty "list", .ty "tuple"])) _ r rfl rfl (f.trans (Fr.new (M := Bx Γ) s'.ex htp) fun _ z => .inl z) (s'.new htp)
theorem kLT_list : PySem.W.kitAny K (.type "list") [.type "list", .type "tuple"] = some true := kitAny_cons (b := true) (kit_ty (by decide +kernel)) (fun h => by cases h) fun _ => rfl
theorem kLT_tuple : PySem.W.kitAny K (.type "tuple") [.type "list", .type "tuple"] = some true := kitAny_cons (b := false) (kit_ty (by decide +kernel)) (fun _ => kitAny_cons (b := true) (kit_ty (by decide +kernel)) (fun h => by cases h) fun _ => rfl) (fun h => by cases h)
theorem kLT_int : PySem.W.kitAny K (.type "int") [.type "list", .type "tuple"] = some false := kitAny_cons (b := false) (kit_ty (by decide +kernel)) (fun _ => kitAny_cons (b := false) (kit_ty (by decide +kernel)) (fun _ => rfl) (fun h => by cases h)) (fun h => by cases h)
/-! ### all, any, sum, abs, max, min -/
theorem rc_all {K : PySem.W.Frag} {bs : List Bool} : RC1 (rAll K) (cList cBool) bs cBool (· = bs.all id) := fun Hf H v e ⟨a, vs, h1, h2, h3, _⟩ Q q => by
  have := bools_of_paired h3
  subst this
  exact ⟨a, bs, by rw [h1], SqL.of (e _ _ h2), q _ Hf H _ rfl rfl Fr.refl e⟩
theorem rc_any {K : PySem.W.Frag} {bs : List Bool} : RC1 (rAny K) (cList cBool) bs cBool (· = bs.any id) := fun Hf H v e ⟨a, vs, h1, h2, h3, _⟩ Q q => by
  have := bools_of_paired h3
  subst this
  exact ⟨a, bs, by rw [h1], SqL.of (e _ _ h2), q _ Hf H _ rfl rfl Fr.refl e⟩
theorem rc_sum {K : PySem.W.Frag} {ns : List Int} : RC1 (rSum K) (cList cInt) ns cInt (· = ns.sum) := fun Hf H v e ⟨a, vs, h1, h2, h3, _⟩ Q q => by
  have := ints_of_paired h3
  subst this
  exact ⟨a, ns, by rw [h1], SqL.of (e _ _ h2), q _ Hf H _ rfl rfl Fr.refl e⟩
theorem allG : ∀ X, Good S X → CallR X (.builtin "all") (rAll S.K) := fun X G => by rw [← G.K]; exact cr_all G.calm
theorem anyG : ∀ X, Good S X → CallR X (.builtin "any") (rAny S.K) := fun X G => by rw [← G.K]; exact cr_any G.calm
theorem sumG : ∀ X, Good S X → CallR X (.builtin "sum") (rSum S.K) := fun X G => by rw [← G.K]; exact cr_sum G.calm
theorem pall {bs : List Bool} (hg : S.sc.names.lookup ("all" : Str) = some .globalImplicit) (hm : S.mg "all" = none) (h : PD S Γ 0 e (cList cBool) (· = bs)) (he : ∀ env : Env, starEach [e] env = (false, eval e env) :: starEach [] env) : PD S Γ 0 (.Call (.Name "all" pn) [e] [] pos) cBool (· = bs.all id) := pb1 allG hg hm PyProof.Rows.boot_all h rc_all he
theorem pany {bs : List Bool} (hg : S.sc.names.lookup ("any" : Str) = some .globalImplicit) (hm : S.mg "any" = none) (h : PD S Γ 0 e (cList cBool) (· = bs)) (he : ∀ env : Env, starEach [e] env = (false, eval e env) :: starEach [] env) : PD S Γ 0 (.Call (.Name "any" pn) [e] [] pos) cBool (· = bs.any id) := pb1 anyG hg hm PyProof.Rows.boot_any h rc_any he
theorem psum {bs : List Int} (hg : S.sc.names.lookup ("sum" : Str) = some .globalImplicit) (hm : S.mg "sum" = none) (h : PD S Γ 0 e (cList cInt) (· = bs)) (he : ∀ env : Env, starEach [e] env = (false, eval e env) :: starEach [] env) : PD S Γ 0 (.Call (.Name "sum" pn) [e] [] pos) cInt (· = bs.sum) := pb1 sumG hg hm PyProof.Rows.boot_sum h rc_sum he
/-! ### sorted -/
theorem paired_ints {H : Hp} : ∀ ns : List Int, Paired (cInt.rep H) (ns.map V.int) ns
  | [] => .nil
  | _ :: ns => .cons rfl (paired_ints ns)
theorem rc_sortI {K : PySem.W.Frag} {ns : List Int} : RC1F (rSortedI K) (cList cInt) ns cInt (fun ys => ys.Perm ns ∧ ys.Pairwise (· ≤ ·)) := fun Hf H v e ⟨a, vs, h1, h2, h3, h4⟩ Q q => by
  have := ints_of_paired h3
  subst this
  refine ⟨a, ns, by rw [h1], SqL.of (e _ _ h2), fun ns' p hp hs hn => q p _ ns' ⟨hp, hs⟩ hn (paired_ints ns') ?_⟩
  rw [List.length_map, hp.length_eq]
  rw [List.length_map] at h4; exact h4
theorem sortIG : ∀ X, Good S X → CallR X (.builtin "sorted") (rSortedI S.K) := fun X G => by rw [← G.K]; exact cr_sortedI
theorem psortI {ns : List Int} (hg : S.sc.names.lookup ("sorted" : Str) = some .globalImplicit) (hm : S.mg "sorted" = none) (h : PD S Γ 0 e (cList cInt) (· = ns)) (he : ∀ env : Env, starEach [e] env = (false, eval e env) :: starEach [] env) : PDF S Γ 0 (.Call (.Name "sorted" pn) [e] [] pos) cInt (fun ys => ys.Perm ns ∧ ys.Pairwise (· ≤ ·)) := pfb1 sortIG hg hm PyProof.Rows.boot_sorted h rc_sortI he
/-! ### chains of comparisons of ints -/
theorem pchain {op op' : CmpOp} {g g' : Int → Int → Bool} {i j l : Int} (ho : ∀ X : Cx, OpR X (compareOp op) (rI0 fun i j => .bl (g i j))) (ho' : ∀ X : Cx, OpR X (compareOp op') (rI0 fun i j => .bl (g' i j))) (ha : PD S Γ 0 a cInt (· = i)) (hb : PD S Γ 0 b cInt (· = j)) (hd : PD S Γ 0 d cInt (· = l)) (hm : lastMarks [op, op'] [b, d] = false) :
    PD S Γ 0 (.Compare a [op, op'] [b, d] pos) cBool (· = (g i j && g' j l)) :=
  pd_of (fun X G => pe_chain (ho X) (ho' X) (tE_ok G) (tE_ok G) (tE_ok G) hm) fun O n σ Hf H hn s Q q => ha O n σ Hf H hn s _ fun v Hf1 H1 x1 p1 r1 f1 s1 => hb O n σ Hf1 H1 hn s1 _ fun v2 Hf2 H2 x2 p2 r2 f2 s2 => by
    subst p1 p2
    obtain rfl := r1
    obtain rfl := r2
    refine ⟨x1, x2, rfl, rfl, g x1 x2, rfl, ?_⟩
    cases hg : g x1 x2 with
    | true =>
      refine iteT (hd O n σ Hf2 H2 hn s2 _ fun v3 Hf3 H3 x3 p3 r3 f3 s3 => ?_)
      subst p3
      obtain rfl := r3
      exact ⟨x2, x3, rfl, rfl, q _ Hf3 H3 (g' x2 x3) (by rw [hg, Bool.true_and]) rfl ((f1.trans f2 fun _ z => .inl z).trans f3 fun _ z => .inl z) s3⟩
    | false => exact iteF (q _ Hf2 H2 false (by rw [hg, Bool.false_and]) rfl (f1.trans f2 fun _ z => .inl z) s2)
/-! ### tuples put together -/
theorem pap {F : V → α → Prop} : ∀ {l1 l2 : List V} {m1 m2 : List α}, Paired F l1 m1 → Paired F l2 m2 → Paired F (l1 ++ l2) (m1 ++ m2)
  | _, _, _, _, .nil, h => h
  | _, _, _, _, .cons r t, h => .cons r (pap t h)
theorem rd_catT {K : PySem.W.Frag} {xs ys : List α} (lb : xs.length + ys.length ≤ LB) : RD (rCatA K) (cTup c) xs (cTup c) ys (cTup c) (· = xs ++ ys) := fun Hf H v u e ⟨a, vs, h1, h2, h3, h4⟩ ⟨b, us, g1, g2, g3, g4⟩ Q q => by
  have l1 := paired_len h3
  have l2 := paired_len g3
  refine ⟨a, b, vs, us, h1, g1, SqT.of (e _ _ h2), SqT.of (e _ _ g2), lb_line (by omega), fun z => ?_, fun _ z => ?_, fun _ _ p hp => ?_⟩
  · subst z
    cases h3
    exact q ys Hf H _ (by simp) ⟨b, us, rfl, g2, g3, g4⟩ Fr.refl e
  · subst z
    cases g3
    exact q xs Hf H _ (by simp) ⟨a, vs, rfl, h2, h3, h4⟩ Fr.refl e
  · exact q _ (upd Hf p (.tup (vs ++ us))) _ _ rfl ⟨p, vs ++ us, rfl, upd_same, paired_mono (pap h3 g3) (fun _ _ z => c.mono (Ex.new (e.back hp)) z), by rw [List.length_append]; omega⟩ (Fr.new e hp) (e.both (e.back hp))
theorem catTG : ∀ X, Good S X → OpR X (binaryOp .Add) (rCatA S.K) := fun X G => by rw [← G.K]; exact op_catA
/-! ### in a list of data at any depth -/
theorem rd_inD [DecidableEq α] {K : PySem.W.Frag} {x : α} {xs : List α} (q : EqC c) (hn : q.n ≤ 63) : RD (rInD K) c x (cList c) xs cBool (· = decide (x ∈ xs)) := fun Hf H v u e h1 h2 Q k => by
  have hd : (eList q).n ≤ 64 := by show q.n + 1 ≤ 64; omega
  refine ⟨q.D x, xs.map q.D, q.dp K H _ _ (c.mono e h1), (eList q).dp K H _ _ ((cList c).mono e h2), by unfold SeqAt.shaped; rw [q.lay, Bool.true_and]; exact decide_eq_true (Nat.le_trans (q.dep x) (by omega)), by unfold SeqAt.shaped; rw [show (PyData.list (xs.map q.D)).canLay0 = true from (eList q).lay xs, Bool.true_and]; exact decide_eq_true (Nat.le_trans ((eList q).dep xs) hd), ?_⟩
  have : ((xs.map q.D).any fun z => PyData.eqv z (q.D x)) = decide (x ∈ xs) := by
    rw [List.any_map]
    have : ∀ l : List α, (l.any ((fun z => PyData.eqv z (q.D x)) ∘ q.D)) = decide (x ∈ l) := fun l => by
      induction l with
      | nil => simp
      | cons y l ih =>
        rw [List.any_cons, ih]
        show (PyData.eqv (q.D y) (q.D x) || _) = _
        rw [q.eqv]
        by_cases e1 : y = x
        · subst e1; simp
        · have e2 : ¬ x = y := fun z => e1 z.symm
          simp [e1, e2]
    exact this xs
  rw [this]
  exact k _ Hf H _ rfl rfl Fr.refl e
theorem inDG (hl : True) : ∀ X, Good S X → OpR X (compareOp .In) (rInD S.K) := fun X G => by rw [← G.K]; exact op_inD (by have := G.room.un; omega)
/-! ### xs[::-1] -/
theorem prev {kx : Nat} {p1 p2 p3 : Pos} (h : PD S Γ 0 e (cList c) (· = xs)) : PDF S Γ 0 (.Subscript e (.Slice none none (some (.UnaryOp .USub (.Constant (.int 1) kx p1) p2)) p3) pos) c (· = xs.reverse) :=
  pdf_of (te := tRevL S.K (tE S e)) (fun X G => by rw [← G.K]; exact pe_revL (tE_ok G)) fun O n σ Hf H hn s Q q => h O n σ Hf H hn s _ fun v Hf' H' y py ⟨a, vs, h1, h2, h3, h4⟩ f s' => by
    subst py
    refine ⟨a, vs, h1, SqL.of (s'.ex _ _ h2), fun p hp => ?_⟩
    have pr : ∀ {l : List V} {m : List α}, Paired (c.rep Hf') l m → Paired (c.rep Hf') l.reverse m.reverse := fun {l m} w => by
      induction w with
      | nil => exact .nil
      | cons r t ih => rw [List.reverse_cons, List.reverse_cons]; exact Paired.snoc ih r
    exact q p vs.reverse Hf' _ _ rfl upd_same (s'.ex.back hp) (f.dom p hp) (pr h3) (by rw [List.length_reverse]; exact h4) (f.trans (Fr.newO (M := Bx Γ) hp) fun _ z => .inl z) (s'.grow0 (Fr.newO hp) (s'.ex.trans (Ex.new hp)))
/-! ### [*xs, e, ..] -/
theorem ta_star {Bs : Ctxt → Prop} {xs : List α} (h : TD te Γ k1 (cSeq c) (· = xs)) (hr : TDA tx Γ k2 Bs) : TDA (tStar S.K te tx) Γ (k1 + k2) (fun as => ∃ r, Bs r ∧ as = xs.map (fun x => Sl.d c x) ++ r) := fun O n σ Hf H hn s Q q =>
  h O n σ Hf H (by omega) s _ fun v Hf1 H1 x ex r f1 S1 => by
    subst ex
    obtain ⟨a, vs, h1, h2, h3, h4⟩ := sq_seq (K := S.K) S1.ex r
    refine ⟨a, vs, h1, h2.symm, hr O (n + k1) σ Hf1 H1 (by omega) S1 _ fun us Hf2 H2 as b o hb f2 S2 => ?_⟩
    have ap : ∀ {l : List V} {m : List α}, Paired (c.rep Hf2) l m → ArgsOk Hf2 (l ++ us) (m.map (fun x => Sl.d c x) ++ as) := fun {l m} w => by
      induction w with
      | nil => exact o
      | cons r t ih => exact ⟨r, ih⟩
    exact q (vs ++ us) Hf2 H2 _ ⟨as, b, rfl⟩ (ap (paired_mono h3 fun _ _ z => c.mono f2.ex z)) (fun a' h' => by
      rcases List.mem_append.mp h' with e | e
      · obtain ⟨_, _, e⟩ := List.mem_map.mp e
        cases e
      · exact hb a' e) (f1.trans f2 fun _ z => .inl z) (by rw [← Nat.add_assoc]; exact S2)
theorem pda_star {Bs : Ctxt → Prop} {xs : List α} {sp : Pos} (h : PD S Γ k1 e (cSeq c) (· = xs)) (hr : PDA S Γ k2 es Bs) (hs : ∀ env : Env, starEach (.Starred e sp :: es) env = (true, eval e env) :: starEach es env) : PDA S Γ (k1 + k2) (.Starred e sp :: es) (fun as => ∃ r, Bs r ∧ as = xs.map (fun x => Sl.d c x) ++ r) :=
  pda_of (ta := tStar S.K (tE S e) (tA S es)) (fun X G => by rw [← G.K]; exact pa_star (tE_ok G) (tA_ok G) (hs _)) (ta_star h hr)
/-- [*xs, *ys] -/
theorem pstar2 {xs ys : List α} {p1 p2 : Pos} (ha : PD S Γ 0 a (cSeq c) (· = xs)) (hb : PD S Γ 0 b (cSeq c) (· = ys)) (hs : ∀ env : Env, starEach [.Starred a p1, .Starred b p2] env = (true, eval a env) :: starEach [.Starred b p2] env) (hs2 : ∀ env : Env, starEach [.Starred b p2] env = (true, eval b env) :: starEach [] env) (hl : xs.length + ys.length ≤ 1000) :
    PDF S Γ 0 (.List [.Starred a p1, .Starred b p2] pos) c (· = xs ++ ys) :=
  pdf_lst (pda_star (k1 := 0) (k2 := 0) ha (pda_star (k1 := 0) (k2 := 0) hb pda_nil hs2) hs) fun as ⟨r, ⟨r2, e2, e3⟩, e⟩ => ⟨xs ++ ys, by subst e2; rw [e, e3, List.map_append, List.append_nil], by rw [List.length_append]; exact hl, rfl⟩
end
end DL

set_option Elab.async false
set_option linter.all false
set_option maxRecDepth 100000
set_option maxHeartbeats 4000000
namespace DL
open PySem PySem.Spec L2
open PyProof.Rows (IntsAre)
section
variable {w : World} {P : Program} {A : Around} {s : Shared} {E : Value → Shared → Prop}
/-! ### a class of the library called: what its two own functions do -/
/-- the making function's code, then the filling one's -/
theorem tcall {T nw ini : String} {xs : List Value} {Q M : Value → Shared → Prop} (t : TypeCalled T nw ini) (ok : checkTypeCall T ⟨xs, []⟩ = pure ())
    (new : codeAny (model P w) A.in1 (.call (.builtin nw) ⟨.type T :: xs, []⟩) (wants M E) s)
    (fill : ∀ o s1, M o s1 → s1.TypeIs o T ∧ codeAny (model P w) A.in1 (.call (.builtin ini) ⟨o :: xs, []⟩) (wants (fun r s2 => r = .none ∧ Q o s2) E) s1) :
    wpAny (model P w) A (call (.type T) xs) Q E s := by
  have m1 := t.made; have m2 := t.sub; have m3 := t.notType; have m4 := t.canCreate
  rcases t.mro with ⟨c0, cs, m5⟩
  apply wpAny_call
  apply codeAny_of_tree
  show wpAny _ _ (callAny (.type T) ⟨xs, []⟩) _ _ _
  apply wpAny_pure
  constructor
  · exact Code.quiet_builtin _ (by decide +kernel)
  apply codeAny_builtin F.entry_type_call
  rw [Around.under_plain (weight_type_call_type T xs []) rfl]
  repeat any_goals first | assumption | wp_step
  apply codeAny_mono new
  rintro (e | (v | _ | _ | _)) s1 q
  all_goals first | exact q | exact q.elim | skip
  rename_i v
  obtain ⟨ty, f⟩ := fill v s1 q
  have b := t.init.bind v
  have l := t.init.lookup
  repeat any_goals first | assumption | wp_step
  apply codeAny_mono f
  intro r2 s2 z
  match r2, z with
  | .error _, z => exact z
  | .ok (.ret r), z =>
    have y : r = .none ∧ Q v s2 := z
    rw [y.1]
    have fin := y.2
    repeat any_goals first | assumption | wp_step
/-! ### set(xs) of a list of ints -/
/-- what a set just made is -/
abbrev nset (w : World) : Obj := { cls := .type "set", dict := none, data := .set #[] 0 (.fresh 0 0 (!w.params.followText "set-order")) }
/-- a list of ints poured into it -/
theorem pour {D l : Addr} {h : Heap} {items : Array Value} (id : String) (ns : List Int) {Q : Unit → Shared → Prop} (quiet : A.in1.handled = none) (hs : s.heap = h.push (nset w)) (hD : D = h.objs.size) (hl : h.IsList l items) (hit : IntsAre items.toList ns) (few : ns.length + 1 < scanBound)
    (q : ∀ (h' : Heap) (tk c : Nat), SetR w h' D (fun j => decide (j ∈ ns)) c → c ≤ ns.length → (∀ b o, h.get? b = some o → h'.get? b = some o) → Q () { s with heap := h', toks := tk }) :
    wpAny (model P w) A (Builtin.Frozenset.updateFrom id D (.ref l)) Q E s := by
  have lst : s.heap.IsList l items := by rw [hs]; exact hl.push _
  have ty : s.TypeIs (.ref l) "list" := by
    obtain ⟨o, g, c, _⟩ := lst
    exact ⟨o, g, c⟩
  have lD : l < D := by
    obtain ⟨o, g, _⟩ := hl
    rw [hD]; exact Heap.lt_size g
  have sD : s.heap.objs.size = D + 1 := by rw [hs, hD, Heap.size_push]
  have nodict : (Value.type "list" == Value.type "dict") = false := by decide
  have no1 := F.sub_list_set
  have no2 := F.sub_list_frozenset
  unfold Builtin.Frozenset.updateFrom
  -- it is no set and no dict: it is walked
  have ask : wpAny (model P w) A (Builtin.Frozenset.isAnySet (.ref l)) (fun b s1 => b = false ∧ s1 = s) E s := by
    unfold Builtin.Frozenset.isAnySet
    refine wpAny_bind (wpAny_isInstance ty no1 ?_)
    exact wpAny_isInstance ty no2 ⟨rfl, rfl⟩
  refine wpAny_bind (wpAny_mono ask (fun b s1 z => ?_) fun _ _ e => e)
  rw [z.1, z.2, if_neg Bool.false_ne_true]
  refine wpAny_bind (wpAny_typeOf ty ?_)
  rw [nodict, if_neg Bool.false_ne_true]
  refine wpAny_bind (wpAny_pyIter_list lst ?_)
  rw [sD]
  -- the iterator stands behind the set
  have walk := (Walks.list (prog := P) (w := w) (A := A.in1) quiet (D + 1) l (Nat.ne_of_lt (Nat.lt_succ_of_lt lD)) items).toS
  have apart : D ∉ [D + 1, l] := by
    intro m
    rcases List.mem_cons.mp m with e | m
    · exact absurd e (Nat.ne_of_lt (Nat.lt_succ_self D))
    · exact absurd (List.mem_singleton.mp m) (Nat.ne_of_gt lD)
  have len : items.size = ns.length := by rw [← IntsAre.length hit, Array.length_toList]
  refine wpAny_bind (wpAny_runValue ?_)
  have gs : (s.heap.push { cls := .type "list_iterator", data := .fields #[.ref l, .int 0 0] }).get? D = some (nset w) :=
    Heap.get?_push_of_some _ (by rw [hs, hD]; exact Heap.get?_push_size _ rfl)
  refine set_update_ints walk D apart ns len few (fun i v e => ?_) items.size 0 _ rfl (Nat.zero_le _) ⟨⟨_, sD ▸ Heap.get?_push_size _ rfl, rfl, rfl⟩, lst.push _⟩ ⟨0, Nat.le_refl 0, setR_new_at gs⟩ fun s' c mv le R => ?_
  · -- the i-th one
    have e' : items.toList[i]? = some v := by rw [Array.getElem?_toList]; exact e
    have hi : i < ns.length := by
      rw [← IntsAre.length hit]
      exact (List.getElem?_eq_some_iff.mp e').1
    obtain ⟨t, z⟩ := IntsAre.int_at hit i v e'
    refine ⟨ns[i], t, List.getElem?_eq_getElem hi, z.trans ?_⟩
    rw [List.getD_eq_getElem?_getD, List.getElem?_eq_getElem hi]
    rfl
  · obtain ⟨h1, m⟩ : s' = { s with heap := s'.heap, toks := s'.toks } ∧ ∀ b o, h.get? b = some o → s'.heap.get? b = some o := by
      refine ⟨?_, fun b o g => mv.heap b o (fun mem => ?_) (Heap.get?_push_of_some _ (show s.heap.get? b = some o by rw [hs]; exact Heap.get?_push_of_some _ g))⟩
      · have a1 : s'.gens = s.gens := mv.gens
        have a2 := mv.drawn
        have a3 := mv.os
        cases s'
        simp only at a1 a2 a3
        rw [a1, a2, a3]
      · have bD : b < D := by rw [hD]; exact Heap.lt_size g
        rcases List.mem_cons.mp mem with e | mem
        · exact absurd e (Nat.ne_of_lt bD)
        · exact absurd (List.mem_singleton.mp mem) (Nat.ne_of_lt (Nat.lt_succ_of_lt bD))
    show wpAny _ _ (pure ()) _ _ _
    rw [h1]
    exact wpAny_pure (q _ _ c R (by rw [← len]; exact le) m)
/-- set(xs), the whole -/
theorem set_of_list {p : Addr} {vs : Array Value} {ns : List Int} {Q : Value → Shared → Prop} (calm : A.handled = none) (at_ : s.heap.IsList p vs) (num : IntsAre vs.toList ns) (few : ns.length + 1 < scanBound)
    (q : ∀ (g : Heap) (tk n : Nat), SetR w g s.heap.objs.size (fun j => decide (j ∈ ns)) n → n ≤ ns.length → (∀ b o, s.heap.get? b = some o → g.get? b = some o) → Q (.ref s.heap.objs.size) { s with heap := g, toks := tk }) :
    wpAny (model P w) A (call (.type "set") [.ref p]) Q E s := by
  refine tcall (M := fun o s1 => o = .ref s.heap.objs.size ∧ s1 = { s with heap := s.heap.push (nset w) }) F.called_set (F.typeCall_set_1 _) (code_set_led1 _ ⟨rfl, rfl⟩) ?_
  rintro _ _ ⟨rfl, rfl⟩
  have new : (s.heap.push (nset w)).get? s.heap.objs.size = some (nset w) := Heap.get?_push_size _ rfl
  refine ⟨⟨_, new, rfl⟩, codeAny_call_builtin F.called_set.init.plain F.entry_set_init (check_set_init_1 ⟨_, new, rfl⟩ ?_)⟩
  unfold Builtin.«set.__init__» noKeywords
  generalize hu : Builtin.Frozenset.updateFrom = up
  wp_walk
  subst hu
  refine pour "set.__init__" ns (by simp [calm]) rfl rfl at_ num few fun h' tk c R le k => ?_
  exact wpAny_pure ⟨rfl, q h' tk c R le k⟩
end
end DL

set_option Elab.async false
set_option linter.all false
set_option maxRecDepth 100000
set_option maxHeartbeats 4000000
namespace DL
open PySem PySem.Spec L2
/-! ### ascending, each once -/
def ins1 (x : Int) : List Int → List Int
  | [] => [x]
  | y :: r => if x < y then x :: y :: r else if x = y then y :: r else y :: ins1 x r
def asc (l : List Int) : List Int := l.foldl (fun acc x => ins1 x acc) []
theorem asc_snoc (l : List Int) (x : Int) : asc (l ++ [x]) = ins1 x (asc l) := by unfold asc; rw [List.foldl_append]; rfl
theorem mem_ins1 {x k : Int} : ∀ {l : List Int}, k ∈ ins1 x l ↔ k = x ∨ k ∈ l
  | [] => by simp [ins1]
  | y :: r => by
    unfold ins1
    split
    · simp
    · split
      · rename_i h; subst h; simp
      · rw [List.mem_cons, mem_ins1 (l := r), List.mem_cons]
        constructor
        · rintro (h | h | h)
          · exact .inr (.inl h)
          · exact .inl h
          · exact .inr (.inr h)
        · rintro (h | h | h)
          · exact .inr (.inl h)
          · exact .inl h
          · exact .inr (.inr h)
theorem ins1_up {x : Int} : ∀ {l : List Int}, l.Pairwise (· < ·) → (ins1 x l).Pairwise (· < ·)
  | [], _ => by simp [ins1]
  | y :: r, h => by
    have h' := List.pairwise_cons.mp h
    unfold ins1
    split
    · rename_i hx
      refine List.pairwise_cons.mpr ⟨fun z hz => ?_, h⟩
      rcases List.mem_cons.mp hz with e | e
      · subst e; exact hx
      · exact Int.lt_trans hx (h'.1 z e)
    · split
      · exact h
      · rename_i h1 h2
        refine List.pairwise_cons.mpr ⟨fun z hz => ?_, ins1_up h'.2⟩
        rcases mem_ins1.mp hz with e | e
        · subst e; omega
        · exact h'.1 z e
theorem ins1_len {x : Int} : ∀ {l : List Int}, l.Pairwise (· < ·) → (ins1 x l).length = if x ∈ l then l.length else l.length + 1
  | [], _ => by simp [ins1]
  | y :: r, h => by
    have h' := List.pairwise_cons.mp h
    unfold ins1
    split
    · rename_i hx
      have : ¬ x ∈ y :: r := fun z => by
        rcases List.mem_cons.mp z with e | e
        · omega
        · have := h'.1 x e; omega
      rw [if_neg this]; rfl
    · split
      · rename_i h1; subst h1; simp
      · rename_i h1 h2
        rw [List.length_cons, ins1_len h'.2]
        by_cases hr : x ∈ r
        · rw [if_pos hr, if_pos (List.mem_cons_of_mem _ hr)]; rfl
        · rw [if_neg hr, if_neg (fun z => by rcases List.mem_cons.mp z with e | e; exact h2 e; exact hr e)]; rfl
theorem foldl_up : ∀ (l acc : List Int), acc.Pairwise (· < ·) → (l.foldl (fun acc x => ins1 x acc) acc).Pairwise (· < ·)
  | [], _, h => h
  | _ :: l, _, h => foldl_up l _ (ins1_up h)
theorem asc_up (l : List Int) : (asc l).Pairwise (· < ·) := foldl_up l [] .nil
theorem foldl_mem {k : Int} : ∀ (l acc : List Int), k ∈ l.foldl (fun acc x => ins1 x acc) acc ↔ k ∈ l ∨ k ∈ acc
  | [], acc => by simp
  | x :: l, acc => by
    rw [List.foldl_cons, foldl_mem l, mem_ins1, List.mem_cons]
    constructor
    · rintro (h | h | h)
      · exact .inl (.inr h)
      · exact .inl (.inl h)
      · exact .inr h
    · rintro ((h | h) | h)
      · exact .inr (.inl h)
      · exact .inl h
      · exact .inr (.inr h)
theorem mem_asc {k : Int} {l : List Int} : k ∈ asc l ↔ k ∈ l := by unfold asc; rw [foldl_mem]; simp
theorem foldl_len : ∀ (l acc : List Int), acc.Pairwise (· < ·) → (l.foldl (fun acc x => ins1 x acc) acc).length ≤ l.length + acc.length
  | [], acc, _ => by simp
  | x :: l, acc, h => by
    rw [List.foldl_cons]
    have := foldl_len l _ (ins1_up (x := x) h)
    have := ins1_len (x := x) h
    rw [List.length_cons]
    split at this <;> omega
theorem asc_len (l : List Int) : (asc l).length ≤ l.length := by have := foldl_len l [] .nil; unfold asc; simpa using this
/-- an ascending list is the one with its members -/
theorem up_ext : ∀ {l m : List Int}, l.Pairwise (· < ·) → m.Pairwise (· < ·) → (∀ k, k ∈ l ↔ k ∈ m) → l = m
  | [], [], _, _, _ => rfl
  | [], y :: m, _, _, h => absurd ((h y).mpr List.mem_cons_self) List.not_mem_nil
  | x :: l, [], _, _, h => absurd ((h x).mp List.mem_cons_self) List.not_mem_nil
  | x :: l, y :: m, h1, h2, h => by
    have a := List.pairwise_cons.mp h1
    have b := List.pairwise_cons.mp h2
    have e : x = y := by
      rcases List.mem_cons.mp ((h x).mp List.mem_cons_self) with e | e
      · exact e
      · rcases List.mem_cons.mp ((h y).mpr List.mem_cons_self) with e2 | e2
        · exact e2.symm
        · have := b.1 x e; have := a.1 y e2; omega
    subst e
    rw [up_ext a.2 b.2 fun k => ?_]
    constructor
    · intro hk
      rcases List.mem_cons.mp ((h k).mp (List.mem_cons_of_mem _ hk)) with e | e
      · subst e; exact absurd (a.1 k hk) (Int.lt_irrefl k)
      · exact e
    · intro hk
      rcases List.mem_cons.mp ((h k).mpr (List.mem_cons_of_mem _ hk)) with e | e
      · subst e; exact absurd (b.1 k hk) (Int.lt_irrefl k)
      · exact e
theorem asc_eq {l m : List Int} (h : m.Pairwise (· < ·)) (hm : ∀ k, k ∈ m ↔ k ∈ l) : asc l = m := up_ext (asc_up l) h fun k => mem_asc.trans (hm k).symm
theorem asc_self {l : List Int} (h : l.Pairwise (· < ·)) : asc l = l := asc_eq h fun _ => Iff.rfl
theorem card_ext {l m : List Int} (h1 : l.Nodup) (h2 : m.Nodup) (h : ∀ k, k ∈ l ↔ k ∈ m) : l.length = m.length := Nat.le_antisymm (le_of h1 fun k hk => (h k).mp hk) (le_of h2 fun k hk => (h k).mpr hk)
where le_of : ∀ {l m : List Int}, l.Nodup → (∀ k, k ∈ l → k ∈ m) → l.length ≤ m.length
  | [], _, _, _ => Nat.zero_le _
  | x :: l, m, h, hs => by
    have h' := List.nodup_cons.mp h
    have hx : x ∈ m := hs x List.mem_cons_self
    have := le_of (l := l) (m := m.erase x) h'.2 fun k hk => by
      have ne : k ≠ x := fun e => h'.1 (e ▸ hk)
      exact (List.mem_erase_of_ne ne).mpr (hs k (List.mem_cons_of_mem _ hk))
    rw [List.length_erase_of_mem hx] at this
    have hp : 0 < m.length := List.length_pos_of_mem hx
    rw [List.length_cons]; omega
theorem up_nodup {l : List Int} (h : l.Pairwise (· < ·)) : l.Nodup := h.imp fun {a b} (z : a < b) => fun (e : a = b) => by omega
theorem setR_card {w : World} {h : Heap} {a : Addr} {S : Int → Bool} {n : Nat} {l : List Int} (R : SetR w h a S n) (hl : l.Nodup) (hm : ∀ k, S k = true ↔ k ∈ l) : n = l.length := by
  obtain ⟨o, es, ep, t, _, _, _, _, nd, hS, _, _, hn, _⟩ := R
  rw [← hn, ← card_ext (l := es.toList.map keyOf) nd hl fun k => (hS k).symm.trans (hm k), List.length_map, Array.length_toList]
/-! ### sets of ints, as the ascending list of their members -/
def cSet (w : World) : Cod (List Int) := ⟨fun H v xs => ∃ a S, v = .ref a ∧ H a = some (SetO w a S xs.length) ∧ (∀ k, S k = decide (k ∈ xs)) ∧ xs.Pairwise (· < ·) ∧ xs.length ≤ 1000,
  fun e ⟨a, S, h1, h2, h3⟩ => ⟨a, S, h1, e _ _ h2, h3⟩⟩
def rSetI (K : PySem.W.Frag) (w : World) : List V → Hp → VK → Prop := fun vs H Q => ∃ p ns, vs = [.ref p] ∧ (SqL K H p (ns.map V.int) ∨ SqT K H p (ns.map V.int)) ∧ ns.length ≤ 1000 ∧ ∀ l S, (∀ k, S k = decide (k ∈ asc ns)) → H l = none → Q (.ref l) (upd H l (SetO w l S (asc ns).length))
section
variable {S : Stc} {X : Cx}
variable {Γ Γ1 Γ2 Γ3 : Ctxt} {k k1 k2 k3 kk kt ke : Nat} {A α β γ ρ : Type} {c : Cod α} {c' : Cod β} {cr : Cod ρ} {c1 : Cod α} {c2 : Cod β} {c3 : Cod γ} {P P1 : α → Prop} {P2 : β → Prop} {P3 : γ → Prop} {te to ti : TE} {tt : TT} {t u : TS} {p : Po ρ} {ta tx : TA} {e a b d : Expr} {es : List Expr} {pos pos' pn pt : Pos}
variable {x : α} {y : β} {z : γ} {xs : List α} {K : PySem.W.Frag} {w : World} {ns : List Int}
theorem dec_asc {k : Int} {ns : List Int} : decide (k ∈ ns) = decide (k ∈ asc ns) := decide_eq_decide.mpr mem_asc.symm
theorem call_setI (hc : X.calm = true) : CallR X (.type "set") (rSetI X.K X.w) := by
  intro pins s σ H xs us Q I r h
  obtain ⟨l, ns, rfl, hl, hn, q⟩ := h
  rw [Vals.ref1 r]
  have hf : H s.heap.objs.size = none := I.hok.fresh (Nat.le_refl _)
  have fin : ∀ (h' : Heap) (tk c : Nat), SetR X.w h' s.heap.objs.size (fun j => decide (j ∈ ns)) c → c ≤ ns.length → (∀ b o, s.heap.get? b = some o → h'.get? b = some o) → ∃ x' H', Inv X pins σ H' { s with heap := h', toks := tk } ∧ RelV x' (.ref s.heap.objs.size) ∧ Q x' H' := fun h' tk c R _ k => by
    have ec : c = (asc ns).length := setR_card R (up_nodup (asc_up ns)) fun j => by rw [dec_asc]; exact decide_eq_true_iff
    subst ec
    exact ⟨.ref s.heap.objs.size, upd H s.heap.objs.size (SetO X.w s.heap.objs.size (fun j => decide (j ∈ ns)) (asc ns).length), I.laid (t' := tk) k (Nat.le_refl _) (setO_new R), rfl, q _ _ (fun _ => dec_asc) hf⟩
  rcases hl with hl | hl
  · obtain ⟨its, rv, pl, hz⟩ := I.list hl
    exact set_of_list (I.ok.hd hc) pl.isList (ints_of_vals rv) (by unfold scanBound; omega) fun h' tk c R hc' k => fin h' tk c R hc' k
  · obtain ⟨its, rv, pl, hz⟩ := I.tuple hl
    exact call_set_tupI ns (I.ok.hd hc) (show s.heap.IsTuple l its.toArray from pl) (ints_of_vals rv) (by unfold scanBound; omega) fun h' tk c R hc' k => fin h' tk c R hc' k
theorem setIG : ∀ X, Good S X → CallR X (.type "set") (rSetI S.K S.w) := fun X G => by rw [← G.K, ← G.w]; exact call_setI G.calm
theorem rc_setI (hn : ns.length ≤ 1000) : RC1 (rSetI K w) (cSeq cInt) ns (cSet w) (· = asc ns) := fun Hf H v e h Q q => by
  obtain ⟨a, vs, h1, h2, h3, h4⟩ := sq_seq (K := K) e h
  have := ints_of_paired h3
  subst this
  refine ⟨a, ns, by rw [h1], h2, hn, fun l S hS hl => ?_⟩
  exact q (asc ns) (upd Hf l (SetO w l S (asc ns).length)) _ _ rfl ⟨l, S, rfl, upd_same, hS, asc_up ns, Nat.le_trans (asc_len ns) hn⟩ (Fr.new e hl) (e.both (e.back hl))
/-- set(xs) -/
theorem pset (hg : S.sc.names.lookup ("set" : Str) = some .globalImplicit) (hm : S.mg "set" = none) (h : PD S Γ 0 e (cSeq cInt) (· = ns)) (hn : ns.length ≤ 1000) (he : ∀ env : Env, starEach [e] env = (false, eval e env) :: starEach [] env) : PD S Γ 0 (.Call (.Name "set" pn) [e] [] pos) (cSet S.w) (· = asc ns) :=
  py1 setIG hg hm PyProof.Rows.boot_set h (rc_setI hn) he
/-- sorted(set) -/
theorem rc_sortSet (hn : ns.length < 64) : RC1F (rSortedSet w) (cSet w) ns cInt (· = ns) := fun Hf H v e ⟨a, T, h1, h2, h3, h4, h5⟩ Q q => by
  refine ⟨a, T, ns.length, by rw [h1], e _ _ h2, hn, fun ms p hu hm hl hp => ?_⟩
  have em : ms = ns := up_ext hu h4 fun k => (hm k).trans (by rw [h3 k, decide_eq_true_iff])
  subst em
  exact q p _ ms rfl hp (paired_ints ms) (by rw [List.length_map]; exact Nat.le_trans h5 (by decide))
theorem sortSetG : ∀ X, Good S X → CallR X (.builtin "sorted") (rSortedSet S.w) := fun X G => by rw [← G.w]; exact cr_sortedSet G.calm
theorem psortSet (hg : S.sc.names.lookup ("sorted" : Str) = some .globalImplicit) (hm : S.mg "sorted" = none) (h : PD S Γ 0 e (cSet S.w) (· = ns)) (hn : ns.length < 64) (he : ∀ env : Env, starEach [e] env = (false, eval e env) :: starEach [] env) : PDF S Γ 0 (.Call (.Name "sorted" pn) [e] [] pos) cInt (· = ns) :=
  pfb1 sortSetG hg hm PyProof.Rows.boot_sorted h (rc_sortSet hn) he
/-- len(set) -/
def rLenSet (w : World) : List V → Hp → VK → Prop := fun vs H Q => ∃ (a : Addr) (T : Int → Bool) (n : Nat), vs = [V.ref a] ∧ H a = some (SetO w a T n) ∧ n ≤ 1000 ∧ Q (.int n) H
theorem cr_lenSet : CallR X (.builtin "len") (rLenSet X.w) := by
  intro pins s σ H vs us Q I r h
  obtain ⟨a, T, n, rfl, ha, hn, q⟩ := h
  obtain ⟨o, es, ep, t, ho, hex, hd, _, _, _, hb, hf, en, _⟩ := setO_get I ha
  rw [Vals.ref1 r]
  refine call_len_set ho hex hd hf (by rw [en]; omega) ⟨.int n, H, I.tok _, ⟨_, by rw [en]⟩, q⟩
theorem lenSetG : ∀ X, Good S X → CallR X (.builtin "len") (rLenSet S.w) := fun X G => by rw [← G.w]; exact cr_lenSet
theorem rc_lenSet : RC1 (rLenSet w) (cSet w) ns cInt (· = (ns.length : Int)) := fun Hf H v e ⟨a, T, h1, h2, h3, h4, h5⟩ Q q =>
  ⟨a, T, ns.length, by rw [h1], e _ _ h2, h5, q _ Hf H _ rfl rfl Fr.refl e⟩
theorem plenSet (hg : S.sc.names.lookup ("len" : Str) = some .globalImplicit) (hm : S.mg "len" = none) (h : PD S Γ 0 e (cSet S.w) (· = ns)) (he : ∀ env : Env, starEach [e] env = (false, eval e env) :: starEach [] env) : PD S Γ 0 (.Call (.Name "len" pn) [e] [] pos) cInt (· = (ns.length : Int)) :=
  pb1 lenSetG hg hm PySem.boot_len h rc_lenSet he
/-- in a set -/
theorem rd_inS {x : Int} : RD (rSIn w) cInt x (cSet w) ns cBool (· = decide (x ∈ ns)) := fun Hf H v u e h1 ⟨a, T, h2, h3, h4, _⟩ Q q => by
  obtain rfl := h1
  exact ⟨x, a, T, _, rfl, h2, e _ _ h3, q _ Hf H _ rfl (by rw [h4 x]; rfl) Fr.refl e⟩
theorem rd_notInS {x : Int} : RD (rSNotIn w) cInt x (cSet w) ns cBool (· = !decide (x ∈ ns)) := fun Hf H v u e h1 ⟨a, T, h2, h3, h4, _⟩ Q q => by
  obtain rfl := h1
  exact ⟨x, a, T, _, rfl, h2, e _ _ h3, q _ Hf H _ rfl (by rw [h4 x]; rfl) Fr.refl e⟩
theorem inSG : ∀ X, Good S X → OpR X (compareOp .In) (rSIn S.w) := fun X G => by rw [← G.w]; exact or_sin
theorem notInSG : ∀ X, Good S X → OpR X (compareOp .NotIn) (rSNotIn S.w) := fun X G => by rw [← G.w]; exact or_snotin
end
end DL

set_option Elab.async false
set_option linter.all false
set_option maxRecDepth 100000
set_option maxHeartbeats 4000000
namespace DL
open PySem PySem.Spec L2 PpSet
/-! ### the block of a comprehension, seen from the def around it -/
section
variable (X : Cx) (scope : Scope) (fp : List Addr) (H : Hp) (s : Shared)
/-- the environment of a block that starts at s -/
def blkE : Env := compEnvC scope (cellsFrom (s.heap.objs.size + 1) scope.names (cloFrom X.env.cells scope.names [])) s.heap.objs.size X.env
abbrev blkX : Cx := X.blk s H scope (blkE X scope s) fp
/-- the state in which it starts -/
def blkS : Shared := { s with heap := pushCells (s.heap.push { cls := .type "dict", data := .dict #[] }) scope.names }
end
/-- nothing of fp is tracked -/
def Loose (fp : List Addr) (H : Hp) : Prop := ∀ b ∈ fp, H b = none
section
variable {X : Cx} {scope : Scope} {fp : List Addr} {H H' : Hp} {s s' : Shared} {pins : List (Addr × Obj)} {σ σ' : Stt} {own : List (PySem.Str × Nat)}
theorem blk_fp (J : Inv (blkX X scope fp H s) [] σ' H' s') (l : Loose fp H') : ∀ b ∈ fp, FpOk (blkX X scope fp H s) [] H' b := by
  intro b m
  have z := J.ok.exf b m
  exact ⟨l b m, z.1, J.ok.exfs b m, Or.inl m, fun x c => z.2 x c, fun p hp => by cases hp⟩
/-- the def's own state again, when the block is left -/
theorem blk_out (I : Inv X pins σ H s) (hf : ∀ b ∈ fp, FpOk X pins H b) (J : Inv (blkX X scope fp H s) [] σ' H' s') :
    Inv X pins σ H' s' ∧ FpOk X pins H' s.heap.objs.size ∧ ∃ m, s'.heap.Ns s.heap.objs.size m := by
  refine ⟨I.call' (ch := fp) J.os J.base J.hok J.bare fun b m => ?_, I.fpOk (Nat.le_refl _) J.free, ?_⟩
  · obtain ⟨_, a1, _, a2, a3, a4⟩ := hf b m
    exact ⟨a2, a1, a3, a4⟩
  · exact J.loc.imp fun _ q => q.1
theorem blk_in (I : Inv X pins σ H s) (ok : BlkOk X.N X.env.scope scope own) (hN : X.N.Nodup) (hf : ∀ b ∈ fp, FpOk X pins H b) (old : ∀ b ∈ fp, b < s.heap.objs.size) :
    Inv (blkX X scope fp H s) [] (wipe σ (own.map (·.2))) H (blkS scope s) := block_start I ok hN fun b m => ⟨hf b m, old b m⟩
/-- one turn of its loop, up to the clause's tests: the item comes, goes to the target, is tested.
What is done next knows how to come back to the turn's start. -/
theorem blk_turn {tg : Expr} {ifs : List Expr} {it : Addr} {tn : Nat → Heap → Prop} {J : It} {i : Nat} {vs : List Nat} {g : TG} {tt : TT} {E : Value → Shared → Prop} {Z : Shared → Prop} {Out : Bool → Shared → Prop} {R : Stt → Bool → Hp → Prop}
    (T : Turn X.prog X.w X.K tg J fp it tn) (calm : X.calm = true) (I : Inv (blkX X scope fp H s) [] (wipe σ vs) H' s') (l : Loose fp H') (st : tn i s'.heap) (go : J.go i H')
    (pg : PG (blkX X scope fp H s) tg g) (pt : PTs (blkX X scope fp H s) ifs tt)
    (hw : ∀ x H1, J.yld i H' x H1 → g x (wipe σ vs) H1 fun σ2 H2 => wipe σ2 vs = wipe σ vs ∧ tt σ2 H2 (R σ2))
    (then_ : ∀ (σ2 : Stt) (pl : List (Addr × Obj)) (b : Bool) (H2 : Hp) (s2 : Shared), Inv (blkX X scope fp H s) pl σ2 H2 s2 → R σ2 b H2 →
      (∀ (H3 : Hp) (s3 : Shared), Inv (blkX X scope fp H s) pl σ2 H3 s3 → Inv (blkX X scope fp H s) [] (wipe σ vs) H3 s3 ∧ tn (i + 1) s3.heap ∧ Loose fp H3) → Out b s2) :
    wpAny (model X.prog X.w) X.A (pyNext (.ref it)) (fun r s1 => match r with
      | none => Z s1
      | some v => wpAny (model X.prog X.w) X.A (letOwnedTupleGo tg (.ref it) v) (fun _ s2 => wpAny (model X.prog X.w) X.A (assign tg (blkE X scope s) v) (fun _ s3 =>
          wpAny (model X.prog X.w) X.A (forIn ifs true fun c r => if r = true then do let ok ← isTrue c (blkE X scope s) (eval c (blkE X scope s)); pure (ForInStep.yield ok) else pure (ForInStep.yield r)) Out E s3) E s2) E s1) E s' := by
  have item := T.item (blkX X scope fp H s) rfl rfl rfl calm i [] s' _ H' (fun _ _ => False) I (blk_fp I l) st go
  refine thnF item ?_
  rintro _ s1 ⟨u, rfl, come⟩
  refine thnF come ?_
  rintro _ s2 ⟨x, H1, I1, rx, y, st1, l1⟩
  have obj := T.obj (i + 1) _ st1
  have set := pg.run _ s2 _ H1 x u _ (I1.pinned (blk_fp I1 l1) obj) rx (hw x H1 y)
  refine thnF set ?_
  rintro _ s3 ⟨σ2, H2, I2, keep, t⟩
  refine thnF (pt.run _ s3 σ2 H2 _ I2 t) ?_
  rintro b s4 ⟨H3, I3, r⟩
  refine then_ σ2 _ b H3 s4 I3 r ?_
  -- back to the start: the iterator's objects stood still
  intro H4 s5 I4
  have still : ∀ c ∈ fp, ∀ o, s2.heap.get? c = some o → s5.heap.get? c = some o ∧ H4 c = none := by
    intro c m o e
    have pin := I4.pin (c, o) (by simp only [List.mem_append]; exact .inr (.inr (mem_pinsAt m e)))
    exact ⟨pin.1, pin.2.1⟩
  refine ⟨(I4.unpinned (pins := [])).weak (by rw [← keep, wipe_length]) (fun j v e => (wipe_some (keep ▸ e)).1), T.keep _ _ _ st1 fun c m o e => (still c m o e).1, ?_⟩
  intro c m
  obtain ⟨o, e, _⟩ := obj c m
  exact (still c m o e).2
end
/-! ### {e for x in xs if ..}, e an int -/
/-- D: the new set; W i n: what holds ahead of turn i, n turns at most being left; Nx: what a turn is to reach -/
def tSci (w : World) (wi : TI) (g : TG) (tt : TT) (te : TE) (vs : List Nat) : TE := fun σ H Q => wi σ H fun J H1 => ∀ D, H1 D = none →
  ∃ W : Nat → Nat → Hp → Prop, (∃ n, W 0 n (upd H1 D (SetO w D (fun _ => false) 0))) ∧
    ∀ i n H2, W i n H2 → (J.stop i H2 ∧ Q (.ref D) H2) ∨
      (J.go i H2 ∧ ∃ Nx : Hp → Prop, (∀ H3, Nx H3 → ∃ n', n' < n ∧ W (i + 1) n' H3) ∧
        ∀ x H3, J.yld i H2 x H3 → g x (wipe σ vs) H3 fun σ4 H4 => wipe σ4 vs = wipe σ vs ∧ tt σ4 H4 fun b H5 =>
          if b = true then te σ4 H5 fun y H6 => ∃ (z : Int) (M : Int → Bool) (m : Nat), y = .int z ∧ H6 D = some (SetO w D M m) ∧ m + 1 < scanBound ∧ Nx (upd H6 D (SetO w D (fun j => M j || decide (j = z)) (if M z = true then m else m + 1)))
          else Nx H5)
section
variable {X : Cx} {pins : List (Addr × Obj)} {σ : Stt} {H : Hp} {s : Shared}
/-- an int goes into a set that is tracked -/
theorem put_int {E : Value → Shared → Prop} {D : Addr} {M : Int → Bool} {m : Nat} {z : Int} {k : Tok} {Q : Value → Shared → Prop} (I : Inv X pins σ H s) (at_ : H D = some (SetO X.w D M m)) (room : m + 1 < scanBound)
    (q : ∀ s', Inv X pins σ (upd H D (SetO X.w D (fun j => M j || decide (j = z)) (if M z = true then m else m + 1))) s' → Q .none s') :
    wpAny (model X.prog X.w) X.A (call (.builtin "set.add") [.ref D, .int z k]) Q E s := by
  apply setR_add (setO_get I at_) room
  intro g but R
  apply q
  refine I.write (t' := s.toks + 1) (by rw [at_]; exact True.intro) (Or.inl rfl) (fun b o n e => ?_) ?_ (setO_new R)
  · rw [but.2 b n]; exact e
  · obtain ⟨o, _, _, _, e, _⟩ := R
    exact ⟨o, e⟩
theorem pe_sci {elt tg iter : Expr} {ifs : List Expr} {scope : Scope} {own : List (PySem.Str × Nat)} {pos : Pos} {wi : TI} {g : TG} {tt : TT} {te : TE} (calm : X.calm = true) (nd : X.N.Nodup) (it_ : PI X tg iter wi) (ok : BlkOk X.N X.env.scope scope own)
    (pg : ∀ (s : Shared) (H : Hp) (C : Addr) (cl : List (PySem.Str × Addr)) (fp : List Addr), PG (X.blk s H scope (compEnvC scope cl C X.env) fp) tg g)
    (pt : ∀ (s : Shared) (H : Hp) (C : Addr) (cl : List (PySem.Str × Addr)) (fp : List Addr), PTs (X.blk s H scope (compEnvC scope cl C X.env) fp) ifs tt)
    (pe : ∀ (s : Shared) (H : Hp) (C : Addr) (cl : List (PySem.Str × Addr)) (fp : List Addr), PE (X.blk s H scope (compEnvC scope cl C X.env) fp) elt te)
    (fo : ∀ x, foldedSetIterable iter X.env x = pure x := by intro _; rfl) : PE X (.SetComp elt [⟨tg, iter, ifs, 0⟩] scope pos) (tSci X.w wi g tt te (own.map (·.2))) := by
  constructor
  intro pins s σ H Q I h
  rw [eval_SetComp]
  refine wpAny_comprehension_free (use := none) rfl fo (closure_ok fun y m e => I.ok.has _ (ok.free y m e)) ok.kind (fun y m e => (ok.uniq y m).trans (congrArg _ e)) (thn (it_.run pins s σ H _ I h) fun _ s1 w1 => thn w1 ?_)
  rintro _ s2 ⟨it, fp, tn, J, H2, rfl, I2, T, st2, f2, q⟩
  apply newSet_ok
  apply newEnv_comp
  obtain ⟨W, ⟨n0, w0⟩, turn⟩ := q s2.heap.objs.size (I2.hok.fresh (Nat.le_refl _))
  -- the set has been laid at s3
  obtain ⟨s3, e3⟩ : ∃ s3 : Shared, s3 = { s2 with heap := s2.heap.push (nset X.w) } := ⟨_, rfl⟩
  obtain ⟨H3, eH⟩ : ∃ H3 : Hp, H3 = upd H2 s2.heap.objs.size (SetO X.w s2.heap.objs.size (fun _ => false) 0) := ⟨_, rfl⟩
  rw [← eH] at w0
  have more : ∀ b o, s2.heap.get? b = some o → s3.heap.get? b = some o := fun b o e => by rw [e3]; exact Heap.get?_push_of_some _ e
  have I3 : Inv X pins σ H3 s3 := by
    rw [e3, eH]
    exact I2.laid (t' := s2.toks) (fun b o e => Heap.get?_push_of_some _ e) (Nat.le_refl _) (setO_new (setR_fresh X.w))
  have old : ∀ b ∈ fp, b < s2.heap.objs.size := fun b m => by
    obtain ⟨o, e, _⟩ := T.obj 0 _ st2 b m
    exact Heap.lt_size e
  have f3 : ∀ b ∈ fp, FpOk X pins H3 b := fun b m => by
    refine ⟨?_, (f2 b m).2⟩
    rw [eH, upd_ne (Nat.ne_of_lt (old b m))]
    exact (f2 b m).1
  have I4 := blk_in I3 ok nd f3 fun b m => by rw [e3]; exact Nat.lt_of_lt_of_le (old b m) (by rw [Heap.size_push]; exact Nat.le_succ _)
  have st4 : tn 0 (blkS scope s3).heap := T.keep _ _ _ st2 fun b _ o e => pushCells_keeps _ _ _ _ (Heap.get?_push_of_some _ (more b o e))
  have loop : codeAny (model X.prog X.w) X.A (.compLoop (.SetComp elt [⟨tg, iter, ifs, 0⟩] scope pos) 0 (.ref it) (.ref s2.heap.objs.size) (blkE X scope s3)) (compPost (model X.prog X.w) X.A X.xe none (EP X pins σ Q) (.ref s2.heap.objs.size) s3.heap.objs.size) (blkS scope s3) := by
    refine compLoopS_any (fun n t => ∃ i H', Inv (blkX X scope fp H3 s3) [] (wipe σ (own.map (·.2))) H' t ∧ tn i t.heap ∧ Loose fp H' ∧ W i n H') ?_ n0 ⟨0, H3, I4, st4, fun b m => (f3 b m).1, w0⟩
    rintro n t ⟨i, H5, I5, st5, l5, w5⟩
    rcases turn i n H5 w5 with ⟨stop, fin⟩ | ⟨go, Nx, down, step⟩
    · -- no item is left
      refine thnF (T.done (blkX X scope fp H3 s3) rfl rfl rfl calm i [] t _ H5 (fun _ _ => False) I5 (blk_fp I5 l5) st5 stop) ?_
      rintro _ t' ⟨rfl, I6⟩
      obtain ⟨I7, ⟨a0, a1, _, a2, a3, a4⟩, m, ns⟩ := blk_out I3 f3 I6
      exact ⟨m, ns, fun h' but => ⟨.ref s2.heap.objs.size, H5, I7.turned (t' := t'.toks) (fun b o ne e => by rw [but.2 b ne]; exact e) a0 a1 a2 a3 a4, rfl, fin⟩⟩
    · refine blk_turn T calm I5 l5 st5 go (pg _ _ _ _ _) (pt _ _ _ _ _) (fun x H6 y => step x H6 y) ?_
      · intro σ4 pl b H6 t6 I6 r back
        have again : ∀ (H' : Hp) (t' : Shared), Inv (blkX X scope fp H3 s3) pl σ4 H' t' → Nx H' → ∃ n', n' < n ∧ ∃ i H', Inv (blkX X scope fp H3 s3) [] (wipe σ (own.map (·.2))) H' t' ∧ tn i t'.heap ∧ Loose fp H' ∧ W i n' H' := by
          intro H' t' I' nx
          obtain ⟨n', lt, w'⟩ := down H' nx
          obtain ⟨b1, b2, b3⟩ := back H' t' I'
          exact ⟨n', lt, i + 1, H', b1, b2, b3, w'⟩
        cases b
        · exact again H6 t6 I6 r
        · refine thnF ((pe _ _ _ _ _).run _ t6 σ4 H6 _ I6 r) ?_
          rintro v t7 ⟨y, H7, I7, ry, z, M, m, rfl, hD, room, nx⟩
          obtain ⟨k, rfl⟩ : ∃ k, v = Value.int z k := ry
          exact put_int (X := blkX X scope fp H3 s3) I7 hD room fun t8 I8 => again _ t8 I8 nx
  have e4 := codeAny_compStart_set loop (T.self X.A 0 _ _ _ st4 loop)
  rw [e3] at e4
  exact e4
end
end DL

set_option Elab.async false
set_option linter.all false
set_option maxRecDepth 100000
set_option maxHeartbeats 4000000
namespace DL
open PySem PySem.Spec L2
section
variable {S : Stc} {X : Cx}
variable {Γ Γ1 Γ2 Γ3 : Ctxt} {k k1 k2 k3 kk kt ke : Nat} {A α β γ ρ : Type} {c : Cod α} {c' : Cod β} {cr : Cod ρ} {c1 : Cod α} {c2 : Cod β} {c3 : Cod γ} {P P1 : α → Prop} {P2 : β → Prop} {P3 : γ → Prop} {te to ti tk tv : TE} {tt : TT} {t u : TS} {p : Po ρ} {ta tx : TA} {e a b d : Expr} {es : List Expr} {pos pos' pn pt : Pos}
variable {x : α} {y : β} {z : γ} {xs : List α} {K : PySem.W.Frag} {w : World} {ns : List Int} {wi : TI} {g : TG}
/-! ### {f x for x in xs if b x} -/
theorem td_sc {vs : List Nat} (f : α → Int) (b : α → Bool) (hw : TW wi Γ k c (· = xs)) (hv : ∀ i ∈ vs, NoBx Γ i) (hz : xs.length ≤ 1000)
    (hs : ∀ x, x ∈ xs → ∃ Γ1 is, GD g c x (wipeC Γ vs) Γ1 is ∧ (∀ i ∈ is, i ∈ vs) ∧ TDT tt Γ1 0 (· = b x) ∧ (b x = true → TD te Γ1 0 cInt (· = f x))) :
    TD (tSci w wi g tt te vs) Γ k (cSet w) (· = asc ((xs.filter b).map f)) := fun O n σ Hf H hn s Q q =>
  hw O n σ Hf H hn s _ fun J Hf1 H1 xs' px W lb f1 S1 D hD => by
    subst px
    have hbx : ∀ a, Bx Γ a → a ≠ D := fun a ⟨i, hi⟩ z => by
      subst z
      obtain ⟨_, _, _, _, _, _, e, _⟩ := S1.at_ i _ hi
      rw [hD] at e; cases e
    have bx0 : ∀ a, Bx Γ a → Hf1 a = none ∧ BoxAt H1 a (n + k) := fun a ⟨i, hi⟩ => (S1.at_ i _ hi).2
    have ll : ∀ i, (asc (((xs'.take i).filter b).map f)).length ≤ 1000 := fun i => by
      refine Nat.le_trans (asc_len _) ?_
      rw [List.length_map]
      refine Nat.le_trans (List.length_filter_le _ _) ?_
      rw [List.length_take]; omega
    refine ⟨fun i m H' => m = xs'.length - i ∧ i ≤ xs'.length ∧ ∃ Hfi T, H' D = some (SetO w D T (asc (((xs'.take i).filter b).map f)).length) ∧ (∀ k, T k = decide (k ∈ asc (((xs'.take i).filter b).map f))) ∧ Hfi D = none ∧ Ex Hfi H' ∧ Fr (Bx Γ) Hf1 H1 Hfi H' ∧
        ∀ a, Bx Γ a → Hfi a = none ∧ BoxAt H' a (n + k),
      ⟨xs'.length, by simp, Nat.zero_le _, Hf1, fun _ => false, upd_same, fun _ => rfl, S1.ex.back hD, S1.ex.trans (Ex.new hD), Fr.newO hD, fun a ha => ⟨(bx0 a ha).1, boxAt_ex (bx0 a ha).2 fun o e => by rw [upd_ne (hbx a ha)]; exact e⟩⟩, ?_⟩
    rintro i m H' ⟨rfl, hi, Hfi, T, hDi, hT, hfD, ex, fr, hb⟩
    have Si : Sat O Hfi H' (wipe σ vs) (wipeC Γ vs) (n + k) := (S1.grow fr ex hb).wipe vs
    by_cases hlt : i < xs'.length
    · have hx : xs'[i]? = some xs'[i] := List.getElem?_eq_getElem hlt
      have ts : xs'.take (i + 1) = xs'.take i ++ [xs'[i]] := take_snoc hx
      refine .inr ⟨W.go Hfi H' i fr.ex ex hlt, fun H2 => ∃ Hfi T, H2 D = some (SetO w D T (asc (((xs'.take (i + 1)).filter b).map f)).length) ∧ (∀ k, T k = decide (k ∈ asc (((xs'.take (i + 1)).filter b).map f))) ∧ Hfi D = none ∧ Ex Hfi H2 ∧ Fr (Bx Γ) Hf1 H1 Hfi H2 ∧
        ∀ a, Bx Γ a → Hfi a = none ∧ BoxAt H2 a (n + k), fun H2 h2 => ⟨xs'.length - (i + 1), by omega, rfl, hlt, h2⟩, fun v H2 hy => ?_⟩
      obtain ⟨Hf2, rx, fy, ey⟩ := W.yld Hfi H' i v H2 _ fr.ex ex hy hx
      have S2 : Sat O Hf2 H2 (wipe σ vs) (wipeC Γ vs) (n + k) := Si.grow0 fy ey
      obtain ⟨Γ1, is, gd, hin, ht, hTt⟩ := hs xs'[i] (List.getElem_mem hlt)
      have bx1 : ∀ a, Bx Γ1 a → Bx Γ a := fun a h => (bx_wipe hv).mp (gd.2.1 a h)
      have bx2 : ∀ a, Bx Γ a → Bx Γ1 a := fun a h => by
        obtain ⟨j, hj⟩ := (bx_wipe hv).mpr h
        exact ⟨j, gd.1 j a hj⟩
      have hD2 := fy.keep _ _ hDi id
      have hfD2 : Hf2 D = none := fy.fz _ _ hDi id hfD
      refine gd.2.2 O _ _ Hf2 H2 v rx S2 _ fun σ3 S3 w3 => ⟨(w3 vs hin).trans wipe_wipe, ?_⟩
      refine ht O _ σ3 Hf2 H2 (by omega) S3 _ fun bb Hf3 H3 pb f3 S3' => ?_
      have nD1 : ¬ Bx Γ1 D := fun z => hbx D (bx1 D z) rfl
      have hD3 := f3.keep _ _ hD2 nD1
      have hfD3 : Hf3 D = none := f3.fz _ _ hD2 nD1 hfD2
      have F3 : Fr (Bx Γ) Hf1 H1 Hf3 H3 := (fr.trans fy fun _ z => z.elim).trans f3 fun a z => .inl (bx1 a z)
      cases bb with
      | true =>
        rw [if_pos rfl]
        refine hTt pb.symm O _ σ3 Hf3 H3 (by omega) S3' _ fun y Hf4 H4 yx py ry f4 S4 => ?_
        have hD4 := f4.keep _ _ hD3 nD1
        have hfD4 : Hf4 D = none := f4.fz _ _ hD3 nD1 hfD3
        have F4 : Fr (Bx Γ) Hf1 H1 Hf4 H4 := F3.trans f4 fun a z => .inl (bx1 a z)
        have ee : ((xs'.take (i + 1)).filter b).map f = ((xs'.take i).filter b).map f ++ [f xs'[i]] := by
          rw [ts, List.filter_append, List.map_append]; congr 1; simp [← pb]
        obtain rfl := ry
        subst py
        have ln := ins1_len (x := f xs'[i]) (asc_up (((xs'.take i).filter b).map f))
        have l1 := ll i
        refine ⟨f xs'[i], T, _, rfl, hD4, by unfold scanBound; omega, Hf4, fun j => T j || decide (j = f xs'[i]), ?_, fun j => ?_, hfD4, S4.ex.mut hfD4, ?_, fun a ha => ?_⟩
        · rw [upd_same, ee, asc_snoc, ln]
          have : (T (f xs'[i]) = true) = (f xs'[i] ∈ asc (((xs'.take i).filter b).map f)) := by rw [hT]; exact decide_eq_true_eq
          simp only [this]
        · show (T j || decide (j = f xs'[i])) = _
          rw [ee, asc_snoc, hT j]
          by_cases h1 : j = f xs'[i]
          · have : j ∈ ins1 (f xs'[i]) (asc (((xs'.take i).filter b).map f)) := mem_ins1.mpr (.inl h1)
            simp [h1, this, h1 ▸ this]
          · by_cases h2 : j ∈ asc (((xs'.take i).filter b).map f)
            · have : j ∈ ins1 (f xs'[i]) (asc (((xs'.take i).filter b).map f)) := mem_ins1.mpr (.inr h2)
              simp [h2, this]
            · have : ¬ j ∈ ins1 (f xs'[i]) (asc (((xs'.take i).filter b).map f)) := fun z => by
                rcases mem_ins1.mp z with z | z
                · exact h1 z
                · exact h2 z
              simp [h1, h2, this]
        · refine ⟨F4.ex, fun a o e nm => ?_, F4.fz, fun a e => ?_⟩
          · rw [upd_ne (ne_of_none e hD)]; exact F4.keep a o e nm
          · by_cases z : a = D
            · subst z; exact hD
            · rw [upd_ne z] at e; exact F4.dom a e
        · obtain ⟨j, hj⟩ := bx2 a ha
          obtain ⟨_, z1, z2⟩ := S4.at_ j _ hj
          exact ⟨z1, boxAt_ex z2 fun o e => by rw [upd_ne (hbx a ha)]; exact e⟩
      | false =>
        rw [if_neg Bool.false_ne_true]
        have ee : ((xs'.take (i + 1)).filter b).map f = ((xs'.take i).filter b).map f := by
          rw [ts, List.filter_append, List.map_append]; simp [← pb]
        refine ⟨Hf3, T, by rw [ee]; exact hD3, by rw [ee]; exact hT, hfD3, S3'.ex, F3, fun a ha => ?_⟩
        obtain ⟨j, hj⟩ := bx2 a ha
        obtain ⟨_, z1, z2⟩ := S3'.at_ j _ hj
        exact ⟨z1, z2⟩
    · have e : i = xs'.length := by omega
      subst e
      rw [List.take_length] at hDi hT
      have l1 := ll xs'.length
      rw [List.take_length] at l1
      have F : Fr (Bx Γ) Hf1 H1 (upd Hfi D (SetO w D T (asc ((xs'.filter b).map f)).length)) H' := fr.fix hD hfD hDi
      refine .inl ⟨W.stop Hfi H' fr.ex ex, q _ (upd Hfi D (SetO w D T (asc ((xs'.filter b).map f)).length)) H' _ rfl ⟨D, T, rfl, upd_same, hT, asc_up _, l1⟩ (f1.trans F fun _ z => .inl z) ?_⟩
      refine S1.grow F (ex.fix hDi) fun a ha => ?_
      obtain ⟨z1, z2⟩ := hb a ha
      exact ⟨by rw [upd_ne (hbx a ha)]; exact z1, z2⟩
/-! ### dicts with int keys -/
abbrev PDc {α : Type} (c : Cod α) (H : Hp) (ks : List (Key × V)) (kvs : List (Int × α)) : Prop := Paired (fun (p : Key × V) (q : Int × α) => p.1 = .inl q.1 ∧ c.rep H p.2 q.2) ks kvs
theorem PDc.mono {H H' : Hp} {ks : List (Key × V)} {kvs : List (Int × α)} (e : Ex H H') (h : PDc c H ks kvs) : PDc c H' ks kvs := paired_mono h fun _ _ q => ⟨q.1, c.mono e q.2⟩
def cDic {α : Type} (c : Cod α) : Cod (List (Int × α)) := ⟨fun H v kvs => ∃ a ks, v = .ref a ∧ H a = some (.dK ks) ∧ PDc c H ks kvs ∧ ks.length ≤ LB,
  fun e ⟨a, ks, h1, h2, h3, h4⟩ => ⟨a, ks, h1, e _ _ h2, h3.mono e, h4⟩⟩
/-- d[k] = v -/
def putD {α : Type} (kvs : List (Int × α)) (k : Int) (v : α) : List (Int × α) := if (kvs.any fun kv => decide (kv.1 = k)) = true then kvs.map fun kv => if kv.1 = k then (kv.1, v) else kv else kvs ++ [(k, v)]
def valD {α : Type} (kvs : List (Int × α)) (k : Int) : Option α := (kvs.find? fun kv => decide (kv.1 = k)).map (·.2)
theorem pdc_any {H : Hp} {ks : List (Key × V)} {kvs : List (Int × α)} (h : PDc c H ks kvs) (j : Int) : (ks.any fun kv => decide (kv.1 = Sum.inl j)) = kvs.any fun kv => decide (kv.1 = j) := by
  induction h with
  | nil => rfl
  | cons r t ih =>
    rw [List.any_cons, List.any_cons, ih, r.1]
    congr 1
    exact decide_eq_decide.mpr ⟨fun e => Sum.inl.inj e, fun e => by rw [e]⟩
theorem pdc_map {H : Hp} {ks : List (Key × V)} {kvs : List (Int × α)} (h : PDc c H ks kvs) (j : Int) {v : V} {x : α} (r : c.rep H v x) : PDc c H (ks.map fun kv => if kv.1 = .inl j then (kv.1, v) else kv) (kvs.map fun kv => if kv.1 = j then (kv.1, x) else kv) := by
  induction h with
  | nil => exact .nil
  | cons q t ih =>
    rw [List.map_cons, List.map_cons]
    refine .cons ?_ ih
    rename_i a b _ _
    by_cases e : b.1 = j
    · rw [if_pos e, if_pos (by rw [q.1, e])]; exact ⟨q.1, r⟩
    · rw [if_neg e, if_neg (by rw [q.1]; exact fun z => e (Sum.inl.inj z))]; exact q
theorem pdc_put {H : Hp} {ks : List (Key × V)} {kvs : List (Int × α)} (h : PDc c H ks kvs) (j : Int) {v : V} {x : α} (r : c.rep H v x) : PDc c H (putK ks (.inl j) v) (putD kvs j x) := by
  unfold putK putD
  rw [pdc_any h j]
  by_cases q : (kvs.any fun kv => decide (kv.1 = j)) = true
  · rw [if_pos q, if_pos q]; exact pdc_map h j r
  · rw [if_neg q, if_neg q]; exact Paired.snoc h ⟨rfl, r⟩
theorem pdc_val {H : Hp} {ks : List (Key × V)} {kvs : List (Int × α)} (h : PDc c H ks kvs) (j : Int) : (valD kvs j = none ∧ valV ks (Sum.inl j : Key) = none) ∨ ∃ v x, valD kvs j = some x ∧ valV ks (Sum.inl j : Key) = some v ∧ c.rep H v x := by
  induction h with
  | nil => exact .inl ⟨rfl, rfl⟩
  | cons r t ih =>
    rename_i a b _ _
    by_cases e : b.1 = j
    · refine .inr ⟨a.2, b.2, ?_, valV_pos (by rw [r.1, e]), r.2⟩
      unfold valD; rw [List.find?_cons, show decide (b.1 = j) = true from decide_eq_true e]; rfl
    · have e2 : ¬ a.1 = Sum.inl j := by rw [r.1]; exact fun z => e (Sum.inl.inj z)
      have e3 : ∀ l : List (Int × α), valD (b :: l) j = valD l j := fun l => by
        unfold valD; rw [List.find?_cons, show decide (b.1 = j) = false from decide_eq_false e]
      rw [e3, valV_neg e2]; exact ih
theorem putD_len (kvs : List (Int × α)) (j : Int) (x : α) : (putD kvs j x).length ≤ kvs.length + 1 := by
  unfold putD; split
  · rw [List.length_map]; omega
  · rw [List.length_append]; exact Nat.le_refl _
def dicOf {α : Type} (l : List (Int × α)) : List (Int × α) := l.foldl (fun d kv => putD d kv.1 kv.2) []
theorem dicOf_snoc (l : List (Int × α)) (kv : Int × α) : dicOf (l ++ [kv]) = putD (dicOf l) kv.1 kv.2 := by unfold dicOf; rw [List.foldl_append]; rfl
theorem dic_foldlen : ∀ (l d : List (Int × α)), (l.foldl (fun d kv => putD d kv.1 kv.2) d).length ≤ l.length + d.length
  | [], d => by simp
  | kv :: l, d => by
    rw [List.foldl_cons, List.length_cons]
    have := dic_foldlen l (putD d kv.1 kv.2)
    have := putD_len d kv.1 kv.2
    omega
theorem dicOf_len (l : List (Int × α)) : (dicOf l).length ≤ l.length := by have := dic_foldlen l []; unfold dicOf; simpa using this
theorem find_put (k j : Int) (x : α) : ∀ r : List (Int × α), (r.map fun kv => if kv.1 = k then (kv.1, x) else kv).find? (fun kv => decide (kv.1 = j)) = (r.find? fun kv => decide (kv.1 = j)).map fun kv => if kv.1 = k then (kv.1, x) else kv
  | [] => rfl
  | q :: r => by
    rw [List.map_cons, List.find?_cons, List.find?_cons, find_put k j x r]
    have e : (if q.1 = k then (q.1, x) else q).1 = q.1 := by split <;> rfl
    rw [e]
    cases decide (q.1 = j) <;> rfl
theorem valD_put (kvs : List (Int × α)) (k j : Int) (x : α) : valD (putD kvs k x) j = if j = k then some x else valD kvs j := by
  unfold valD putD
  by_cases h : (kvs.any fun kv => decide (kv.1 = k)) = true
  · rw [if_pos h, find_put]
    by_cases ej : j = k
    · subst ej
      rw [if_pos rfl]
      obtain ⟨kv, hk, e⟩ := List.any_eq_true.mp h
      cases hf : kvs.find? fun kv => decide (kv.1 = j) with
      | none => exact absurd e (List.find?_eq_none.mp hf kv hk)
      | some q =>
        have eq : q.1 = j := by simpa using List.find?_some hf
        show some (if q.1 = j then (q.1, x) else q).2 = some x
        rw [if_pos eq]
    · rw [if_neg ej]
      cases hf : kvs.find? fun kv => decide (kv.1 = j) with
      | none => rfl
      | some q =>
        have eq : q.1 = j := by simpa using List.find?_some hf
        show some (if q.1 = k then (q.1, x) else q).2 = some q.2
        rw [if_neg fun z => ej (eq.symm.trans z)]
  · rw [if_neg h, List.find?_append]
    have hn : ∀ kv ∈ kvs, ¬ kv.1 = k := fun kv hk e => h (List.any_eq_true.mpr ⟨kv, hk, decide_eq_true e⟩)
    by_cases ej : j = k
    · subst ej
      have : kvs.find? (fun kv => decide (kv.1 = j)) = none := List.find?_eq_none.mpr fun kv hk => by simpa using hn kv hk
      rw [this, if_pos rfl]; simp
    · rw [if_neg ej]
      have : ([(k, x)] : List (Int × α)).find? (fun kv => decide (kv.1 = j)) = none := by
        simp; exact fun z => ej z.symm
      rw [this]; simp
/-- where the keys are all different, a dict of rows is the rows -/
theorem valD_dicOf : ∀ (l : List (Int × α)) (j : Int), valD (dicOf l) j = valD l.reverse j := fun l j => by
  suffices ∀ m : List (Int × α), valD (dicOf m.reverse) j = valD m j by have := this l.reverse; rwa [List.reverse_reverse] at this
  intro m
  induction m with
  | nil => rfl
  | cons kv m ih =>
    rw [List.reverse_cons, dicOf_snoc, valD_put, ih]
    unfold valD
    rw [List.find?_cons]
    by_cases e : j = kv.1
    · rw [if_pos e, show decide (kv.1 = j) = true from decide_eq_true e.symm]; rfl
    · rw [if_neg e, show decide (kv.1 = j) = false from decide_eq_false fun z => e z.symm]
/-- {f x: h x for x in xs if b x} -/
theorem td_dc {vs : List Nat} (f : α → Int) (h : α → β) (b : α → Bool) (hw : TW wi Γ k c (· = xs)) (hv : ∀ i ∈ vs, NoBx Γ i)
    (hs : ∀ x, x ∈ xs → ∃ Γ1 is, GD g c x (wipeC Γ vs) Γ1 is ∧ (∀ i ∈ is, i ∈ vs) ∧ TDT tt Γ1 0 (· = b x) ∧ (b x = true → TD tk Γ1 0 cInt (· = f x) ∧ TD tv Γ1 0 c' (· = h x))) :
    TD (tDc wi g tt tk tv vs) Γ k (cDic c') (· = dicOf ((xs.filter b).map fun x => (f x, h x))) := fun O n σ Hf H hn s Q q =>
  hw O n σ Hf H hn s _ fun J Hf1 H1 xs' px W lb f1 S1 D hD => by
    subst px
    have hbx : ∀ a, Bx Γ a → a ≠ D := fun a ⟨i, hi⟩ z => by
      subst z
      obtain ⟨_, _, _, _, _, _, e, _⟩ := S1.at_ i _ hi
      rw [hD] at e; cases e
    have bx0 : ∀ a, Bx Γ a → Hf1 a = none ∧ BoxAt H1 a (n + k) := fun a ⟨i, hi⟩ => (S1.at_ i _ hi).2
    refine ⟨fun i m H' => m = xs'.length - i ∧ i ≤ xs'.length ∧ ∃ Hfi ks, H' D = some (.dK ks) ∧ ks.length ≤ i ∧ PDc c' Hfi ks (dicOf (((xs'.take i).filter b).map fun x => (f x, h x))) ∧ Hfi D = none ∧ Ex Hfi H' ∧ Fr (Bx Γ) Hf1 H1 Hfi H' ∧
        ∀ a, Bx Γ a → Hfi a = none ∧ BoxAt H' a (n + k),
      ⟨xs'.length, by simp, Nat.zero_le _, Hf1, [], upd_same, Nat.le_refl _, .nil, S1.ex.back hD, S1.ex.trans (Ex.new hD), Fr.newO hD, fun a ha => ⟨(bx0 a ha).1, boxAt_ex (bx0 a ha).2 fun o e => by rw [upd_ne (hbx a ha)]; exact e⟩⟩, ?_⟩
    rintro i m H' ⟨rfl, hi, Hfi, ks, hDi, hkl, hT, hfD, ex, fr, hb⟩
    have Si : Sat O Hfi H' (wipe σ vs) (wipeC Γ vs) (n + k) := (S1.grow fr ex hb).wipe vs
    by_cases hlt : i < xs'.length
    · have hx : xs'[i]? = some xs'[i] := List.getElem?_eq_getElem hlt
      have ts : xs'.take (i + 1) = xs'.take i ++ [xs'[i]] := take_snoc hx
      refine .inr ⟨W.go Hfi H' i fr.ex ex hlt, fun H2 => ∃ Hfi ks, H2 D = some (.dK ks) ∧ ks.length ≤ i + 1 ∧ PDc c' Hfi ks (dicOf (((xs'.take (i + 1)).filter b).map fun x => (f x, h x))) ∧ Hfi D = none ∧ Ex Hfi H2 ∧ Fr (Bx Γ) Hf1 H1 Hfi H2 ∧
        ∀ a, Bx Γ a → Hfi a = none ∧ BoxAt H2 a (n + k), fun H2 h2 => ⟨xs'.length - (i + 1), by omega, rfl, hlt, h2⟩, fun v H2 hy => ?_⟩
      obtain ⟨Hf2, rx, fy, ey⟩ := W.yld Hfi H' i v H2 _ fr.ex ex hy hx
      have S2 : Sat O Hf2 H2 (wipe σ vs) (wipeC Γ vs) (n + k) := Si.grow0 fy ey
      obtain ⟨Γ1, is, gd, hin, ht, hTt⟩ := hs xs'[i] (List.getElem_mem hlt)
      have bx1 : ∀ a, Bx Γ1 a → Bx Γ a := fun a h => (bx_wipe hv).mp (gd.2.1 a h)
      have bx2 : ∀ a, Bx Γ a → Bx Γ1 a := fun a h => by
        obtain ⟨j, hj⟩ := (bx_wipe hv).mpr h
        exact ⟨j, gd.1 j a hj⟩
      have hD2 := fy.keep _ _ hDi id
      have hfD2 : Hf2 D = none := fy.fz _ _ hDi id hfD
      refine gd.2.2 O _ _ Hf2 H2 v rx S2 _ fun σ3 S3 w3 => ⟨(w3 vs hin).trans wipe_wipe, ?_⟩
      refine ht O _ σ3 Hf2 H2 (by omega) S3 _ fun bb Hf3 H3 pb f3 S3' => ?_
      have nD1 : ¬ Bx Γ1 D := fun z => hbx D (bx1 D z) rfl
      have hD3 := f3.keep _ _ hD2 nD1
      have hfD3 : Hf3 D = none := f3.fz _ _ hD2 nD1 hfD2
      have F3 : Fr (Bx Γ) Hf1 H1 Hf3 H3 := (fr.trans fy fun _ z => z.elim).trans f3 fun a z => .inl (bx1 a z)
      cases bb with
      | true =>
        rw [if_pos rfl]
        obtain ⟨hk1, hk2⟩ := hTt pb.symm
        refine hk1 O _ σ3 Hf3 H3 (by omega) S3' _ fun yk Hf4 H4 kx pk rk f4 S4 => ?_
        have hD4 := f4.keep _ _ hD3 nD1
        have hfD4 : Hf4 D = none := f4.fz _ _ hD3 nD1 hfD3
        have F4 : Fr (Bx Γ) Hf1 H1 Hf4 H4 := F3.trans f4 fun a z => .inl (bx1 a z)
        refine hk2 O _ σ3 Hf4 H4 (by omega) S4 _ fun y Hf5 H5 yx py ry f5 S5 => ?_
        have hD5 := f5.keep _ _ hD4 nD1
        have hfD5 : Hf5 D = none := f5.fz _ _ hD4 nD1 hfD4
        have F5 : Fr (Bx Γ) Hf1 H1 Hf5 H5 := F4.trans f5 fun a z => .inl (bx1 a z)
        have ee : ((xs'.take (i + 1)).filter b).map (fun x => (f x, h x)) = ((xs'.take i).filter b).map (fun x => (f x, h x)) ++ [(f xs'[i], h xs'[i])] := by
          rw [ts, List.filter_append, List.map_append]; congr 1; simp [← pb]
        obtain rfl := rk
        subst pk py
        refine ⟨ks, .inl (f xs'[i]), rfl, hD5, lb_lt (by omega), Hf5, _, upd_same, ?_, ?_, hfD5, S5.ex.mut hfD5, ?_, fun a ha => ?_⟩
        · have := length_putK ks (.inl (f xs'[i]) : Key) y; omega
        · rw [ee, dicOf_snoc]
          exact pdc_put (hT.mono ((fy.ex.trans f3.ex).trans (f4.ex.trans f5.ex))) _ ry
        · refine ⟨F5.ex, fun a o e nm => ?_, F5.fz, fun a e => ?_⟩
          · rw [upd_ne (ne_of_none e hD)]; exact F5.keep a o e nm
          · by_cases z : a = D
            · subst z; exact hD
            · rw [upd_ne z] at e; exact F5.dom a e
        · obtain ⟨j, hj⟩ := bx2 a ha
          obtain ⟨_, z1, z2⟩ := S5.at_ j _ hj
          exact ⟨z1, boxAt_ex z2 fun o e => by rw [upd_ne (hbx a ha)]; exact e⟩
      | false =>
        rw [if_neg Bool.false_ne_true]
        have ee : ((xs'.take (i + 1)).filter b).map (fun x => (f x, h x)) = ((xs'.take i).filter b).map fun x => (f x, h x) := by
          rw [ts, List.filter_append, List.map_append]; simp [← pb]
        refine ⟨Hf3, ks, hD3, by omega, by rw [ee]; exact hT.mono (fy.ex.trans f3.ex), hfD3, S3'.ex, F3, fun a ha => ?_⟩
        obtain ⟨j, hj⟩ := bx2 a ha
        obtain ⟨_, z1, z2⟩ := S3'.at_ j _ hj
        exact ⟨z1, z2⟩
    · have e : i = xs'.length := by omega
      subst e
      rw [List.take_length] at hT
      have F : Fr (Bx Γ) Hf1 H1 (upd Hfi D (.dK ks)) H' := fr.fix hD hfD hDi
      refine .inl ⟨W.stop Hfi H' fr.ex ex, q _ (upd Hfi D (.dK ks)) H' _ rfl ⟨D, ks, rfl, upd_same, hT.mono (Ex.new hfD), by omega⟩ (f1.trans F fun _ z => .inl z) ?_⟩
      refine S1.grow F (ex.fix hDi) fun a ha => ?_
      obtain ⟨z1, z2⟩ := hb a ha
      exact ⟨by rw [upd_ne (hbx a ha)]; exact z1, z2⟩
end
end DL

set_option Elab.async false
set_option linter.all false
set_option maxRecDepth 100000
set_option maxHeartbeats 4000000
namespace DL
open PySem PySem.Spec L2
/-! ### sorted lists are what they are -/
theorem perm_sorted_eq {α : Type} {f : α → Int} : ∀ {l m : List α}, l.Perm m → l.Pairwise (fun a b => f a ≤ f b) → m.Pairwise (fun a b => f a ≤ f b) → (∀ a ∈ l, ∀ b ∈ l, f a = f b → a = b) → l = m
  | [], m, h, _, _, _ => by have := h.length_eq; cases m with
    | nil => rfl
    | cons => simp at this
  | x :: l, [], h, _, _, _ => by have := h.length_eq; simp at this
  | x :: l, y :: m, h, h1, h2, hi => by
    have a := List.pairwise_cons.mp h1
    have b := List.pairwise_cons.mp h2
    have hy : y ∈ x :: l := h.mem_iff.mpr List.mem_cons_self
    have hx : x ∈ y :: m := h.mem_iff.mp List.mem_cons_self
    have e : x = y := by
      rcases List.mem_cons.mp hy with e | e
      · exact e.symm
      · rcases List.mem_cons.mp hx with e2 | e2
        · exact e2
        · exact hi x List.mem_cons_self y hy (Int.le_antisymm (a.1 y e) (b.1 x e2))
    subst e
    rw [perm_sorted_eq ((List.perm_cons x).mp h) a.2 b.2 fun p hp q hq => hi p (List.mem_cons_of_mem _ hp) q (List.mem_cons_of_mem _ hq)]
def sortBy {α : Type} (f : α → Int) (l : List α) : List α := l.mergeSort fun a b => decide (f a ≤ f b)
theorem sortBy_perm {α : Type} (f : α → Int) (l : List α) : (sortBy f l).Perm l := List.mergeSort_perm l _
theorem sortBy_up {α : Type} (f : α → Int) (l : List α) : (sortBy f l).Pairwise (fun a b => f a ≤ f b) :=
  (List.pairwise_mergeSort (le := fun a b => decide (f a ≤ f b)) (fun a b c h1 h2 => by simp at h1 h2 ⊢; omega) (fun a b => by simp; omega) l).imp fun h => by simpa using h
theorem sortBy_eq {α : Type} {f : α → Int} {l m : List α} (h : m.Perm l) (hu : m.Pairwise fun a b => f a ≤ f b) (hi : ∀ a ∈ l, ∀ b ∈ l, f a = f b → a = b) : m = sortBy f l :=
  perm_sorted_eq (h.trans (sortBy_perm f l).symm) hu (sortBy_up f l) fun a ha b hb => hi a (h.mem_iff.mp ha) b (h.mem_iff.mp hb)
def sortI (l : List Int) : List Int := sortBy id l
abbrev R3 := Int × Int × Int
def code3 (r : R3) : Int := (r.1 * 64 + r.2.1) * 64 + r.2.2
def In64 (r : R3) : Prop := (0 ≤ r.1 ∧ r.1 < 64) ∧ (0 ≤ r.2.1 ∧ r.2.1 < 64) ∧ (0 ≤ r.2.2 ∧ r.2.2 < 64)
theorem code3_inj {a b : R3} (ha : In64 a) (hb : In64 b) (h : code3 a = code3 b) : a = b := by
  obtain ⟨a1, a2, a3⟩ := a
  obtain ⟨b1, b2, b3⟩ := b
  obtain ⟨⟨x1, x2⟩, ⟨x3, x4⟩, x5, x6⟩ := ha
  obtain ⟨⟨y1, y2⟩, ⟨y3, y4⟩, y5, y6⟩ := hb
  simp only [code3] at *
  have e3 : a3 = b3 := by omega
  have e2 : a2 = b2 := by omega
  have e1 : a1 = b1 := by omega
  rw [e1, e2, e3]
def sort3 (l : List R3) : List R3 := sortBy code3 l
section
variable {S : Stc} {X : Cx}
variable {Γ Γ1 Γ2 Γ3 : Ctxt} {k k1 k2 k3 kk kt ke : Nat} {A α β γ ρ : Type} {c : Cod α} {c' : Cod β} {cr : Cod ρ} {c1 : Cod α} {c2 : Cod β} {c3 : Cod γ} {P P1 : α → Prop} {P2 : β → Prop} {P3 : γ → Prop} {te to ti tk tv : TE} {tt : TT} {t u : TS} {p : Po ρ} {ta tx : TA} {e a b d o : Expr} {es : List Expr} {pos pos' pn pt apos : Pos}
variable {x : α} {y : β} {z : γ} {xs : List α} {K : PySem.W.Frag} {w : World} {ns : List Int}
theorem psortI' (hg : S.sc.names.lookup ("sorted" : Str) = some .globalImplicit) (hm : S.mg "sorted" = none) (h : PD S Γ 0 e (cList cInt) (· = ns)) (he : ∀ env : Env, starEach [e] env = (false, eval e env) :: starEach [] env) : PDF S Γ 0 (.Call (.Name "sorted" pn) [e] [] pos) cInt (· = sortI ns) :=
  pfb1 sortIG hg hm PyProof.Rows.boot_sorted h (fun Hf H v ex r Q q => rc_sortI Hf H v ex r Q fun p vs zs pz hp pr lb => q p vs zs (sortBy_eq pz.1 pz.2 fun _ _ _ _ e => e) hp pr lb) he
theorem tupI3 {Hf H : Hp} {v : V} {r : R3} (e : Ex Hf H) (h : (cT3 cInt cInt cInt).rep Hf v r) : TupI K H v [r.1, r.2.1, r.2.2] := by
  obtain ⟨a, u, w, y, h1, h2, h3, h4, h5⟩ := h
  obtain rfl := h3; obtain rfl := h4; obtain rfl := h5
  exact ⟨a, h1, SqT.of (e _ _ h2)⟩
theorem code_3 (a b c : Int) : TS.code 64 [a, b, c] = code3 (a, b, c) := by
  show a * 64 ^ 2 + (b * 64 ^ 1 + (c * 64 ^ 0 + 0)) = (a * 64 + b) * 64 + c
  rw [show (64 : Int) ^ 2 = 4096 from by decide, show (64 : Int) ^ 1 = 64 from by decide, show (64 : Int) ^ 0 = 1 from by decide]; omega
/-- a permutation of the values permutes what they are -/
theorem paired_perm {F : V → α → Prop} {us vs : List V} (h : us.Perm vs) : ∀ {xs : List α}, Paired F vs xs → ∃ ys : List α, ys.Perm xs ∧ Paired F us ys := by
  induction h with
  | nil => intro xs p; cases p; exact ⟨[], .nil, .nil⟩
  | cons u _ ih =>
    intro xs p
    cases p with
    | cons r t =>
      obtain ⟨ys, h1, h2⟩ := ih t
      exact ⟨_ :: ys, h1.cons _, .cons r h2⟩
  | swap u v l =>
    intro xs p
    cases p with
    | cons r t =>
      cases t with
      | cons r2 t => exact ⟨_ :: _ :: _, .swap .., .cons r2 (.cons r t)⟩
  | trans _ _ ih1 ih2 =>
    intro xs p
    obtain ⟨ys, h1, h2⟩ := ih2 p
    obtain ⟨zs, h3, h4⟩ := ih1 h2
    exact ⟨zs, h3.trans h1, h4⟩
theorem paired_mem2 {F : V → α → Prop} {R : V → V → Prop} {T : α → α → Prop} : ∀ {us : List V} {xs : List α}, Paired F us xs → us.Pairwise R → (∀ u v x y, x ∈ xs → y ∈ xs → F u x → F v y → R u v → T x y) → xs.Pairwise T
  | _, _, .nil, _, _ => .nil
  | _, _, .cons (b := x) r t, h, f => by
    have h' := List.pairwise_cons.mp h
    refine List.pairwise_cons.mpr ⟨fun y hy => ?_, paired_mem2 t h'.2 fun u v x y hx hy => f u v x y (List.mem_cons_of_mem _ hx) (List.mem_cons_of_mem _ hy)⟩
    obtain ⟨v, hv, rv⟩ := paired_mem t y hy
    exact f _ v _ y List.mem_cons_self (List.mem_cons_of_mem _ hy) r rv (h'.1 v hv)
where paired_mem : ∀ {us : List V} {xs : List α}, Paired F us xs → ∀ y ∈ xs, ∃ v ∈ us, F v y
  | _, _, .nil, _, h => nomatch h
  | _, _, .cons r t, y, h => by
    rcases List.mem_cons.mp h with e | e
    · subst e; exact ⟨_, List.mem_cons_self, r⟩
    · obtain ⟨v, hv, r'⟩ := paired_mem t y e
      exact ⟨v, List.mem_cons_of_mem _ hv, r'⟩
theorem paired_in {F : V → α → Prop} : ∀ {us : List V} {xs : List α}, Paired F us xs → ∀ v ∈ us, ∃ y ∈ xs, F v y
  | _, _, .nil, _, h => nomatch h
  | _, _, .cons r t, v, h => by
    rcases List.mem_cons.mp h with e | e
    · subst e; exact ⟨_, List.mem_cons_self, r⟩
    · obtain ⟨y, hy, r'⟩ := paired_in t v e
      exact ⟨y, List.mem_cons_of_mem _ hy, r'⟩
theorem rc_sort3 {rs : List R3} (hl : rs.length < 64) (hb : ∀ r ∈ rs, In64 r) : RC1F (rSortU K 3 64) (cList (cT3 cInt cInt cInt)) rs (cT3 cInt cInt cInt) (· = sort3 rs) := fun Hf H v e ⟨a, vs, h1, h2, h3, h4⟩ Q q => by
  refine ⟨a, vs, by rw [h1], SqL.of (e _ _ h2), by rw [paired_len h3]; exact hl, fun x hx => ?_, fun ys p hp hu hn => ?_⟩
  · obtain ⟨r, hr, rr⟩ := paired_in h3 x hx
    refine ⟨_, tupI3 e rr, rfl, fun m hm => ?_⟩
    obtain ⟨b1, b2, b3⟩ := hb r hr
    rcases List.mem_cons.mp hm with z | hm
    · rw [z]; exact b1
    rcases List.mem_cons.mp hm with z | hm
    · rw [z]; exact b2
    rcases List.mem_cons.mp hm with z | hm
    · rw [z]; exact b3
    · exact absurd hm List.not_mem_nil
  · obtain ⟨zs, hz, pz⟩ := paired_perm hp h3
    refine q p ys zs (sortBy_eq hz (paired_mem2 pz hu fun u v x y _ _ rx ry R => ?_) fun a ha b hb' => code3_inj (hb a ha) (hb b hb')) hn pz ?_
    · have := R _ _ (tupI3 e rx) (tupI3 e ry)
      rw [code_3, code_3] at this; exact this
    · rw [hp.length_eq]; exact h4
theorem sort3G : ∀ X, Good S X → CallR X (.builtin "sorted") (rSortU S.K 3 64) := fun X G => by rw [← G.K]; exact cr_sortT (by decide)
theorem psort3 {rs : List R3} (hg : S.sc.names.lookup ("sorted" : Str) = some .globalImplicit) (hm : S.mg "sorted" = none) (h : PD S Γ 0 e (cList (cT3 cInt cInt cInt)) (· = rs)) (hl : rs.length < 64) (hb : ∀ r ∈ rs, In64 r) (he : ∀ env : Env, starEach [e] env = (false, eval e env) :: starEach [] env) :
    PDF S Γ 0 (.Call (.Name "sorted" pn) [e] [] pos) (cT3 cInt cInt cInt) (· = sort3 rs) := pfb1 sort3G hg hm PyProof.Rows.boot_sorted h (rc_sort3 hl hb) he
/-! ### {.. for ..} -/
theorem pscT (own : List (Str × Nat)) {elt tg iter : Expr} {ifs : List Expr} {scope : Scope} {f : α → Int} {q : α → Bool} (hw : PDI S Γ k tg iter c (· = xs)) (nv : NoBxs Γ (own.map (·.2))) (hz : xs.length ≤ 1000) (ok : blkC S.N S.sc scope own = true) (hfs : ∀ (env : Env) x, foldedSetIterable iter env x = pure x)
    (hs : ∀ x, x ∈ xs → ∃ Γ1 is, PDG (S.blk scope) tg c x (wipeC Γ (own.map (·.2))) Γ1 is ∧ (∀ i ∈ is, i ∈ own.map (·.2)) ∧ TDT (tTs (S.blk scope) ifs) Γ1 0 (· = q x) ∧ (q x = true → PD (S.blk scope) Γ1 0 elt cInt (· = f x))) :
    PD S Γ k (.SetComp elt [⟨tg, iter, ifs, 0⟩] scope pos) (cSet S.w) (· = asc ((xs.filter q).map f)) :=
  pd_of (te := tSci S.w (tI S tg iter) (tGt (S.blk scope) tg) (tTs (S.blk scope) ifs) (tE (S.blk scope) elt) (own.map (·.2))) (fun X G => by
    rw [← G.w]
    exact pe_sci G.calm (by rw [G.N]; exact G.nd) (tI_ok G) (blkOk_by (by rw [G.N, G.sc]; exact ok)) (fun s H C cl fp => tGt_ok (G.blk scope s H C cl fp)) (fun s H C cl fp => tTs_ok (G.blk scope s H C cl fp)) (fun s H C cl fp => tE_ok (G.blk scope s H C cl fp)) (hfs _))
    (td_sc f q hw (noBxs_mem nv) hz hs)
theorem pscN (own : List (Str × Nat)) {elt tg iter : Expr} {scope : Scope} {f : α → Int} (hw : PDI S Γ k tg iter c (· = xs)) (nv : NoBxs Γ (own.map (·.2))) (hz : xs.length ≤ 1000) (ok : blkC S.N S.sc scope own = true) (hfs : ∀ (env : Env) x, foldedSetIterable iter env x = pure x)
    (hs : ∀ x, x ∈ xs → ∃ Γ1 is, PDG (S.blk scope) tg c x (wipeC Γ (own.map (·.2))) Γ1 is ∧ (∀ i ∈ is, i ∈ own.map (·.2)) ∧ PD (S.blk scope) Γ1 0 elt cInt (· = f x)) :
    PD S Γ k (.SetComp elt [⟨tg, iter, [], 0⟩] scope pos) (cSet S.w) (· = asc (xs.map f)) :=
  (pscT own (q := fun _ => true) hw nv hz ok hfs fun x hx => by
    obtain ⟨Γ1, is, h1, h2, h3⟩ := hs x hx
    exact ⟨Γ1, is, h1, h2, tts_nil, fun _ => h3⟩).imp fun ys e => by rw [e]; congr 2; simp
/-! ### {..: .. for ..} -/
theorem pdcT (own : List (Str × Nat)) {ek ev tg iter : Expr} {ifs : List Expr} {scope : Scope} {f : α → Int} {h : α → β} {q : α → Bool} (hw : PDI S Γ k tg iter c (· = xs)) (nv : NoBxs Γ (own.map (·.2))) (ok : blkC S.N S.sc scope own = true) (hfs : ∀ (env : Env) x, foldedSetIterable iter env x = pure x)
    (hs : ∀ x, x ∈ xs → ∃ Γ1 is, PDG (S.blk scope) tg c x (wipeC Γ (own.map (·.2))) Γ1 is ∧ (∀ i ∈ is, i ∈ own.map (·.2)) ∧ TDT (tTs (S.blk scope) ifs) Γ1 0 (· = q x) ∧ (q x = true → PD (S.blk scope) Γ1 0 ek cInt (· = f x) ∧ PD (S.blk scope) Γ1 0 ev c' (· = h x))) :
    PD S Γ k (.DictComp ek ev [⟨tg, iter, ifs, 0⟩] scope pos) (cDic c') (· = dicOf ((xs.filter q).map fun x => (f x, h x))) :=
  pd_of (te := tDc (tI S tg iter) (tGt (S.blk scope) tg) (tTs (S.blk scope) ifs) (tE (S.blk scope) ek) (tE (S.blk scope) ev) (own.map (·.2))) (fun X G =>
    pe_dc G.calm (by rw [G.N]; exact G.nd) (tI_ok G) (blkOk_by (by rw [G.N, G.sc]; exact ok)) (fun s H C cl fp => tGt_ok (G.blk scope s H C cl fp)) (fun s H C cl fp => tTs_ok (G.blk scope s H C cl fp)) (fun s H C cl fp => tE_ok (G.blk scope s H C cl fp)) (fun s H C cl fp => tE_ok (G.blk scope s H C cl fp)) (hfs _))
    (td_dc f h q hw (noBxs_mem nv) hs)
theorem pdcN (own : List (Str × Nat)) {ek ev tg iter : Expr} {scope : Scope} {f : α → Int} {h : α → β} (hw : PDI S Γ k tg iter c (· = xs)) (nv : NoBxs Γ (own.map (·.2))) (ok : blkC S.N S.sc scope own = true) (hfs : ∀ (env : Env) x, foldedSetIterable iter env x = pure x)
    (hs : ∀ x, x ∈ xs → ∃ Γ1 is, PDG (S.blk scope) tg c x (wipeC Γ (own.map (·.2))) Γ1 is ∧ (∀ i ∈ is, i ∈ own.map (·.2)) ∧ PD (S.blk scope) Γ1 0 ek cInt (· = f x) ∧ PD (S.blk scope) Γ1 0 ev c' (· = h x)) :
    PD S Γ k (.DictComp ek ev [⟨tg, iter, [], 0⟩] scope pos) (cDic c') (· = dicOf (xs.map fun x => (f x, h x))) :=
  (pdcT own (q := fun _ => true) hw nv ok hfs fun x hx => by
    obtain ⟨Γ1, is, h1, h2, h3⟩ := hs x hx
    exact ⟨Γ1, is, h1, h2, tts_nil, fun _ => h3⟩).imp fun ys e => by rw [e]; congr 2; simp
/-! ### d.get(k, x); k in d -/
theorem pdget2 {kvs : List (Int × α)} {i : Int} (ho : PD S Γ 0 o (cDic c) (· = kvs)) (he : PD S Γ 0 e cInt (· = i)) (hf : PD S Γ 0 d c (· = x)) (m : ∀ X, M2 X o "get" apos e d pos) : PD S Γ 0 (.Call (.Attribute o "get" apos) [e, d] [] pos) c (· = (valD kvs i).getD x) :=
  pd_of (fun X G => pe_dget2 (by have := G.room.un; omega) (tE_ok G) (tE_ok G) (tE_ok G) (m X)) fun O n σ Hf H hn s Q q => ho O n σ Hf H hn s _ fun v Hf1 H1 k1 p1 ⟨a, ks, h1, h2, h3, h4⟩ f1 s1 => by
    subst p1
    refine ⟨a, h1, .inl ⟨ks, .inl (s1.ex _ _ h2)⟩, ?_⟩
    refine he O n σ Hf1 H1 hn s1 _ fun v2 Hf2 H2 j p2 r2 f2 s2 => hf O n σ Hf2 H2 hn s2 _ fun v3 Hf3 H3 x' p3 r3 f3 s3 => ?_
    subst p2 p3
    obtain rfl := r2
    have e3 := s3.ex _ _ (f3.ex _ _ (f2.ex _ _ h2))
    refine ⟨valV ks (Sum.inl j : Key), DGet.k (k := Sum.inl j) e3, ?_⟩
    rcases pdc_val h3 j with ⟨z1, z2⟩ | ⟨w, y, z1, z2, z3⟩
    · rw [z2]
      exact q v3 Hf3 H3 _ (by rw [z1]; rfl) r3 ((f1.trans f2 fun _ z => .inl z).trans f3 fun _ z => .inl z) s3
    · rw [z2]
      exact q w Hf3 H3 y (by rw [z1]; rfl) (c.mono (f2.ex.trans f3.ex) z3) ((f1.trans f2 fun _ z => .inl z).trans f3 fun _ z => .inl z) s3
theorem tnotinD {kvs : List (Int × α)} {i : Int} (he : PD S Γ 0 e cInt (· = i)) (ho : PD S Γ 0 o (cDic c) (· = kvs)) (hm : behindInMarks .NotIn o = false) : PD S Γ 0 (.Compare e [.NotIn] [o] pos) cBool (· = !(valD kvs i).isSome) :=
  pd_of (fun X G => pe_cmp (pc_dnotin (by have := G.room.un; omega) (tE_ok G) (tE_ok G)) hm) fun O n σ Hf H hn s Q q => he O n σ Hf H hn s _ fun v Hf1 H1 j p1 r1 f1 s1 => ho O n σ Hf1 H1 hn s1 _ fun v2 Hf2 H2 k2 p2 ⟨a, ks, h1, h2, h3, h4⟩ f2 s2 => by
    subst p1 p2
    obtain rfl := r1
    refine ⟨a, valV ks (Sum.inl j : Key), h1, DGet.k (k := Sum.inl j) (s2.ex _ _ h2), q _ Hf2 H2 _ ?_ rfl (f1.trans f2 fun _ z => .inl z) s2⟩
    rcases pdc_val h3 j with ⟨z1, z2⟩ | ⟨w, y, z1, z2, z3⟩
    · rw [z1, z2]; rfl
    · rw [z1, z2]; rfl
theorem tinD {kvs : List (Int × α)} {i : Int} (he : PD S Γ 0 e cInt (· = i)) (ho : PD S Γ 0 o (cDic c) (· = kvs)) (hm : behindInMarks .In o = false) : PD S Γ 0 (.Compare e [.In] [o] pos) cBool (· = (valD kvs i).isSome) :=
  pd_of (fun X G => pe_cmp (pc_din (by have := G.room.un; omega) (tE_ok G) (tE_ok G)) hm) fun O n σ Hf H hn s Q q => he O n σ Hf H hn s _ fun v Hf1 H1 j p1 r1 f1 s1 => ho O n σ Hf1 H1 hn s1 _ fun v2 Hf2 H2 k2 p2 ⟨a, ks, h1, h2, h3, h4⟩ f2 s2 => by
    subst p1 p2
    obtain rfl := r1
    refine ⟨a, valV ks (Sum.inl j : Key), h1, DGet.k (k := Sum.inl j) (s2.ex _ _ h2), q _ Hf2 H2 _ ?_ rfl (f1.trans f2 fun _ z => .inl z) s2⟩
    rcases pdc_val h3 j with ⟨z1, z2⟩ | ⟨w, y, z1, z2, z3⟩
    · rw [z1, z2]; rfl
    · rw [z1, z2]; rfl
end
end DL

set_option Elab.async false
set_option linter.all false
set_option maxRecDepth 100000
set_option maxHeartbeats 4000000
namespace DL
open PySem PySem.Spec L2
/-! ### a def at its name, and its promise -/
structure Def (K : PySem.W.Frag) (mg : Str → Option Value) (x : Str) (st : Stmt) : Prop where
  ex : ∃ f fd, Fun K x x st f fd ∧ mg x = some (.ref f)
structure Cal (P : Program) (w : World) (K : PySem.W.Frag) (mg : Str → Option Value) (base : Heap) (x : Str) (pn : List Str) (lv : Nat) (sp : Sp) : Prop where
  ex : ∃ f fd, FnOk P w K mg base CX0 lv f fd pn sp ∧ mg x = some (.ref f) ∧ PySem.W.keepIn K (.ref f) = true ∧ Binds K fd pn []
/-- how the arguments bind (no defaults) -/
abbrev BindsD (st : Stmt) (x : Str) (pn : List Str) : Prop := ∀ (kV doc pm : Value) (an : Option Addr) (cdv ct : Value) (us : List Value), us.length = pn.length → bindArgs (PySem.W.fnOf x x (defArgs st) (defBody st) (defScope st) .none kV doc pm an cdv ct) ⟨us, []⟩ = pure (pn.zip us)
section
variable {P : Program} {w : World} {K : PySem.W.Frag} {mg : Str → Option Value} {base : Heap} {x : Str} {st : Stmt} {N pn : List Str} {lv : Nat}
variable {A ρ : Type} {ps : Addr → A → Ctxt} {kf : A → Nat} {pre : A → Prop} {cr : Cod ρ} {PR : A → ρ → Prop}
theorem cal_D (D : Def K mg x st) (hb : BindsD st x pn) (Sc : FnScope N pn (defScope st))
    (hl : ∀ b a, (ps b a).length = pn.length) (hN : pn.length ≤ N.length) (one : ∀ b a, OneB (ps b a))
    (body : ∀ b a, pre a → PHs ⟨N, defScope st, K, mg, P, w, base, lv, fun _ => true, false⟩ (entry N (ps b a)) (kf a) (defBody st) { N := fun _ => False, bk := fun _ => False, ct := fun _ => False, c := cr, R := PR a }) :
    Cal P w K mg base x pn (lv + 1) (spD ps kf pre cr PR) := by
  obtain ⟨f, fd, F, hm⟩ := D.ex
  exact ⟨f, fd, fn_D F Sc hl hN one body, hm, F.kp, F.binds hb⟩
/-- a def known raw -/
theorem cal_of {sp : Sp} (D : Def K mg x st) (hb : BindsD st x pn) (h : ∀ f fd, Fun K x x st f fd → FnOk P w K mg base CX0 lv f fd pn sp) : Cal P w K mg base x pn lv sp := by
  obtain ⟨f, fd, F, hm⟩ := D.ex
  exact ⟨f, fd, h f fd F, hm, F.kp, F.binds hb⟩
theorem Cal.imp {sp sp' : Sp} (C : Cal P w K mg base x pn lv sp) (h : ∀ f fd, FnOk P w K mg base CX0 lv f fd pn sp → FnOk P w K mg base CX0 lv f fd pn sp') : Cal P w K mg base x pn lv sp' := by
  obtain ⟨f, fd, F, hm, hk, hb⟩ := C.ex
  exact ⟨f, fd, h f fd F, hm, hk, hb⟩
end
section
variable {S : Stc} {Γ : Ctxt} {k k1 k2 : Nat} {A ρ : Type} {cr : Cod ρ} {e : Expr} {es : List Expr} {pos pn : Pos}
theorem pcalX {ps : Addr → A → Ctxt} {kf : A → Nat} {pre : A → Prop} {PR : A → ρ → Prop} {B : Ctxt → Prop} {P' : ρ → Prop} {pn' : List Str} {x : Str} {l : Nat} (F : Cal S.prog S.w S.K S.mg S.base x pn' l (spD ps kf pre cr PR)) (hl : l ≤ S.lv) (hg : S.sc.names.lookup x = some .globalImplicit)
    (h : PDA S Γ k1 (e :: es) B) (hc : ∀ as, B as → ∃ a b, as = ps b a ∧ pre a ∧ kf a ≤ k2 ∧ ∀ x, PR a x → P' x)
    (he : ∀ env : Env, starEach (e :: es) env = (false, eval e env) :: starEach es env) (hpl : ∀ env : Env, (backTo pos (starEach es env)).any (·.1) = false) (hdb : (x == ("__debug__" : Str)) = false := by decide) : PD S Γ (k1 + k2) (.Call (.Name x pn) (e :: es) [] pos) cr P' := by
  obtain ⟨f, fd, F, hm, hk, hb⟩ := F.ex
  exact pd_call F hl hg hm hk hb h hc he hpl hdb
/-- nothing drawn, one value -/
theorem pcal {ps : Addr → A → Ctxt} {pre : A → Prop} {g : A → ρ} {l : Ctxt} {pn' : List Str} {x : Str} {lv : Nat} (F : Cal S.prog S.w S.K S.mg S.base x pn' lv (spD ps (fun _ => 0) pre cr (fun a x => x = g a))) (hl : lv ≤ S.lv) (hg : S.sc.names.lookup x = some .globalImplicit)
    (h : PDA S Γ 0 (e :: es) (· = l)) (a : A) (b : Addr) (hc : l = ps b a) (hp : pre a)
    (he : ∀ env : Env, starEach (e :: es) env = (false, eval e env) :: starEach es env) (hpl : ∀ env : Env, (backTo pos (starEach es env)).any (·.1) = false) (hdb : (x == ("__debug__" : Str)) = false := by decide) : PD S Γ 0 (.Call (.Name x pn) (e :: es) [] pos) cr (· = g a) :=
  pcalX (k1 := 0) (k2 := 0) F hl hg h (fun as e => ⟨a, b, e.trans hc, hp, Nat.le_refl _, fun _ h => h⟩) he hpl hdb
/-! ### isinstance(e, (list, tuple)) of either -/
theorem pisiLTs {α : Type} {c : Cod α} {xs : List α} {p1 p2 p3 p4 : Pos} {kx : Nat} (hg : S.sc.names.lookup ("isinstance" : Str) = some .globalImplicit) (hm : S.mg "isinstance" = none) (hgl : S.sc.names.lookup ("list" : Str) = some .globalImplicit) (hml : S.mg "list" = none) (hgt : S.sc.names.lookup ("tuple" : Str) = some .globalImplicit) (hmt : S.mg "tuple" = none)
    (h : PD S Γ 0 e (cSeq c) (· = xs))
    (he : ∀ env : Env, starEach [e, .Tuple [.Name "list" p2, .Name "tuple" p3] kx p4] env = (false, eval e env) :: starEach [.Tuple [.Name "list" p2, .Name "tuple" p3] kx p4] env) :
    PD S Γ 0 (.Call (.Name "isinstance" p1) [e, .Tuple [.Name "list" p2, .Name "tuple" p3] kx p4] [] pos) cBool (· = true) :=
  pd_of (te := tCB (rIsiT S.K) (tCons (tE S e) (tCons (tTup (tCons (tC (.ty "list")) (tCons (tC (.ty "tuple")) tNil))) tNil))) (fun X G => by
    rw [← G.K]
    exact pe_callB call_isiT (glb G hg) (by rw [G.mg]; exact hm) (by decide +kernel) (pa_cons (tE_ok G) (pa_cons (pe_tup (pa_cons (nmTy hgl hml PyProof.Rows.boot_list (by decide) (by decide) X G) (pa_cons (nmTy hgt hmt PyProof.Rows.boot_tuple (by decide) (by decide) X G) pa_nil))) pa_nil) (he _)) (by decide) (by decide) (he _) rfl)
    fun O n σ Hf H hn s Q q => h O n σ Hf H hn s _ fun v Hf' H' y py r' f s' => by
      subst py
      refine ⟨by show 2 ≤ sizeLine; decide, fun tp htp => ?_⟩
      have r2 : (cSeq c).rep (upd H' tp (.tup [.ty "list", .ty "tuple"])) v y := (cSeq c).mono (s'.ex.trans (Ex.new htp)) r'
      obtain ⟨ty, ht, hk⟩ : ∃ ty, TyX S.K (upd H' tp (.tup [.ty "list", .ty "tuple"])) v ty ∧ PySem.W.kitAny S.K ty [.type "list", .type "tuple"] = some true := by
        rcases r2 with r2 | r2
        · exact ⟨_, ty_list (K := S.K) _ _ r2, kLT_list⟩
        · exact ⟨_, ty_tup (K := S.K) _ _ r2, kLT_tuple⟩
      refine ⟨v, tp, [.ty "list", .ty "tuple"], ty, [.type "list", .type "tuple"], true, rfl, upd_same, .cons (.ty _) (.cons (.ty _) .nil), ht, hk, ?_⟩
      exact q _ (upd Hf' tp (.tup [.ty "list", .ty "tuple"])) _ true rfl rfl (f.trans (Fr.new (M := Bx Γ) s'.ex htp) fun _ z => .inl z) (s'.new htp)
end
end DL

set_option Elab.async false
set_option linter.all false
set_option maxRecDepth 100000
set_option maxHeartbeats 4000000
namespace DL
open PySem PySem.Spec L2
/-! ### what is put into a slot: data, or a new list of one's own -/
def VOk (Hf H H0 : Hp) (v : V) : Sl → Prop
  | .un => True
  | .d c x => c.rep Hf v x
  | .l c xs => ∃ a vs, v = .ref a ∧ H a = some (.lst vs) ∧ Hf a = none ∧ H0 a = none ∧ Paired (c.rep Hf) vs xs ∧ vs.length ≤ LB
  | .bx _ => False
  | .r p => ∃ a o, v = .ref a ∧ H a = some o ∧ Hf a = none ∧ H0 a = none ∧ p.φ Hf a o
def TX (te : TE) (Γ : Ctxt) (k : Nat) (R : Sl → Prop) : Prop :=
  ∀ (O : Org) (n : Nat) (σ : Stt) (Hf H : Hp), n + k ≤ LIM → Sat O Hf H σ Γ n → ∀ Q : VK,
    (∀ v Hf' H' s, R s → VOk Hf' H' H v s → Fr (Bx Γ) Hf H Hf' H' → Sat O Hf' H' σ Γ (n + k) → Q v H') → te σ H Q
/-- no own slot holds a -/
def NoAd (σ : Stt) (Γ : Ctxt) (a : Addr) : Prop := ∀ (j : Nat) sl, Γ[j]? = some sl → sl.own = true → σ[j]? ≠ some (some (V.ref a))
section
variable {Γ Γ1 : Ctxt} {k k1 k2 k3 : Nat} {α β γ ρ : Type} {c : Cod α} {P : α → Prop} {te to ti : TE} {p : Po ρ} {R R1 R2 R3 : Sl → Prop}
variable {O : Org} {Hf H H0 Hf' H' : Hp} {σ : Stt} {n m : Nat} {s : Sl} {v : V}
theorem TD.tx (h : TD te Γ k c P) : TX te Γ k (fun s => ∃ x, P x ∧ s = .d c x) := fun O n σ Hf H hn S Q q => h O n σ Hf H hn S Q fun v Hf' H' x px r f s => q v Hf' H' _ ⟨x, px, rfl⟩ r f s
theorem TDF.tx {R : List α → Prop} (h : TDF te Γ k c R) : TX te Γ k (fun s => ∃ x, R x ∧ s = .l c x) := fun O n σ Hf H hn S Q q => h O n σ Hf H hn S Q fun a vs Hf' H' xs p1 h1 h2 h3 pr lb f s => q _ Hf' H' _ ⟨xs, p1, rfl⟩ ⟨a, vs, rfl, h1, h2, h3, pr, lb⟩ f s
theorem TD.tx' {x : α} (h : TD te Γ k c (· = x)) : TX te Γ k (· = .d c x) := fun O n σ Hf H hn S Q q => h O n σ Hf H hn S Q fun v Hf' H' y px r f s => by subst px; exact q v Hf' H' (.d c y) rfl r f s
theorem TDF.tx' {x : List α} (h : TDF te Γ k c (· = x)) : TX te Γ k (· = .l c x) := fun O n σ Hf H hn S Q q => h O n σ Hf H hn S Q fun a vs Hf' H' xs p1 h1 h2 h3 pr lb f s => by subst p1; exact q _ Hf' H' (.l c xs) rfl ⟨a, vs, rfl, h1, h2, h3, pr, lb⟩ f s
theorem VOk.keep (h : VOk Hf H H0 v s) (f : Fr (Bx Γ) Hf H Hf' H') (hb : ∀ a, Bx Γ a → H0 a ≠ none) : VOk Hf' H' H0 v s := by
  cases s with
  | un => trivial
  | d c x => exact c.mono f.ex h
  | l c xs =>
    obtain ⟨a, vs, h1, h2, h3, h4, h5, h6⟩ := h
    have nb : ¬ Bx Γ a := fun z => hb a z h4
    exact ⟨a, vs, h1, f.keep _ _ h2 nb, f.fz _ _ h2 nb h3, h4, paired_mono h5 (fun _ _ r => c.mono f.ex r), h6⟩
  | bx a => exact h
  | r p =>
    obtain ⟨a, o, h1, h2, h3, h4, h5⟩ := h
    have nb : ¬ Bx Γ a := fun z => hb a z h4
    exact ⟨a, o, h1, f.keep _ _ h2 nb, f.fz _ _ h2 nb h3, h4, p.mono f.ex h5⟩
theorem Sat.noAd (S : Sat O Hf H σ Γ n) {a : Addr} (h : H a = none) : NoAd σ Γ a := fun j sl hj ho e => by
  obtain ⟨_, o, w⟩ := S.ownAt (a := a) ⟨j, sl, hj, ho, e⟩
  rw [h] at w; cases w
theorem NoAd.set {a : Addr} (h : NoAd σ Γ a) {i : Nat} (hv : s.own = true → v ≠ .ref a) : NoAd (σ.set i (some v)) (Γ.set i s) a := fun j sl hj ho e => by
  rcases sget hj with ⟨z, z2⟩ | ⟨ne, hj⟩
  · subst z z2
    have lt : j < σ.length := by
      have := (List.getElem?_eq_some_iff.mp e).1
      rw [List.length_set] at this; exact this
    rw [List.getElem?_set_self lt] at e
    injection e with e; injection e with e
    exact hv ho e
  · rw [List.getElem?_set_ne (Ne.symm ne)] at e
    exact h j sl hj ho e
theorem Sat.setX (S : Sat O Hf H σ Γ n) {i : Nat} (h : VOk Hf H H0 v s) (hs : s ≠ .un) (na : ∀ a, v = .ref a → s.own = true → NoAd σ Γ a) (hm : ∀ a, H0 a = none → O.H a = none) : Sat O Hf H (σ.set i (some v)) (Γ.set i s) n := by
  cases s with
  | un => exact absurd rfl hs
  | d c x => exact S.set h
  | l c xs =>
    obtain ⟨a, vs, rfl, h2, h3, h4, h5, h6⟩ := h
    exact S.setL h2 h3 h5 h6 (fun j sl _ hj ho => na a rfl rfl j sl hj ho) (.inr (hm a h4))
  | bx a => exact h.elim
  | r p =>
    obtain ⟨a, o, rfl, h2, h3, h4, h5⟩ := h
    exact S.setR h2 h3 h5 (fun j sl _ hj ho => na a rfl rfl j sl hj ho) (.inr (hm a h4))
theorem own_fresh (h : VOk Hf H H0 v s) {a : Addr} (e : v = .ref a) (ho : s.own = true) : H0 a = none ∧ H a ≠ none := by
  cases s with
  | un => cases ho
  | d c x => cases ho
  | l c xs =>
    obtain ⟨b, vs, h1, h2, h3, h4, _⟩ := h
    rw [e] at h1; cases h1
    exact ⟨h4, by rw [h2]; exact fun z => by cases z⟩
  | bx a => exact h.elim
  | r p =>
    obtain ⟨b, o, h1, h2, h3, h4, _⟩ := h
    rw [e] at h1; cases h1
    exact ⟨h4, by rw [h2]; exact fun z => by cases z⟩
theorem Sat.bxSome (S : Sat O Hf H σ Γ n) (a : Addr) (h : Bx Γ a) : H a ≠ none := fun z => by
  obtain ⟨_, o, w⟩ := S.ownAt (S.bxOwn h)
  rw [z] at w; cases w
/-- x, y = a, b -/
theorem hs_par {i j : Nat} (ha : TX te Γ k1 R1) (hb : TX to Γ k2 R2) (nb : NoBx Γ i) (nb' : NoBx Γ j) (hij : i ≠ j) (h1 : ∀ s, R1 s → s ≠ .un) (h2 : ∀ s, R2 s → s ≠ .un)
    (hp : ∀ s1 s2, R1 s1 → R2 s2 → p.N ((Γ.set i s1).set j s2)) : HS (tPar i j (tCons te (tCons to tNil))) Γ (k1 + k2) p := fun O n σ Hf H hn S D q1 _ _ _ =>
  ha O n σ Hf H (by omega) S _ fun v Hf1 H1 s1 r1 v1 f1 S1 => hb O (n + k1) σ Hf1 H1 (by omega) S1 _ fun w Hf2 H2 s2 r2 v2 f2 S2 => by
    refine ⟨v, w, rfl, ?_⟩
    have v1' := v1.keep f2 S.bxSome
    have T1 := S2.setX (i := i) v1' (h1 s1 r1) (fun a e ho j' sl hj' ho' e' => S.noAd (own_fresh v1 e ho).1 j' sl hj' ho' e') (fun a z => S.fr.dom a z)
    have T2 := T1.setX (i := j) v2 (h2 s2 r2) (fun a e ho => NoAd.set (fun j' sl hj' ho' e' => S1.noAd (own_fresh v2 e ho).1 j' sl hj' ho' e') fun ho1 e1 => (own_fresh v1 e1 ho1).2 (own_fresh v2 e ho).1) (fun a z => S.fr.dom a (f1.dom a z))
    refine q1 _ Hf2 H2 _ (hp s1 s2 r1 r2) ⟨by rw [← Nat.add_assoc]; exact T2, (bxKeep_set nb).trans (bxKeep_set ?_), f1.ex.trans f2.ex⟩
    unfold NoBx at nb' ⊢
    rw [List.getElem?_set_ne hij]; exact nb'
theorem hs_par3 {i j l : Nat} (ha : TX te Γ k1 R1) (hb : TX to Γ k2 R2) (hd : TX ti Γ k3 R3) (nb : NoBx Γ i) (nb' : NoBx Γ j) (nb2 : NoBx Γ l) (hij : i ≠ j) (hil : i ≠ l) (hjl : j ≠ l) (h1 : ∀ s, R1 s → s ≠ .un) (h2 : ∀ s, R2 s → s ≠ .un) (h3 : ∀ s, R3 s → s ≠ .un)
    (hp : ∀ s1 s2 s3, R1 s1 → R2 s2 → R3 s3 → p.N (((Γ.set i s1).set j s2).set l s3)) : HS (tPar3 i j l (tCons te (tCons to (tCons ti tNil)))) Γ (k1 + k2 + k3) p := fun O n σ Hf H hn S D q1 _ _ _ =>
  ha O n σ Hf H (by omega) S _ fun v Hf1 H1 s1 r1 v1 f1 S1 => hb O (n + k1) σ Hf1 H1 (by omega) S1 _ fun w Hf2 H2 s2 r2 v2 f2 S2 => hd O (n + k1 + k2) σ Hf2 H2 (by omega) S2 _ fun u Hf3 H3 s3 r3 v3 f3 S3 => by
    refine ⟨v, w, u, rfl, ?_⟩
    have v1' := (v1.keep f2 S.bxSome).keep f3 S.bxSome
    have v2' := v2.keep f3 S1.bxSome
    have T1 := S3.setX (i := i) v1' (h1 s1 r1) (fun a e ho j' sl hj' ho' e' => S.noAd (own_fresh v1 e ho).1 j' sl hj' ho' e') (fun a z => S.fr.dom a z)
    have T2 := T1.setX (i := j) v2' (h2 s2 r2) (fun a e ho => NoAd.set (fun j' sl hj' ho' e' => S1.noAd (own_fresh v2 e ho).1 j' sl hj' ho' e') fun ho1 e1 => (own_fresh v1 e1 ho1).2 (own_fresh v2 e ho).1) (fun a z => S.fr.dom a (f1.dom a z))
    have T3 := T2.setX (i := l) v3 (h3 s3 r3) (fun a e ho => NoAd.set (NoAd.set (fun j' sl hj' ho' e' => S2.noAd (own_fresh v3 e ho).1 j' sl hj' ho' e')
      fun ho1 e1 => (own_fresh v1 e1 ho1).2 (f2.dom a (own_fresh v3 e ho).1)) fun ho1 e1 => (own_fresh v2 e1 ho1).2 (own_fresh v3 e ho).1) (fun a z => S.fr.dom a (f1.dom a (f2.dom a z)))
    refine q1 _ Hf3 H3 _ (hp s1 s2 s3 r1 r2 r3) ⟨by rw [← Nat.add_assoc, ← Nat.add_assoc]; exact T3, ((bxKeep_set nb).trans (bxKeep_set ?_)).trans (bxKeep_set ?_), (f1.ex.trans f2.ex).trans f3.ex⟩
    · unfold NoBx at nb' ⊢
      rw [List.getElem?_set_ne hij]; exact nb'
    · unfold NoBx at nb2 ⊢
      rw [List.getElem?_set_ne hjl, List.getElem?_set_ne hil]; exact nb2
/-- (x, y, ..) = e -/
theorem hs_unpack {g : TG} {x : α} {is : List Nat} (h : TD te Γ k c (· = x)) (hg : GD g c x Γ Γ1 is) (hp : p.N Γ1) : HS (tAsg te g) Γ k p := fun O n σ Hf H hn S D q1 _ _ _ =>
  h O n σ Hf H hn S _ fun v Hf' H' y py r f s => by
    subst py
    exact hg.2.2 O (n + k) σ Hf' H' v r s _ fun σ' S' _ => q1 σ' Hf' H' Γ1 hp ⟨S', hg.1, f.ex⟩
end
section
variable {S : Stc} {Γ Γ1 : Ctxt} {k k1 k2 k3 kr : Nat} {α ρ : Type} {c : Cod α} {p : Po ρ} {R1 R2 R3 : Sl → Prop} {a b d e : Expr} {pos px py pz pt pt2 : Pos} {x y z : Str} {kt kt2 : Nat} {rest : List Stmt} {s1 s2 s3 : Sl}
/-- x, y = a, b with plain local names; each value is known -/
theorem bpar (i j : Nat) (ha : TX (tE S a) Γ k1 (· = s1)) (hb : TX (tE S b) Γ k2 (· = s2)) (nb : NoBx Γ i) (nb' : NoBx Γ j) (hij : i ≠ j) (u1 : s1 ≠ .un) (u2 : s2 ≠ .un) (hi : S.N[i]? = some x) (hj : S.N[j]? = some y)
    (hx : S.sc.names.lookup x = some .local) (hy : S.sc.names.lookup y = some .local) (hs : ∀ env : Env, starEach [a, b] env = (false, eval a env) :: starEach [b] env) (hs2 : ∀ env : Env, starEach [b] env = (false, eval b env) :: starEach [] env)
    (hw : ∀ env : Env, env.scope = S.sc → swappedStores [.Tuple [.Name x px, .Name y py] kt pt] (.Tuple [a, b] kt2 pt2) env = pure (some [x, y]))
    (hsw : ∀ env : Env, env.scope = S.sc → swapsWithSole [.Tuple [.Name x px, .Name y py] kt pt] (.Tuple [a, b] kt2 pt2) pos.line env = pure false)
    (hr : PHs S ((Γ.set i s1).set j s2) kr rest p) : PHs S Γ (k1 + k2 + kr) (.Assign [.Tuple [.Name x px, .Name y py] kt pt] (.Tuple [a, b] kt2 pt2) pos :: rest) p :=
  phs_cons (N1 := fun G => G = (Γ.set i s1).set j s2) (ph_of (fun X G => ps_par G.calm (by rw [G.N]; exact G.nd) (by rw [G.N]; exact hi) (by rw [G.N]; exact hj) hij (by rw [G.sc]; exact hx) (by rw [G.sc]; exact hy) (pa_cons (tE_ok G) (pa_cons (tE_ok G) pa_nil (hs2 _)) (hs _)) (hw _ G.sc) (hsw _ G.sc))
    (hs_par ha hb nb nb' hij (fun s e => e ▸ u1) (fun s e => e ▸ u2) fun t1 t2 e1 e2 => by subst e1 e2; rfl)) fun Γ1 e => by subst e; exact hr
theorem bpar3 (i j l : Nat) (ha : TX (tE S a) Γ k1 (· = s1)) (hb : TX (tE S b) Γ k2 (· = s2)) (hd : TX (tE S d) Γ k3 (· = s3)) (nb : NoBx Γ i) (nb' : NoBx Γ j) (nb2 : NoBx Γ l) (hij : i ≠ j) (hil : i ≠ l) (hjl : j ≠ l) (u1 : s1 ≠ .un) (u2 : s2 ≠ .un) (u3 : s3 ≠ .un) (hi : S.N[i]? = some x) (hj : S.N[j]? = some y) (hl : S.N[l]? = some z)
    (hx : S.sc.names.lookup x = some .local) (hy : S.sc.names.lookup y = some .local) (hz : S.sc.names.lookup z = some .local) (hs : ∀ env : Env, starEach [a, b, d] env = (false, eval a env) :: starEach [b, d] env) (hs2 : ∀ env : Env, starEach [b, d] env = (false, eval b env) :: starEach [d] env) (hs3 : ∀ env : Env, starEach [d] env = (false, eval d env) :: starEach [] env)
    (hw : ∀ env : Env, env.scope = S.sc → swappedStores [.Tuple [.Name x px, .Name y py, .Name z pz] kt pt] (.Tuple [a, b, d] kt2 pt2) env = pure (some [x, y, z]))
    (hsw : ∀ env : Env, env.scope = S.sc → swapsWithSole [.Tuple [.Name x px, .Name y py, .Name z pz] kt pt] (.Tuple [a, b, d] kt2 pt2) pos.line env = pure false)
    (hr : PHs S (((Γ.set i s1).set j s2).set l s3) kr rest p) : PHs S Γ (k1 + k2 + k3 + kr) (.Assign [.Tuple [.Name x px, .Name y py, .Name z pz] kt pt] (.Tuple [a, b, d] kt2 pt2) pos :: rest) p :=
  phs_cons (N1 := fun G => G = ((Γ.set i s1).set j s2).set l s3) (ph_of (fun X G => ps_par3 G.calm (by rw [G.N]; exact G.nd) (by rw [G.N]; exact hi) (by rw [G.N]; exact hj) (by rw [G.N]; exact hl) hij hil hjl (by rw [G.sc]; exact hx) (by rw [G.sc]; exact hy) (by rw [G.sc]; exact hz) (pa_cons (tE_ok G) (pa_cons (tE_ok G) (pa_cons (tE_ok G) pa_nil (hs3 _)) (hs2 _)) (hs _)) (hw _ G.sc) (hsw _ G.sc))
    (hs_par3 ha hb hd nb nb' nb2 hij hil hjl (fun s e => e ▸ u1) (fun s e => e ▸ u2) (fun s e => e ▸ u3) fun t1 t2 t3 e1 e2 e3 => by subst e1 e2 e3; rfl)) fun Γ1 e => by subst e; exact hr
/-- (x, y, z) = e -/
theorem bunpack {tg : Expr} {x : α} {is : List Nat} (h : PD S Γ k e c (· = x)) (hg : PDG S tg c x Γ Γ1 is) (hs : ∀ env : Env, swapsWithSole [tg] e pos.line env = pure false) (hw : ∀ env : Env, swappedStores [tg] e env = pure none) (h1 : ∀ env : Env, (assignEach [tg] env).map (·.2) = [assign tg env])
    (hr : PHs S Γ1 kr rest p) : PHs S Γ (k + kr) (.Assign [tg] e pos :: rest) p :=
  phs_cons (N1 := fun G => G = Γ1) (ph_of (fun X G => ps_asg (tE_ok G) (tGt_ok G) (hs _) (hw _) (h1 _)) (hs_unpack h hg rfl)) fun Γ1 e => by subst e; exact hr
end
end DL

set_option Elab.async false
set_option linter.all false
set_option maxRecDepth 100000
set_option maxHeartbeats 4000000
namespace DL
open PySem PySem.Spec L2
section
variable {Γ Γ1 : Ctxt} {k k1 k2 k3 : Nat} {α β γ ρ : Type} {c : Cod α} {P : α → Prop} {te to ti : TE} {p : Po ρ}
variable {O : Org} {Hf H H0 Hf' H' : Hp} {σ : Stt} {n m : Nat} {s : Sl} {v : V}
/-- x = y.pop(e) -/
theorem hs_setPop {K : PySem.W.Frag} {i j : Nat} {xs : List α} {Pi : Int → Prop} (hij : i ≠ j) (h' : Γ[j]? = some (.l c xs)) (nb : NoBx Γ i) (nb' : NoBx Γ j) (hi : TD ti Γ k cInt Pi) (lb' : xs.length ≤ LB)
    (hp : ∀ z, Pi z → ∃ (l : Nat) (y : α), z = (l : Int) ∧ xs[l]? = some y ∧ p.N ((Γ.set j (.l c (xs.eraseIdx l))).set i (.d c y))) :
    HS (tAsg (tBM K "list" rPopAt (tVar j) (tCons ti tNil)) (gName i)) Γ k p := fun O n σ Hf H hn S D q1 _ _ _ => by
  obtain ⟨b, us, e1, e2, e3, e4, e5⟩ := S.at_ j _ h'
  refine ⟨.ref b, e1, .inl ⟨rfl, us, SqL.of e2⟩, ?_⟩
  refine hi O n σ Hf H hn S _ fun v Hf' H' z pz rz f s => ?_
  obtain ⟨l, y, rfl, hl, pn⟩ := hp z pz
  obtain rfl : v = .int (l : Int) := rz
  have hll : l < xs.length := (List.getElem?_eq_some_iff.mp hl).1
  obtain ⟨b', us', w1, w2, w3, w4, w5⟩ := s.at_ j _ h'
  rw [e1] at w1
  injection w1 with w1; injection w1 with w1; injection w1 with w1
  subst w1
  have hul := paired_len w4
  have hu : us'[l]? = some (us'[l]'(by omega)) := List.getElem?_eq_getElem (by omega)
  unfold LB at lb'
  refine ⟨b, us', (l : Int), l, us'[l]'(by omega), rfl, rfl, w2, by omega, by omega, ixN_seqI (by omega), hu, ?_⟩
  have s2 := s.wr h' e1 (paired_erase l w4) (by rw [List.length_eraseIdx]; split <;> omega)
  have nb2 : NoBx (Γ.set j (.l c (xs.eraseIdx l))) i := by
    unfold NoBx at nb ⊢
    rw [List.getElem?_set_ne (Ne.symm hij)]; exact nb
  exact q1 _ Hf' _ _ pn ⟨s2.set (paired_get w4 hu hl), (bxKeep_set nb').trans (bxKeep_set nb2), f.ex⟩
end
section
variable {S : Stc} {Γ Γ1 : Ctxt} {k k1 k2 k3 kr : Nat} {α ρ : Type} {c : Cod α} {P : α → Prop} {p : Po ρ} {a b d e : Expr} {pos pos' pos2 px py pz pt : Pos} {nm nm2 : Str} {rest : List Stmt} {p1 p2 p3 p4 : Pos}
/-- x[e] = v -/
theorem bsetItem (i : Nat) {xs : List α} {y : α} {z : Int} (hΓ : Γ[i]? = some (.l c xs)) (he : PD S Γ 0 e c (· = y)) (hi : PD S Γ 0 a cInt (· = z)) (j : Nat) (hj : ixN xs.length z = some j) (hN : S.N[i]? = some nm) (hv : Vis S.sc nm)
    (ha : ∀ (env : Env) v, assign (.Subscript (.Name nm pos') a pos2) env v = (do
      let ov ← holding [v] (eval (.Name nm pos') env)
      let iv ← holding [v, ov] (eval a env)
      standAt pos2
      holding [v, ov, iv] (setItem ov iv v)
      release [v, ov, iv] []))
    (hs : ∀ env : Env, swapsWithSole [.Subscript (.Name nm pos') a pos2] e pos.line env = pure false) (hw : ∀ env : Env, swappedStores [.Subscript (.Name nm pos') a pos2] e env = pure none) (h1 : ∀ env : Env, (assignEach [.Subscript (.Name nm pos') a pos2] env).map (·.2) = [assign (.Subscript (.Name nm pos') a pos2) env])
    (hr : PHs S (Γ.set i (.l c (xs.set j y))) kr rest p) (hd : (nm == ("__debug__" : Str)) = false := by decide) (hcd : (nm == ("__classdict__" : Str)) = false := by decide) :
    PHs S Γ (0 + kr) (.Assign [.Subscript (.Name nm pos') a pos2] e pos :: rest) p :=
  phs_cons (N1 := fun G => G = Γ.set i (.l c (xs.set j y))) (ph_of (fun X G => ps_asg (tE_ok G) (pg_sub (pe_slot G hN hv hd hcd) (tE_ok G) set_list (ha _)) (hs _) (hw _) (h1 _))
    (hs_setItem (k1 := 0) (k2 := 0) hΓ (by unfold NoBx; rw [hΓ]; trivial) he hi fun y' z' e1 e2 => by subst e1 e2; exact ⟨j, hj, rfl⟩)) fun Γ1 e => by subst e; exact hr
/-- what must be seen of o.m(e) -/
abbrev FewOk (p2 : Pos) (e : Expr) : Prop := ∀ env : Env, ((backTo p2 (starEach [e] env)).all (fun x => !x.1) && (backToKw p2 (keywordEach [] env)).all (fun x => x.1.isSome) && decide ([e].length + ([] : List Keyword).length + (if ([] : List Keyword).isEmpty then 0 else 1) < 30)) = true
/-- y.append(x.pop(e)) -/
theorem bappendPop (i j : Nat) {xs ys : List α} {Pi : Int → Prop} (hij : i ≠ j) (h : Γ[i]? = some (.l c ys)) (h' : Γ[j]? = some (.l c xs)) (hi : PD S Γ k e cInt Pi) (lb : ys.length + 1 ≤ LB) (lb' : xs.length ≤ LB) (hN : S.N[i]? = some nm) (hN2 : S.N[j]? = some nm2) (hv : Vis S.sc nm) (hv2 : Vis S.sc nm2)
    (hfew : FewOk p2 (.Call (.Attribute (.Name nm2 pos2) "pop" p3) [e] [] p4)) (hfew2 : FewOk p4 e) (hline : (p1.endLine == p2.line) = true) (hline2 : (p3.endLine == p4.line) = true) (hs : ∀ env : Env, starEach [e] env = (false, eval e env) :: starEach [] env)
    (hs2 : ∀ env : Env, starEach [.Call (.Attribute (.Name nm2 pos2) "pop" p3) [e] [] p4] env = (false, eval (.Call (.Attribute (.Name nm2 pos2) "pop" p3) [e] [] p4) env) :: starEach [] env)
    (hsw : ∀ env : Env, swapsWith (.Call (.Attribute (.Name nm pos') "append" p1) [.Call (.Attribute (.Name nm2 pos2) "pop" p3) [e] [] p4] [] p2) none pos.line env = pure false)
    (hr : ∀ z, Pi z → ∃ (l : Nat) (y : α), z = (l : Int) ∧ xs[l]? = some y ∧ PHs S ((Γ.set j (.l c (xs.eraseIdx l))).set i (.l c (ys ++ [y]))) kr rest p)
    (hd : (nm == ("__debug__" : Str)) = false := by decide) (hcd : (nm == ("__classdict__" : Str)) = false := by decide) (hd2 : (nm2 == ("__debug__" : Str)) = false := by decide) (hcd2 : (nm2 == ("__classdict__" : Str)) = false := by decide) :
    PHs S Γ (k + kr) (.Expr (.Call (.Attribute (.Name nm pos') "append" p1) [.Call (.Attribute (.Name nm2 pos2) "pop" p3) [e] [] p4] [] p2) pos :: rest) p :=
  phs_cons (N1 := fun G => PHs S G kr rest p) (ph_of (ts := tDrop (tBM S.K "list" rAppend (tVar i) (tCons (tBM S.K "list" rPopAt (tVar j) (tCons (tE S e) tNil)) tNil))) (fun X G => by
    rw [← G.K]
    exact ps_expr (pe_bm PySem.F.plainAttrs_list PySem.F.slot_list_append PySem.F.type_list_append mt_append (pe_slot G hN hv hd hcd) (pa_cons (pe_bm PySem.F.plainAttrs_list PySem.F.slot_list_pop PySem.F.type_list_pop mt_popAt (pe_slot G hN2 hv2 hd2 hcd2) (pa_cons (tE_ok G) pa_nil (hs _)) rfl (hfew2 _) hline2 (hs _) rfl) pa_nil (hs2 _)) rfl (hfew _) hline (hs2 _) rfl) (hsw _))
    (hs_appendPop hij h h' (by unfold NoBx; rw [h]; trivial) (by unfold NoBx; rw [h']; trivial) hi lb lb' fun z hz => hr z hz)) fun Γ1 e => e
/-- x = y.pop(e) -/
theorem bsetPop (i j : Nat) {xs : List α} {Pi : Int → Prop} (hij : i ≠ j) (h' : Γ[j]? = some (.l c xs)) (nb : NoBx Γ i) (hi : PD S Γ k e cInt Pi) (lb' : xs.length ≤ LB) (hN : S.N[i]? = some nm) (hN2 : S.N[j]? = some nm2) (hx : Loc S.sc nm) (hv2 : Vis S.sc nm2)
    (hfew2 : FewOk p4 e) (hline2 : (p3.endLine == p4.line) = true) (hs : ∀ env : Env, starEach [e] env = (false, eval e env) :: starEach [] env)
    (hsw : ∀ env : Env, env.scope = S.sc → swapsWith (.Call (.Attribute (.Name nm2 pos2) "pop" p3) [e] [] p4) (some (.Name nm pos')) pos.line env = pure false) (hf : S.fn nm = true ∨ S.sc.names.lookup nm = some .local)
    (hr : ∀ z, Pi z → ∃ (l : Nat) (y : α), z = (l : Int) ∧ xs[l]? = some y ∧ PHs S ((Γ.set j (.l c (xs.eraseIdx l))).set i (.d c y)) kr rest p)
    (hd2 : (nm2 == ("__debug__" : Str)) = false := by decide) (hcd2 : (nm2 == ("__classdict__" : Str)) = false := by decide) :
    PHs S Γ (k + kr) (.Assign [.Name nm pos'] (.Call (.Attribute (.Name nm2 pos2) "pop" p3) [e] [] p4) pos :: rest) p :=
  phs_cons (N1 := fun G => PHs S G kr rest p) (ph_of (ts := tAsg (tBM S.K "list" rPopAt (tVar j) (tCons (tE S e) tNil)) (gName i)) (fun X G => by
    rw [← G.K]
    exact ps_set (by rw [G.N]; exact G.nd) (by rw [G.N]; exact hN) (loc G hx) (pe_bm PySem.F.plainAttrs_list PySem.F.slot_list_pop PySem.F.type_list_pop mt_popAt (pe_slot G hN2 hv2 hd2 hcd2) (pa_cons (tE_ok G) pa_nil (hs _)) rfl (hfew2 _) hline2 (hs _) rfl) (hsw _ G.sc) (fnOr G hf))
    (hs_setPop hij h' nb (by unfold NoBx; rw [h']; trivial) hi lb' fun z hz => hr z hz)) fun Γ1 e => e
variable {α' β' γ' : Type} {ca : Cod α'} {cb : Cod β'} {cg : Cod γ'} {K : PySem.W.Frag} {pn : Pos}
theorem rc_len3 {x : α' × β' × γ'} : RC1 (rLenR K) (cT3 ca cb cg) x cInt (· = 3) := fun Hf H v e ⟨a, w1, w2, w3, h1, h2, _⟩ Q q => ⟨a, [w1, w2, w3], by rw [h1], .inr (SqT.of (e _ _ h2)), q 3 Hf H _ rfl rfl Fr.refl e⟩
theorem rc_len2 {x : α' × β'} : RC1 (rLenR K) (cT2 ca cb) x cInt (· = 2) := fun Hf H v e ⟨a, w1, w2, h1, h2, _⟩ Q q => ⟨a, [w1, w2], by rw [h1], .inr (SqT.of (e _ _ h2)), q 2 Hf H _ rfl rfl Fr.refl e⟩
theorem plen3 {x : α' × β' × γ'} (hg : S.sc.names.lookup ("len" : Str) = some .globalImplicit) (hm : S.mg "len" = none) (h : PD S Γ 0 e (cT3 ca cb cg) (· = x)) (he : ∀ env : Env, starEach [e] env = (false, eval e env) :: starEach [] env) : PD S Γ 0 (.Call (.Name "len" pn) [e] [] pos) cInt (· = 3) := pb1 lenG hg hm PySem.boot_len h rc_len3 he
theorem plen2 {x : α' × β'} (hg : S.sc.names.lookup ("len" : Str) = some .globalImplicit) (hm : S.mg "len" = none) (h : PD S Γ 0 e (cT2 ca cb) (· = x)) (he : ∀ env : Env, starEach [e] env = (false, eval e env) :: starEach [] env) : PD S Γ 0 (.Call (.Name "len" pn) [e] [] pos) cInt (· = 2) := pb1 lenG hg hm PySem.boot_len h rc_len2 he
/-! ### calls by arity -/
variable {cr : Cod ρ} {x1 : Str} {pn1 : List Str} {lv : Nat} {e1 e2 e3 : Expr}
theorem pcal1 {pre : α' → Prop} {g : α' → ρ} {x : α'} (F : Cal S.prog S.w S.K S.mg S.base x1 pn1 lv (spP (fun (a : α') => [.d ca a]) pre cr g)) (hl : lv ≤ S.lv) (hg : S.sc.names.lookup x1 = some .globalImplicit) (h1 : PD S Γ 0 e1 ca (· = x)) (hp : pre x)
    (he : ∀ env : Env, starEach [e1] env = (false, eval e1 env) :: starEach [] env) (hpl : ∀ env : Env, (backTo pos (starEach [] env)).any (·.1) = false) (hdb : (x1 == ("__debug__" : Str)) = false := by decide) : PD S Γ 0 (.Call (.Name x1 pn) [e1] [] pos) cr (· = g x) :=
  pcal F hl hg (pda_one h1 he) x 0 rfl hp he hpl hdb
theorem pcal2 {pre : α' × β' → Prop} {g : α' × β' → ρ} {x : α'} {y : β'} (F : Cal S.prog S.w S.K S.mg S.base x1 pn1 lv (spP (fun (a : α' × β') => [.d ca a.1, .d cb a.2]) pre cr g)) (hl : lv ≤ S.lv) (hg : S.sc.names.lookup x1 = some .globalImplicit) (h1 : PD S Γ 0 e1 ca (· = x)) (h2 : PD S Γ 0 e2 cb (· = y)) (hp : pre (x, y))
    (he : ∀ env : Env, starEach [e1, e2] env = (false, eval e1 env) :: starEach [e2] env) (he2 : ∀ env : Env, starEach [e2] env = (false, eval e2 env) :: starEach [] env) (hpl : ∀ env : Env, (backTo pos (starEach [e2] env)).any (·.1) = false) (hdb : (x1 == ("__debug__" : Str)) = false := by decide) : PD S Γ 0 (.Call (.Name x1 pn) [e1, e2] [] pos) cr (· = g (x, y)) :=
  pcal F hl hg (pda_more (k1 := 0) (k2 := 0) h1 (pda_one h2 he2) he) (x, y) 0 rfl hp he hpl hdb
theorem pcal3 {pre : α' × β' × γ' → Prop} {g : α' × β' × γ' → ρ} {x : α'} {y : β'} {z : γ'} (F : Cal S.prog S.w S.K S.mg S.base x1 pn1 lv (spP (fun (a : α' × β' × γ') => [.d ca a.1, .d cb a.2.1, .d cg a.2.2]) pre cr g)) (hl : lv ≤ S.lv) (hg : S.sc.names.lookup x1 = some .globalImplicit) (h1 : PD S Γ 0 e1 ca (· = x)) (h2 : PD S Γ 0 e2 cb (· = y)) (h3 : PD S Γ 0 e3 cg (· = z)) (hp : pre (x, y, z))
    (he : ∀ env : Env, starEach [e1, e2, e3] env = (false, eval e1 env) :: starEach [e2, e3] env) (he2 : ∀ env : Env, starEach [e2, e3] env = (false, eval e2 env) :: starEach [e3] env) (he3 : ∀ env : Env, starEach [e3] env = (false, eval e3 env) :: starEach [] env) (hpl : ∀ env : Env, (backTo pos (starEach [e2, e3] env)).any (·.1) = false) (hdb : (x1 == ("__debug__" : Str)) = false := by decide) :
    PD S Γ 0 (.Call (.Name x1 pn) [e1, e2, e3] [] pos) cr (· = g (x, y, z)) :=
  pcal F hl hg (pda_more (k1 := 0) (k2 := 0) h1 (pda_more (k1 := 0) (k2 := 0) h2 (pda_one h3 he3) he2) he) (x, y, z) 0 rfl hp he hpl hdb
end
end DL

set_option Elab.async false
set_option linter.all false
set_option maxRecDepth 100000
set_option maxHeartbeats 4000000
namespace DL
open PySem PySem.Spec L2
theorem ixN_at {n : Nat} {i : Int} (h : 0 ≤ i ∧ i < (n : Int)) : ixN n i = some i.toNat := by
  unfold ixN; rw [if_pos h.1, if_pos h.2]
theorem atI_at {α : Type} [Inhabited α] {xs : List α} {i : Int} (h : 0 ≤ i ∧ i < (xs.length : Int)) : atI xs i = some (xs.getD i.toNat default) := by
  unfold atI
  rw [ixN_at h]
  have hj : i.toNat < xs.length := by omega
  show xs[i.toNat]? = _
  rw [List.getD_eq_getElem?_getD, List.getElem?_eq_getElem hj]; rfl
section
variable {K : PySem.W.Frag} {α : Type} [Inhabited α] {c : Cod α} {xs : List α} {i : Int}
theorem rd_ixLd (h : 0 ≤ i ∧ i < (xs.length : Int)) : RD (rIxL K) (cList c) xs cInt i c (· = xs.getD i.toNat default) := rd_ixL ⟨_, atI_at h, rfl⟩
theorem rd_ixTd (h : 0 ≤ i ∧ i < (xs.length : Int)) : RD (rIxT K) (cTup c) xs cInt i c (· = xs.getD i.toNat default) := rd_ixT ⟨_, atI_at h, rfl⟩
end
section
variable {Γ : Ctxt} {α : Type} {c : Cod α} {te to : TE} {kvs : List (Int × α)} {i : Int}
theorem td_notinD (he : TD te Γ 0 cInt (· = i)) (ho : TD to Γ 0 (cDic c) (· = kvs)) : TD (tDNotIn te to) Γ 0 cBool (· = !(valD kvs i).isSome) := fun O n σ Hf H hn s Q q => he O n σ Hf H hn s _ fun v Hf1 H1 j p1 r1 f1 s1 => ho O n σ Hf1 H1 hn s1 _ fun v2 Hf2 H2 k2 p2 ⟨a, ks, h1, h2, h3, h4⟩ f2 s2 => by
    subst p1 p2
    obtain rfl := r1
    refine ⟨a, valV ks (Sum.inl j : Key), h1, DGet.k (k := Sum.inl j) (s2.ex _ _ h2), q _ Hf2 H2 _ ?_ rfl (f1.trans f2 fun _ z => .inl z) s2⟩
    rcases pdc_val h3 j with ⟨z1, z2⟩ | ⟨w, y, z1, z2, z3⟩
    · rw [z1, z2]; rfl
    · rw [z1, z2]; rfl
theorem td_inD (he : TD te Γ 0 cInt (· = i)) (ho : TD to Γ 0 (cDic c) (· = kvs)) : TD (tDIn te to) Γ 0 cBool (· = (valD kvs i).isSome) := fun O n σ Hf H hn s Q q => he O n σ Hf H hn s _ fun v Hf1 H1 j p1 r1 f1 s1 => ho O n σ Hf1 H1 hn s1 _ fun v2 Hf2 H2 k2 p2 ⟨a, ks, h1, h2, h3, h4⟩ f2 s2 => by
    subst p1 p2
    obtain rfl := r1
    refine ⟨a, valV ks (Sum.inl j : Key), h1, DGet.k (k := Sum.inl j) (s2.ex _ _ h2), q _ Hf2 H2 _ ?_ rfl (f1.trans f2 fun _ z => .inl z) s2⟩
    rcases pdc_val h3 j with ⟨z1, z2⟩ | ⟨w, y, z1, z2, z3⟩
    · rw [z1, z2]; rfl
    · rw [z1, z2]; rfl
variable {S : Stc} {e o : Expr} {pos : Pos}
theorem ttnotinD (he : PD S Γ 0 e cInt (· = i)) (ho : PD S Γ 0 o (cDic c) (· = kvs)) (hm : behindInMarks .NotIn o = false) : PDT S Γ 0 (.Compare e [.NotIn] [o] pos) (· = !(valD kvs i).isSome) :=
  pdt_of (fun X G => pt_cmp (pc_dnotin (by have := G.room.un; omega) (tE_ok G) (tE_ok G)) hm) (tt_B (td_notinD he ho))
theorem ttinD (he : PD S Γ 0 e cInt (· = i)) (ho : PD S Γ 0 o (cDic c) (· = kvs)) (hm : behindInMarks .In o = false) : PDT S Γ 0 (.Compare e [.In] [o] pos) (· = (valD kvs i).isSome) :=
  pdt_of (fun X G => pt_cmp (pc_din (by have := G.room.un; omega) (tE_ok G) (tE_ok G)) hm) (tt_B (td_inD he ho))
end
section
variable {S : Stc} {Γ Γ1 : Ctxt} {k k1 k2 k3 kr : Nat} {ρ : Type} {p : Po ρ} {e : Expr} {pos : Pos} {sts sts2 rest : List Stmt}
/-- if e: ..; rest — where both ways lead to one context -/
theorem bifS {b' : Bool → Prop} {N1 : Ctxt → Prop} (h : PDT S Γ k1 e b') (ha : b' true → PHs S Γ k2 sts { p with N := N1 }) (hb : b' false → PHs S Γ k3 sts2 { p with N := N1 }) (hr : ∀ Γ1, N1 Γ1 → PHs S Γ1 kr rest p) : PHs S Γ (k1 + max k2 k3 + kr) (.If e sts sts2 pos :: rest) p :=
  phs_cons (N1 := N1) (ph_if h ha hb) hr
end
end DL

set_option Elab.async false
set_option linter.all false
set_option maxRecDepth 100000
set_option maxHeartbeats 4000000
namespace DL
open PySem PySem.Spec L2
theorem rgV_paired {H : Hp} (a b : Int) : Paired (cInt.rep H) (rgV a b) (rangeL a (b - a).toNat) := by
  have : rgV a b = (rangeL a (b - a).toNat).map V.int := by unfold rgV rangeL; rw [List.map_map]; rfl
  rw [this]; exact paired_ints _
section
variable {S : Stc} {Γ : Ctxt} {k : Nat} {a b : Expr} {i j : Int} {pos pos' pn pn' : Pos}
theorem plrg1 (hg : S.sc.names.lookup ("list" : Str) = some .globalImplicit) (hm : S.mg "list" = none) (hg2 : S.sc.names.lookup ("range" : Str) = some .globalImplicit) (hm2 : S.mg "range" = none) (h : PD S Γ 0 a cInt (· = j)) (hj : j ≤ 1000000 ∧ 0 ≤ j)
    (hs : ∀ env : Env, starEach [a] env = (false, eval a env) :: starEach [] env) (hs2 : ∀ env : Env, starEach [.Call (.Name "range" pn) [a] [] pos] env = (false, eval (.Call (.Name "range" pn) [a] [] pos) env) :: starEach [] env) :
    PDF S Γ 0 (.Call (.Name "list" pn') [.Call (.Name "range" pn) [a] [] pos] [] pos') cInt (· = rangeL 0 j.toNat) :=
  pdf_of (te := tLstRg (tRg1 (tE S a))) (fun X G => pe_listRg G.calm (glb G hg) (by rw [G.mg]; exact hm) (prg_1 (glb G hg2) (by rw [G.mg]; exact hm2) (tE_ok G) (hs _)) (hs2 _)) fun O n σ Hf H hn s Q q => h O n σ Hf H hn s _ fun v Hf' H' y py r f s' => by
    subst py
    obtain rfl := r
    refine ⟨y, rfl, RgOk.of_le (by omega) (by omega) (by omega) (by omega), fun p hp => ?_⟩
    have pr : Paired (cInt.rep Hf') (rgV 0 y) (rangeL 0 y.toNat) := by have := rgV_paired (H := Hf') 0 y; rwa [Int.sub_zero] at this
    exact q p (rgV 0 y) Hf' (upd H' p (.lst (rgV 0 y))) _ rfl upd_same (s'.ex.back hp) (f.dom p hp) pr (by rw [rgV_length]; unfold LB; omega) (f.trans (Fr.newO (M := Bx Γ) hp) fun _ z => .inl z) (s'.grow0 (Fr.newO hp) (s'.ex.trans (Ex.new hp)))
theorem plrg2 (hg : S.sc.names.lookup ("list" : Str) = some .globalImplicit) (hm : S.mg "list" = none) (hg2 : S.sc.names.lookup ("range" : Str) = some .globalImplicit) (hm2 : S.mg "range" = none) (h : PD S Γ 0 a cInt (· = i)) (h' : PD S Γ 0 b cInt (· = j)) (hj : -1000000 ≤ i ∧ i ≤ 1000000 ∧ -1000000 ≤ j ∧ j ≤ 1000000 ∧ j - i ≤ 1000000)
    (hs : ∀ env : Env, starEach [a, b] env = (false, eval a env) :: starEach [b] env) (hs1 : ∀ env : Env, starEach [b] env = (false, eval b env) :: starEach [] env) (hs3 : ∀ env : Env, (backTo pos (starEach [b] env)).any (·.1) = false) (hs2 : ∀ env : Env, starEach [.Call (.Name "range" pn) [a, b] [] pos] env = (false, eval (.Call (.Name "range" pn) [a, b] [] pos) env) :: starEach [] env) :
    PDF S Γ 0 (.Call (.Name "list" pn') [.Call (.Name "range" pn) [a, b] [] pos] [] pos') cInt (· = rangeL i (j - i).toNat) :=
  pdf_of (te := tLstRg (tRg2 (tE S a) (tE S b))) (fun X G => pe_listRg G.calm (glb G hg) (by rw [G.mg]; exact hm) (prg_2 (glb G hg2) (by rw [G.mg]; exact hm2) (tE_ok G) (tE_ok G) (hs _) (hs1 _) (hs3 _)) (hs2 _)) fun O n σ Hf H hn s Q q => h O n σ Hf H hn s _ fun v Hf1 H1 y py r f1 s1 => h' O n σ Hf1 H1 hn s1 _ fun v2 Hf' H' z pz r2 f2 s' => by
    subst py pz
    obtain rfl := r
    obtain rfl := r2
    have f := f1.trans f2 fun _ z => .inl z
    refine ⟨y, z, rfl, rfl, ⟨by omega, by omega, by omega, by omega, by omega⟩, fun p hp => ?_⟩
    exact q p (rgV y z) Hf' (upd H' p (.lst (rgV y z))) _ rfl upd_same (s'.ex.back hp) (f.dom p hp) (rgV_paired y z) (by rw [rgV_length]; unfold LB; omega) (f.trans (Fr.newO (M := Bx Γ) hp) fun _ z => .inl z) (s'.grow0 (Fr.newO hp) (s'.ex.trans (Ex.new hp)))
end
end DL

set_option Elab.async false
set_option linter.all false
set_option maxRecDepth 100000
set_option maxHeartbeats 4000000
namespace DL
open PySem PySem.Spec L2
/-! ### own classes -/
structure Kls (K : PySem.W.Frag) (mg : Str → Option Value) (x : Str) (C : Addr) : Prop where
  cl : Cls K C
  own : OwnC K C
  mgC : mg x = some (.ref C)
  isC : PySem.W.kitOne K (.ref C) (.ref C) = some true
structure MDef (K : PySem.W.Frag) (C : Addr) (m qual : Str) (st : Stmt) : Prop where
  ex : ∃ f fd, Fun K m qual st f fd ∧ Meth K C m f
structure MCal (P : Program) (w : World) (K : PySem.W.Frag) (mg : Str → Option Value) (base : Heap) (C : Addr) (m : Str) (pn : List Str) (lv : Nat) (sp : Sp) : Prop where
  ex : ∃ f fd, FnOk P w K mg base CX0 lv f fd pn sp ∧ Meth K C m f ∧ Binds K fd pn []
/-- __init__ -/
structure ICal (P : Program) (w : World) (K : PySem.W.Frag) (mg : Str → Option Value) (base : Heap) (C : Addr) (pn : List Str) (lv : Nat) (sp : Sp) : Prop where
  ex : ∃ f fd, FnOk P w K mg base CX0 lv f fd pn sp ∧ Mk K C f ∧ Binds K fd pn []
abbrev BindsM (st : Stmt) (m qual : Str) (pn : List Str) : Prop := ∀ (kV doc pm : Value) (an : Option Addr) (cdv ct : Value) (us : List Value), us.length = pn.length → bindArgs (PySem.W.fnOf m qual (defArgs st) (defBody st) (defScope st) .none kV doc pm an cdv ct) ⟨us, []⟩ = pure (pn.zip us)
section
variable {P : Program} {w : World} {K : PySem.W.Frag} {mg : Str → Option Value} {base : Heap} {m qual : Str} {st : Stmt} {N pn : List Str} {lv : Nat} {C : Addr}
variable {A ρ : Type} {ps : Addr → A → Ctxt} {kf : A → Nat} {pre : A → Prop} {cr : Cod ρ} {PR : A → ρ → Prop}
theorem mcal_D (D : MDef K C m qual st) (hb : BindsM st m qual pn) (Sc : FnScope N pn (defScope st))
    (hl : ∀ b a, (ps b a).length = pn.length) (hN : pn.length ≤ N.length) (one : ∀ b a, OneB (ps b a))
    (body : ∀ b a, pre a → PHs ⟨N, defScope st, K, mg, P, w, base, lv, fun _ => true, false⟩ (entry N (ps b a)) (kf a) (defBody st) { N := fun _ => False, bk := fun _ => False, ct := fun _ => False, c := cr, R := PR a }) :
    MCal P w K mg base C m pn (lv + 1) (spD ps kf pre cr PR) := by
  obtain ⟨f, fd, F, hm⟩ := D.ex
  exact ⟨f, fd, fn_D F Sc hl hN one body, hm, F.binds hb⟩
theorem mcal_of {sp : Sp} (D : MDef K C m qual st) (hb : BindsM st m qual pn) (h : ∀ f fd, Fun K m qual st f fd → FnOk P w K mg base CX0 lv f fd pn sp) : MCal P w K mg base C m pn lv sp := by
  obtain ⟨f, fd, F, hm⟩ := D.ex
  exact ⟨f, fd, h f fd F, hm, F.binds hb⟩
end
section
variable {S : Stc} {Γ : Ctxt} {k k1 k2 : Nat} {A ρ α β ω : Type} {cr : Cod ρ} {c ca : Cod α} {cb : Cod β} {e e1 o : Expr} {es : List Expr} {pos pn apos : Pos} {C : Addr} {F : Hp → List (Str × V) → ω → Prop} {hm : ∀ {H H' fs y}, Ex H H' → F H fs y → F H' fs y} {x m : Str} {pn' : List Str} {lv : Nat}
/-- o.f -/
theorem pfld {f : Str} {y : ω → α} {z : ω} (h : PD S Γ k e (cIns C F hm) (· = z)) (hC : Cls S.K C) (hN : NoAttr S.K C f) (hf : ∀ H fs y0, F H fs y0 → ∃ v, fs.lookup f = some v ∧ c.rep H v (y y0)) (hb : ∀ env : Env, attributeBase e f env (eval e env) = eval e env) : PD S Γ k (.Attribute e f pos) c (· = y z) :=
  (pd_of (te := tFld S.K (tE S e) f) (fun X G => by rw [← G.K]; exact pe_fld (tE_ok G) (hb _)) (td_fld h hC hN hf)).imp fun x ⟨z', h1, h2⟩ => by subst h1; exact h2
/-- how the text of a method call without arguments, with one, is read -/
abbrev MTree0 (o : Expr) (m : Str) (apos pos : Pos) (pl : Env → Sem Bool) : Prop := ∀ env : Env, eval (.Call (.Attribute o m apos) [] [] pos) env = (do
      let ov ← eval o env
      standAt apos.atName
      let (f, first) ← holding [ov] (getMethod ov m (pl env))
      callWith pos f first (backTo pos (starEach [] env)) (backToKw pos (keywordEach [] env)))
abbrev MTree (o : Expr) (m : Str) (apos pos : Pos) (es : List Expr) (kws : List Keyword) (pl : Env → Sem Bool) : Prop := ∀ env : Env, eval (.Call (.Attribute o m apos) es kws pos) env = (do
      let ov ← eval o env
      standAt apos.atName
      let (f, first) ← holding [ov] (getMethod ov m (pl env))
      callWith pos f first (backTo pos (starEach es env)) (backToKw pos (keywordEach kws env)))
theorem pm0 {pre : ω → Prop} {g : ω → ρ} {y : ω} {pl : Env → Sem Bool} (M : MCal S.prog S.w S.K S.mg S.base C m pn' lv (spP (fun a => [.d (cIns C F hm) a]) pre cr g)) (hC : Cls S.K C) (hl : lv ≤ S.lv) (ho : PD S Γ 0 o (cIns C F hm) (· = y)) (hno : ∀ H fs y0, F H fs y0 → fs.lookup m = none) (hp : pre y) (ht : MTree0 o m apos pos pl) :
    PD S Γ 0 (.Call (.Attribute o m apos) [] [] pos) cr (· = g y) := by
  obtain ⟨f, fd, Fn, Mt, hb⟩ := M.ex
  exact pd_of (fun X G => pe_meth0 (pl := pl X.env) (tE_ok G) (by rw [G.K]; exact hC) (by rw [G.K]; exact Mt) (fnG Fn G) (G.room.mono hl) (by rw [G.K]; exact hb) .nil pass0 (ht _))
    (td_meth (k := 0) (k1 := 0) (k2 := 0) ho hno ta_nil fun y' as h1 h2 => ⟨y', 0, by subst h2; rfl, by subst h1; exact hp, Nat.le_refl _, fun x hx => by subst h1; exact hx⟩)
theorem pm1 {pre : ω × α → Prop} {g : ω × α → ρ} {y : ω} {z : α} {pl : Env → Sem Bool} (M : MCal S.prog S.w S.K S.mg S.base C m pn' lv (spP (fun (a : ω × α) => [.d (cIns C F hm) a.1, .d ca a.2]) pre cr g)) (hC : Cls S.K C) (hl : lv ≤ S.lv) (ho : PD S Γ 0 o (cIns C F hm) (· = y)) (he : PD S Γ 0 e ca (· = z)) (hno : ∀ H fs y0, F H fs y0 → fs.lookup m = none) (hp : pre (y, z))
    (hs : ∀ env : Env, starEach [e] env = (false, eval e env) :: starEach [] env) (hpl : ∀ env : Env, (backTo pos (starEach [] env)).any (·.1) = false) (ht : MTree o m apos pos [e] [] pl) : PD S Γ 0 (.Call (.Attribute o m apos) [e] [] pos) cr (· = g (y, z)) := by
  obtain ⟨f, fd, Fn, Mt, hb⟩ := M.ex
  exact pd_of (fun X G => pe_meth (pl := pl X.env) (tE_ok G) (by rw [G.K]; exact hC) (by rw [G.K]; exact Mt) (fnG Fn G) (G.room.mono hl) (by rw [G.K]; exact hb) .nil pass0 (tA_ok G) (hs _) (hpl _) (ht _))
    (td_meth (k := 0) (k1 := 0) (k2 := 0) ho hno (pda_one he hs) fun y' as h1 h2 => ⟨(y', z), 0, by subst h2; rfl, by subst h1; exact hp, Nat.le_refl _, fun x hx => by subst h1; exact hx⟩)
/-- C(e) -/
theorem pmake1 {pre : α → Prop} {Pi : α → ω → Prop} {h : α → ω} {z : α} (I : ICal S.prog S.w S.K S.mg S.base C pn' lv (spI C (fun a => [.d ca a]) pre F Pi)) (hl : lv + 1 ≤ S.lv) (hg : S.sc.names.lookup x = some .globalImplicit) (hmg : S.mg x = some (.ref C)) (he : PD S Γ 0 e ca (· = z)) (hp : pre z) (hh : ∀ y, Pi z y → y = h z)
    (hs : ∀ env : Env, starEach [e] env = (false, eval e env) :: starEach [] env) (hpl : ∀ env : Env, (backTo pos (starEach [] env)).any (·.1) = false) (hdb : (x == ("__debug__" : Str)) = false := by decide) : PD S Γ 0 (.Call (.Name x pn) [e] [] pos) (cIns C F hm) (· = h z) := by
  obtain ⟨f, fd, Fn, Mk1, hb⟩ := I.ex
  exact pd_of (fun X G => pe_make (by rw [G.K]; exact Mk1) (fnG Fn G) (G.room.mono hl) (glb G hg) (by rw [G.mg]; exact hmg) (by rw [G.K]; exact hb) .nil pass0 (tA_ok G) hdb (hs _) (hpl _))
    (td_make (k1 := 0) (pda_one he hs) fun as h1 => by subst h1; exact ⟨trivial, z, rfl, hp, fun y hy => hh y hy⟩)
/-- own ==, where both are the same -/
def REq (C : Addr) {ω : Type} (F : Hp → List (Str × V) → ω → Prop) : Addr → Addr → Hp → Prop := fun a b H => ∃ y dx dy fs gs, H a = some (.ins C dx fs) ∧ H b = some (.ins C dy gs) ∧ F H fs y ∧ F H gs y
theorem spEq_of {vs : List V} {H : Hp} {Q : VK} {E : XK} [DecidableEq ω] (hm : ∀ {H H' fs y}, Ex H H' → F H fs y → F H' fs y) (h : spEq (REq C F) vs H Q E) : spP (fun (a : ω × ω) => [.d (cIns C F hm) a.1, .d (cIns C F hm) a.2]) (fun _ => True) cBool (fun a => decide (a.1 = a.2)) vs H Q E := by
  obtain ⟨a, b, rfl, ⟨y, dx, dy, fs, gs, h1, h2, h3, h4⟩, q⟩ := h
  refine ⟨(y, y), 0, 0, H, trivial, Nat.zero_le _, Ex.rfl', ⟨⟨a, dx, fs, rfl, h1, h3⟩, ⟨b, dy, gs, rfl, h2, h4⟩, trivial⟩, fun z hz => by simp at hz, fun v Hf' H' x px r f _ _ => ?_⟩
  have : x = true := px.trans (decide_eq_true rfl)
  subst this
  obtain rfl := r
  exact q H' fun a o e => f.keep a o e (by simp)
/-- what the own == of a class needs -/
structure EqK (P : Program) (w : World) (K : PySem.W.Frag) (mg : Str → Option Value) (base : Heap) (C : Addr) (lv : Nat) {ω : Type} (F : Hp → List (Str × V) → ω → Prop) : Prop where
  ex : ∃ f fd pn, FnOk P w K mg base CX0 lv f fd pn (spEq (REq C F)) ∧ PySem.W.findIn K (.ref C) "__eq__" = some (some (.ref f)) ∧ PySem.W.isFn K (.ref f) = true ∧ Binds K fd pn []
theorem rd_eqOwn {y : ω} : RD (rEqG (DIns C (REq C F))) (cIns C F hm) y (cIns C F hm) y cBool (· = true) := fun Hf H v u e ⟨a, dx, fs, h1, h2, h3⟩ ⟨b, dy, gs, g1, g2, g3⟩ Q q => by
  subst h1 g1
  refine ⟨⟨a, b, dx, dy, fs, gs, rfl, rfl, e _ _ h2, e _ _ g2, y, dx, dy, fs, gs, e _ _ h2, e _ _ g2, hm e h3, hm e g3⟩, fun H' ex => q true Hf H' _ rfl rfl ⟨Ex.rfl', fun a o z _ => ex a o z, fun _ _ _ _ z => z, fun a z => ?_⟩ (e.trans ex)⟩
  cases w : H a with
  | none => rfl
  | some o => rw [ex a o w] at z; cases z
theorem eqOwnG (E : EqK S.prog S.w S.K S.mg S.base C lv F) (hl : lv ≤ S.lv) : ∀ X, Good S X → OpR X (compareOp .Eq) (rEqG (DIns C (REq C F))) := fun X G => by
  obtain ⟨f, fd, pn, Fn, h1, h2, h3⟩ := E.ex
  exact op_eqG (rcG_ins (fnG Fn G) (by rw [G.K]; exact h1) (by rw [G.K]; exact h2) (by rw [G.K]; exact h3) pass0) (G.room.mono hl)
/-- a == b, both the same -/
theorem peqOwn {a b : Expr} {y : ω} (E : EqK S.prog S.w S.K S.mg S.base C lv F) (hl : lv ≤ S.lv) (ha : PD S Γ 0 a (cIns C F hm) (· = y)) (hb : PD S Γ 0 b (cIns C F hm) (· = y)) (hmk : behindInMarks .Eq b = false) : PD S Γ 0 (.Compare a [.Eq] [b] pos) cBool (· = true) :=
  pcmp (eqOwnG E hl) ha hb rd_eqOwn hmk
theorem teqOwn {a b : Expr} {y : ω} (E : EqK S.prog S.w S.K S.mg S.base C lv F) (hl : lv ≤ S.lv) (ha : PD S Γ 0 a (cIns C F hm) (· = y)) (hb : PD S Γ 0 b (cIns C F hm) (· = y)) (hmk : behindInMarks .Eq b = false) : PDT S Γ 0 (.Compare a [.Eq] [b] pos) (· = true) :=
  tcmp (eqOwnG E hl) ha hb rd_eqOwn hmk
end
end DL

set_option Elab.async false
set_option linter.all false
set_option maxRecDepth 100000
set_option maxHeartbeats 4000000
namespace DL
open PySem PySem.Spec L2
section
variable {P : Program} {w : World} {K : PySem.W.Frag} {mg : Str → Option Value} {base : Heap} {m qual : Str} {st : Stmt} {N pn : List Str} {lv : Nat} {C : Addr} {ω A α β ρ : Type} {F : Hp → List (Str × V) → ω → Prop}
theorem map_un {ps : Ctxt} {b : Addr} (h : NoB ps) : ∀ z, ¬ Sl.bx z ∈ ps := fun z hz => by
  obtain ⟨i, hi⟩ := List.getElem?_of_mem hz
  exact noB_at h hi
theorem noB_one : ∀ {l : Ctxt}, NoB l → OneB l
  | [], _ => trivial
  | .bx z :: r, h => h.elim
  | .un :: r, h => noB_one (l := r) h
  | .d c x :: r, h => noB_one (l := r) h
  | .l c x :: r, h => noB_one (l := r) h
  | .r p :: r, h => noB_one (l := r) h
/-- __init__ of one attribute: first some statements that may leave, then self.f = e -/
theorem init1 {psi : A → Ctxt} {pre : A → Prop} {fn : Str} {g : A → α} {cv : Cod α} {h : A → ω} {s0 : Stmt} {ev : Expr} {p1 p2 p3 : Pos} {f : Addr} {fd : FuncData} (Fu : Fun K m qual st f fd) (Sc : FnScope N pn (defScope st)) (hbody : defBody st = [s0, .Assign [.Attribute (.Name "self" p1) fn p2] ev p3])
    (hN0 : N[0]? = some ("self" : Str)) (hv0 : Vis (defScope st) ("self" : Str)) (hl : ∀ a, (psi a).length + 1 = pn.length) (hN : pn.length ≤ N.length) (nb : ∀ a, NoB (psi a)) (hC : Cls K C) (hNo : NoAttr K C fn) (hF : ∀ H y a, pre a → cv.rep H y (g a) → F H [(fn, y)] (h a))
    (hs : ∀ env : Env, swapsWith ev (some (.Attribute (.Name "self" p1) fn p2)) p3.line env = pure false)
    (h0 : ∀ (x : Addr) (a : A), pre a → PH (ρ := Unit) ⟨N, defScope st, K, mg, P, w, base, lv, fun _ => true, false⟩ (entry N (.d cV (.ref x) :: psi a)) 0 s0 { N := fun G => G = entry N (.d cV (.ref x) :: psi a), bk := fun _ => False, ct := fun _ => False, c := cNon, R := fun _ => False })
    (h1 : ∀ (x : Addr) (a : A), pre a → PD ⟨N, defScope st, K, mg, P, w, base, lv, fun _ => true, false⟩ (entry N (.d cV (.ref x) :: psi a)) 0 ev cv (· = g a)) :
    FnOk P w K mg base CX0 (lv + 1) f fd pn (spI C psi pre F (fun a y => y = h a)) := by
  refine Fu.ok Sc (fun vs H Q E h => ?_) (fun cdv Ar outer s H vs Q E hr hsp => ?_)
  · obtain ⟨a, x, dx, ws, Hf, _, rfl, _, _, _, o, _⟩ := h
    rw [List.length_cons, argsOk_len o]; exact hl a
  · obtain ⟨a, x, dx, ws, Hf, hp, rfl, hx, hfx, ex, o, q⟩ := hsp
    have G := cxG (P := P) (w := w) (K := K) (mg := mg) (base := base) (qual := qual) (st := st) (f := f) (cdv := cdv) (A := Ar) (outer := outer) (s := s) (H := H) (E := E) (lv := lv) hr Sc.nd
    rw [hbody]
    refine ⟨_, pss_cons (tS1_ok G) (pss_one (ps_fld (pe_slot G hN0 hv0 (by decide) (by decide)) (tE_ok G) (hs _))), ?_⟩
    have o1 : ArgsOk Hf (.ref x :: ws) (.d cV (.ref x) :: psi a) := ⟨rfl, o⟩
    have S0 : Sat ⟨fun z => Sl.bx z ∈ (.d cV (.ref x) :: psi a : Ctxt), Hf, H⟩ Hf H (start N (.ref x :: ws)) (entry N (.d cV (.ref x) :: psi a)) 0 :=
      sat_entry (by rw [List.length_cons, hl a]; exact hN) o1 (by
        show OneB (psi a)
        exact noB_one (nb a)) ex fun z hz => by
          rcases List.mem_cons.mp hz with e | e
          · cases e
          · exact absurd e (map_un (b := 0) (nb a) z)
    have noM : ∀ z, ¬ Sl.bx z ∈ (.d cV (.ref x) :: psi a : Ctxt) := fun z hz => by
      rcases List.mem_cons.mp hz with e | e
      · cases e
      · exact map_un (b := 0) (nb a) z e
    refine h0 x a hp _ 0 _ Hf H (Nat.zero_le _) S0 _ (fun σ1 Hf1 H1 Γ1 eΓ f1 => ?_) (fun _ _ _ _ z _ => z.elim) (fun _ _ _ _ z _ => z.elim) fun _ _ _ _ _ _ z _ _ => z.elim
    subst eΓ
    refine h1 x a hp _ 0 σ1 Hf1 H1 (Nat.zero_le _) f1.sat _ fun y Hf2 H2 z pz rz f2 S2 => ?_
    subst pz
    have e0 : (entry N (.d cV (.ref x) :: psi a))[0]? = some (Sl.d cV (.ref x)) := rfl
    obtain ⟨v0, hv, hr0⟩ := S2.at_ 0 _ e0
    obtain rfl : v0 = .ref x := hr0
    refine ⟨.ref x, hv, x, C, dx, [], rfl, S2.fr.keep x _ hx (noM x), hC, hNo, by decide, ?_⟩
    have fx2 : Hf2 x = none := S2.fr.fz x _ hx (noM x) hfx
    refine q Hf2 _ [(fn, y)] (h a) rfl upd_same fx2 (hF Hf2 y a hp rz) ⟨S2.fr.ex, fun b u e ne => ?_, fun b u e ne z => S2.fr.fz b u e (noM b) z, fun b e => ?_⟩ (S2.ex.mut fx2)
    · rw [upd_ne ne]; exact S2.fr.keep b u e (noM b)
    · by_cases z : b = x
      · subst z; rw [upd_same] at e; cases e
      · rw [upd_ne z] at e; exact S2.fr.dom b e
end
end DL

set_option Elab.async false
set_option linter.all false
set_option maxRecDepth 100000
set_option maxHeartbeats 4000000
namespace DL
open PySem PySem.Spec L2
/-! ### x.m(..): the thing first, then its method, then the arguments -/
abbrev getDot (env : Env) (o : Expr) (m : PySem.Str) (q : Pos) (pl : Sem Bool) (k : Value → List Value → Sem Value) : Sem Value := do
  let whose ← eval o env
  standAt q.atName
  let (g, fx) ← holding [whose] (getMethod whose m pl)
  k g fx
/-- what is known of the thing, where it is an instance with that method -/
def AtIns (C : Addr) (m : PySem.Str) (R : VK) : VK := fun x H => ∃ a dx fs, x = .ref a ∧ H a = some (.ins C dx fs) ∧ fs.lookup m = none ∧ R x H
theorem dot_ins {X : Cx} {o : Expr} {m : PySem.Str} {apos pos : Pos} {args : List Expr} {kws : List Keyword} {pl : Sem Bool} {C f : Addr} {ta : TE} {pins : List (Addr × Obj)} {σ : Stt} {H : Hp} {s : Shared} {Q : Value → Shared → Prop} {R : VK}
    (he : PE X o ta) (c : Cls X.K C) (hm : Meth X.K C m f) (ht : eval (.Call (.Attribute o m apos) args kws pos) X.env = getDot X.env o m apos pl fun g fx => callWith pos g fx (backTo pos (starEach args X.env)) (backToKw pos (keywordEach kws X.env)))
    (I : Inv X pins σ H s) (h : ta σ H (AtIns C m R)) (go : ∀ a H1 s1, Inv X pins σ H1 s1 → R (.ref a) H1 → wpAny (model X.prog X.w) X.A (callWith pos (.ref f) [.ref a] (backTo pos (starEach args X.env)) (backToKw pos (keywordEach kws X.env))) Q X.xe s1) :
    wpAny (model X.prog X.w) X.A (eval (.Call (.Attribute o m apos) args kws pos) X.env) Q X.xe s := by
  apply PySem.W.methodCall_KW (pl := pl) (he := ht)
  refine thn (he.run pins s σ H _ I h) ?_
  rintro u s1 ⟨_, H1, I1, r, a, dx, fs, rfl, at_, free, q⟩
  rw [show u = Value.ref a from r]
  exact getmeth_ok I1 at_ c hm free (go a H1 s1 I1 q)
/-! ### B.__init__(self, ..), B an own class of exceptions without own __init__ -/
structure BaseI (K : PySem.W.Frag) (mg : Str → Option Value) (x : Str) (B : Addr) : Prop where
  mgB : mg x = some (.ref B)
  sp : PySem.W.specialIn K (.ref B) "__getattribute__" = some (some (.builtin "type.__getattribute__"))
  rd : PySem.W.readsIn K B (.type "type") = true
  ini : PySem.W.findCls K (.ref B) (.type "type") "__init__" = some (.val (.builtin "ValueError.__init__"))
section
variable {X : Cx} {x : Str} {B : Addr} {e : Expr} {es : List Expr} {ta : TA} {p p1 p2 pos : Pos}
theorem pe_oinit {pl : Sem Bool} (hg : Gl X x) (b : BaseI X.K X.mg x B) (ha : PA X (e :: es) ta) (hd : (x == ("__debug__" : Str)) = false)
    (hc : eval (.Call (.Attribute (.Name x p1) "__init__" p2) (e :: es) [] pos) X.env = getDot X.env (.Name x p1) "__init__" p2 pl fun g fx => callWith pos g fx (backTo pos (starEach (e :: es) X.env)) (backToKw pos (keywordEach [] X.env)))
    (he : starEach (e :: es) X.env = (false, eval e X.env) :: starEach es X.env) (hpl : (backTo pos (starEach es X.env)).any (·.1) = false) :
    PE X (.Call (.Attribute (.Name x p1) "__init__" p2) (e :: es) [] pos) (tVeI X.K ta) := by
  constructor
  intro pins s σ H Q I h
  apply PySem.W.methodCall_KW (ld_glob I hg b.mgB ?_ hd) hc
  refine PySem.W.method_cls I.kIn b.sp (PySem.W.cls_value I.kIn b.rd b.ini (by decide +kernel) ?_)
  refine PyProof.Rows.callWith_method1 (thn (ha.run pos pins _ σ H _ (I.tok _) h) ?_) he hpl
  rintro us s1 ⟨_, H1, I1, r, a, C, ws, rfl, few, T, at_, q⟩
  match us, r with
  | u :: more, .cons r0 rest =>
    rw [show u = Value.ref a from r0]
    have n : more.length ≤ sizeLine := Nat.le_trans (by rw [← Paired.length rest]; exact few) (by rw [sizeLine_eq]; omega)
    exact oinit_ok T I1 at_ n fun s2 I2 => ⟨.non, H1, I2, rfl, q⟩
end
/-! ### o.m(k = v) -/
def tMethK (C : Addr) (m : Str) (sp : Sp) (gV : List V → List V → List V) (E : XK) (ta : TE) (tk : TA) : TE := fun σ H Q => ta σ H fun x H1 => ∃ a dx fs, x = .ref a ∧ H1 a = some (.ins C dx fs) ∧ fs.lookup m = none ∧
  tk σ H1 fun zs H2 => sp (gV [x] zs) H2 Q E
section
variable {X : Cx} {CX : CXT} {k : Nat} {f C : Addr} {fd : FuncData} {ps ks : List Str} {sp : Sp} {E : XK} {m : Str} {pos apos : Pos} {o : Expr} {kws : List Keyword} {ta : TE} {tk : TA} {g : List Value → List Value → List Value} {gV : List V → List V → List V}
theorem pe_methK {pl : Sem Bool} (he : PE X o ta) (c : Cls X.K C) (hm : Meth X.K C m f) (F : FnOk X.prog X.w X.K X.mg X.base CX k f fd ps sp) (hr : Room k X.A) (hb : KBinds X.K fd ps ks g gV) (hx : Passes CX X E) (hkw : PK X kws tk)
    (hall : (backToKw pos (keywordEach kws X.env)).all (·.1.isSome) = true) (hks : (backToKw pos (keywordEach kws X.env)).filterMap (·.1) = ks)
    (hpl : ((backTo pos (starEach [] X.env)).any (·.1) || (backToKw pos (keywordEach kws X.env)).any (·.1.isNone)) = false)
    (ht : eval (.Call (.Attribute o m apos) [] kws pos) X.env = getDot X.env o m apos pl fun g fx => callWith pos g fx (backTo pos (starEach [] X.env)) (backToKw pos (keywordEach kws X.env))) :
    PE X (.Call (.Attribute o m apos) [] kws pos) (tMethK C m sp gV E ta tk) := by
  constructor
  intro pins s σ H Q I h
  refine dot_ins (R := fun x H1 => tk σ H1 fun zs H2 => sp (gV [x] zs) H2 Q E) he c hm ht I h fun a H1 s1 I1 q => PySem.W.callWith_KW0 (h₀ := X.base) I.ok.mod.kin hm.kp hall ?_ hpl
  apply thn (hkw.run pos pins s1 σ H1 _ I1 q)
  rintro ws s2 ⟨zs, H2, I2, rz, q2⟩
  refine ⟨I2.kIn, ?_⟩
  rw [hks]
  exact run_fnk (us := [.ref a]) (vs := [.ref a]) F hr hb hx I2 (.cons rfl .nil) rz q2
end
/-- self and one keyword -/
def g2 {α : Type} : List α → List α → List α
  | [a], [b] => [a, b]
  | _, _ => []
theorem kb2 {K : PySem.W.Frag} {fd : FuncData} {p1 p2 : Str} (h : ∀ a b : Value, bindArgs fd ⟨[a], [p2].zip [b]⟩ = pure ([p1, p2].zip [a, b])) : KBinds K fd [p1, p2] [p2] g2 g2 where
  to := fun s us ws _ hl => by
    match us, ws, hl with
    | [a], [b], _ => exact .of_eq (h a b)
    | [], _, hl => cases hl
    | _ :: _ :: _, [], hl => cases hl
    | _ :: _ :: _, _ :: _, hl => cases hl
    | [_], [], hl => cases hl
    | [_], _ :: _ :: _, hl => cases hl
  rel := fun {vs us zs ws} h1 h2 => by
    cases h1 with
    | nil => exact .nil
    | cons r t =>
      cases t with
      | nil =>
        cases h2 with
        | nil => exact .nil
        | cons r2 t2 => cases t2 with
          | nil => exact .cons r (.cons r2 .nil)
          | cons _ _ => exact .nil
      | cons _ _ => exact .nil
end DL

set_option Elab.async false
set_option linter.all false
set_option maxRecDepth 100000
set_option maxHeartbeats 4000000
namespace DL
open PySem PySem.Spec L2
theorem ps_nox {X : Cx} {st : Stmt} {t : TS} (h : PS X.nox st t) : PS X st t := ⟨fun pins s σ H D I hw =>
  wpAny_mono (h.run pins s σ H D (I.wish _) hw) (fun _ _ q => q.unwish) fun _ _ z => False.elim z⟩
theorem pa_nox {X : Cx} {es : List Expr} {t : TA} (h : PA X.nox es t) : PA X es t := ⟨fun pos pins s σ H Q I hw =>
  wpAny_mono (h.run pos pins s σ H Q (I.wish _) hw) (fun _ _ ⟨v, H', I', r, q⟩ => ⟨v, H', I'.unwish, r, q⟩) fun _ _ z => False.elim z⟩
theorem cxGX {CX : CXT} {P : Program} {w : World} {K : PySem.W.Frag} {mg : Str → Option Value} {base : Heap} {N : List Str} {qual : Str} {st : Stmt} {f : Addr} {cdv : Value} {A : Around} {outer : List Env} {s : Shared} {H : Hp} {E : XK} {lv : Nat} (hr : Room lv (A.deeper (PyProof.Rows.envOfC qual (defScope st) s.heap.objs.size f cdv))) (nd : N.Nodup) :
    Good ⟨N, defScope st, K, mg, P, w, base, lv, fun _ => true, false⟩ (cxOf CX P w K mg base N qual (defScope st) f cdv A outer s H E).nox := ⟨rfl, rfl, rfl, rfl, rfl, rfl, rfl, rfl, hr, rfl, rfl, nd, fun h => nomatch h⟩
section
variable {S : Stc} {Γ : Ctxt} {k : Nat} {β ρ : Type} {c' : Cod β} {p : Po ρ} {pos : Pos}
/-- x = [..], x a plain local: as a list of one's own -/
theorem ph_setLcL {i : Nat} {y : Str} {py spos : Pos} {elt tg iter : Expr} {ifs : List Expr} {scope : Scope} (own : List (Str × Nat)) {R : List β → Prop} (h : TDF (lcRd S tg iter ifs elt scope own) Γ k c' R) (nb : NoBx Γ i) (hp : ∀ y, R y → p.N (Γ.set i (.l c' y))) (hi : S.N[i]? = some y) (hyl : S.sc.names.lookup y = some .local) (hl : (py.line == pos.line) = true) (hk : S.sc.kind = .function)
    (ha : (scope.names.any fun (n, k) => n == y && (k == .local || k == .cell)) = false) (ok : blkC S.N S.sc scope own = true) (hs : ∀ (env : Env) x, foldedSetIterable iter env x = pure x) : PH S Γ k (.Assign [.Name y py] (.ListComp elt [⟨tg, iter, ifs, 0⟩] scope pos) spos) p :=
  ph_of (fun X G => ps_lcR G hi hyl hl hk ha ok hs) (hs_setL h nb hp)
end
end DL

set_option Elab.async false
set_option linter.all false
set_option maxRecDepth 100000
set_option maxHeartbeats 4000000
namespace DL
open PySem PySem.Spec L2
/-! ### a list of two unlike things -/
def cL2 {α β : Type} (c : Cod α) (d : Cod β) : Cod (α × β) := ⟨fun H v x => ∃ a u w, v = .ref a ∧ H a = some (.lst [u, w]) ∧ c.rep H u x.1 ∧ d.rep H w x.2,
  fun e ⟨a, u, w, h1, h2, h3, h4⟩ => ⟨a, u, w, h1, e _ _ h2, c.mono e h3, d.mono e h4⟩⟩
/-- one text -/
def cS1 (t : Str) : Cod Unit := ⟨fun _ v _ => v = .str t, fun _ h => h⟩
def eS1 (t : Str) (h : (PyData.str t).canLay0 = true) : EqC (cS1 t) := ⟨fun _ => .str t, 1, fun _ _ _ _ h => by obtain rfl := h; exact .str _, fun _ => h, fun _ => by simp [PyData.depth], fun x y => by simp [PyData.eqv]⟩
theorem pd_S1 {S : Stc} {Γ : Ctxt} {t : Str} {j : Nat} {pos : Pos} : PD S Γ 0 (.Constant (.str t) j pos) (cS1 t) (· = ()) := pd_of (fun X G => pe_str) (td_c fun _ => rfl)
theorem rd_eqS1 {s t : Str} : RD rEq (cS1 s) () (cS1 t) () cBool (· = decide (s = t)) := fun Hf H v u e h1 h2 Q q => by
  obtain rfl := h1; obtain rfl := h2
  exact ⟨rfl, q _ Hf H _ rfl (by show V.bl _ = V.bl _; congr 1; exact decide_eq_decide.mpr ⟨fun h => V.str.inj h, fun h => by rw [h]⟩) Fr.refl e⟩
theorem rd_neS1 {s t : Str} : RD rNe (cS1 s) () (cS1 t) () cBool (· = !decide (s = t)) := fun Hf H v u e h1 h2 Q q => by
  obtain rfl := h1; obtain rfl := h2
  exact ⟨rfl, q _ Hf H _ rfl (by show V.bl _ = V.bl _; congr 2; exact decide_eq_decide.mpr ⟨fun h => V.str.inj h, fun h => by rw [h]⟩) Fr.refl e⟩
def eL2 {α β : Type} [DecidableEq α] [DecidableEq β] {c : Cod α} {d : Cod β} (e : EqC c) (f : EqC d) : EqC (cL2 c d) := ⟨fun x => .list [e.D x.1, f.D x.2], max e.n f.n + 1, fun K H v x ⟨a, u, w, h1, h2, h3, h4⟩ => by
    subst h1; exact .lst (SqL.of h2) (.cons (e.dp K H _ _ h3) (.cons (f.dp K H _ _ h4) .nil)),
  fun x => by simp [PyData.canLay0, PyData.canLayAll0, e.lay, f.lay], fun x => by
    have h1 := e.dep x.1; have h2 := f.dep x.2
    simp only [PyData.depth, PyData.depthAll]; omega, fun x y => by
    simp only [PyData.eqv, PyData.eqvAll, e.eqv, f.eqv]
    obtain ⟨x1, x2⟩ := x; obtain ⟨y1, y2⟩ := y
    by_cases e1 : x1 = y1 <;> by_cases e2 : x2 = y2 <;> simp [e1, e2]⟩
section
variable {Γ : Ctxt} {k1 k2 : Nat} {α β : Type} {c1 : Cod α} {c2 : Cod β} {P1 : α → Prop} {P2 : β → Prop} {ta tb : TE} {x : α} {y : β}
theorem td_lst2 (ha : TD ta Γ k1 c1 P1) (hb : TD tb Γ k2 c2 P2) : TD (tLst (tCons ta (tCons tb tNil))) Γ (k1 + k2) (cL2 c1 c2) (fun z => P1 z.1 ∧ P2 z.2) := fun O n σ Hf H hn S Q q =>
  ha O n σ Hf H (by omega) S _ fun v Hf1 H1 x p1 r1 f1 S1 => hb O (n + k1) σ Hf1 H1 (by omega) S1 _ fun u Hf2 H2 y p2 r2 f2 S2 =>
    ⟨by show 2 ≤ sizeLine; decide, fun p hp => q _ (upd Hf2 p (.lst [v, u])) _ (x, y) ⟨p1, p2⟩
      ⟨p, v, u, rfl, upd_same, c1.mono (f2.ex.trans (Ex.new (S2.ex.back hp))) r1, c2.mono (Ex.new (S2.ex.back hp)) r2⟩
      ((f1.trans f2 fun _ h => .inl h).trans (Fr.new (M := Bx Γ) S2.ex hp) fun _ z => .inl z) (by rw [← Nat.add_assoc]; exact S2.new hp)⟩
variable {S : Stc} {a b e : Expr} {pos : Pos}
theorem plst2 (ha : PD S Γ 0 a c1 (· = x)) (hb : PD S Γ 0 b c2 (· = y)) (hs : ∀ env : Env, starEach [a, b] env = (false, eval a env) :: starEach [b] env) (hs2 : ∀ env : Env, starEach [b] env = (false, eval b env) :: starEach [] env) : PD S Γ 0 (.List [a, b] pos) (cL2 c1 c2) (· = (x, y)) :=
  (pd_of (fun X G => pe_lst (pa_cons (tE_ok G) (pa_cons (tE_ok G) pa_nil (hs2 _)) (hs _))) (td_lst2 (k1 := 0) (k2 := 0) ha hb)).imp fun z ⟨h1, h2⟩ => by cases z; subst h1 h2; rfl
theorem rd_ixL2_0 {K : PySem.W.Frag} {x : α × β} : RD (rIxL K) (cL2 c1 c2) x cInt 0 c1 (· = x.1) := fun Hf H v u e ⟨a, w1, w2, h1, h2, h3, h4⟩ h6 Q k => by
  obtain rfl := h6
  exact ⟨a, [w1, w2], 0, w1, h1, rfl, SqL.of (e _ _ h2), rfl, k _ Hf H _ rfl h3 Fr.refl e⟩
theorem rd_ixL2_1 {K : PySem.W.Frag} {x : α × β} : RD (rIxL K) (cL2 c1 c2) x cInt 1 c2 (· = x.2) := fun Hf H v u e ⟨a, w1, w2, h1, h2, h3, h4⟩ h6 Q k => by
  obtain rfl := h6
  exact ⟨a, [w1, w2], 1, w2, h1, rfl, SqL.of (e _ _ h2), rfl, k _ Hf H _ rfl h4 Fr.refl e⟩
end
/-! ### try that runs through -/
theorem Good.nx {S : Stc} {X : Cx} (G : Good S X) : Good S X.nox := ⟨G.N, G.sc, G.K, G.mg, G.prog, G.w, G.base, G.calm, G.room, G.fn, rfl, G.nd, G.gd⟩
theorem ph_try_thru {S : Stc} {Γ : Ctxt} {k : Nat} {ρ : Type} {p : Po ρ} {body : List Stmt} {h₀ : ExceptHandler} {hs : List ExceptHandler} {pos : Pos} (h : PHs S Γ k body p) : PH S Γ k (.Try body (h₀ :: hs) [] [] pos) p :=
  ph_of (fun X G => ps_try_thru0 (tSs_ok G.nx)) h
/-! ### methods with a keyword -/
structure MCalK (P : Program) (w : World) (K : PySem.W.Frag) (mg : Str → Option Value) (base : Heap) (C : Addr) (m : Str) (pn ks : List Str) (lv : Nat) (sp : Sp) : Prop where
  ex : ∃ f fd, FnOk P w K mg base CX0 lv f fd pn sp ∧ Meth K C m f ∧ KBinds K fd pn ks g2 g2
section
variable {S : Stc} {Γ : Ctxt} {α ω ρ : Type} {cr : Cod ρ} {ca : Cod α} {e o : Expr} {pos apos kpos : Pos} {C : Addr} {F : Hp → List (Str × V) → ω → Prop} {hm : ∀ {H H' fs y}, Ex H H' → F H fs y → F H' fs y} {m kn : Str} {pn' : List Str} {lv : Nat}
theorem td_methK {te ti : TE} {g : ω × α → ρ} {pre : ω × α → Prop} {y : ω} {z : α} {E : XK} (ho : TD te Γ 0 (cIns C F hm) (· = y)) (hno : ∀ H fs y0, F H fs y0 → fs.lookup m = none) (he : TD ti Γ 0 ca (· = z)) (hp : pre (y, z)) :
    TD (tMethK C m (spP (fun (a : ω × α) => [.d (cIns C F hm) a.1, .d ca a.2]) pre cr g) g2 E te (tCons ti tNil)) Γ 0 cr (· = g (y, z)) := fun O n σ Hf H hn s Q q =>
  ho O n σ Hf H hn s _ fun v Hf1 H1 y' py r1 f1 s1 => by
    subst py
    obtain ⟨a, dx, fs, e1, e2, e3⟩ := id r1
    refine ⟨a, dx, fs, e1, s1.ex _ _ e2, hno _ _ _ e3, ?_⟩
    refine he O n σ Hf1 H1 hn s1 _ fun u Hf2 H2 z' pz r2 f2 s2 => ?_
    subst pz
    refine ⟨(y', z'), 0, n, Hf2, hp, hn, s2.ex, ⟨(cIns C F hm).mono f2.ex r1, r2, trivial⟩, fun w hw => by simp at hw, fun w Hf3 H3 x px r f3 ex3 _ => ?_⟩
    have f3' : Fr (fun _ => False) Hf2 H2 Hf3 H3 := f3.mono fun w hw => by simp at hw
    exact q w Hf3 H3 x px r ((f1.trans f2 fun _ z => .inl z).trans f3' fun _ z => z.elim) (s2.grow0 f3' ex3)
theorem pm1k {pre : ω × α → Prop} {g : ω × α → ρ} {y : ω} {z : α} {pl : Env → Sem Bool} (M : MCalK S.prog S.w S.K S.mg S.base C m pn' [kn] lv (spP (fun (a : ω × α) => [.d (cIns C F hm) a.1, .d ca a.2]) pre cr g)) (hC : Cls S.K C) (hl : lv ≤ S.lv) (ho : PD S Γ 0 o (cIns C F hm) (· = y)) (he : PD S Γ 0 e ca (· = z)) (hno : ∀ H fs y0, F H fs y0 → fs.lookup m = none) (hp : pre (y, z))
    (hall : ∀ env : Env, (backToKw pos (keywordEach [⟨some kn, e, kpos⟩] env)).all (·.1.isSome) = true) (hks : ∀ env : Env, (backToKw pos (keywordEach [⟨some kn, e, kpos⟩] env)).filterMap (·.1) = [kn])
    (hpl : ∀ env : Env, ((backTo pos (starEach [] env)).any (·.1) || (backToKw pos (keywordEach [⟨some kn, e, kpos⟩] env)).any (·.1.isNone)) = false) (ht : MTree o m apos pos [] [⟨some kn, e, kpos⟩] pl) : PD S Γ 0 (.Call (.Attribute o m apos) [] [⟨some kn, e, kpos⟩] pos) cr (· = g (y, z)) := by
  obtain ⟨f, fd, Fn, Mt, hb⟩ := M.ex
  exact pd_of (fun X G => pe_methK (pl := pl X.env) (tE_ok G) (by rw [G.K]; exact hC) (by rw [G.K]; exact Mt) (fnG Fn G) (G.room.mono hl) (by rw [G.K]; exact hb) pass0 (pk_cons (tE_ok G) pk_nil) (hall _) (hks _) (hpl _) (ht _)) (td_methK ho hno he hp)
end
/-! ### .. that may raise -/
def tMethKS (C : Addr) (m : Str) (sp : Sp) (gV : List V → List V → List V) (E : Stt → XK) (ta : TE) (tk : TA) : TE := fun σ H Q => ta σ H fun x H1 => ∃ a dx fs, x = .ref a ∧ H1 a = some (.ins C dx fs) ∧ fs.lookup m = none ∧
  tk σ H1 fun zs H2 => sp (gV [x] zs) H2 Q (E σ)
section
variable {X : Cx} {CX : CXT} {k : Nat} {f C : Addr} {fd : FuncData} {ps ks : List Str} {sp : Sp} {E : Stt → XK} {m : Str} {pos apos : Pos} {o : Expr} {kws : List Keyword} {ta : TE} {tk : TA} {g : List Value → List Value → List Value} {gV : List V → List V → List V}
theorem run_fnkS {pins : List (Addr × Obj)} {σ : Stt} {H : Hp} {s : Shared} {Q : VK} {us ws : List Value} {vs zs : List V} (F : FnOk X.prog X.w X.K X.mg X.base CX k f fd ps sp) (hr : Room k X.A) (hb : KBinds X.K fd ps ks g gV) (hx : PassesAt CX X σ (E σ))
    (I : Inv X pins σ H s) (r : Vals vs us) (rz : Vals zs ws) (h : sp (gV vs zs) H Q (E σ)) : wpAny (model X.prog X.w) X.A (call (.ref f) us (ks.zip ws)) (EP X pins σ Q) X.xe s := by
  have r2 := hb.rel r rz
  have hl : (g us ws).length = ps.length := by rw [← r2.length]; exact F.len _ _ _ _ h
  refine wpAny_call (codeAny_mono (F.run X.A X.stack s H ⟨us, ks.zip ws⟩ (g us ws) (gV vs zs) Q (E σ) hr I.env0 (hb.to s us ws I.kIn hl) r2 h) fun r s' hq => ?_)
  cases r with
  | error e => exact hx pins H s e s' I hq
  | ok fl =>
    cases fl with
    | ret u => exact I.after hq
    | next => exact False.elim hq
    | brk => exact False.elim hq
    | cont => exact False.elim hq
theorem pe_methKS {pl : Sem Bool} (he : PE X o ta) (c : Cls X.K C) (hm : Meth X.K C m f) (F : FnOk X.prog X.w X.K X.mg X.base CX k f fd ps sp) (hr : Room k X.A) (hb : KBinds X.K fd ps ks g gV) (hx : ∀ σ, PassesAt CX X σ (E σ)) (hkw : PK X kws tk)
    (hall : (backToKw pos (keywordEach kws X.env)).all (·.1.isSome) = true) (hks : (backToKw pos (keywordEach kws X.env)).filterMap (·.1) = ks)
    (hpl : ((backTo pos (starEach [] X.env)).any (·.1) || (backToKw pos (keywordEach kws X.env)).any (·.1.isNone)) = false)
    (ht : eval (.Call (.Attribute o m apos) [] kws pos) X.env = getDot X.env o m apos pl fun g fx => callWith pos g fx (backTo pos (starEach [] X.env)) (backToKw pos (keywordEach kws X.env))) :
    PE X (.Call (.Attribute o m apos) [] kws pos) (tMethKS C m sp gV E ta tk) := by
  constructor
  intro pins s σ H Q I h
  refine dot_ins (R := fun x H1 => tk σ H1 fun zs H2 => sp (gV [x] zs) H2 Q (E σ)) he c hm ht I h fun a H1 s1 I1 q => PySem.W.callWith_KW0 (h₀ := X.base) I.ok.mod.kin hm.kp hall ?_ hpl
  apply thn (hkw.run pos pins s1 σ H1 _ I1 q)
  rintro ws s2 ⟨zs, H2, I2, rz, q2⟩
  refine ⟨I2.kIn, ?_⟩
  rw [hks]
  exact run_fnkS (us := [.ref a]) (vs := [.ref a]) F hr hb (hx σ) I2 (.cons rfl .nil) rz q2
end
end DL

set_option Elab.async false
set_option linter.all false
set_option maxRecDepth 100000
set_option maxHeartbeats 4000000
namespace DL
open PySem PySem.Spec L2
section
variable {S : Stc} {Γ Γ1 : Ctxt} {k k1 k2 k3 kr : Nat} {α ρ : Type} {c : Cod α} {p : Po ρ} {R1 R2 R3 : Sl → Prop} {a b d e : Expr} {pos px py pz pt pt2 : Pos} {x y z : Str} {kt kt2 : Nat} {rest : List Stmt}
/-- x, y = a, b with plain local names -/
theorem bparP (i j : Nat) (ha : TX (tE S a) Γ k1 R1) (hb : TX (tE S b) Γ k2 R2) (nb : NoBx Γ i) (nb' : NoBx Γ j) (hij : i ≠ j) (u1 : ∀ s, R1 s → s ≠ .un) (u2 : ∀ s, R2 s → s ≠ .un) (hi : S.N[i]? = some x) (hj : S.N[j]? = some y)
    (hx : S.sc.names.lookup x = some .local) (hy : S.sc.names.lookup y = some .local) (hs : ∀ env : Env, starEach [a, b] env = (false, eval a env) :: starEach [b] env) (hs2 : ∀ env : Env, starEach [b] env = (false, eval b env) :: starEach [] env)
    (hw : ∀ env : Env, env.scope = S.sc → swappedStores [.Tuple [.Name x px, .Name y py] kt pt] (.Tuple [a, b] kt2 pt2) env = pure (some [x, y]))
    (hsw : ∀ env : Env, env.scope = S.sc → swapsWithSole [.Tuple [.Name x px, .Name y py] kt pt] (.Tuple [a, b] kt2 pt2) pos.line env = pure false)
    (hr : ∀ s1 s2, R1 s1 → R2 s2 → PHs S ((Γ.set i s1).set j s2) kr rest p) : PHs S Γ (k1 + k2 + kr) (.Assign [.Tuple [.Name x px, .Name y py] kt pt] (.Tuple [a, b] kt2 pt2) pos :: rest) p :=
  phs_cons (N1 := fun G => ∃ s1 s2, R1 s1 ∧ R2 s2 ∧ G = (Γ.set i s1).set j s2) (ph_of (fun X G => ps_par G.calm (by rw [G.N]; exact G.nd) (by rw [G.N]; exact hi) (by rw [G.N]; exact hj) hij (by rw [G.sc]; exact hx) (by rw [G.sc]; exact hy) (pa_cons (tE_ok G) (pa_cons (tE_ok G) pa_nil (hs2 _)) (hs _)) (hw _ G.sc) (hsw _ G.sc))
    (hs_par ha hb nb nb' hij u1 u2 fun t1 t2 e1 e2 => ⟨t1, t2, e1, e2, rfl⟩)) fun Γ1 ⟨s1, s2, h1, h2, e⟩ => by subst e; exact hr s1 s2 h1 h2
theorem HS.ctx {ts : TS} {Γ' : Ctxt} (e : Γ = Γ') (h : HS ts Γ' k p) : HS ts Γ k p := by subst e; exact h
theorem nun {P : α → Prop} : ∀ s : Sl, (∃ x, P x ∧ s = .d c x) → s ≠ .un := fun s ⟨x, _, e⟩ z => by rw [e] at z; cases z
theorem nunL {P : List α → Prop} : ∀ s : Sl, (∃ x, P x ∧ s = .l c x) → s ≠ .un := fun s ⟨x, _, e⟩ z => by rw [e] at z; cases z
variable {A1 B1 : Bool → Prop} {es : List Expr}
theorem pd_orG (h1 : PD S Γ k1 a cBool A1) (h2 : A1 false → PD S Γ k2 (.BoolOp .Or (b :: es) pos) cBool B1) : PD S Γ (k1 + k2) (.BoolOp .Or (a :: b :: es) pos) cBool (fun r => (r = true ∧ A1 true) ∨ (A1 false ∧ B1 r)) := pd_of (fun X G => pe_or (tE_ok G) (tE_ok G)) (td_orV h1 h2)
theorem pd_andG (h1 : PD S Γ k1 a cBool A1) (h2 : A1 true → PD S Γ k2 (.BoolOp .And (b :: es) pos) cBool B1) : PD S Γ (k1 + k2) (.BoolOp .And (a :: b :: es) pos) cBool (fun r => (r = false ∧ A1 false) ∨ (A1 true ∧ B1 r)) := pd_of (fun X G => pe_and (tE_ok G) (tE_ok G)) (td_andV h1 h2)
theorem pdw_orG (h1 : PDT S Γ k1 a A1) (h2 : A1 false → PDW S Γ k2 (.BoolOp .Or (b :: es) pos) B1) : PDW S Γ (k1 + k2) (.BoolOp .Or (a :: b :: es) pos) (fun r => (r = true ∧ A1 true) ∨ (A1 false ∧ B1 r)) := pdw_of (fun X G => pw_or (tT_ok G) (tWt_ok G)) (tt_or h1 h2)
theorem pdw_andG (h1 : PDT S Γ k1 a A1) (h2 : A1 true → PDW S Γ k2 (.BoolOp .And (b :: es) pos) B1) : PDW S Γ (k1 + k2) (.BoolOp .And (a :: b :: es) pos) (fun r => (r = false ∧ A1 false) ∨ (A1 true ∧ B1 r)) := pdw_of (fun X G => pw_and (tT_ok G) (tWt_ok G)) (tt_and h1 h2)
end
end DL

set_option Elab.async false
set_option linter.all false
set_option maxRecDepth 100000
set_option maxHeartbeats 4000000
namespace DL
open PySem PySem.Spec L2
section
variable {Γ : Ctxt} {k k1 k2 k3 : Nat} {ρ : Type} {te ta tb : TE} {tt : TT} {p : Po ρ} {R R1 : Sl → Prop}
theorem TX.le (h : TX te Γ k R) (l : k ≤ k2) : TX te Γ k2 R := fun O n σ Hf H hn S Q q => h O n σ Hf H (by omega) S Q fun v Hf' H' s r vo f st => q v Hf' H' s r vo f (st.le (by omega))
theorem hs_setX {i : Nat} (h : TX te Γ k R) (nb : NoBx Γ i) (u : ∀ s, R s → s ≠ .un) (hp : ∀ s, R s → p.N (Γ.set i s)) : HS (tAsg te (gName i)) Γ k p := fun O n σ Hf H hn S D q1 _ _ _ =>
  h O n σ Hf H hn S _ fun v Hf1 H1 s1 r1 v1 f1 S1 => q1 _ Hf1 H1 _ (hp s1 r1) ⟨S1.setX v1 (u s1 r1) (fun a e ho j' sl hj' ho' e' => S.noAd (own_fresh v1 e ho).1 j' sl hj' ho' e') (fun a z => S.fr.dom a z), bxKeep_set nb, f1.ex⟩
end
section
variable {S : Stc} {Γ : Ctxt} {k k1 k2 k3 kr : Nat} {ρ : Type} {p : Po ρ} {e a b d : Expr} {pos pos' : Pos} {rest : List Stmt} {s : Sl} {nm : Str}
theorem vo_back {Hf H Hf1 H1 Hf' H' : Hp} {M : Addr → Prop} {v : V} {x : Sl} (vo : VOk Hf' H' H1 v x) (f1 : Fr M Hf H Hf1 H1) : VOk Hf' H' H v x := by
  cases x with
  | un => trivial
  | d c x => exact vo
  | l c xs =>
    obtain ⟨a, vs, h1, h2, h3, h4, h5⟩ := vo
    exact ⟨a, vs, h1, h2, h3, f1.dom a h4, h5⟩
  | bx a => exact vo
  | r p =>
    obtain ⟨a, o, h1, h2, h3, h4, h5⟩ := vo
    exact ⟨a, o, h1, h2, h3, f1.dom a h4, h5⟩
theorem tx_of {te : TE} {R : Sl → Prop} (ht : ∀ X, Good S X → PE X e te) (h : TX te Γ k R) : TX (tE S e) Γ k R := fun O n σ Hf H hn s Q q => ⟨te, ht, h O n σ Hf H hn s Q q⟩
theorem txIf {b' : Bool} (h : PDT S Γ 0 d (· = b')) (ha : b' = true → TX (tE S a) Γ 0 (· = s)) (hb : b' = false → TX (tE S b) Γ 0 (· = s)) : TX (tE S (.IfExp d a b pos)) Γ 0 (· = s) :=
  tx_of (fun X G => pe_ifExp (tT_ok G) (tE_ok G) (tE_ok G)) fun O n σ Hf H hn st Q q => h O n σ Hf H hn st _ fun c Hf1 H1 pc f1 s1 => by
    subst pc
    cases c with
    | true =>
      rw [if_pos rfl]
      exact ha rfl O n σ Hf1 H1 hn s1 Q fun v Hf' H' x r vo f s' => q v Hf' H' x r (by subst r; exact vo_back vo f1) (f1.trans f fun _ z => .inl z) s'
    | false =>
      rw [if_neg Bool.false_ne_true]
      exact hb rfl O n σ Hf1 H1 hn s1 Q fun v Hf' H' x r vo f s' => q v Hf' H' x r (by subst r; exact vo_back vo f1) (f1.trans f fun _ z => .inl z) s'
theorem bsetX (i : Nat) (h : TX (tE S e) Γ k (· = s)) (nb : NoBx Γ i) (u : s ≠ .un) (hi : S.N[i]? = some nm) (hx : Loc S.sc nm) (hs : ∀ env : Env, env.scope = S.sc → swapsWith e (some (.Name nm pos')) pos.line env = pure false) (hf : S.fn nm = true ∨ S.sc.names.lookup nm = some .local) (hr : PHs S (Γ.set i s) k2 rest p) : PHs S Γ (k + k2) (.Assign [.Name nm pos'] e pos :: rest) p :=
  phs_cons (N1 := fun G => G = Γ.set i s) (ph_of (fun X G => ps_set (by rw [G.N]; exact G.nd) (by rw [G.N]; exact hi) (loc G hx) (tE_ok G) (hs _ G.sc) (fnOr G hf)) (hs_setX h nb (fun t e => e ▸ u) fun t e => by subst e; rfl)) fun Γ1 e => by subst e; exact hr
end
end DL

set_option Elab.async false
set_option linter.all false
set_option maxRecDepth 100000
set_option maxHeartbeats 4000000
namespace DL
open PySem PySem.Spec L2
/-! ### objects that no slot owns: frozen, changed, by hand -/
section
variable {O : Org} {Hf H H' : Hp} {σ : Stt} {Γ : Ctxt} {n : Nat} {a : Addr} {o : HO}
def NoOwn (Γ : Ctxt) : Prop := ∀ s ∈ Γ, s.own = false
theorem NoOwn.at (h : NoOwn Γ) {i : Nat} {s : Sl} (e : Γ[i]? = some s) : s.own = false := h s (List.mem_of_getElem? e)
theorem slOk_no {Hf H Hf' H' : Hp} {n : Nat} {ov : Option (Option V)} {s : Sl} (hs : s.own = false) (e : Ex Hf Hf') (h : SlOk Hf H n ov s) : SlOk Hf' H' n ov s := by
  cases s with
  | un => trivial
  | d c x => obtain ⟨v, h1, h2⟩ := h; exact ⟨v, h1, c.mono e h2⟩
  | l c xs => cases hs
  | bx a => cases hs
  | r p => cases hs
theorem Sat.reFr (S : Sat O Hf H σ Γ n) (no : NoOwn Γ) {Hf' : Hp} (ex : Ex Hf' H') (e : Ex Hf Hf') (fr : Fr O.M O.Hf O.H Hf' H') : Sat O Hf' H' σ Γ n :=
  ⟨S.len, ex, fun i s h => slOk_no (no.at h) e (S.at_ i s h), S.sep, fr, S.mine⟩
theorem Sat.fzRaw (S : Sat O Hf H σ Γ n) (no : NoOwn Γ) (h1 : Hf a = none) (h2 : H a = some o) (h3 : O.H a = none) : Sat O (upd Hf a o) H σ Γ n :=
  S.reFr no (S.ex.fix h2) (Ex.new h1) ⟨S.fr.ex.trans (Ex.new h1), S.fr.keep, fun b u e nm z => by rw [upd_ne (ne_of_none e h3)]; exact S.fr.fz b u e nm z, S.fr.dom⟩
theorem Sat.mutRaw (S : Sat O Hf H σ Γ n) (no : NoOwn Γ) (h1 : Hf a = none) (h3 : O.H a = none) : Sat O Hf (upd H a o) σ Γ n :=
  S.reFr no (S.ex.mut h1) Ex.rfl' ⟨S.fr.ex, fun b u e nm => by rw [upd_ne (ne_of_none e h3)]; exact S.fr.keep b u e nm, S.fr.fz, fun b e => by
    by_cases z : b = a
    · subst z; exact h3
    · rw [upd_ne z] at e; exact S.fr.dom b e⟩
theorem Sat.heap (S : Sat O Hf H σ Γ n) (no : NoOwn Γ) (k : Ex H H') (d : ∀ x, H' x = none → H x = none) : Sat O Hf H' σ Γ n :=
  S.reFr no (S.ex.trans k) Ex.rfl' ⟨S.fr.ex, fun b u e nm => k b u (S.fr.keep b u e nm), S.fr.fz, fun b e => S.fr.dom b (d b e)⟩
theorem NoOwn.bx (h : NoOwn Γ) (x : Addr) : ¬ Bx Γ x := fun ⟨i, e⟩ => by have := h.at e; cases this
theorem NoOwn.owns (h : NoOwn Γ) (x : Addr) : ¬ Owns σ Γ x := fun ⟨i, s, h1, h2, _⟩ => by rw [h.at h1] at h2; cases h2
theorem set_same {α : Type} : ∀ {l : List α} {i : Nat} {x : α}, l[i]? = some x → l.set i x = l
  | [], _, _, h => by simp at h
  | y :: l, 0, x, h => by simp at h; rw [h]; rfl
  | y :: l, i + 1, x, h => by
    show y :: l.set i x = y :: l
    rw [set_same (by simpa using h)]
theorem Sat.recode {α : Type} (S : Sat O Hf H σ Γ n) {i : Nat} {v : V} {c : Cod α} {x : α} (e : σ[i]? = some (some v)) (r : c.rep Hf v x) : Sat O Hf H σ (Γ.set i (.d c x)) n := by
  have := S.set (i := i) r
  rwa [set_same e] at this
end
end DL
namespace DL
open PySem PySem.Spec L2
theorem HS.run {ρ : Type} {ts : TS} {Γ : Ctxt} {p : Po ρ} {O : Org} {n : Nat} {σ : Stt} {Hf H : Hp} {D : Ends} (h : HS ts Γ 0 p) (S : Sat O Hf H σ Γ n) (hn : n + 0 ≤ LIM) (q1 : ∀ σ' Hf' H' Γ', p.N Γ' → Fin O Γ Hf Hf' H' σ' Γ' (n + 0) → D.nx σ' H') (q2 : ∀ σ' Hf' H' Γ', p.bk Γ' → Fin O Γ Hf Hf' H' σ' Γ' (n + 0) → D.bk σ' H')
    (q3 : ∀ σ' Hf' H' Γ', p.ct Γ' → Fin O Γ Hf Hf' H' σ' Γ' (n + 0) → D.ct σ' H') (q4 : ∀ v σ' Hf' H' Γ' x, p.R x → p.c.rep Hf' v x → Fin O Γ Hf Hf' H' σ' Γ' (n + 0) → D.rt v H') : ts D σ H := h O n σ Hf H hn S D q1 q2 q3 q4
theorem TDT.run {tt : TT} {Γ : Ctxt} {P : Bool → Prop} {O : Org} {n : Nat} {σ : Stt} {Hf H : Hp} {Q : Bool → Hp → Prop} (h : TDT tt Γ 0 P) (S : Sat O Hf H σ Γ n) (hn : n + 0 ≤ LIM) (q : ∀ b Hf' H', P b → Fr (Bx Γ) Hf H Hf' H' → Sat O Hf' H' σ Γ (n + 0) → Q b H') : tt σ H Q := h O n σ Hf H hn S Q q
end DL

set_option Elab.async false
set_option linter.all false
set_option maxRecDepth 100000
set_option maxHeartbeats 2000000
namespace DL
open PySem PySem.Spec L2
/-! ### a list or a tuple of the heap or of K (a default) -/
theorem Rd.ex {Hf H : Hp} {a : Addr} {u : HO} (e : Ex Hf H) (h : Rd Hf a u) : Rd H a u := by
  rcases h with h | ⟨o, h⟩
  · exact .inl (e _ _ h)
  · exact .inr ⟨o, e _ _ h⟩
theorem SqL.ex {K : PySem.W.Frag} {Hf H : Hp} {a : Addr} {vs : List V} (e : Ex Hf H) (h : SqL K Hf a vs) : SqL K H a vs := by
  rcases h with h | h
  · exact .inl (DL.Rd.ex e h)
  · exact .inr h
theorem SqT.ex {K : PySem.W.Frag} {Hf H : Hp} {a : Addr} {vs : List V} (e : Ex Hf H) (h : SqT K Hf a vs) : SqT K H a vs := by
  rcases h with h | h
  · exact .inl (DL.Rd.ex e h)
  · exact .inr h
def cSq {α : Type} (K : PySem.W.Frag) (c : Cod α) : Cod (List α) := ⟨fun H v xs => ∃ a vs, v = .ref a ∧ (SqL K H a vs ∨ SqT K H a vs) ∧ Paired (c.rep H) vs xs ∧ vs.length ≤ LB,
  fun e ⟨a, vs, h1, h2, h3, h4⟩ => ⟨a, vs, h1, h2.imp (DL.SqL.ex e) (DL.SqT.ex e), paired_mono h3 (fun _ _ z => c.mono e z), h4⟩⟩
section
variable {S : Stc} {X : Cx}
variable {Γ Γ1 Γ2 Γ3 : Ctxt} {k k1 k2 k3 kk kt ke : Nat} {A α β γ ρ : Type} {c : Cod α} {te to ti : TE} {e a b d o : Expr} {es : List Expr} {pos pos' pn pt : Pos} {K : PySem.W.Frag} {w : World} {ns : List Int}
variable {x : α} {y : β} {z : γ} {xs : List α}
theorem TD.sq {xs : List α → Prop} (h : TD te Γ k (cSeq c) xs) : TD te Γ k (cSq K c) xs := h.conv fun H v x px r => ⟨x, px, sq_seq (fun _ _ z => z) r⟩
theorem sq_sq {Hf H : Hp} {v : V} {xs : List α} (e : Ex Hf H) (h : (cSq K c).rep Hf v xs) : ∃ a vs, v = .ref a ∧ (SqL K H a vs ∨ SqT K H a vs) ∧ Paired (c.rep Hf) vs xs ∧ vs.length ≤ LB := by
  obtain ⟨a, vs, h1, h2, h3, h4⟩ := h
  exact ⟨a, vs, h1, h2.imp (DL.SqL.ex e) (DL.SqT.ex e), h3, h4⟩
theorem rc_listK {xs : List α} : RC1F (rListR K) (cSq K c) xs c (· = xs) := fun Hf H v e h Q q => by
  obtain ⟨a, vs, h1, h2, h3, h4⟩ := sq_sq e h
  exact ⟨a, vs, by rw [h1], h2, fun l hl => q l vs xs rfl hl h3 h4⟩
theorem plistK (hg : S.sc.names.lookup ("list" : Str) = some .globalImplicit) (hm : S.mg "list" = none) (h : PD S Γ 0 e (cSq S.K c) (· = xs)) (he : ∀ env : Env, starEach [e] env = (false, eval e env) :: starEach [] env) : PDF S Γ 0 (.Call (.Name "list" pn) [e] [] pos) c (· = xs) := pfy1 listG hg hm PyProof.Rows.boot_list h rc_listK he
theorem rc_setIK (hn : ns.length ≤ 1000) : RC1 (rSetI K w) (cSq K cInt) ns (cSet w) (· = asc ns) := fun Hf H v e h Q q => by
  obtain ⟨a, vs, h1, h2, h3, h4⟩ := sq_sq (K := K) e h
  have := ints_of_paired h3
  subst this
  refine ⟨a, ns, by rw [h1], h2, hn, fun l S hS hl => ?_⟩
  exact q (asc ns) (upd Hf l (SetO w l S (asc ns).length)) _ _ rfl ⟨l, S, rfl, upd_same, hS, asc_up ns, Nat.le_trans (asc_len ns) hn⟩ (Fr.new e hl) (e.both (e.back hl))
theorem psetK (hg : S.sc.names.lookup ("set" : Str) = some .globalImplicit) (hm : S.mg "set" = none) (h : PD S Γ 0 e (cSq S.K cInt) (· = ns)) (hn : ns.length ≤ 1000) (he : ∀ env : Env, starEach [e] env = (false, eval e env) :: starEach [] env) : PD S Γ 0 (.Call (.Name "set" pn) [e] [] pos) (cSet S.w) (· = asc ns) :=
  py1 setIG hg hm PyProof.Rows.boot_set h (rc_setIK hn) he
theorem sq_ty {H : Hp} {v : V} {xs : List α} (h : (cSq K c).rep H v xs) : ∃ ty, TyX K H v ty ∧ PySem.W.kitAny K ty [.type "list", .type "tuple"] = some true := by
  obtain ⟨a, vs, rfl, h2, _, _⟩ := h
  rcases h2 with h2 | h2
  · rcases h2 with (h2 | ⟨o, h2⟩) | ⟨o, its, n, h2, hc, _⟩
    · exact ⟨_, .base (.lst h2), kLT_list⟩
    · exact ⟨_, .base (.frz h2), kLT_list⟩
    · exact ⟨_, .kList h2 hc, kLT_list⟩
  · rcases h2 with (h2 | ⟨o, h2⟩) | ⟨o, its, n, h2, hc, _⟩
    · exact ⟨_, .base (.tup h2), kLT_tuple⟩
    · exact ⟨_, .fTuple h2, kLT_tuple⟩
    · exact ⟨_, .kTuple h2 hc, kLT_tuple⟩
theorem pisiLTK {p1 p2 p3 p4 : Pos} {kx : Nat} (hg : S.sc.names.lookup ("isinstance" : Str) = some .globalImplicit) (hm : S.mg "isinstance" = none) (hgl : S.sc.names.lookup ("list" : Str) = some .globalImplicit) (hml : S.mg "list" = none) (hgt : S.sc.names.lookup ("tuple" : Str) = some .globalImplicit) (hmt : S.mg "tuple" = none)
    (h : PD S Γ 0 e (cSq S.K c) (· = xs))
    (he : ∀ env : Env, starEach [e, .Tuple [.Name "list" p2, .Name "tuple" p3] kx p4] env = (false, eval e env) :: starEach [.Tuple [.Name "list" p2, .Name "tuple" p3] kx p4] env) :
    PD S Γ 0 (.Call (.Name "isinstance" p1) [e, .Tuple [.Name "list" p2, .Name "tuple" p3] kx p4] [] pos) cBool (· = true) :=
  pd_of (te := tCB (rIsiT S.K) (tCons (tE S e) (tCons (tTup (tCons (tC (.ty "list")) (tCons (tC (.ty "tuple")) tNil))) tNil))) (fun X G => by
    rw [← G.K]
    exact pe_callB call_isiT (glb G hg) (by rw [G.mg]; exact hm) (by decide +kernel) (pa_cons (tE_ok G) (pa_cons (pe_tup (pa_cons (nmTy hgl hml PyProof.Rows.boot_list (by decide) (by decide) X G) (pa_cons (nmTy hgt hmt PyProof.Rows.boot_tuple (by decide) (by decide) X G) pa_nil))) pa_nil) (he _)) (by decide) (by decide) (he _) rfl)
    fun O n σ Hf H hn s Q q => h O n σ Hf H hn s _ fun v Hf' H' y py r' f s' => by
      subst py
      refine ⟨by show 2 ≤ sizeLine; decide, fun tp htp => ?_⟩
      have r2 : (cSq S.K c).rep (upd H' tp (.tup [.ty "list", .ty "tuple"])) v y := (cSq S.K c).mono (s'.ex.trans (Ex.new htp)) r'
      obtain ⟨ty, ht, hk⟩ := sq_ty r2
      refine ⟨v, tp, [.ty "list", .ty "tuple"], ty, [.type "list", .type "tuple"], true, rfl, upd_same, .cons (.ty _) (.cons (.ty _) .nil), ht, hk, ?_⟩
      exact q _ (upd Hf' tp (.tup [.ty "list", .ty "tuple"])) _ true rfl rfl (f.trans (Fr.new (M := Bx Γ) s'.ex htp) fun _ z => .inl z) (s'.new htp)
theorem rd_inK {neg : Bool} {x : Int} {xs : List Int} : RD (rIn K neg) cInt x (cSq K cInt) xs cBool (· = if neg then !decide (x ∈ xs) else decide (x ∈ xs)) := fun Hf H v u e h1 h Q k => by
  obtain ⟨a, vs, h2, h3, h4, _⟩ := sq_sq e h
  obtain rfl := h1
  have := ints_of_paired h4
  subst this
  refine ⟨a, xs.map V.int, h2, h3, rfl, flat_ints xs, ?_⟩
  rw [inV_ints]
  exact k _ Hf H _ rfl rfl Fr.refl e
/-- walks over either -/
theorem pdi_sq {tg : Expr} {R : List α → Prop} (h : PD S Γ k e (cSq S.K c) R) : PDI S Γ k tg e c R := fun O n σ Hf H hn s Rr q => by
  obtain hh := h O n σ Hf H hn s
  refine ⟨fun σ H R => tE S e σ H fun v H1 => ∃ a, v = .ref a ∧ ((∃ vs, SqL S.K H1 a vs) ∧ R (Itl S.K a) H1 ∨ (∃ vs, SqT S.K H1 a vs) ∧ R (Itt S.K a) H1), fun X G => ?_, ?_⟩
  · refine ⟨fun pins s σ H R I w => ?_⟩
    refine thn ((tE_ok G).run pins s σ H _ I w) fun v s1 ⟨x, H1, I1, r1, a, ex, q1⟩ => ?_
    subst ex
    have hK := G.K
    rcases q1 with ⟨⟨vs, hs⟩, q1⟩ | ⟨⟨vs, hs⟩, q1⟩
    · cases r1
      rw [← hK] at hs q1
      obtain ⟨its, rv, p, hz⟩ := I1.list hs
      refine wpAny_pyIter_list p.isList ?_
      refine ⟨s1.heap.objs.size, [s1.heap.objs.size], _, _, H1, rfl, I1.kept (t' := s1.toks) fun b o e => Heap.get?_push_of_some _ e, turn_list a _, ⟨_, Heap.get?_push_size _ rfl, rfl, rfl⟩, fun b hb => ?_, q1⟩
      have e : b = s1.heap.objs.size := by simpa using hb
      subst e
      exact I1.fpOk (Nat.le_refl _) (I1.hok.fresh (Nat.le_refl _))
    · cases r1
      rw [← hK] at hs q1
      obtain ⟨its, rv, p, hz⟩ := I1.tuple hs
      refine wpAny_pyIter_tuple (show s1.heap.IsTuple a its.toArray from p) ?_
      refine ⟨s1.heap.objs.size, [s1.heap.objs.size], _, _, H1, rfl, I1.kept (t' := s1.toks) fun b o e => Heap.get?_push_of_some _ e, turn_tuple a _, ⟨_, Heap.get?_push_size _ rfl, rfl, rfl⟩, fun b hb => ?_, q1⟩
      have e : b = s1.heap.objs.size := by simpa using hb
      subst e
      exact I1.fpOk (Nat.le_refl _) (I1.hok.fresh (Nat.le_refl _))
  · refine hh _ fun v Hf' H' xs px r f s' => ?_
    obtain ⟨a, vs, h1, h2, h3, h4⟩ := r
    have hl := paired_len h3
    rcases h2 with h2 | h2
    · refine ⟨a, h1, .inl ⟨⟨vs, DL.SqL.ex s'.ex h2⟩, q _ Hf' H' xs px ?_ (by rw [← paired_len h3]; exact h4) f s'⟩⟩
      exact ⟨fun Hf2 H2 i e1 e2 hi => ⟨vs, vs[i]'(by omega), DL.SqL.ex e2 (DL.SqL.ex e1 h2), List.getElem?_eq_getElem (by omega)⟩, fun Hf2 H2 e1 e2 => ⟨vs, DL.SqL.ex e2 (DL.SqL.ex e1 h2), by omega⟩, fun Hf2 H2 i w H1 x e1 e2 hy hx => by
        obtain ⟨rfl, hy⟩ := hy
        exact ⟨Hf2, c.mono e1 (paired_get h3 (hy vs (DL.SqL.ex e2 (DL.SqL.ex e1 h2))) hx), Fr.refl, e2⟩⟩
    · refine ⟨a, h1, .inr ⟨⟨vs, DL.SqT.ex s'.ex h2⟩, q _ Hf' H' xs px ?_ (by rw [← paired_len h3]; exact h4) f s'⟩⟩
      exact ⟨fun Hf2 H2 i e1 e2 hi => ⟨vs, vs[i]'(by omega), DL.SqT.ex e2 (DL.SqT.ex e1 h2), List.getElem?_eq_getElem (by omega)⟩, fun Hf2 H2 e1 e2 => ⟨vs, DL.SqT.ex e2 (DL.SqT.ex e1 h2), by omega⟩, fun Hf2 H2 i w H1 x e1 e2 hy hx => by
        obtain ⟨rfl, hy⟩ := hy
        exact ⟨Hf2, c.mono e1 (paired_get h3 (hy vs (DL.SqT.ex e2 (DL.SqT.ex e1 h2))) hx), Fr.refl, e2⟩⟩
end
/-! ### a def with keyword-only parameters, its names given from outside -/
structure DefK (K : PySem.W.Frag) (mg : Str → Option Value) (x : Str) (st : Stmt) (kws : List (Str × V)) : Prop where
  ex : ∃ f fd, FunD K x x (defArgs st) (defBody st) (defScope st) [] kws f fd ∧ mg x = some (.ref f)
section
variable {A ρ : Type} {cr : Cod ρ}
theorem fn_DK {P : Program} {w : World} {K : PySem.W.Frag} {mg : Str → Option Value} {base : Heap} {x qual : Str} {st : Stmt} {kws : List (Str × V)} {f : Addr} {fd : FuncData} {N pn : List Str} {lv : Nat} {ps : Addr → A → Ctxt} {kf : A → Nat} {pre : A → Prop} {PR : A → ρ → Prop} (F : FunD K x qual (defArgs st) (defBody st) (defScope st) [] kws f fd) (Sc : FnScope N pn (defScope st))
    (hl : ∀ b a, (ps b a).length = pn.length) (hN : pn.length ≤ N.length) (one : ∀ b a, OneB (ps b a))
    (body : ∀ b a, pre a → PHs ⟨N, defScope st, K, mg, P, w, base, lv, fun _ => true, false⟩ (entry N (ps b a)) (kf a) (defBody st) { N := fun _ => False, bk := fun _ => False, ct := fun _ => False, c := cr, R := PR a }) :
    FnOk P w K mg base CX0 (lv + 1) f fd pn (spD ps kf pre cr PR) := by
  refine F.ok Sc (fun vs H Q E h => ?_) (fun cdv A outer s H vs Q E hr h => ?_)
  · obtain ⟨a, b, n, Hf, _, _, _, o, _⟩ := h
    rw [argsOk_len o]; exact hl b a
  · obtain ⟨a, b, n, Hf, hp, hn, ex, o, bx, q⟩ := h
    refine ⟨tSs ⟨N, defScope st, K, mg, P, w, base, lv, fun _ => true, false⟩ (defBody st), (tSs_ok (cxG hr Sc.nd)).nox, ?_⟩
    exact body_ok (by rw [hl]; exact hN) (one b a) hn ex o bx q (body b a hp)
end
end DL

set_option Elab.async false
set_option linter.all false
set_option maxRecDepth 100000
set_option maxHeartbeats 2000000
namespace DL
open PySem PySem.Spec L2
/-! ### calls of a def of two parameters and a keyword-only one -/
structure CalK (P : Program) (w : World) (K : PySem.W.Frag) (mg : Str → Option Value) (base : Heap) (x : Str) (st : Stmt) (p1 p2 p3 : Str) (dv : V) (lv : Nat) (sp : Sp) : Prop where
  ex : ∃ f fd, FunD K x x (defArgs st) (defBody st) (defScope st) [] [(p3, dv)] f fd ∧ FnOk P w K mg base CX0 lv f fd [p1, p2, p3] sp ∧ mg x = some (.ref f)
/-- how the three forms bind -/
structure KwB (x : Str) (st : Stmt) (p1 p2 p3 : Str) : Prop where
  d : ∀ (D : Addr) (doc pm : Value) (an : Option Addr) (cdv ct u1 u2 u3 : Value), KwChain D [(p3, u3)] (bindArgs (PySem.W.fnOf x x (defArgs st) (defBody st) (defScope st) .none (.ref D) doc pm an cdv ct) ⟨[u1, u2], []⟩) ([p1, p2, p3].zip [u1, u2, u3])
  n : ∀ (D : Addr) (doc pm : Value) (an : Option Addr) (cdv ct u1 u2 u3 : Value), KwChain D [(p3, u3)] (bindArgs (PySem.W.fnOf x x (defArgs st) (defBody st) (defScope st) .none (.ref D) doc pm an cdv ct) ⟨[], [p1, p2].zip [u1, u2]⟩) ([p1, p2, p3].zip [u1, u2, u3])
  k : ∀ (D : Addr) (doc pm : Value) (an : Option Addr) (cdv ct u1 u2 u3 : Value), KwChain D [] (bindArgs (PySem.W.fnOf x x (defArgs st) (defBody st) (defScope st) .none (.ref D) doc pm an cdv ct) ⟨[u1, u2], [p3].zip [u3]⟩) ([p1, p2, p3].zip [u1, u2, u3])
def tCallN0 (m : Nat) (sp : Sp) (gV : List V → List V → List V) (E : XK) (tk : TA) : TE := fun σ H Q => tk σ H fun zs H2 => zs.length = m ∧ sp (gV [] zs) H2 Q E
theorem pe_callN0 {X : Cx} {CX : CXT} {k : Nat} {f : Addr} {fd : FuncData} {ps ks : List Str} {sp : Sp} {E : XK} {x : Str} {p pos : Pos} {kws : List Keyword} {tk : TA} {g : List Value → List Value → List Value} {gV : List V → List V → List V}
    (F : FnOk X.prog X.w X.K X.mg X.base CX k f fd ps sp) (hr : Room k X.A) (hg : Gl X x) (hm : X.mg x = some (.ref f)) (hk : PySem.W.keepIn X.K (.ref f) = true) (hb : KBn X.K fd ps 0 ks g gV) (hx : Passes CX X E)
    (hkw : PK X kws tk) (hall : (backToKw pos (keywordEach kws X.env)).all (·.1.isSome) = true) (hks : (backToKw pos (keywordEach kws X.env)).filterMap (·.1) = ks)
    (hdb : (x == ("__debug__" : Str)) = false)
    (hpl : ((backTo pos (starEach [] X.env)).any (·.1) || (backToKw pos (keywordEach kws X.env)).any (·.1.isNone)) = false) :
    PE X (.Call (.Name x p) [] kws pos) (tCallN0 ks.length sp gV E tk) := by
  refine ⟨fun pins s σ H Q I h => ?_⟩
  refine wpAny_Call_Name_kw (ld_glob I hg hm ?_ hdb)
  refine PySem.W.callWith_KW0 (h₀ := X.base) I.ok.mod.kin hk hall ?_ hpl
  refine thn (hkw.run pos pins s σ H _ I h) fun ws s2 ⟨zs, H2, I2, rz, l2, q2⟩ => ⟨I2.kIn, ?_⟩
  rw [hks]
  exact run_fnN (us := []) (vs := []) F hr hb hx I2 .nil rz rfl l2 q2
section
variable {S : Stc} {Γ : Ctxt} {α β γ ρ : Type} {c1 : Cod α} {c2 : Cod β} {c3 : Cod γ} {cr : Cod ρ} {x : α} {y : β} {z : γ} {pre : α × β × γ → Prop} {g : α × β × γ → ρ} {e1 e2 e3 : Expr} {pos pn k1 k2 : Pos} {xn p1 p2 p3 : Str} {st : Stmt} {dv : V} {lv : Nat} {t1 t2 t3 : TE} {E : XK}
abbrev sp3 (c1 : Cod α) (c2 : Cod β) (c3 : Cod γ) (pre : α × β × γ → Prop) (cr : Cod ρ) (g : α × β × γ → ρ) : Sp := spP (fun (a : α × β × γ) => [.d c1 a.1, .d c2 a.2.1, .d c3 a.2.2]) pre cr g
theorem sp3_of {O : Org} {n : Nat} {σ : Stt} {Hf H Hf1 H1 : Hp} {Q : V → Hp → Prop} {v1 v2 v3 : V} (hp : pre (x, y, z)) (hn : n + 0 ≤ LIM) (r1 : c1.rep Hf1 v1 x) (r2 : c2.rep Hf1 v2 y) (r3 : c3.rep Hf1 v3 z) (f : Fr (Bx Γ) Hf H Hf1 H1) (s : Sat O Hf1 H1 σ Γ (n + 0))
    (q : ∀ v Hf' H' w, w = g (x, y, z) → cr.rep Hf' v w → Fr (Bx Γ) Hf H Hf' H' → Sat O Hf' H' σ Γ (n + 0) → Q v H') : sp3 c1 c2 c3 pre cr g [v1, v2, v3] H1 Q E := by
  refine ⟨(x, y, z), 0, n, Hf1, hp, hn, s.ex, ⟨r1, r2, r3, trivial⟩, fun w hw => by simp at hw, fun w Hf3 H3 u px r f3 ex3 _ => ?_⟩
  have f3' : Fr (fun _ => False) Hf1 H1 Hf3 H3 := f3.mono fun w hw => by simp at hw
  exact q w Hf3 H3 u px r (f.trans f3' fun _ z => z.elim) (s.grow0 f3' ex3)
/-- f(e1, e2): the keyword-only one lacks -/
theorem pck0 (C : CalK S.prog S.w S.K S.mg S.base xn st p1 p2 p3 dv lv (sp3 c1 c2 c3 pre cr g)) (B : KwB xn st p1 p2 p3) (hl : lv ≤ S.lv) (hg : S.sc.names.lookup xn = some .globalImplicit) (h1 : PD S Γ 0 e1 c1 (· = x)) (h2 : PD S Γ 0 e2 c2 (· = y)) (hz : ∀ H, c3.rep H dv z) (hp : pre (x, y, z))
    (hs1 : ∀ env : Env, starEach [e1, e2] env = (false, eval e1 env) :: starEach [e2] env) (hs2 : ∀ env : Env, starEach [e2] env = (false, eval e2 env) :: starEach [] env) (hpl : ∀ env : Env, (backTo pos (starEach [e2] env)).any (·.1) = false) (hdb : (xn == ("__debug__" : Str)) = false := by decide) :
    PD S Γ 0 (.Call (.Name xn pn) [e1, e2] [] pos) cr (· = g (x, y, z)) := by
  obtain ⟨f, fd, F, Fo, hm⟩ := C.ex
  obtain ⟨ds, vd, bd⟩ := F.binds0 2 (by simp) rfl fun D doc pm an cdv ct us ks l1 l2 => match us, ks, l1, l2 with
    | [u1, u2], [u3], _, _ => B.d D doc pm an cdv ct u1 u2 u3
  exact pd_of (te := tCall (sp3 c1 c2 c3 pre cr g) [dv] E0 (tCons (tE S e1) (tCons (tE S e2) tNil))) (fun X G => pe_call (fnG Fo G) (G.room.mono hl) (glb G hg) (by rw [G.mg]; exact hm) (by rw [G.K]; exact F.kp) (by rw [G.K]; exact bd) vd pass0 (pa_cons (tE_ok G) (pa_cons (tE_ok G) pa_nil (hs2 _)) (hs1 _)) hdb (hs1 _) (hpl _))
    fun O n σ Hf H hn s Q q => h1 O n σ Hf H hn s _ fun v1 Hf1 H1 x' px r1 f1 s1 => by
      subst px
      refine h2 O n σ Hf1 H1 hn s1 _ fun v2 Hf2 H2 y' py r2 f2 s2 => ?_
      subst py
      exact sp3_of (E := E0) hp hn (c1.mono f2.ex r1) r2 (hz _) (f1.trans f2 fun _ z => .inl z) s2 q
/-- f(p1 = e1, p2 = e2) -/
theorem pckN (C : CalK S.prog S.w S.K S.mg S.base xn st p1 p2 p3 dv lv (sp3 c1 c2 c3 pre cr g)) (B : KwB xn st p1 p2 p3) (hl : lv ≤ S.lv) (hg : S.sc.names.lookup xn = some .globalImplicit) (h1 : PD S Γ 0 e1 c1 (· = x)) (h2 : PD S Γ 0 e2 c2 (· = y)) (hz : ∀ H, c3.rep H dv z) (hp : pre (x, y, z))
    (hall : ∀ env : Env, (backToKw pos (keywordEach [⟨some p1, e1, k1⟩, ⟨some p2, e2, k2⟩] env)).all (·.1.isSome) = true) (hks : ∀ env : Env, (backToKw pos (keywordEach [⟨some p1, e1, k1⟩, ⟨some p2, e2, k2⟩] env)).filterMap (·.1) = [p1, p2])
    (hpl : ∀ env : Env, ((backTo pos (starEach [] env)).any (·.1) || (backToKw pos (keywordEach [⟨some p1, e1, k1⟩, ⟨some p2, e2, k2⟩] env)).any (·.1.isNone)) = false) (hdb : (xn == ("__debug__" : Str)) = false := by decide) :
    PD S Γ 0 (.Call (.Name xn pn) [] [⟨some p1, e1, k1⟩, ⟨some p2, e2, k2⟩] pos) cr (· = g (x, y, z)) := by
  obtain ⟨f, fd, F, Fo, hm⟩ := C.ex
  obtain ⟨mv, bd⟩ := F.kbinds0 0 [p1, p2] [(p3, dv)] (fun us mv ws => us ++ (ws ++ mv)) (by simp) (fun q h => h) (fun r1 r2 r3 => r1.append (r3.append r2)) fun D doc pm an cdv ct us mv ws l1 l2 l3 => match us, mv, ws, l1, l2, l3 with
    | [], [u3], [u1, u2], _, _, _ => B.n D doc pm an cdv ct u1 u2 u3
  exact pd_of (te := tCallN0 2 (sp3 c1 c2 c3 pre cr g) _ E0 (tCons (tE S e1) (tCons (tE S e2) tNil))) (fun X G => pe_callN0 (fnG Fo G) (G.room.mono hl) (glb G hg) (by rw [G.mg]; exact hm) (by rw [G.K]; exact F.kp) (by rw [G.K]; exact bd) pass0 (pk_cons (tE_ok G) (pk_cons (tE_ok G) pk_nil)) (hall _) (hks _) hdb (hpl _))
    fun O n σ Hf H hn s Q q => h1 O n σ Hf H hn s _ fun v1 Hf1 H1 x' px r1 f1 s1 => by
      subst px
      refine h2 O n σ Hf1 H1 hn s1 _ fun v2 Hf2 H2 y' py r2 f2 s2 => ?_
      subst py
      exact ⟨rfl, sp3_of (E := E0) hp hn (c1.mono f2.ex r1) r2 (hz _) (f1.trans f2 fun _ z => .inl z) s2 q⟩
/-- f(e1, e2, p3 = e3) -/
theorem pckK (C : CalK S.prog S.w S.K S.mg S.base xn st p1 p2 p3 dv lv (sp3 c1 c2 c3 pre cr g)) (B : KwB xn st p1 p2 p3) (hl : lv ≤ S.lv) (hg : S.sc.names.lookup xn = some .globalImplicit) (h1 : PD S Γ 0 e1 c1 (· = x)) (h2 : PD S Γ 0 e2 c2 (· = y)) (h3 : PD S Γ 0 e3 c3 (· = z)) (hp : pre (x, y, z))
    (hs1 : ∀ env : Env, starEach [e1, e2] env = (false, eval e1 env) :: starEach [e2] env) (hs2 : ∀ env : Env, starEach [e2] env = (false, eval e2 env) :: starEach [] env)
    (hall : ∀ env : Env, (backToKw pos (keywordEach [⟨some p3, e3, k1⟩] env)).all (·.1.isSome) = true) (hks : ∀ env : Env, (backToKw pos (keywordEach [⟨some p3, e3, k1⟩] env)).filterMap (·.1) = [p3])
    (hpl : ∀ env : Env, ((backTo pos (starEach [e1, e2] env)).any (·.1) || (backToKw pos (keywordEach [⟨some p3, e3, k1⟩] env)).any (·.1.isNone)) = false) (hdb : (xn == ("__debug__" : Str)) = false := by decide) :
    PD S Γ 0 (.Call (.Name xn pn) [e1, e2] [⟨some p3, e3, k1⟩] pos) cr (· = g (x, y, z)) := by
  obtain ⟨f, fd, F, Fo, hm⟩ := C.ex
  obtain ⟨mv, bd⟩ := F.kbinds0 2 [p3] [] (fun us mv ws => us ++ (ws ++ mv)) (by simp) (fun q h => nomatch h) (fun r1 r2 r3 => r1.append (r3.append r2)) fun D doc pm an cdv ct us mv ws l1 l2 l3 => match us, mv, ws, l1, l2, l3 with
    | [u1, u2], [], [u3], _, _, _ => B.k D doc pm an cdv ct u1 u2 u3
  exact pd_of (te := tCallN 2 1 (sp3 c1 c2 c3 pre cr g) _ E0 (tCons (tE S e1) (tCons (tE S e2) tNil)) (tCons (tE S e3) tNil)) (fun X G => pe_callN (fnG Fo G) (G.room.mono hl) (glb G hg) (by rw [G.mg]; exact hm) (by rw [G.K]; exact F.kp) (by rw [G.K]; exact bd) pass0 (pa_cons (tE_ok G) (pa_cons (tE_ok G) pa_nil (hs2 _)) (hs1 _)) (pk_cons (tE_ok G) pk_nil) (hall _) (hks _) hdb (hs1 _) (hpl _))
    fun O n σ Hf H hn s Q q => h1 O n σ Hf H hn s _ fun v1 Hf1 H1 x' px r1 f1 s1 => by
      subst px
      refine h2 O n σ Hf1 H1 hn s1 _ fun v2 Hf2 H2 y' py r2 f2 s2 => ?_
      subst py
      refine h3 O n σ Hf2 H2 hn s2 _ fun v3 Hf3 H3 z' pz r3 f3 s3 => ?_
      subst pz
      exact ⟨rfl, rfl, sp3_of (E := E0) hp hn (c1.mono (f2.ex.trans f3.ex) r1) (c2.mono f3.ex r2) r3 ((f1.trans f2 fun _ z => .inl z).trans f3 fun _ z => .inl z) s3 q⟩
end
end DL

set_option Elab.async false
set_option linter.all false
set_option maxRecDepth 100000
set_option maxHeartbeats 2000000
/-! ### results that nobody else has -/
namespace DL
open PySem PySem.Spec L2
theorem execs_app (l1 l2 : List Stmt) (env : Env) : execs (l1 ++ l2) env = (execs l1 env >>= fun f => match f with
    | .next => execs l2 env
    | f => pure f) := by
  induction l1 with
  | nil => simp [execs]
  | cons st l ih =>
    simp only [List.cons_append, execs, bind_assoc]
    congr 1
    funext f
    cases f <;> simp [ih]
theorem pss_app {X : Cx} {l1 l2 : List Stmt} {t u : TS} (h1 : PSs X l1 t) (h2 : PSs X l2 u) : PSs X (l1 ++ l2) (tSeq t u) := by
  refine ⟨fun pins s σ H D I h => ?_⟩
  rw [execs_app]
  refine wpAny_bind (thn (h1.run pins s σ H { D with nx := u D } I h) fun f s1 q => ?_)
  cases f with
  | next =>
    obtain ⟨σ', H', I', q⟩ := q
    exact h2.run pins s1 σ' H' D I' q
  | ret v => exact wpAny_pure q
  | brk => exact wpAny_pure q
  | cont => exact wpAny_pure q
def HSF {α : Type} (ts : TS) (Γ : Ctxt) (k : Nat) (c : Cod α) (R : List α → Prop) : Prop :=
  ∀ (O : Org) (n : Nat) (σ : Stt) (Hf H : Hp), n + k ≤ LIM → Sat O Hf H σ Γ n → ∀ D : Ends,
    (∀ a vs σ' Hf' H' Γ' xs, R xs → H' a = some (.lst vs) → Hf' a = none → (O.M a ∨ O.H a = none) → ¬ Bx Γ a → Paired (c.rep Hf') vs xs → vs.length ≤ LB → Fin O Γ Hf Hf' H' σ' Γ' (n + k) → D.rt (.ref a) H') → ts D σ H
/-- a promise of a new list -/
def spF {A α : Type} (ps : Addr → A → Ctxt) (kf : A → Nat) (pre : A → Prop) (c : Cod α) (P : A → List α → Prop) : Sp := fun vs H Q _ =>
  ∃ (a : A) (b : Addr) (n : Nat) (Hf : Hp), pre a ∧ n + kf a ≤ LIM ∧ Ex Hf H ∧ ArgsOk Hf vs (ps b a) ∧ (∀ z, Sl.bx z ∈ ps b a → Hf z = none ∧ BoxAt H z n) ∧
    ∀ r ws Hf' H' xs, P a xs → H' r = some (.lst ws) → Hf' r = none → H r = none → Paired (c.rep Hf') ws xs → ws.length ≤ LB → Fr (fun z => Sl.bx z ∈ ps b a) Hf H Hf' H' → Ex Hf' H' →
      (∀ z, Sl.bx z ∈ ps b a → Hf' z = none ∧ BoxAt H' z (n + kf a)) → Q (.ref r) H'
abbrev PHFs {α : Type} (S : Stc) (Γ : Ctxt) (k : Nat) (st : List Stmt) (c : Cod α) (R : List α → Prop) : Prop := HSF (tSs S st) Γ k c R
section
variable {O : Org} {Hf H Hf' H' : Hp} {σ : Stt} {n m : Nat} {Γ Γ1 : Ctxt} {k k1 k2 k3 : Nat} {A α β γ ρ ω : Type} {c : Cod α} {te to ti : TE} {tt : TT} {t u : TS} {ta : TA} {R R' : List α → Prop} {p : Po ρ} {N1 : Ctxt → Prop}
variable {ps : Addr → A → Ctxt} {kf : A → Nat} {pre : A → Prop} {PR : A → List α → Prop}
theorem HSF.imp (h : HSF t Γ k c R) (hp : ∀ x, R x → R' x) : HSF t Γ k c R' := fun O n σ Hf H hn S D q => h O n σ Hf H hn S D fun a vs σ' Hf' H' Γ' xs r => q a vs σ' Hf' H' Γ' xs (hp xs r)
theorem HSF.le (h : HSF t Γ k c R) (l : k ≤ k2) : HSF t Γ k2 c R := fun O n σ Hf H hn S D q => h O n σ Hf H (by omega) S D fun a vs σ' Hf' H' Γ' xs r h1 h2 h3 h4 h5 h6 f => q a vs σ' Hf' H' Γ' xs r h1 h2 h3 h4 h5 h6 (f.le (by omega))
theorem hsf_ret (h : TDF te Γ k c R) : HSF (tRet te) Γ k c R := fun O n σ Hf H hn S D q => h O n σ Hf H hn S _ fun a vs Hf' H' xs r h1 h2 h3 h4 h5 f s =>
  q a vs σ Hf' H' Γ xs r h1 h2 (.inr (S.fr.dom a h3)) (fun b => S.bxSome a b h3) h4 h5 ⟨s, .refl, f.ex⟩
theorem hsf_ret_l {i : Nat} {xs : List α} (h : Γ[i]? = some (.l c xs)) (hr : R xs) : HSF (tRet (tVar i)) Γ 0 c R := fun O n σ Hf H hn S D q => by
  obtain ⟨a, vs, h1, h2, h3, h4, h5⟩ := S.at_ i _ h
  exact ⟨.ref a, h1, q a vs σ Hf H Γ xs hr h2 h3 (S.mine a ⟨i, _, h, rfl, h1⟩) (S.lNe h h1) h4 h5 ⟨S, .refl, Ex.rfl'⟩⟩
theorem hsf_seq {c0 : Cod ρ} (h1 : HS t Γ k1 { N := N1, bk := fun _ => False, ct := fun _ => False, c := c0, R := fun _ => False }) (h2 : ∀ Γ1, N1 Γ1 → HSF u Γ1 k2 c R) : HSF (tSeq t u) Γ (k1 + k2) c R := fun O n σ Hf H hn S D q => by
  refine h1 O n σ Hf H (by omega) S { D with nx := u D } (fun σ1 Hf1 H1 Γ1 n1 f1 => ?_) (fun _ _ _ _ z _ => z.elim) (fun _ _ _ _ z _ => z.elim) (fun _ _ _ _ _ _ z _ _ => z.elim)
  refine h2 Γ1 n1 O (n + k1) σ1 Hf1 H1 (by omega) f1.sat D fun a vs σ' Hf' H' Γ' xs r e1 e2 e3 e4 e5 e6 f => ?_
  exact q a vs σ' Hf' H' Γ' xs r e1 e2 e3 (fun ⟨i, hi⟩ => e4 ⟨i, f1.bx i a hi⟩) e5 e6 ⟨by rw [← Nat.add_assoc]; exact f.sat, f1.bx.trans f.bx, f1.ex.trans f.ex⟩
theorem hsf_if {b : Bool → Prop} (ht : TDT tt Γ k1 b) (ha : b true → HSF t Γ k2 c R) (hb : b false → HSF u Γ k3 c R) : HSF (tIfS tt t u) Γ (k1 + max k2 k3) c R := fun O n σ Hf H hn S D q => by
  refine ht O n σ Hf H (by omega) S _ fun r Hf1 H1 pr f1 s1 => ?_
  have go : ∀ {v : TS} {kk : Nat}, HSF v Γ kk c R → kk ≤ max k2 k3 → v D σ H1 := fun {v kk} hv hk => hv O (n + k1) σ Hf1 H1 (by omega) s1 D fun a vs σ' Hf' H' Γ' xs r e1 e2 e3 e4 e5 e6 f =>
    q a vs σ' Hf' H' Γ' xs r e1 e2 e3 e4 e5 e6 ((⟨f.sat, f.bx, f1.ex.trans f.ex⟩ : Fin O Γ Hf Hf' H' σ' Γ' (n + k1 + kk)).le (by omega))
  cases r with
  | true => exact go (ha pr) (Nat.le_max_left _ _)
  | false => exact go (hb pr) (Nat.le_max_right _ _)
theorem tdf_call {B : Ctxt → Prop} {P' : List α → Prop} {E : XK} (h : TDA ta Γ k1 B) (hc : ∀ as, B as → ∃ a b, as = ps b a ∧ pre a ∧ kf a ≤ k2 ∧ ∀ x, PR a x → P' x) : TDF (tCall (spF ps kf pre c PR) [] E ta) Γ (k1 + k2) c P' := fun O n σ Hf H hn S Q q =>
  h O n σ Hf H (by omega) S _ fun vs Hf1 H1 as b o hb f s => by
    obtain ⟨a, bb, e, pa, hk, hp⟩ := hc as b
    subst e
    refine ⟨a, bb, n + k1, Hf1, pa, by omega, s.ex, by rw [List.append_nil]; exact o, fun z hz => ?_, fun r ws Hf' H' xs px e1 e2 e3 e4 e5 f2 ex bx => ?_⟩
    · obtain ⟨i, hi⟩ := hb z hz
      exact (s.at_ i _ hi).2
    · obtain ⟨F, S2⟩ := s.called hb f2 ex bx
      exact q r ws Hf' H' xs (hp xs px) e1 e2 (f.dom r e3) e4 e5 (f.trans F fun _ z => .inl z) (S2.le (by omega))
variable {C : Addr} {F : Hp → List (Str × V) → ω → Prop} {hm : ∀ {H H' fs y}, Ex H H' → F H fs y → F H' fs y} {K : PySem.W.Frag} {k1' : Cod ω}
theorem tdf_meth {m : Str} {B : Ctxt → Prop} {P' : List α → Prop} {Py : ω → Prop} {E : XK} (ho : TD te Γ k k1' Py) (hl : ∀ H fs y0, F H fs y0 → fs.lookup m = none) (h : TDA ta Γ k1 B) (hc : ∀ y as, Py y → B as → ∃ a b, .d k1' y :: as = ps b a ∧ pre a ∧ kf a ≤ k2 ∧ ∀ x, PR a x → P' x)
    (ek : k1' = cIns C F hm := by rfl) : TDF (tMeth C m (spF ps kf pre c PR) [] E te ta) Γ (k + k1 + k2) c P' := fun O n σ Hf H hn S Q q => by
  subst ek
  refine ho O n σ Hf H (by omega) S _ fun v Hf0 H0 y py ry f0 s0 => ?_
  obtain ⟨a, dx, fs, e1, e2, e3⟩ := id ry
  refine ⟨a, dx, fs, e1, s0.ex _ _ e2, hl _ _ _ e3, ?_⟩
  refine h O (n + k) σ Hf0 H0 (by omega) s0 _ fun vs Hf1 H1 as b o hb f s => ?_
  obtain ⟨a', bb, e, pa, hk, hp⟩ := hc y as py b
  have hb' : ∀ z, Sl.bx z ∈ ps bb a' → Bx Γ z := fun z hz => by
    rw [← e] at hz
    rcases List.mem_cons.mp hz with w | w
    · cases w
    · exact hb z w
  refine ⟨a', bb, n + k + k1, Hf1, pa, by omega, s.ex, by rw [← e, List.append_nil]; exact ⟨(cIns C F hm).mono f.ex ry, o⟩, fun z hz => ?_, fun r ws Hf' H' xs px e1 e2 e3 e4 e5 f2 ex bx => ?_⟩
  · obtain ⟨i, hi⟩ := hb' z hz
    exact (s.at_ i _ hi).2
  · obtain ⟨F', S2⟩ := s.called hb' f2 ex bx
    exact q r ws Hf' H' xs (hp xs px) e1 e2 (f0.dom r (f.dom r e3)) e4 e5 ((f0.trans f fun _ z => .inl z).trans F' fun _ z => .inl z) (S2.le (by omega))
/-- the reading of a body gives the promise -/
theorem body_okF {N : List Str} {vs : List V} {Q : VK} {ts : TS} {a : A} {b : Addr} (hl : (ps b a).length ≤ N.length) (one : OneB (ps b a)) (hn : n + kf a ≤ LIM) (ex : Ex Hf H) (o : ArgsOk Hf vs (ps b a)) (bx : ∀ z, Sl.bx z ∈ ps b a → Hf z = none ∧ BoxAt H z n)
    (q : ∀ r ws Hf' H' xs, PR a xs → H' r = some (.lst ws) → Hf' r = none → H r = none → Paired (c.rep Hf') ws xs → ws.length ≤ LB → Fr (fun z => Sl.bx z ∈ ps b a) Hf H Hf' H' → Ex Hf' H' → (∀ z, Sl.bx z ∈ ps b a → Hf' z = none ∧ BoxAt H' z (n + kf a)) → Q (.ref r) H')
    (hs : HSF ts (entry N (ps b a)) (kf a) c (PR a)) : ts { nx := fun _ H' => Q .non H', rt := Q } (start N vs) H := by
  have at0 : ∀ z, Sl.bx z ∈ ps b a → ∃ i : Nat, (entry N (ps b a))[i]? = some (.bx z) := fun z hz => by
    obtain ⟨i, hi⟩ := List.getElem?_of_mem hz
    refine ⟨i, ?_⟩
    unfold entry
    rw [List.getElem?_append_left (List.getElem?_eq_some_iff.mp hi).1]; exact hi
  refine hs _ n _ Hf H hn (sat_entry hl o one ex bx) _ fun r ws σ' Hf' H' Γ' xs px e1 e2 e3 e4 e5 e6 f => ?_
  have hr : H r = none := by
    rcases e3 with e3 | e3
    · exact absurd (at0 r e3) e4
    · exact e3
  refine q r ws Hf' H' xs px e1 e2 hr e5 e6 f.sat.fr f.sat.ex fun z hz => ?_
  obtain ⟨i, hi'⟩ := at0 z hz
  exact (f.sat.at_ i _ (f.bx i z hi')).2
end
section
variable {S : Stc} {X : Cx} {Γ Γ1 : Ctxt} {k k1 k2 k3 : Nat} {A α ρ ω : Type} {c : Cod α} {R : List α → Prop} {N1 : Ctxt → Prop} {e o : Expr} {es : List Expr} {pos pos' pn apos : Pos} {l1 l2 : List Stmt} {st : Stmt}
variable {ps : Addr → A → Ctxt} {kf : A → Nat} {pre : A → Prop} {PR : A → List α → Prop}
theorem phf_of {ts : TS} {sts : List Stmt} (ht : ∀ X, Good S X → PSs X sts ts) (h : HSF ts Γ k c R) : PHFs S Γ k sts c R := fun O n σ Hf H hn s D q => ⟨ts, ht, h O n σ Hf H hn s D q⟩
/-- .. return e -/
theorem bretF (h : PDF S Γ k e c R) : PHFs S Γ k [.Return (some e) pos] c R := phf_of (fun X G => pss_one (ps_ret (tE_ok G))) (hsf_ret h)
theorem bretO (i : Nat) {x : Str} {xs : List α} (hΓ : Γ[i]? = some (.l c xs)) (hN : S.N[i]? = some x) (hv : Vis S.sc x) (hr : R xs) (hd : (x == ("__debug__" : Str)) = false := by decide) (hcd : (x == ("__classdict__" : Str)) = false := by decide) : PHFs S Γ 0 [.Return (some (.Name x pos')) pos] c R :=
  phf_of (fun X G => pss_one (ps_ret (pe_slot G hN hv hd hcd))) (hsf_ret_l hΓ hr)
/-- statements that fall through, then the rest -/
theorem bapp {c0 : Cod ρ} (l1 : List Stmt) (h1 : PHs S Γ k1 l1 { N := N1, bk := fun _ => False, ct := fun _ => False, c := c0, R := fun _ => False }) (h2 : ∀ Γ1, N1 Γ1 → PHFs S Γ1 k2 l2 c R) : PHFs S Γ (k1 + k2) (l1 ++ l2) c R :=
  phf_of (fun X G => pss_app (tSs_ok G) (tSs_ok G)) (hsf_seq h1 h2)
/-- if e: .. return; rest -/
theorem bifF {b' : Bool → Prop} {sts rest : List Stmt} (h : PDT S Γ k1 e b') (ha : b' true → PHFs S Γ k2 sts c R) (hr : b' false → PHFs S Γ k3 rest c R) (hne : rest ≠ []) (ht : ∀ X, Good S X → PSs X (.If e sts [] pos :: rest) (tIfS (tT S e) (tSs S sts) (tSs S rest))) : PHFs S Γ (k1 + max k2 k3) (.If e sts [] pos :: rest) c R :=
  phf_of ht (hsf_if h ha hr)
/-- a def keeps its promise of a new list, by its body -/
theorem fn_F {P : Program} {w : World} {K : PySem.W.Frag} {mg : Str → Option Value} {base : Heap} {x qual : Str} {st : Stmt} {f : Addr} {fd : FuncData} {N pn : List Str} {lv : Nat} (F : Fun K x qual st f fd) (Sc : FnScope N pn (defScope st))
    (hl : ∀ b a, (ps b a).length = pn.length) (hN : pn.length ≤ N.length) (one : ∀ b a, OneB (ps b a))
    (body : ∀ b a, pre a → PHFs ⟨N, defScope st, K, mg, P, w, base, lv, fun _ => true, false⟩ (entry N (ps b a)) (kf a) (defBody st) c (PR a)) :
    FnOk P w K mg base CX0 (lv + 1) f fd pn (spF ps kf pre c PR) := by
  refine F.ok Sc (fun vs H Q E h => ?_) (fun cdv A outer s H vs Q E hr h => ?_)
  · obtain ⟨a, b, n, Hf, _, _, _, o, _⟩ := h
    rw [argsOk_len o]; exact hl b a
  · obtain ⟨a, b, n, Hf, hp, hn, ex, o, bx, q⟩ := h
    refine ⟨tSs ⟨N, defScope st, K, mg, P, w, base, lv, fun _ => true, false⟩ (defBody st), tSs_ok (cxG hr Sc.nd), ?_⟩
    exact body_okF (by rw [hl]; exact hN) (one b a) hn ex o bx q (body b a hp)
theorem cal_F {P : Program} {w : World} {K : PySem.W.Frag} {mg : Str → Option Value} {base : Heap} {x : Str} {st : Stmt} {N pn : List Str} {lv : Nat} (D : Def K mg x st) (hb : BindsD st x pn) (Sc : FnScope N pn (defScope st))
    (hl : ∀ b a, (ps b a).length = pn.length) (hN : pn.length ≤ N.length) (one : ∀ b a, OneB (ps b a))
    (body : ∀ b a, pre a → PHFs ⟨N, defScope st, K, mg, P, w, base, lv, fun _ => true, false⟩ (entry N (ps b a)) (kf a) (defBody st) c (PR a)) :
    Cal P w K mg base x pn (lv + 1) (spF ps kf pre c PR) := by
  obtain ⟨f, fd, F, hm⟩ := D.ex
  exact ⟨f, fd, fn_F F Sc hl hN one body, hm, F.kp, F.binds hb⟩
theorem mcal_F {P : Program} {w : World} {K : PySem.W.Frag} {mg : Str → Option Value} {base : Heap} {m qual : Str} {st : Stmt} {N pn : List Str} {lv : Nat} {C : Addr} (D : MDef K C m qual st) (hb : BindsM st m qual pn) (Sc : FnScope N pn (defScope st))
    (hl : ∀ b a, (ps b a).length = pn.length) (hN : pn.length ≤ N.length) (one : ∀ b a, OneB (ps b a))
    (body : ∀ b a, pre a → PHFs ⟨N, defScope st, K, mg, P, w, base, lv, fun _ => true, false⟩ (entry N (ps b a)) (kf a) (defBody st) c (PR a)) :
    MCal P w K mg base C m pn (lv + 1) (spF ps kf pre c PR) := by
  obtain ⟨f, fd, F, hm⟩ := D.ex
  exact ⟨f, fd, fn_F F Sc hl hN one body, hm, F.binds hb⟩
/-- calls of such -/
theorem pcalF {B : Ctxt → Prop} {P' : List α → Prop} {pn' : List Str} {x : Str} {l : Nat} (F : Cal S.prog S.w S.K S.mg S.base x pn' l (spF ps kf pre c PR)) (hl : l ≤ S.lv) (hg : S.sc.names.lookup x = some .globalImplicit)
    (h : PDA S Γ k1 (e :: es) B) (hc : ∀ as, B as → ∃ a b, as = ps b a ∧ pre a ∧ kf a ≤ k2 ∧ ∀ x, PR a x → P' x)
    (he : ∀ env : Env, starEach (e :: es) env = (false, eval e env) :: starEach es env) (hpl : ∀ env : Env, (backTo pos (starEach es env)).any (·.1) = false) (hdb : (x == ("__debug__" : Str)) = false := by decide) : PDF S Γ (k1 + k2) (.Call (.Name x pn) (e :: es) [] pos) c P' := by
  obtain ⟨f, fd, F, hm, hk, hb⟩ := F.ex
  exact pdf_of (fun X G => pe_call (fnG F G) (G.room.mono hl) (glb G hg) (by rw [G.mg]; exact hm) (by rw [G.K]; exact hk) (by rw [G.K]; exact hb) .nil pass0 (tA_ok G) hdb (he _) (hpl _)) (tdf_call h hc)
/-- a promise of a new list of known items, of data only -/
abbrev spFP (ps : A → Ctxt) (pre : A → Prop) (c : Cod α) (f : A → List α) : Sp := spF (fun _ => ps) (fun _ => 0) pre c (fun a x => x = f a)
variable {C : Addr} {F : Hp → List (Str × V) → ω → Prop} {hm : ∀ {H H' fs y}, Ex H H' → F H fs y → F H' fs y} {β : Type} {cb : Cod β} {x m : Str} {pn' : List Str} {lv : Nat}
theorem pm0F {pre : ω → Prop} {g : ω → List α} {y : ω} {pl : Env → Sem Bool} (M : MCal S.prog S.w S.K S.mg S.base C m pn' lv (spFP (fun a => [.d (cIns C F hm) a]) pre c g)) (hC : Cls S.K C) (hl : lv ≤ S.lv) (ho : PD S Γ 0 o (cIns C F hm) (· = y)) (hno : ∀ H fs y0, F H fs y0 → fs.lookup m = none) (hp : pre y) (ht : MTree0 o m apos pos pl) :
    PDF S Γ 0 (.Call (.Attribute o m apos) [] [] pos) c (· = g y) := by
  obtain ⟨f, fd, Fn, Mt, hb⟩ := M.ex
  exact pdf_of (fun X G => pe_meth0 (pl := pl X.env) (tE_ok G) (by rw [G.K]; exact hC) (by rw [G.K]; exact Mt) (fnG Fn G) (G.room.mono hl) (by rw [G.K]; exact hb) .nil pass0 (ht _))
    (tdf_meth (k := 0) (k1 := 0) (k2 := 0) ho hno ta_nil fun y' as h1 h2 => ⟨y', 0, by subst h2; rfl, by subst h1; exact hp, Nat.le_refl _, fun x hx => by subst h1; exact hx⟩)
theorem pm1F {pre : ω × β → Prop} {g : ω × β → List α} {y : ω} {z : β} {pl : Env → Sem Bool} (M : MCal S.prog S.w S.K S.mg S.base C m pn' lv (spFP (fun (a : ω × β) => [.d (cIns C F hm) a.1, .d cb a.2]) pre c g)) (hC : Cls S.K C) (hl : lv ≤ S.lv) (ho : PD S Γ 0 o (cIns C F hm) (· = y)) (he : PD S Γ 0 e cb (· = z)) (hno : ∀ H fs y0, F H fs y0 → fs.lookup m = none) (hp : pre (y, z))
    (hs : ∀ env : Env, starEach [e] env = (false, eval e env) :: starEach [] env) (hpl : ∀ env : Env, (backTo pos (starEach [] env)).any (·.1) = false) (ht : MTree o m apos pos [e] [] pl) : PDF S Γ 0 (.Call (.Attribute o m apos) [e] [] pos) c (· = g (y, z)) := by
  obtain ⟨f, fd, Fn, Mt, hb⟩ := M.ex
  exact pdf_of (fun X G => pe_meth (pl := pl X.env) (tE_ok G) (by rw [G.K]; exact hC) (by rw [G.K]; exact Mt) (fnG Fn G) (G.room.mono hl) (by rw [G.K]; exact hb) .nil pass0 (tA_ok G) (hs _) (hpl _) (ht _))
    (tdf_meth (k := 0) (k1 := 0) (k2 := 0) ho hno (pda_one he hs) fun y' as h1 h2 => ⟨(y', z), 0, by subst h2; rfl, by subst h1; exact hp, Nat.le_refl _, fun x hx => by subst h1; exact hx⟩)
end
/-! ### a list of one's own, looked at, where what comes out holds no list -/
/-- the codec sees no list -/
def NL {α : Type} (c : Cod α) : Prop := ∀ (H H' : Hp) v x, (∀ b o, H b = some o → (∀ vs, o ≠ .lst vs) → H' b = some o) → c.rep H v x → c.rep H' v x
section
variable {α β γ ω : Type} {c : Cod α} {c1 : Cod β} {c2 : Cod γ}
theorem Flat.nl (h : Flat c) : NL c := fun H H' v x _ r => h H H' v x r
theorem nl_int : NL cInt := fun _ _ _ _ _ h => h
theorem nl_bool : NL cBool := fun _ _ _ _ _ h => h
theorem nl_str : NL cStr := fun _ _ _ _ _ h => h
theorem nl_tup (h : NL c) : NL (cTup c) := fun H H' v x k ⟨a, vs, h1, h2, h3, h4⟩ => ⟨a, vs, h1, k _ _ h2 (fun _ z => nomatch z), paired_mono h3 fun _ _ r => h H H' _ _ k r, h4⟩
theorem nl_t2 (h : NL c) (h' : NL c1) : NL (cT2 c c1) := fun H H' v x k ⟨a, u, w, h1, h2, h3, h4⟩ => ⟨a, u, w, h1, k _ _ h2 (fun _ z => nomatch z), h H H' _ _ k h3, h' H H' _ _ k h4⟩
theorem nl_t3 (h : NL c) (h' : NL c1) (h'' : NL c2) : NL (cT3 c c1 c2) := fun H H' v x k ⟨a, u, w, y, h1, h2, h3, h4, h5⟩ => ⟨a, u, w, y, h1, k _ _ h2 (fun _ z => nomatch z), h H H' _ _ k h3, h' H H' _ _ k h4, h'' H H' _ _ k h5⟩
theorem nl_ins {C : Addr} {F : Hp → List (Str × V) → ω → Prop} {hm : ∀ {H H' fs y}, Ex H H' → F H fs y → F H' fs y} (h : ∀ H H' fs y, (∀ b o, H b = some o → (∀ vs, o ≠ .lst vs) → H' b = some o) → F H fs y → F H' fs y) : NL (cIns C F hm) := fun H H' v y k ⟨a, dx, fs, h1, h2, h3⟩ => ⟨a, dx, fs, h1, k _ _ h2 (fun _ z => nomatch z), h H H' fs y k h3⟩
end
section
variable {O : Org} {Hf H Hf' H' : Hp} {σ : Stt} {n m : Nat} {Γ : Ctxt} {k : Nat} {α β : Type} {c : Cod α} {c' : Cod β} {te : TE}
theorem Sat.viewN (S : Sat O Hf H σ Γ n) {i : Nat} {c : Cod α} {xs : List α} (h : Γ[i]? = some (.l c xs)) {Q : Hp → Prop}
    (run : ∀ Hf1, Sat O Hf1 H σ (Γ.set i (.d (cList c) xs)) n → (∀ Hf1' H', Fr (Bx (Γ.set i (.d (cList c) xs))) Hf1 H Hf1' H' → Sat O Hf1' H' σ (Γ.set i (.d (cList c) xs)) m →
      (∃ Hf', (∀ b o, Hf1' b = some o → (∀ vs, o ≠ .lst vs) → Hf' b = some o) ∧ (∀ b, Hf1' b = none → Hf' b = none) ∧ Fr (Bx Γ) Hf H Hf' H' ∧ Sat O Hf' H' σ Γ m)) → Q H) : Q H := by
  obtain ⟨a, vs, h1, h2, h3, nbx, oth, rp, S'⟩ := S.freeze h
  refine run _ S' fun Hf1' H' f s => ?_
  have bxe : ∀ b, Bx Γ b → Bx (Γ.set i (.d (cList c) xs)) b := fun b ⟨j, hj⟩ => ⟨j, by
    rw [List.getElem?_set_ne (fun z => by subst z; rw [h] at hj; cases hj)]; exact hj⟩
  have bxb : ∀ b, Bx (Γ.set i (.d (cList c) xs)) b → Bx Γ b := fun b hb => boxLt hb
  have F : Fr (Bx Γ) Hf H (fun b => if b = a then none else Hf1' b) H' := by
    refine ⟨fun b o e => ?_, fun b o e nm => f.keep b o e fun z => nm (bxb b z), fun b o e nm z => ?_, f.dom⟩
    · have nb := ne_of_none e h3
      show (if b = a then none else Hf1' b) = some o
      rw [if_neg nb]; exact f.ex b o (by rw [upd_ne nb]; exact e)
    · show (if b = a then none else Hf1' b) = none
      by_cases nb : b = a
      · rw [if_pos nb]
      · rw [if_neg nb]; exact f.fz b o e (fun w => nm (bxb b w)) (by rw [upd_ne nb]; exact z)
  have ha' : Hf1' a = some (.lst vs) := f.ex a _ upd_same
  refine ⟨_, fun b o e nl => ?_, fun b z => ?_, F, S.grow F (fun b o e => ?_) fun b hb => ?_⟩
  · show (if b = a then none else Hf1' b) = some o
    have nb : b ≠ a := fun z => by
      subst z; rw [ha'] at e
      injection e with e
      exact nl vs e.symm
    rw [if_neg nb]; exact e
  · show (if b = a then none else Hf1' b) = none
    split
    · rfl
    · exact z
  · have e' : (if b = a then none else Hf1' b) = some o := e
    by_cases nb : b = a
    · rw [if_pos nb] at e'; cases e'
    · rw [if_neg nb] at e'; exact s.ex b o e'
  · obtain ⟨j, hj⟩ := bxe b hb
    obtain ⟨_, z2, z3⟩ := s.at_ j _ hj
    refine ⟨?_, z3⟩
    show (if b = a then none else Hf1' b) = none
    by_cases nb : b = a
    · rw [if_pos nb]
    · rw [if_neg nb]; exact z2
theorem td_viewN {i : Nat} {xs : List α} (h : Γ[i]? = some (.l c xs)) (fl : NL c') {P : β → Prop} (ht : TD te (Γ.set i (.d (cList c) xs)) k c' P) : TD te Γ k c' P := fun O n σ Hf H hn S Q q => by
  refine S.viewN (m := n + k) h (Q := fun H => te σ H Q) fun Hf1 S1 back => ?_
  refine ht O n σ Hf1 H hn S1 Q fun v Hf' H' x px r f s => ?_
  obtain ⟨Hf2, nl, _, F, S2⟩ := back Hf' H' f s
  exact q v Hf2 H' x px (fl _ _ _ _ nl r) F S2
/-- .. where a new list comes out -/
theorem tdf_viewN {i : Nat} {xs : List α} (h : Γ[i]? = some (.l c xs)) (fl : NL c') {P : List β → Prop} (ht : TDF te (Γ.set i (.d (cList c) xs)) k c' P) : TDF te Γ k c' P := fun O n σ Hf H hn S Q q => by
  refine S.viewN (m := n + k) h (Q := fun H => te σ H Q) fun Hf1 S1 back => ?_
  refine ht O n σ Hf1 H hn S1 Q fun a vs Hf' H' xs px e1 e2 e3 e4 e5 f s => ?_
  obtain ⟨Hf2, nl, nn, F, S2⟩ := back Hf' H' f s
  exact q a vs Hf2 H' xs px e1 (nn a e2) e3 (paired_mono e4 fun _ _ r => fl _ _ _ _ nl r) e5 F S2
end
end DL

set_option Elab.async false
set_option linter.all false
set_option maxRecDepth 100000
set_option maxHeartbeats 2000000
/-! ### own == and !=, of any two -/
namespace DL
open PySem PySem.Spec L2
section
variable {K : PySem.W.Frag} {C L x f : Addr} {h₀ : Heap} {m : Str → Option Value} {b tb : Value} {ox : Obj} {od : Option Obj} {P : Program} {w : World} {A : Around} {s : Shared} {E : Value → Shared → Prop}
/-- a special name of the class of x that is a builtin: bound to x, called -/
theorem bound_bt {M : Model} {name : Str} {id : String} {args : List Value} {Q : Option Value → Shared → Prop} (k : K.In s.heap) (I : PySem.W.InstAt s.heap x ox C od) (found : PySem.W.findIn K (.ref C) name = some (some (.builtin id)))
    (bind : ∀ self, bindSpecial (.builtin id) self = pure (.builtin id, [self])) (q : wpAny M A (call (.builtin id) (.ref x :: args)) (fun v => Q (some v)) E s) : wpAny M A (callSpecialIfBound? (.ref x) name args) Q E s := by
  have got : wpAny M A (bindSpecialIfBound? (.ref x) name) (fun r s1 => r = some (.builtin id, [.ref x]) ∧ s1 = s) E s := by
    have spec : PySem.W.Looks M s.heap (specialOf (.ref x) name) (some (.builtin id)) := I.type.andThen (PySem.W.looks_findIn k found)
    unfold bindSpecialIfBound?
    apply wpAny_bind
    apply spec.here
    dsimp only
    rw [bind]
    apply wpAny_bind
    apply wpAny_askSetting
    apply wpAny_ite
    split
    · exact wpAny_bind (wpAny_pure (wpAny_pure ⟨rfl, rfl⟩))
    · exact wpAny_tryCatch (wpAny_bind (wpAny_pure (wpAny_pure ⟨rfl, rfl⟩)))
  unfold callSpecialIfBound?
  apply wpAny_holding
  refine wpAny_bind (wpAny_mono got ?_ fun _ _ e => e)
  rintro _ _ ⟨rfl, rfl⟩
  exact wpAny_bind (wpAny_mono q (fun _ _ z => wpAny_pure z) fun _ _ e => e)
/-- object's __ne__, where the class of x has a def for == that answers with a truth -/
theorem ne_code {Q : PySem.Fin → Shared → Prop} (room : A.units < cLine) (k : K.In s.heap) (I : PySem.W.InstAt s.heap x ox C od) (found : PySem.W.findIn K (.ref C) "__eq__" = some (some (.ref f))) (fn : PySem.W.isFn K (.ref f) = true)
    (q : wpAny (model P w) A (call (.ref f) [.ref x, b]) (fun v s1 => ∃ t : Bool, v = .bool t ∧ Q (.done (.ret (.bool (!t)))) s1) E s) : wpAny (model P w) A (Builtin.«object.__ne__» ⟨[.ref x, b], []⟩) Q E s := by
  have asked : wpAny (model P w) A (callSpecialIfBound? (.ref x) "__eq__" [b]) (fun r s1 => ∃ t : Bool, r = some (.bool t) ∧ Q (.done (.ret (.bool (!t)))) s1) E s :=
    PySem.W.ifBound_K k I found fn (wpAny_mono q (fun _ _ ⟨t, e, z⟩ => ⟨t, congrArg some e, z⟩) fun _ _ e => e)
  unfold Builtin.«object.__ne__»
  repeat first | with_reducible refine wpAny_cRoomFor room ?_ | with_reducible refine wpAny_bind (wpAny_mono asked ?_ fun _ _ e => e) | wp_step
  rintro _ s1 ⟨t, rfl, z⟩
  refine wpAny_bind (m := truthy (.bool t)) (wpAny_truthy_bool ?_)
  exact wpAny_pure z
def NeBack (Q : Value → Shared → Prop) (v : Value) (s' : Shared) : Prop := ∃ r, v = .bool r ∧ Q (.bool (!r)) s'
/-- x != b, x of a class with its own == and object's != -/
theorem ne_K {Q : Value → Shared → Prop} (in_ : A.in1.units < cLine) (room : A.units < cLine) (F : PyProof.Rows.Fr h₀ L s.heap m) (k0 : K.In h₀) (I : PySem.W.InstAt s.heap x ox C od) (right : PySem.W.Looks (model P w) s.heap (typeOf b) tb) (left : PySem.W.notFirst K C tb = true)
    (ne : PySem.W.findIn K (.ref C) "__ne__" = some (some (.builtin "object.__ne__"))) (ob : PySem.W.mroIn K C (.type "object") = some true) (eq_ : PySem.W.findIn K (.ref C) "__eq__" = some (some (.ref f))) (fn : PySem.W.isFn K (.ref f) = true)
    (q : wpAny (model P w) A.in1 (call (.ref f) [.ref x, b]) (NeBack Q) E s) : wpAny (model P w) A (richCompare .NotEq (.ref x) b) Q E s := by
  have k := k0.keeps F.keep
  -- object.__ne__ of the two
  have code : wpAny (model P w) A (call (.builtin "object.__ne__") [.ref x, b]) (fun v s1 => ∃ t : Bool, v = .bool t ∧ Q (.bool t) s1) E s := by
    apply wpAny_call
    have is : PySem.W.Looks (model P w) s.heap (isInstance (.ref x) (.type "object")) true := I.type.andThen (PySem.W.looks_mroIn k ob)
    refine codeAny_call_builtin PySem.F.cmp_object.ne.plain PySem.F.cmpEntry_ne (@PySem.W.check_slot (model P w) _ _ _ "object.__ne__" "object" "__ne__" (.ref x) [b] [] _ PySem.F.cmpKind_ne PySem.F.cmpSplit_ne is (PySem.F.cmpArgs_ne _ _) ?_)
    refine ne_code in_ k I eq_ fn (wpAny_mono q ?_ fun _ _ e => e)
    rintro _ s1 ⟨r, rfl, z⟩
    exact ⟨r, rfl, !r, rfl, z⟩
  have tried : wpAny (model P w) A (tryCompare (.ref x) "__ne__" b) (fun r s1 => ∃ v, r = some v ∧ Q v s1) E s := by
    unfold tryCompare
    refine wpAny_bind (bound_bt k I ne PySem.F.cmp_object.ne.bind (wpAny_mono code ?_ fun _ _ e => e))
    rintro _ s1 ⟨t, rfl, z⟩
    exact wpAny_pure ⟨_, rfl, z⟩
  -- the right one's class is the left one's, or is not below it
  have sub : (Value.ref C != tb) = true → PySem.W.subIn K tb (.ref C) = some false := fun n => by
    have l : ((tb == Value.ref C) || (PySem.W.subIn K tb (.ref C) == some false)) = true := left
    cases e : (tb == Value.ref C)
    · rw [e, Bool.false_or] at l
      exact eq_of_beq l
    · rw [eq_of_beq e] at n
      simp at n
  unfold richCompare
  apply wpAny_holding
  apply wpAny_bind
  apply wpAny_cRoomFor room
  rw [show oneThing? .NotEq (.ref x) b = none from oneThing_ref ..]
  apply wpAny_bind
  apply I.type.here
  apply wpAny_bind
  apply right.here
  have last : ∀ {R : Option Value → Sem Value}, (∀ v, R (some v) = pure v) → wpAny (model P w) A (tryCompare (.ref x) "__ne__" b >>= R) Q E s := fun hR => by
    refine wpAny_bind (wpAny_mono tried ?_ fun _ _ e => e)
    rintro _ s1 ⟨v, rfl, z⟩
    rw [hR]
    exact wpAny_pure z
  dsimp only
  split
  · rename_i n
    apply wpAny_bind
    apply (PySem.W.looks_subIn k (sub n)).here
    exact last fun _ => rfl
  · apply wpAny_bind
    apply wpAny_pure
    exact last fun _ => rfl
end
end DL

set_option Elab.async false
set_option linter.all false
set_option maxRecDepth 100000
set_option maxHeartbeats 2000000
/-! ### own == and != of any two, len by an own def -/
namespace DL
open PySem PySem.Spec L2
section
variable {X : Cx} {n : Nat} {CX : CXT} {C f : Addr} {fd : FuncData} {ps : List Str} {sp : Sp} {E : XK} {A : Around} {pins : List (Addr × Obj)} {σ : L2.St} {H : Hp} {s : Shared}
theorem run_own {us : List Value} {vs : List V} {Q : VK} (F : FnOk X.prog X.w X.K X.mg X.base CX n f fd ps sp) (hb : Binds X.K fd ps []) (hx : Passes CX X E) (hr : Room n A) (fr : A.frames = X.A.frames) (I : Inv X pins σ H s) (r2 : Vals vs us) (hsp : sp vs H Q E) :
    wpAny (model X.prog X.w) A (call (.ref f) us) (fun u s' => ∃ v H', Inv X pins σ H' s' ∧ RelV v u ∧ Q v H') X.xe s := by
  have e0 : Env0 X.prog X.w X.K X.mg X.base A X.stack s H := by
    have e := I.env0
    exact ⟨by rw [fr]; exact e.frames, e.mod, e.bs, e.bsz, e.funs, e.frf, e.hok, e.bare⟩
  have hl := F.len _ _ _ _ hsp
  have hvl := r2.length
  refine wpAny_call (codeAny_mono (F.run A X.stack s H ⟨us, []⟩ us vs _ E hr e0 (by
    have := hb s us I.kIn (by simpa [← hvl] using hl)
    simpa using this) r2 hsp) fun r s' hq => ?_)
  cases r with
  | error e => exact hx pins σ H s e s' I hq
  | ok fl =>
    cases fl with
    | ret w =>
      obtain ⟨z, H', I', rz, q⟩ := I.after hq
      exact ⟨z, H', I', rz, q⟩
    | next => exact False.elim hq
    | brk => exact False.elim hq
    | cont => exact False.elim hq
def rCmpOwn (C : Addr) (neg : Bool) (sp : Sp) : R2 := fun x y H Q => ∃ a dx fs b, x = .ref a ∧ H a = some (.ins C dx fs) ∧ y = .ref b ∧ ((∃ dy gs, H b = some (.ins C dy gs)) ∨ ∃ xs, H b = some (.tup xs)) ∧
  sp [x, y] H (fun v H' => ∃ r, v = .bl r ∧ Q (.bl (if neg = true then !r else r)) H') E0
theorem see_right {b : Addr} (I : Inv X pins σ H s) (cl : Cls X.K C) (nt : PySem.W.subIn X.K (.type "tuple") (.ref C) = some false) (h : (∃ dy gs, H b = some (.ins C dy gs)) ∨ ∃ xs, H b = some (.tup xs)) :
    ∃ tb, PySem.W.Looks (model X.prog X.w) s.heap (typeOf (.ref b)) tb ∧ PySem.W.notFirst X.K C tb = true := by
  rcases h with ⟨dy, gs, h⟩ | ⟨xs, h⟩
  · obtain ⟨mB, J', _⟩ := ins_get I.hok h
    obtain ⟨od', J', _⟩ := J'.look
    exact ⟨_, J'.type, by simp [PySem.W.notFirst]⟩
  · obtain ⟨_, _, _, o, h1, h2, _⟩ := (show ObjOk X.prog X.w H s.heap b (.tup xs) from I.hok b _ h)
    exact ⟨.type "tuple", (PySem.W.Looks.ld h1).andThen (by rw [h2]; exact .now), by simp [PySem.W.notFirst, nt]⟩
structure EqA (P : Program) (w : World) (K : PySem.W.Frag) (mg : Str → Option Value) (base : Heap) (C : Addr) (lv : Nat) (sp : Sp) : Prop where
  ex : ∃ f fd pn, FnOk P w K mg base CX0 lv f fd pn sp ∧ PySem.W.findIn K (.ref C) "__eq__" = some (some (.ref f)) ∧ PySem.W.isFn K (.ref f) = true ∧ Binds K fd pn []
  cl : Cls K C
  ob : PySem.W.mroIn K C (.type "object") = some true
  ne : PySem.W.findIn K (.ref C) "__ne__" = some (some (.builtin "object.__ne__"))
  nt : PySem.W.subIn K (.type "tuple") (.ref C) = some false
theorem op_eqOwn (e : EqA X.prog X.w X.K X.mg X.base C n sp) (hr : Room n X.A) : OpR X (compareOp .Eq) (rCmpOwn C false sp) := by
  intro pins s σ H x y v u Q I rx ry hq
  obtain ⟨f, fd, pn, F, hs, hf, hb⟩ := e.ex
  obtain ⟨a, dx, fs, b, rfl, ha, rfl, hb', hsp⟩ := hq
  cases rx
  cases ry
  show wpAny (model X.prog X.w) X.A (richCompare .Eq (.ref a) (.ref b)) (EP X pins σ Q) X.xe s
  obtain ⟨mA, J, _⟩ := ins_get I.hok ha
  obtain ⟨od, J, _⟩ := J.look
  obtain ⟨m, hF⟩ := I.fr
  obtain ⟨tb, l, nf⟩ := see_right I e.cl e.nt hb'
  refine PySem.W.cmp_K (op := .Eq) (tb := tb) hr.units0 hF I.ok.mod.kin J l nf hs hf ?_
  refine wpAny_mono (run_own F hb pass0 hr rfl I (.cons (show RelV (.ref a) (.ref a) from rfl) (.cons (show RelV (.ref b) (.ref b) from rfl) .nil)) hsp) (fun u s' q => ?_) fun _ _ x => x
  obtain ⟨v, H', I', rv, r, rfl, q⟩ := q
  cases rv
  exact ⟨.bl r, H', I', rfl, q⟩
theorem op_neOwn (e : EqA X.prog X.w X.K X.mg X.base C n sp) (hr : Room (n + 1) X.A) : OpR X (compareOp .NotEq) (rCmpOwn C true sp) := by
  intro pins s σ H x y v u Q I rx ry hq
  obtain ⟨f, fd, pn, F, hs, hf, hb⟩ := e.ex
  obtain ⟨a, dx, fs, b, rfl, ha, rfl, hb', hsp⟩ := hq
  cases rx
  cases ry
  show wpAny (model X.prog X.w) X.A (richCompare .NotEq (.ref a) (.ref b)) (EP X pins σ Q) X.xe s
  obtain ⟨mA, J, _⟩ := ins_get I.hok ha
  obtain ⟨od, J, _⟩ := J.look
  obtain ⟨m, hF⟩ := I.fr
  obtain ⟨tb, l, nf⟩ := see_right I e.cl e.nt hb'
  refine ne_K (tb := tb) hr.in1.units0 hr.units0 hF I.ok.mod.kin J l nf e.ne e.ob hs hf ?_
  refine wpAny_mono (run_own F hb pass0 hr.in1 rfl I (.cons (show RelV (.ref a) (.ref a) from rfl) (.cons (show RelV (.ref b) (.ref b) from rfl) .nil)) hsp) (fun u s' q => ?_) fun _ _ x => x
  obtain ⟨v, H', I', rv, r, rfl, q⟩ := q
  cases rv
  exact ⟨r, rfl, .bl (!r), H', I', rfl, q⟩
/-- len(x) by the class's own def -/
def rLenOwn (C : Addr) (sp : Sp) : List V → Hp → VK → Prop := fun xs H Q => ∃ a dx fs, xs = [.ref a] ∧ H a = some (.ins C dx fs) ∧ sp [.ref a] H (fun v H' => ∃ i : Int, v = .int i ∧ 0 ≤ i ∧ i < 9223372036854775808 ∧ Q (.int i) H') E0
structure LenA (P : Program) (w : World) (K : PySem.W.Frag) (mg : Str → Option Value) (base : Heap) (C : Addr) (lv : Nat) (sp : Sp) : Prop where
  ex : ∃ f fd pn, FnOk P w K mg base CX0 lv f fd pn sp ∧ PySem.W.findIn K (.ref C) "__len__" = some (some (.ref f)) ∧ PySem.W.isFn K (.ref f) = true ∧ Binds K fd pn []
theorem cr_lenOwn (e : LenA X.prog X.w X.K X.mg X.base C n sp) (hr : Room (n + 1) X.A) : CallR X (.builtin "len") (rLenOwn C sp) := by
  intro pins s σ H xs us Q I r h
  obtain ⟨f, fd, pn, F, hs, hf, hb⟩ := e.ex
  obtain ⟨a, dx, fs, rfl, ha, hsp⟩ := h
  rw [Vals.ref1 r]
  obtain ⟨mA, J, _⟩ := ins_get I.hok ha
  obtain ⟨od, J, _⟩ := J.look
  obtain ⟨m, hF⟩ := I.fr
  refine PySem.W.len_K hF I.ok.mod.kin J hs hf ?_
  refine wpAny_mono (run_own F hb pass0 hr.in1 rfl I (.cons (show RelV (.ref a) (.ref a) from rfl) .nil) hsp) (fun u s' q => ?_) fun _ _ x => x
  obtain ⟨v, H', I', rv, i, rfl, h0, h1, q⟩ := q
  obtain ⟨t, rfl⟩ := (show ∃ t, u = Value.int i t from rv)
  exact ⟨⟨h0, h1⟩, .int i, H', I'.tok _, ⟨_, rfl⟩, q⟩
/-- repr of a truth -/
theorem cr_reprB : CallR X (.builtin "repr") (fun xs H Q => ∃ b, xs = [.bl b] ∧ Q (.str (if b = true then "True" else "False")) H) := by
  intro pins s σ H xs us Q I r h
  obtain ⟨b, rfl, q⟩ := h
  obtain ⟨u, rfl, t⟩ := vals1 r
  cases t
  exact PySem.P.repr_of_bool ⟨.str _, H, I.tok _, ⟨_, rfl⟩, q⟩
end
end DL

set_option Elab.async false
set_option linter.all false
set_option maxRecDepth 100000
set_option maxHeartbeats 2000000
/-! ### rules: own == and !=, len of one's own, repr of a truth, is, max, slices -/
namespace DL
open PySem PySem.Spec L2
section
variable {X : Cx}
theorem op_isB : OpR X (compareOp .Is) (fun x y H Q => ∃ a b, x = .bl a ∧ y = .bl b ∧ Q (.bl (decide (a = b))) H) := by
  intro pins s σ H x y v u Q I rx ry h
  obtain ⟨a, b, rfl, rfl, q⟩ := h
  cases rx
  cases ry
  have e : wpAny (model X.prog X.w) X.A (compareOp .Is (.bool a) (.bool b)) (EP X pins σ Q) X.xe s := wpAny_pure (fin_bl I q (by cases a <;> cases b <;> rfl))
  exact e
theorem reads_ints {h : Heap} : ∀ {vs : List Value} {ns : List Int}, PyProof.Rows.IntsAre vs ns → ∃ as, ReadsAll h vs (ns.map .int) as
  | _, _, .nil => ⟨_, .nil⟩
  | _, _, .cons n t r => by
    obtain ⟨as, q⟩ := reads_ints r
    exact ⟨_, .cons (.int n t) q⟩
theorem depth_ints : ∀ ns : List Int, PyData.depthAll (ns.map .int) ≤ 1
  | [] => by simp [PyData.depthAll]
  | n :: ns => by
    have := depth_ints ns
    simp only [List.map_cons, PyData.depthAll, PyData.depth]
    omega
/-- max of a tuple of ints -/
def rMaxT (K : PySem.W.Frag) : List V → Hp → VK → Prop := fun vs H Q => ∃ (a : Addr) (n : Int) (ns : List Int), vs = [V.ref a] ∧ SqT K H a ((n :: ns).map V.int) ∧ Q (.int (ns.foldl max n)) H
theorem cr_maxT (hc : X.calm = true) (hu : X.A.units + 64 < cLine) : CallR X (.builtin "max") (rMaxT X.K) := by
  intro pins s σ H vs us Q I r h
  obtain ⟨a, n, ns, rfl, hs, q⟩ := h
  obtain ⟨its, rv, hl, hz⟩ := I.tuple hs
  rw [Vals.ref1 r]
  obtain ⟨as, rd⟩ := reads_ints (h := s.heap) rv.ints
  have hd := depth_ints (n :: ns)
  refine PySem.W.max_tuple_data (x := .int n) (xs := ns.map .int) (as := as) (I.ok.hd hc) hl (by simpa using rd) ⟨fun x hx y hy => ?_, fun x hx => ?_⟩ (by show X.A.units + 1 + PyData.depthAll ((n :: ns).map .int) < cLine; omega) fun i v h' tk bs hv rd' hk => ?_
  · have hx' : x ∈ (n :: ns).map PyData.int := hx
    have hy' : y ∈ (n :: ns).map PyData.int := hy
    obtain ⟨i, _, rfl⟩ := List.mem_map.mp hx'
    obtain ⟨j, _, rfl⟩ := List.mem_map.mp hy'
    rfl
  · have hx' : x ∈ (n :: ns).map PyData.int := hx
    obtain ⟨i, _, rfl⟩ := List.mem_map.mp hx'
    exact fun z => nomatch z
  · rw [PySem.W.maxD_ints] at rd'
    cases rd' with
    | int i t => exact ⟨.int _, H, I.kept hk, ⟨_, rfl⟩, q⟩
end
end DL

set_option Elab.async false
set_option linter.all false
set_option maxRecDepth 100000
set_option maxHeartbeats 2000000
namespace DL
open PySem PySem.Spec L2
/-- truths -/
def bStr (b : Bool) : Str := if b = true then "True" else "False"
theorem bStr_inj {a b : Bool} : bStr a = bStr b ↔ a = b := by cases a <;> cases b <;> simp [bStr] <;> decide
/-- what may stand at the right of an own == -/
abbrev SeeC (C : Addr) {β : Type} (cb : Cod β) : Prop := ∀ H v y, cb.rep H v y → ∃ b, v = .ref b ∧ ((∃ dy gs, H b = some (.ins C dy gs)) ∨ ∃ xs, H b = some (.tup xs))
section
variable {α β γ ω ρ : Type} {c : Cod α} {cb : Cod β} {C : Addr} {F : Hp → List (Str × V) → ω → Prop} {hm : ∀ {H H' fs y}, Ex H H' → F H fs y → F H' fs y} {x : ω} {y : β} {K : PySem.W.Frag}
theorem see_ins : SeeC C (cIns C F hm) := fun H v y ⟨a, dx, fs, h1, h2, _⟩ => ⟨a, h1, .inl ⟨dx, fs, h2⟩⟩
theorem see_tup : SeeC C (cTup c) := fun H v y ⟨a, vs, h1, h2, _⟩ => ⟨a, h1, .inr ⟨vs, h2⟩⟩
theorem rd_cmpOwn {neg : Bool} {pre : ω × β → Prop} {g : ω × β → Bool} (see : SeeC C cb) (hp : pre (x, y)) :
    RD (rCmpOwn C neg (spP (fun (a : ω × β) => [.d (cIns C F hm) a.1, .d cb a.2]) pre cBool g)) (cIns C F hm) x cb y cBool (· = if neg = true then !g (x, y) else g (x, y)) := fun Hf H v u e h1 h2 Q q => by
  obtain ⟨a, dx, fs, e1, e2, e3⟩ := id h1
  obtain ⟨b, f1, f2⟩ := see _ _ _ h2
  refine ⟨a, dx, fs, b, e1, e _ _ e2, f1, f2.imp (fun ⟨dy, gs, z⟩ => ⟨dy, gs, e _ _ z⟩) (fun ⟨xs, z⟩ => ⟨xs, e _ _ z⟩), ?_⟩
  refine ⟨(x, y), 0, 0, Hf, hp, Nat.zero_le _, e, ⟨h1, h2, trivial⟩, fun z hz => by simp at hz, fun w Hf' H' r pr rr fr ex _ => ?_⟩
  obtain rfl := (show w = .bl r from rr)
  have pr : r = g (x, y) := pr
  exact ⟨r, rfl, q _ Hf' H' _ (by rw [pr]) rfl (fr.mono fun a h => by simp at h) ex⟩
theorem rc_lenOwn {pre : ω → Prop} {g : ω → Int} (hp : pre x) (hb : 0 ≤ g x ∧ g x < 9223372036854775808) : RC1 (rLenOwn C (spP (fun (a : ω) => [.d (cIns C F hm) a]) pre cInt g)) (cIns C F hm) x cInt (· = g x) := fun Hf H v e h1 Q q => by
  obtain ⟨a, dx, fs, e1, e2, e3⟩ := id h1
  refine ⟨a, dx, fs, by rw [e1], e _ _ e2, x, 0, 0, Hf, hp, Nat.zero_le _, e, ⟨by rw [← e1]; exact h1, trivial⟩, fun z hz => by simp at hz, fun w Hf' H' r pr rr fr ex _ => ?_⟩
  obtain rfl := (show w = .int r from rr)
  have pr : r = g x := pr
  exact ⟨r, rfl, by rw [pr]; exact hb.1, by rw [pr]; exact hb.2, q _ Hf' H' _ pr rfl (fr.mono fun a h => by simp at h) ex⟩
theorem rd_eqStr {s t : Str} : RD rEq cStr s cStr t cBool (· = decide (s = t)) := fun Hf H v u e h1 h2 Q q => by
  obtain rfl := h1; obtain rfl := h2
  exact ⟨rfl, q _ Hf H _ rfl (by show V.bl _ = V.bl _; congr 1; exact decide_eq_decide.mpr ⟨fun h => V.str.inj h, fun h => by rw [h]⟩) Fr.refl e⟩
theorem rd_neStr {s t : Str} : RD rNe cStr s cStr t cBool (· = !decide (s = t)) := fun Hf H v u e h1 h2 Q q => by
  obtain rfl := h1; obtain rfl := h2
  exact ⟨rfl, q _ Hf H _ rfl (by show V.bl _ = V.bl _; congr 2; exact decide_eq_decide.mpr ⟨fun h => V.str.inj h, fun h => by rw [h]⟩) Fr.refl e⟩
theorem rd_isB {s t : Bool} : RD (fun x y H Q => ∃ a b, x = .bl a ∧ y = .bl b ∧ Q (.bl (decide (a = b))) H) cBool s cBool t cBool (· = decide (s = t)) := fun Hf H v u e h1 h2 Q q => ⟨s, t, h1, h2, q _ Hf H _ rfl rfl Fr.refl e⟩
theorem rc_reprB {b : Bool} : RC1 (fun xs H Q => ∃ b, xs = [.bl b] ∧ Q (.str (if b = true then "True" else "False")) H) cBool b cStr (· = bStr b) := fun Hf H v e h Q q => ⟨b, by rw [show v = .bl b from h], q _ Hf H _ rfl rfl Fr.refl e⟩
theorem ints_of_tup {H Hf : Hp} {v : V} {ns : List Int} (e : Ex Hf H) (h : (cTup cInt).rep Hf v ns) : ∃ a, v = .ref a ∧ SqT K H a (ns.map V.int) := by
  obtain ⟨a, vs, h1, h2, h3, _⟩ := h
  have := ints_of_paired h3
  subst this
  exact ⟨a, h1, SqT.of (e _ _ h2)⟩
theorem rc_maxT {n : Int} {ns : List Int} : RC1 (rMaxT K) (cTup cInt) (n :: ns) cInt (· = ns.foldl max n) := fun Hf H v e h Q q => by
  obtain ⟨a, h1, h2⟩ := ints_of_tup (K := K) e h
  exact ⟨a, n, ns, by rw [h1], h2, q _ Hf H _ rfl rfl Fr.refl e⟩
end
section
variable {S : Stc} {X : Cx} {Γ : Ctxt} {k : Nat} {α β γ ω ρ : Type} {c : Cod α} {cb : Cod β} {C : Addr} {F : Hp → List (Str × V) → ω → Prop} {hm : ∀ {H H' fs y}, Ex H H' → F H fs y → F H' fs y} {x : ω} {y : β} {a b e : Expr} {pos pn p2 : Pos} {lv : Nat}
variable {pre : ω × β → Prop} {g : ω × β → Bool}
theorem eqOG {sp : Sp} (E : EqA S.prog S.w S.K S.mg S.base C lv sp) (hl : lv ≤ S.lv) : ∀ X, Good S X → OpR X (compareOp .Eq) (rCmpOwn C false sp) := fun X G => by
  refine op_eqOwn (n := lv) ?_ (G.room.mono hl)
  rw [G.prog, G.w, G.K, G.mg, G.base]; exact E
theorem neOG {sp : Sp} (E : EqA S.prog S.w S.K S.mg S.base C lv sp) (hl : lv + 1 ≤ S.lv) : ∀ X, Good S X → OpR X (compareOp .NotEq) (rCmpOwn C true sp) := fun X G => by
  refine op_neOwn (n := lv) ?_ (G.room.mono hl)
  rw [G.prog, G.w, G.K, G.mg, G.base]; exact E
theorem lenOG {sp : Sp} (E : LenA S.prog S.w S.K S.mg S.base C lv sp) (hl : lv + 1 ≤ S.lv) : ∀ X, Good S X → CallR X (.builtin "len") (rLenOwn C sp) := fun X G => by
  refine cr_lenOwn (n := lv) ?_ (G.room.mono hl)
  rw [G.prog, G.w, G.K, G.mg, G.base]; exact E
theorem peqO (E : EqA S.prog S.w S.K S.mg S.base C lv (spP (fun (a : ω × β) => [.d (cIns C F hm) a.1, .d cb a.2]) pre cBool g)) (hl : lv ≤ S.lv) (see : SeeC C cb) (ha : PD S Γ 0 a (cIns C F hm) (· = x)) (hb : PD S Γ 0 b cb (· = y)) (hp : pre (x, y)) (hk : behindInMarks .Eq b = false) : PD S Γ 0 (.Compare a [.Eq] [b] pos) cBool (· = g (x, y)) :=
  pcmp (eqOG E hl) ha hb (rd_cmpOwn see hp) hk
theorem teqO (E : EqA S.prog S.w S.K S.mg S.base C lv (spP (fun (a : ω × β) => [.d (cIns C F hm) a.1, .d cb a.2]) pre cBool g)) (hl : lv ≤ S.lv) (see : SeeC C cb) (ha : PD S Γ 0 a (cIns C F hm) (· = x)) (hb : PD S Γ 0 b cb (· = y)) (hp : pre (x, y)) (hk : behindInMarks .Eq b = false) : PDT S Γ 0 (.Compare a [.Eq] [b] pos) (· = g (x, y)) :=
  tcmp (eqOG E hl) ha hb (rd_cmpOwn see hp) hk
theorem pneO (E : EqA S.prog S.w S.K S.mg S.base C lv (spP (fun (a : ω × β) => [.d (cIns C F hm) a.1, .d cb a.2]) pre cBool g)) (hl : lv + 1 ≤ S.lv) (see : SeeC C cb) (ha : PD S Γ 0 a (cIns C F hm) (· = x)) (hb : PD S Γ 0 b cb (· = y)) (hp : pre (x, y)) (hk : behindInMarks .NotEq b = false) : PD S Γ 0 (.Compare a [.NotEq] [b] pos) cBool (· = !g (x, y)) :=
  pcmp (neOG E hl) ha hb (rd_cmpOwn see hp) hk
theorem tneO (E : EqA S.prog S.w S.K S.mg S.base C lv (spP (fun (a : ω × β) => [.d (cIns C F hm) a.1, .d cb a.2]) pre cBool g)) (hl : lv + 1 ≤ S.lv) (see : SeeC C cb) (ha : PD S Γ 0 a (cIns C F hm) (· = x)) (hb : PD S Γ 0 b cb (· = y)) (hp : pre (x, y)) (hk : behindInMarks .NotEq b = false) : PDT S Γ 0 (.Compare a [.NotEq] [b] pos) (· = !g (x, y)) :=
  tcmp (neOG E hl) ha hb (rd_cmpOwn see hp) hk
theorem plenO {pr : ω → Prop} {gl : ω → Int} (E : LenA S.prog S.w S.K S.mg S.base C lv (spP (fun (a : ω) => [.d (cIns C F hm) a]) pr cInt gl)) (hl : lv + 1 ≤ S.lv) (hg : S.sc.names.lookup ("len" : Str) = some .globalImplicit) (hmg : S.mg "len" = none) (h : PD S Γ 0 e (cIns C F hm) (· = x)) (hp : pr x) (hb : 0 ≤ gl x ∧ gl x < 9223372036854775808)
    (he : ∀ env : Env, starEach [e] env = (false, eval e env) :: starEach [] env) : PD S Γ 0 (.Call (.Name "len" pn) [e] [] pos) cInt (· = gl x) := pb1 (lenOG E hl) hg hmg PySem.boot_len h (rc_lenOwn hp hb) he
theorem prepr {z : Bool} (hg : S.sc.names.lookup ("repr" : Str) = some .globalImplicit) (hmg : S.mg "repr" = none) (h : PD S Γ 0 e cBool (· = z)) (he : ∀ env : Env, starEach [e] env = (false, eval e env) :: starEach [] env) : PD S Γ 0 (.Call (.Name "repr" pn) [e] [] pos) cStr (· = bStr z) :=
  pb1 (fun X G => cr_reprB) hg hmg (by decide +kernel) h rc_reprB he
theorem pisB {s t : Bool} (ha : PD S Γ 0 a cBool (· = s)) (hb : PD S Γ 0 b cBool (· = t)) (hk : behindInMarks .Is b = false) : PD S Γ 0 (.Compare a [.Is] [b] pos) cBool (· = decide (s = t)) := pcmp (fun X G => op_isB) ha hb rd_isB hk
theorem tisB {s t : Bool} (ha : PD S Γ 0 a cBool (· = s)) (hb : PD S Γ 0 b cBool (· = t)) (hk : behindInMarks .Is b = false) : PDT S Γ 0 (.Compare a [.Is] [b] pos) (· = decide (s = t)) := tcmp (fun X G => op_isB) ha hb rd_isB hk
theorem pmaxT {n : Int} {ns : List Int} (hg : S.sc.names.lookup ("max" : Str) = some .globalImplicit) (hmg : S.mg "max" = none) (h : PD S Γ 0 e (cTup cInt) (· = n :: ns)) (he : ∀ env : Env, starEach [e] env = (false, eval e env) :: starEach [] env) : PD S Γ 0 (.Call (.Name "max" pn) [e] [] pos) cInt (· = ns.foldl max n) :=
  pb1 (r := rMaxT S.K) (id := "max") (fun X G => by rw [← G.K]; exact cr_maxT G.calm G.room.units) hg hmg (by decide +kernel) h rc_maxT he
theorem pmax2 {i j : Int} (hg : S.sc.names.lookup ("max" : Str) = some .globalImplicit) (hmg : S.mg "max" = none) (ha : PD S Γ 0 a cInt (· = i)) (hb : PD S Γ 0 b cInt (· = j)) (he : ∀ env : Env, starEach [a, b] env = (false, eval a env) :: starEach [b] env) (he2 : ∀ env : Env, starEach [b] env = (false, eval b env) :: starEach [] env) (hpl : ∀ env : Env, (backTo pos (starEach [b] env)).any (·.1) = false) :
    PD S Γ 0 (.Call (.Name "max" pn) [a, b] [] pos) cInt (· = max i j) :=
  pd_of (fun X G => pe_callB (call_max2 G.calm) (glb G hg) (by rw [G.mg]; exact hmg) (by decide +kernel) (pa_cons (tE_ok G) (pa_cons (tE_ok G) pa_nil (he2 _)) (he _)) (by decide) (by decide) (he _) (hpl _)) fun O n σ Hf H hn s Q q => ha O n σ Hf H hn s _ fun v Hf1 H1 z pz rz f1 s1 => hb O n σ Hf1 H1 hn s1 _ fun v2 Hf' H' z2 pz2 rz2 f2 s2 => by
    subst pz pz2
    obtain rfl := rz
    obtain rfl := rz2
    refine ⟨z, z2, rfl, q _ Hf' H' _ rfl ?_ (f1.trans f2 fun _ z => .inl z) s2⟩
    show V.int _ = V.int _
    congr 1
    rw [Int.max_def]
    split <;> split <;> omega
/-! slices -/
def cutD {α : Type} (xs : List α) (lo hi : Option Int) : List α := (xs.drop (HT.sIx xs.length 0 lo)).take (HT.sIx xs.length xs.length hi - HT.sIx xs.length 0 lo)
theorem paired_cut {G : V → α → Prop} {vs : List V} {xs : List α} (h : Paired G vs xs) (lo hi : Option Int) : Paired G (cutV vs lo hi) (cutD xs lo hi) := by
  have hl := paired_len h
  unfold cutV cutD
  rw [hl]
  have dr : ∀ {vs : List V} {xs : List α} (n : Nat), Paired G vs xs → Paired G (vs.drop n) (xs.drop n) := fun {vs xs} n h => by
    induction h generalizing n with
    | nil => simp; exact .nil
    | cons r t ih => cases n with
      | zero => exact .cons r t
      | succ n => exact ih n
  have tk : ∀ {vs : List V} {xs : List α} (n : Nat), Paired G vs xs → Paired G (vs.take n) (xs.take n) := fun {vs xs} n h => by
    induction h generalizing n with
    | nil => simp; exact .nil
    | cons r t ih => cases n with
      | zero => simp; exact .nil
      | succ n => exact .cons r (ih n)
  exact tk _ (dr _ h)
inductive PPt (S : Stc) (Γ : Ctxt) : Option Expr → Option Int → Prop
  | none : PPt S Γ none none
  | some {e : Expr} {i : Int} (h : PD S Γ 0 e cInt (· = i)) : PPt S Γ (some e) (some i)
def tPt (S : Stc) : Option Expr → TO
  | none => tNoPart
  | some e => tPart (tE S e)
theorem tPt_ok (G : Good S X) : ∀ {o : Option Expr}, PO X o (tPt S o)
  | none => po_none
  | some _ => po_some (tE_ok G)
theorem PPt.run {O : Org} {n : Nat} {σ : Stt} {Hf H : Hp} {o : Option Expr} {i : Option Int} (h : PPt S Γ o i) (hn : n + 0 ≤ LIM) (s : Sat O Hf H σ Γ n) {R : Option Int → Hp → Prop} (q : ∀ Hf' H', Fr (Bx Γ) Hf H Hf' H' → Sat O Hf' H' σ Γ (n + 0) → R i H') : tPt S o σ H R := by
  cases h with
  | none => exact q Hf H Fr.refl s
  | some h =>
    refine h O n σ Hf H hn s _ fun v Hf' H' z pz rz f s' => ?_
    subst pz
    exact ⟨z, rz, q Hf' H' f s'⟩
variable {xs : List α} {lo hi : Option Expr} {l u : Option Int}
theorem pslL (h : PD S Γ 0 e (cList c) (· = xs)) (hl : PPt S Γ lo l) (hu : PPt S Γ hi u) : PDF S Γ 0 (.Subscript e (.Slice lo hi none p2) pos) c (· = cutD xs l u) :=
  pdf_of (fun X G => pe_slice (r := rSlL S.K) (by rw [← G.K]; exact sl_list) (tE_ok G) (tPt_ok G) (tPt_ok G)) fun O n σ Hf H hn s Q q => h O n σ Hf H hn s _ fun v Hf1 H1 z pz rz f1 s1 => hl.run hn s1 fun Hf2 H2 f2 s2 => hu.run hn s2 fun Hf3 H3 f3 s3 => by
    subst pz
    obtain ⟨a, vs, h1, h2, h3, h4⟩ := (cList c).mono (f2.ex.trans f3.ex) rz
    have f := (f1.trans f2 fun _ z => .inl z).trans f3 fun _ z => .inl z
    refine ⟨a, vs, h1, SqL.of (s3.ex _ _ h2), fun p hp => ?_⟩
    exact q p _ Hf3 _ _ rfl upd_same (s3.ex.back hp) (f.dom p hp) (paired_cut h3 l u) (Nat.le_trans (cutV_length vs l u) h4) (f.trans (Fr.newO (M := Bx Γ) hp) fun _ z => .inl z) (s3.grow0 (Fr.newO hp) (s3.ex.trans (Ex.new hp)))
theorem cutD_whole {α : Type} {xs : List α} {l u : Option Int} (h : HT.sIx xs.length 0 l = 0 ∧ HT.sIx xs.length xs.length u = xs.length) : cutD xs l u = xs := by
  unfold cutD
  rw [h.1, h.2]; simp
theorem pslT (h : PD S Γ 0 e (cTup c) (· = xs)) (hl : PPt S Γ lo l) (hu : PPt S Γ hi u) : PD S Γ 0 (.Subscript e (.Slice lo hi none p2) pos) (cTup c) (· = cutD xs l u) :=
  pd_of (fun X G => pe_slice (r := rSlA S.K) (by rw [← G.K]; exact sl_tupA) (tE_ok G) (tPt_ok G) (tPt_ok G)) fun O n σ Hf H hn s Q q => h O n σ Hf H hn s _ fun v Hf1 H1 z pz rz f1 s1 => hl.run hn s1 fun Hf2 H2 f2 s2 => hu.run hn s2 fun Hf3 H3 f3 s3 => by
    subst pz
    have rz' := (cTup c).mono (f2.ex.trans f3.ex) rz
    obtain ⟨a, vs, h1, h2, h3, h4⟩ := id rz'
    have f := (f1.trans f2 fun _ z => .inl z).trans f3 fun _ z => .inl z
    refine ⟨a, vs, h1, SqT.of (s3.ex _ _ h2), fun w => ?_, fun _ p hp => ?_⟩
    · rw [paired_len h3] at w
      exact q _ Hf3 H3 _ rfl (by rw [cutD_whole w, ← h1]; exact rz') f s3
    · have e1 : Ex Hf3 (upd Hf3 p (.tup (cutV vs l u))) := Ex.new (s3.ex.back hp)
      exact q _ (upd Hf3 p (.tup (cutV vs l u))) _ _ rfl ⟨p, _, rfl, upd_same, paired_mono (paired_cut h3 l u) (fun _ _ z => c.mono e1 z), Nat.le_trans (cutV_length vs l u) h4⟩ (f.trans (Fr.new (M := Bx Γ) s3.ex hp) fun _ z => .inl z) (s3.new hp)
/-- r[1:] of three ints -/
theorem t3_tup {H : Hp} {v : V} {r : Int × Int × Int} (h : (cT3 cInt cInt cInt).rep H v r) : (cTup cInt).rep H v [r.1, r.2.1, r.2.2] := by
  obtain ⟨a, u, w, y, h1, h2, h3, h4, h5⟩ := h
  exact ⟨a, _, h1, h2, .cons h3 (.cons h4 (.cons h5 .nil)), by show 3 ≤ LB; decide⟩
theorem ptail3 {r : Int × Int × Int} {kx : Nat} {p3 : Pos} (h : PD S Γ 0 e (cT3 cInt cInt cInt) (· = r)) : PD S Γ 0 (.Subscript e (.Slice (some (.Constant (.int 1) kx p3)) none none p2) pos) (cTup cInt) (· = [r.2.1, r.2.2]) :=
  pslT (xs := [r.1, r.2.1, r.2.2]) (h.conv fun H v x px rx => ⟨_, rfl, by subst px; exact t3_tup rx⟩) (.some (i := 1) pd_int) .none
end
end DL

set_option Elab.async false
set_option linter.all false
set_option maxRecDepth 100000
set_option maxHeartbeats 2000000
/-! ### sorted of a tuple of triples -/
namespace DL
open PySem PySem.Spec L2
theorem sorted_of_tup {prog : Program} {w : World} {A : Around} {E : Value → Shared → Prop} {s : Shared} {l : Addr} {vs : List Value} {d : Nat} {B : Int} {Q : Value → Shared → Prop} (ht : s.heap.IsTuple l vs.toArray) (few : vs.length < 64) (hd : 1 ≤ d) (x : TS.TupsOk s.heap d B vs)
    (h : ∀ (out : Array Value) (h1 h' : Heap) (n : Nat), out.toList.Perm vs → out.toList.Pairwise (fun u v => TS.code B (TS.intsOf s.heap u) ≤ TS.code B (TS.intsOf s.heap v)) → (∀ b o, s.heap.get? b = some o → h1.get? b = some o) → (∀ b o, h1.get? b = some o → h'.get? b = some o) →
      h'.get? h1.objs.size = some (PyProof.Rows.seqObj "list" out n) → Q (.ref h1.objs.size) { s with heap := h' }) :
    wpAny (model prog w) A (call (.builtin "sorted") [.ref l]) Q E s := by
  obtain ⟨o, ho, hc, n, hdt⟩ := id ht
  have fits : vs.length ≤ sizeLine := by rw [sizeLine_eq]; omega
  refine PySem.Calls.call_function_entry PyProof.Rows.kind_sorted PyProof.Rows.plain_sorted PyProof.Rows.entry_sorted (PyProof.Rows.args_sorted1 _) ?_
  unfold Builtin.«sorted»
  refine wpAny_bind (m := checkCount "sorted" 1 1 _) (wpAny_pure ?_)
  refine wpAny_bind (wpAny_collect_seq l (.inr rfl) ho hc hdt (fun h1 k1 => ?_) (by simpa using fits))
  refine wpAny_bind (PySem.wpAny_newList ?_ (by simpa using fits))
  have hoL : (h1.push (PyProof.Rows.seqObj "list" vs.toArray 0)).get? h1.objs.size = some (PyProof.Rows.seqObj "list" vs.toArray 0) := Heap.get?_push_size _ rfl
  have k2 : ∀ b u, s.heap.get? b = some u → (h1.push (PyProof.Rows.seqObj "list" vs.toArray 0)).get? b = some u := fun b u e => Heap.get?_push_of_some _ (k1 b u e)
  refine wpAny_bind (wpAny_holding (TS.call_sort_tups (s := { s with heap := h1.push (PyProof.Rows.seqObj "list" vs.toArray 0) }) hoL few hd (x.keeps fun b u e _ => k2 b u e) fun out a1 a2 => ?_))
  obtain ⟨ep, he⟩ := PyProof.Rows.sortedHeap_at (vs := vs) (out := out) hoL
  refine wpAny_pure ⟨_, rfl, h out h1 _ ep a1 ?_ k1 (fun b u e => ?_) he⟩
  · refine List.Pairwise.imp_of_mem (fun {u v} hu hv q => ?_) a2
    obtain ⟨n1, t1, _⟩ := x u (a1.mem_iff.mp hu)
    obtain ⟨n2, t2, _⟩ := x v (a1.mem_iff.mp hv)
    have e1 := (t1.keeps fun b o e (_ : o.cls = .type "tuple") => k2 b o e).ints
    have e2 := (t2.keeps fun b o e (_ : o.cls = .type "tuple") => k2 b o e).ints
    have q' : TS.code B (TS.intsOf (h1.push (PyProof.Rows.seqObj "list" vs.toArray 0)) u) ≤ TS.code B (TS.intsOf (h1.push (PyProof.Rows.seqObj "list" vs.toArray 0)) v) := q
    rw [e1, e2] at q'
    rw [t1.ints, t2.ints]; exact q'
  · have lt := Heap.lt_size e
    have e2 : (h1.push (PyProof.Rows.seqObj "list" vs.toArray 0)).get? b = some u := Heap.get?_push_of_some _ e
    rw [PyProof.Rows.sortedHeap_old (Nat.ne_of_lt lt) (Heap.lt_size e2)]
    exact e2
/-- sorted of a list or a tuple of triples in [0, 64) -/
def rSort3 (K : PySem.W.Frag) : List V → Hp → VK → Prop := fun vs H Q => ∃ (a : Addr) (xs : List V), vs = [V.ref a] ∧ SqT K H a xs ∧ xs.length < 64 ∧ (∀ x ∈ xs, ∃ ns, TupI K H x ns ∧ ns.length = 3 ∧ TS.Bd 64 ns) ∧
  ∀ (ys : List V) (p : Addr), ys.Perm xs → ys.Pairwise (fun x y => ∀ n m, TupI K H x n → TupI K H y m → TS.code 64 n ≤ TS.code 64 m) → H p = none → Q (.ref p) (upd H p (.lst ys))
theorem cr_sort3T {X : Cx} : CallR X (.builtin "sorted") (rSort3 X.K) := by
  intro pins s σ H vs us Q I r h
  obtain ⟨a, xs, rfl, hs, few, hx, q⟩ := h
  obtain ⟨its, rv, tup, hz⟩ := I.tuple hs
  rw [Vals.ref1 r]
  obtain ⟨e1, e2⟩ := bkV_refs rv fun x m => by
    obtain ⟨ns, ⟨t, e, _⟩, _⟩ := hx x m
    exact ⟨t, e⟩
  refine sorted_of_tup (d := 3) (B := 64) tup (by rw [← rv.length]; exact few) (by decide) (fun v hv => ?_) fun out h1 h' ep p1 p2 k1 k2 he => ?_
  · obtain ⟨t, rfl⟩ := e2 v hv
    have inx : V.ref t ∈ xs := by rw [e1]; exact List.mem_map.mpr ⟨_, hv, rfl⟩
    obtain ⟨ns, ⟨t', e, ht⟩, hn, hb⟩ := hx _ inx
    cases e
    exact ⟨ns, tupI_raw I ht, hn, hb⟩
  · have refs : ∀ u ∈ out.toList, ∃ a, u = Value.ref a := fun u hu => e2 u (p1.mem_iff.mp hu)
    have pm : (out.toList.map bkV).Perm xs := by rw [e1]; exact p1.map bkV
    have len : (out.toList.map bkV).length ≤ sizeLine := by rw [pm.length_eq]; exact hz
    have I1 : Inv X pins σ H { s with heap := h1 } := I.kept (t' := s.toks) k1
    refine ⟨.ref h1.objs.size, upd H h1.objs.size (.lst (out.toList.map bkV)), I1.laid (t' := s.toks) k2 (Nat.le_refl _) ⟨len, out.toList, ep, bkV_vals refs, he⟩, rfl, q _ _ pm ?_ (I1.hok.fresh (Nat.le_refl _))⟩
    rw [List.pairwise_map]
    refine List.Pairwise.imp (fun {u v} huv n m hn hm => ?_) p2
    obtain ⟨t, et, ht⟩ := hn
    obtain ⟨t', et', ht'⟩ := hm
    have i1 := (tupI_raw I ht).ints
    have i2 := (tupI_raw I ht').ints
    rw [← bkV_ref et] at i1
    rw [← bkV_ref et'] at i2
    rw [← i1, ← i2]
    exact huv
theorem rc_sort3T {K : PySem.W.Frag} {rs : List R3} (hl : rs.length < 64) (hb : ∀ r ∈ rs, In64 r) : RC1F (rSort3 K) (cTup (cT3 cInt cInt cInt)) rs (cT3 cInt cInt cInt) (· = sort3 rs) := fun Hf H v e ⟨a, vs, h1, h2, h3, h4⟩ Q q => by
  refine ⟨a, vs, by rw [h1], SqT.of (e _ _ h2), by rw [paired_len h3]; exact hl, fun x hx => ?_, fun ys p hp hu hn => ?_⟩
  · obtain ⟨r, hr, rr⟩ := paired_in h3 x hx
    refine ⟨_, tupI3 e rr, rfl, fun m hm => ?_⟩
    obtain ⟨b1, b2, b3⟩ := hb r hr
    simp at hm
    rcases hm with z | z | z
    · rw [z]; exact b1
    · rw [z]; exact b2
    · rw [z]; exact b3
  · obtain ⟨zs, hz, pz⟩ := paired_perm hp h3
    refine q p ys zs (sortBy_eq hz (paired_mem2 pz hu fun u v x y _ _ rx ry R => ?_) fun a ha b hb' => code3_inj (hb a ha) (hb b hb')) hn pz ?_
    · have := R _ _ (tupI3 e rx) (tupI3 e ry)
      rw [code_3, code_3] at this; exact this
    · rw [hp.length_eq]; exact h4
section
variable {S : Stc} {Γ : Ctxt} {e : Expr} {pos pn : Pos} {rs : List R3}
theorem psort3T (hg : S.sc.names.lookup ("sorted" : Str) = some .globalImplicit) (hm : S.mg "sorted" = none) (h : PD S Γ 0 e (cTup (cT3 cInt cInt cInt)) (· = rs)) (hl : rs.length < 64) (hb : ∀ r ∈ rs, In64 r) (he : ∀ env : Env, starEach [e] env = (false, eval e env) :: starEach [] env) :
    PDF S Γ 0 (.Call (.Name "sorted" pn) [e] [] pos) (cT3 cInt cInt cInt) (· = sort3 rs) := pfb1 (r := rSort3 S.K) (id := "sorted") (fun X G => by rw [← G.K]; exact cr_sort3T) hg hm PyProof.Rows.boot_sorted h (rc_sort3T hl hb) he
end
end DL

set_option Elab.async false
set_option linter.all false
set_option maxRecDepth 100000
set_option maxHeartbeats 2000000
namespace DL
open PySem PySem.Spec L2
section
variable {S : Stc} {Γ : Ctxt} {a b d : Expr} {pos : Pos}
/-- a < b < d as a test -/
theorem tchain {op op' : CmpOp} {g g' : Int → Int → Bool} {i j l : Int} (ho : ∀ X : Cx, OpR X (compareOp op) (rI0 fun i j => .bl (g i j))) (ho' : ∀ X : Cx, OpR X (compareOp op') (rI0 fun i j => .bl (g' i j))) (ha : PD S Γ 0 a cInt (· = i)) (hb : PD S Γ 0 b cInt (· = j)) (hd : PD S Γ 0 d cInt (· = l)) (hm : lastMarks [op, op'] [b, d] = false) :
    PDT S Γ 0 (.Compare a [op, op'] [b, d] pos) (· = (g i j && g' j l)) :=
  pdt_of (fun X G => pt_chain (ho X) (ho' X) (tE_ok G) (tE_ok G) (tE_ok G) hm) fun O n σ Hf H hn s Q q => ha O n σ Hf H hn s _ fun v Hf1 H1 x1 p1 r1 f1 s1 => hb O n σ Hf1 H1 hn s1 _ fun v2 Hf2 H2 x2 p2 r2 f2 s2 => by
    subst p1 p2
    obtain rfl := r1
    obtain rfl := r2
    refine ⟨x1, x2, rfl, rfl, g x1 x2, rfl, ?_⟩
    cases hg : g x1 x2 with
    | true =>
      refine iteT (hd O n σ Hf2 H2 hn s2 _ fun v3 Hf3 H3 x3 p3 r3 f3 s3 => ?_)
      subst p3
      obtain rfl := r3
      exact ⟨x2, x3, rfl, rfl, _, rfl, q _ Hf3 H3 (by rw [hg, Bool.true_and]) ((f1.trans f2 fun _ z => .inl z).trans f3 fun _ z => .inl z) s3⟩
    | false => exact iteF ⟨_, rfl, q _ Hf2 H2 (by rw [hg, Bool.false_and]) (f1.trans f2 fun _ z => .inl z) s2⟩
end
end DL

set_option Elab.async false
set_option linter.all false
set_option maxRecDepth 100000
set_option maxHeartbeats 4000000
namespace K07
open PySem PySem.Spec L2 DL
def top (i : Nat) : Stmt := PySem.Challenge.pw_dealbook_k07_two_orders_of_two_changes.main.body.getD i (.Pass ⟨0, 0, 0, 0⟩)
/-- what the built-in names are in a module -/
structure Bt (mg : Str → Option Value) : Prop where
  len : mg "len" = none
  list : mg "list" = none
  tuple : mg "tuple" = none
  sorted : mg "sorted" = none
  set : mg "set" = none
  range : mg "range" = none
  isinstance : mg "isinstance" = none
  all : mg "all" = none
  int : mg "int" = none
  bool : mg "bool" = none
section
variable {P : Program} {w : World} {K : PySem.W.Frag} {mg : Str → Option Value} {base : Heap}
variable (U : Bt mg)
include U
theorem c_is_list {α : Type} {c : Cod α} (D : Def K mg "is_list" (top 12)) : Cal P w K mg base "is_list" ["value"] 1 (spP (fun (a : List α) => [.d (cSeq c) a]) (fun _ => True) cBool (fun _ => true)) := by
  refine cal_D (N := ["value"]) D (fun _ _ _ _ _ _ us hl => match us, hl with | [_], _ => rfl) ⟨rfl, rfl, rfl, by decide +kernel, rfl, by decide +kernel, by decide +kernel⟩ (fun _ _ => rfl) (by decide) (fun _ _ => trivial) fun b a hp => ?_
  exact bret (pisiLTs rfl U.isinstance rfl U.list rfl U.tuple (pd_name (i := 0) rfl rfl (.inl rfl)) (fun _ => rfl)) fun _ h => h
theorem c_is_integer (D : Def K mg "is_integer" (top 13)) : Cal P w K mg base "is_integer" ["value"] 1 (spP (fun (a : Int) => [.d cInt a]) (fun _ => True) cBool (fun _ => true)) := by
  refine cal_D (N := ["value"]) D (fun _ _ _ _ _ _ us hl => match us, hl with | [_], _ => rfl) ⟨rfl, rfl, rfl, by decide +kernel, rfl, by decide +kernel, by decide +kernel⟩ (fun _ _ => rfl) (by decide) (fun _ _ => trivial) fun b a hp => ?_
  exact bret (pand (pisi rfl U.isinstance (pd_name (i := 0) rfl rfl (.inl rfl)) (nmTy rfl U.int PyProof.Rows.boot_int) (.ty _) ty_int (r := true) (kit_ty (by decide +kernel)) (fun _ => rfl)) fun _ => (pd_one (pd_not (pisi rfl U.isinstance (pd_name (i := 0) rfl rfl (.inl rfl)) (nmTy rfl U.bool PyProof.Rows.boot_bool) (.ty _) ty_int (r := false) (kit_ty (by decide +kernel)) (fun _ => rfl))))) fun _ h => h
theorem c_is_index (D : Def K mg "is_index" (top 14)) (C_is_integer : Cal P w K mg base "is_integer" ["value"] 1 (spP (fun (a : Int) => [.d cInt a]) (fun _ => True) cBool (fun _ => true))) :
    Cal P w K mg base "is_index" ["value", "many"] 2 (spP (fun (a : Int × Int) => [.d cInt a.1, .d cInt a.2]) (fun _ => True) cBool (fun a => decide (0 ≤ a.1 ∧ a.1 < a.2))) := by
  refine cal_D (N := ["value", "many"]) D (fun _ _ _ _ _ _ us hl => match us, hl with | [_, _], _ => rfl) ⟨rfl, rfl, rfl, by decide +kernel, rfl, by decide +kernel, by decide +kernel⟩ (fun _ _ => rfl) (by decide) (fun _ _ => trivial) fun b a hp => ?_
  exact bret (pand (pcal1 C_is_integer (show (1 : Nat) ≤ 1 by decide) rfl (pd_name (i := 0) rfl rfl (.inl rfl)) trivial (fun _ => rfl) (fun _ => rfl)) fun _ => (pd_one (pchain (fun _ => op_le) (fun _ => op_lt) pd_int (pd_name (i := 0) rfl rfl (.inl rfl)) (pd_name (i := 1) rfl rfl (.inl rfl)) rfl))) fun _ h => h.trans (by simp)
abbrev P_is_list : Sp := spP (fun (a : List Int) => [.d (cSeq cInt) a]) (fun _ => True) cBool (fun _ => true)
abbrev P_is_index : Sp := spP (fun (a : Int × Int) => [.d cInt a.1, .d cInt a.2]) (fun _ => True) cBool (fun a => decide (0 ≤ a.1 ∧ a.1 < a.2))
theorem c_are_numbers (D : Def K mg "are_numbers" (top 15)) (C_is_list : Cal P w K mg base "is_list" ["value"] 1 P_is_list) (C_is_index : Cal P w K mg base "is_index" ["value", "many"] 2 P_is_index) :
    Cal P w K mg base "are_numbers" ["value", "many"] 3 (spP (fun (a : List Int × Int) => [.d (cSeq cInt) a.1, .d cInt a.2]) (fun _ => True) cBool (fun a => (a.1.map fun x => decide (0 ≤ x ∧ x < a.2)).all id)) := by
  refine cal_D (N := ["value", "many", "item"]) D (fun _ _ _ _ _ _ us hl => match us, hl with | [_, _], _ => rfl) ⟨rfl, rfl, rfl, by decide +kernel, rfl, by decide +kernel, by decide +kernel⟩ (fun _ _ => rfl) (by decide) (fun _ _ => trivial) fun b a hp => ?_
  refine bret (pand (pcal1 C_is_list (show (1 : Nat) ≤ 2 by decide) rfl (pd_name (i := 0) rfl rfl (.inl rfl)) trivial (fun _ => rfl) (fun _ => rfl)) fun _ => (pd_one (pall rfl U.all (TDF.td (plcN [("item", 2)] (pdi_seq (pd_name (i := 0) rfl rfl (.inl rfl))) trivial (by kernel_rfl) (fun _ _ => rfl) fun _ _ => ⟨_, _, (pdg_name (i := 2) trivial rfl (.inl rfl) (.inr rfl)), (fun _ h => h), (pcal2 C_is_index (show (2 : Nat) ≤ 2 by decide) rfl (pd_name (i := 2) rfl rfl (.inl rfl)) (pd_name (i := 1) rfl rfl (.inr (.inl rfl))) trivial (fun _ => rfl) (fun _ => rfl) (fun _ => rfl))⟩)) (fun _ => rfl)))) ?_
  exact fun _ h => h.trans (by simp)
def Up (a : List Int × Int) : Prop := a.1.Pairwise (· < ·) ∧ (∀ x ∈ a.1, 0 ≤ x ∧ x < a.2) ∧ a.1.length < 64
theorem c_is_lot (D : Def K mg "is_lot" (top 16)) (C_are_numbers : Cal P w K mg base "are_numbers" ["value", "many"] 3 (spP (fun (a : List Int × Int) => [.d (cSeq cInt) a.1, .d cInt a.2]) (fun _ => True) cBool (fun a => (a.1.map fun x => decide (0 ≤ x ∧ x < a.2)).all id))) :
    Cal P w K mg base "is_lot" ["value", "many"] 4 (spP (fun (a : List Int × Int) => [.d (cSeq cInt) a.1, .d cInt a.2]) Up cBool (fun a => true)) := by
  refine cal_D (N := ["value", "many"]) D (fun _ _ _ _ _ _ us hl => match us, hl with | [_, _], _ => rfl) ⟨rfl, rfl, rfl, by decide +kernel, rfl, by decide +kernel, by decide +kernel⟩ (fun _ _ => rfl) (by decide) (fun _ _ => trivial) fun b a hp => ?_
  refine bret (pand (pcal2 C_are_numbers (show (3 : Nat) ≤ 3 by decide) rfl (pd_name (i := 0) rfl rfl (.inl rfl)) (pd_name (i := 1) rfl rfl (.inl rfl)) trivial (fun _ => rfl) (fun _ => rfl) (fun _ => rfl)) fun _ => (pd_one (pcmp (op_eqDG rfl) (TDF.td (plist rfl U.list (pd_name (i := 0) rfl rfl (.inl rfl)) (fun _ => rfl))) (TDF.td (psortSet rfl U.sorted (pset rfl U.set (pd_name (i := 0) rfl rfl (.inl rfl)) ?_ (fun _ => rfl)) ?_ (fun _ => rfl))) (rd_eqD (eList eInt) (by decide)) (nomark _)))) ?_
  · have := hp.2.2; omega
  · have := asc_len a.1; have := hp.2.2; omega
  · intro x h
    refine h.trans ?_
    have h1 : asc a.1 = a.1 := asc_self hp.1
    rw [h1]
    simp only [decide_true, Bool.and_true, List.all_map, List.all_eq_true]
    intro y hy
    exact decide_eq_true (hp.2.1 y hy)
theorem c_are_places (D : Def K mg "are_places" (top 17)) (C_is_lot : Cal P w K mg base "is_lot" ["value", "many"] 4 (spP (fun (a : List Int × Int) => [.d (cSeq cInt) a.1, .d cInt a.2]) Up cBool (fun a => true))) :
    Cal P w K mg base "are_places" ["value", "many"] 5 (spP (fun (a : List Int × Int) => [.d (cSeq cInt) a.1, .d cInt a.2]) Up cBool (fun a => true)) := by
  refine cal_D (N := ["value", "many"]) D (fun _ _ _ _ _ _ us hl => match us, hl with | [_, _], _ => rfl) ⟨rfl, rfl, rfl, by decide +kernel, rfl, by decide +kernel, by decide +kernel⟩ (fun _ _ => rfl) (by decide) (fun _ _ => trivial) fun b a hp => ?_
  refine bret (pcal2 C_is_lot (show (4 : Nat) ≤ 4 by decide) rfl (pd_name (i := 0) rfl rfl (.inl rfl)) (pd_name (i := 1) rfl rfl (.inl rfl)) ?_ (fun _ => rfl) (fun _ => rfl) (fun _ => rfl)) ?_
  · exact hp
  · exact fun _ h => h
/-- the package's constants -/
structure Ko (mg : Str → Option Value) : Prop where
  places : ∃ t, mg "MOST_PLACES" = some (.int 8 t)
  wordings : ∃ t, mg "MOST_WORDINGS" = some (.int 6 t)
abbrev rowOk (r : R3) : Bool := decide (0 ≤ r.1 ∧ r.1 < 8) && (decide (0 ≤ r.2.1 ∧ r.2.1 < 6) && decide (0 ≤ r.2.2 ∧ r.2.2 < 6))
theorem c_is_row (D : Def K mg "is_row" (top 29)) (T0 : Ko mg) (C_is_index : Cal P w K mg base "is_index" ["value", "many"] 2 P_is_index) :
    Cal P w K mg base "is_row" ["value"] 3 (spP (fun (a : R3) => [.d cI3 a]) (fun _ => True) cBool rowOk) := by
  refine cal_D (N := ["value", "place", "old", "new"]) D (fun _ _ _ _ _ _ us hl => match us, hl with | [_], _ => rfl) ⟨rfl, rfl, rfl, by decide +kernel, rfl, by decide +kernel, by decide +kernel⟩ (fun _ _ => rfl) (by decide) (fun _ _ => trivial) fun b a hp => ?_
  obtain ⟨_, Tplaces⟩ := T0.places
  obtain ⟨_, Twordings⟩ := T0.wordings
  refine bifR (k1 := 0) (k2 := 0) (k3 := 0) (pdt_w (tor (pdt_not (pdt_val (pisi rfl U.isinstance (pd_name (i := 0) rfl rfl (.inl rfl)) (nmTy rfl U.tuple PyProof.Rows.boot_tuple) (.ty _) ty_t3 (r := true) (kit_ty (by decide +kernel)) (fun _ => rfl)) (fun _ _ => rfl))) fun _ => (pdw_or1 (tcmp (fun _ _ => op_ne) (plen3 rfl U.len (pd_name (i := 0) rfl rfl (.inl rfl)) (fun _ => rfl)) pd_int rd_neI (nomark _))))) (fun h => ?_) fun h => ?_
  · -- return False
    refine bret pd_bool ?_
    simp at h
  refine bunpack (k := 0) (kr := 0) (pd_name (i := 0) rfl rfl (.inl rfl)) (pdg_t3 (pdg_name (i := 1) trivial rfl (.inl rfl) (.inl rfl)) (pdg_name (i := 2) trivial rfl (.inl rfl) (.inl rfl)) (pdg_name (i := 3) trivial rfl (.inl rfl) (.inl rfl)) (fun _ => rfl) (fun _ => rfl) (fun _ => rfl) (fun _ => rfl) (fun _ => rfl)) (fun _ => rfl) (fun _ => rfl) (fun _ => rfl) ?_
  refine bret (pand (pcal2 C_is_index (show (2 : Nat) ≤ 2 by decide) rfl (pd_name (i := 1) rfl rfl (.inl rfl)) (pd_glob rfl (v := .int 8) (c := cInt) (y := 8) Tplaces ⟨_, rfl⟩ (fun _ => rfl)) trivial (fun _ => rfl) (fun _ => rfl) (fun _ => rfl)) fun _ => (pand (pcal2 C_is_index (show (2 : Nat) ≤ 2 by decide) rfl (pd_name (i := 2) rfl rfl (.inl rfl)) (pd_glob rfl (v := .int 6) (c := cInt) (y := 6) Twordings ⟨_, rfl⟩ (fun _ => rfl)) trivial (fun _ => rfl) (fun _ => rfl) (fun _ => rfl)) fun _ => (pd_one (pcal2 C_is_index (show (2 : Nat) ≤ 2 by decide) rfl (pd_name (i := 3) rfl rfl (.inl rfl)) (pd_glob rfl (v := .int 6) (c := cInt) (y := 6) Twordings ⟨_, rfl⟩ (fun _ => rfl)) trivial (fun _ => rfl) (fun _ => rfl) (fun _ => rfl))))) ?_
  exact fun _ h => h

def Rows (rs : List R3) : Prop := (∀ r ∈ rs, rowOk r = true) ∧ (rs.map (·.1)).Nodup ∧ rs.length ≤ 8
theorem c_are_rows (D : Def K mg "are_rows" (top 30)) (C_is_list : Cal P w K mg base "is_list" ["value"] 1 (spP (fun (a : List R3) => [.d (cSeq cI3) a]) (fun _ => True) cBool (fun _ => true))) (C_is_row : Cal P w K mg base "is_row" ["value"] 3 (spP (fun (a : R3) => [.d cI3 a]) (fun _ => True) cBool rowOk)) :
    Cal P w K mg base "are_rows" ["value"] 4 (spP (fun (a : List R3) => [.d (cSeq cI3) a]) Rows cBool (fun _ => true)) := by
  refine cal_D (N := ["value", "row"]) D (fun _ _ _ _ _ _ us hl => match us, hl with | [_], _ => rfl) ⟨rfl, rfl, rfl, by decide +kernel, rfl, by decide +kernel, by decide +kernel⟩ (fun _ _ => rfl) (by decide) (fun _ _ => trivial) fun b a hp => ?_
  refine bifR (k1 := 0) (k2 := 0) (k3 := 0) (pdt_w (tor (pdt_not (pdt_val (pcal1 C_is_list (show (1 : Nat) ≤ 3 by decide) rfl (pd_name (i := 0) rfl rfl (.inl rfl)) trivial (fun _ => rfl) (fun _ => rfl)) (fun _ _ => rfl))) fun _ => (pdw_or1 (pdt_not (pdt_val (pall rfl U.all (TDF.td (plcN [("row", 1)] (pdi_seq (pd_name (i := 0) rfl rfl (.inl rfl))) trivial (by kernel_rfl) (fun _ _ => rfl) fun _ _ => ⟨_, _, (pdg_name (i := 1) trivial rfl (.inl rfl) (.inr rfl)), (fun _ h => h), (pcal1 C_is_row (show (3 : Nat) ≤ 3 by decide) rfl (pd_name (i := 1) rfl rfl (.inl rfl)) trivial (fun _ => rfl) (fun _ => rfl))⟩)) (fun _ => rfl)) (fun _ _ => rfl)))))) (fun h => ?_) fun h => ?_
  · -- return False
    exfalso
    have h1 : ((a.map rowOk).all id) = true := by
      rw [List.all_map, List.all_eq_true]; exact hp.1
    rw [show (true : Bool) = true from rfl] at h
    simp only [h1] at h
    exact absurd h (by decide)
  refine bret (pcmp (fun _ _ => op_eq) (plenSet rfl U.len (pscN [("row", 1)] (pdi_seq (pd_name (i := 0) rfl rfl (.inl rfl))) trivial ?_ (by kernel_rfl) (fun _ _ => rfl) fun _ _ => ⟨_, _, (pdg_name (i := 1) trivial rfl (.inl rfl) (.inr rfl)), (fun _ h => h), (pix ixTG (pd_name (i := 1) rfl rfl (.inl rfl)) pd_int rd_ix3_0 (fun _ _ => rfl))⟩) (fun _ => rfl)) (plen rfl U.len (pd_name (i := 0) rfl rfl (.inl rfl)) (fun _ => rfl)) rd_eqI (nomark _)) ?_
  · have := hp.2.2; omega
  · intro x h
    refine h.trans ?_
    have h1 : (asc (a.map fun r => r.1)).length = (a.map fun r => r.1).length := card_ext (up_nodup (asc_up _)) hp.2.1 fun k => mem_asc
    rw [h1, List.length_map]; exact decide_eq_true rfl
end
end K07

set_option Elab.async false
set_option linter.all false
set_option maxRecDepth 100000
set_option maxHeartbeats 4000000
namespace K07
open PySem PySem.Spec L2 DL
/-! ### the law's own plain functions -/
abbrev atT (word : List Int) (i : Int) : Int := word.getD i.toNat default
def missL (rs : List R3) (word : List Int) : List R3 := rs.filter fun r => !decide (atT word r.1 = r.2.1)
def doneL (rs : List R3) (word : List Int) : List Int := rs.foldl (fun w r => w.set r.1.toNat r.2.2) word
theorem doneL_snoc (rs : List R3) (r : R3) (word : List Int) : doneL (rs ++ [r]) word = (doneL rs word).set r.1.toNat r.2.2 := by unfold doneL; rw [List.foldl_append]; rfl
theorem doneL_len (rs : List R3) : ∀ word : List Int, (doneL rs word).length = word.length := by
  induction rs with
  | nil => intro w; rfl
  | cons r rs ih => intro w; show (doneL rs (w.set r.1.toNat r.2.2)).length = _; rw [ih, List.length_set]
/-- rows at places of a text of n places -/
def InN (rs : List R3) (n : Nat) : Prop := ∀ r ∈ rs, 0 ≤ r.1 ∧ r.1 < (n : Int)
section
variable {P : Program} {w : World} {K : PySem.W.Frag} {mg : Str → Option Value} {base : Heap}
variable (U : Bt mg)
include U
abbrev P_done : Sp := spP (fun (a : List R3 × List Int) => [.d (cList cI3) a.1, .d (cTup cInt) a.2]) (fun a => InN a.1 a.2.length) (cTup cInt) (fun a => doneL a.1 a.2)
theorem c_done (D : Def K mg "_law_done" (top 46)) : Cal P w K mg base "_law_done" ["rows", "text"] 1 P_done := by
  refine cal_D (N := ["rows", "text", "found", "place", "old", "new"]) D (fun _ _ _ _ _ _ us hl => match us, hl with | [_, _], _ => rfl) ⟨rfl, rfl, rfl, by decide +kernel, rfl, by decide +kernel, by decide +kernel⟩ (fun _ _ => rfl) (by decide) (fun _ _ => trivial) fun b a hp => ?_
  refine HS.le (k := 0) ?_ (Nat.zero_le _)
  refine bsetL (k := 0) (k2 := 0) 2 (plist rfl U.list (TD.seqT (pd_name (i := 1) rfl rfl (.inl rfl))) (fun _ => rfl)) trivial rfl (.inl rfl) (fun _ _ => rfl) (.inl rfl) ?_
  rintro _ rfl
  refine bfor (k := 0) (kk := 0) (kn := 0) (k2 := 0) [3, 4, 5] (fun _ pre Γ => Γ = entry ["rows", "text", "found", "place", "old", "new"] [.d (cList cI3) a.1, .d (cTup cInt) a.2, .l cInt (doneL pre a.2)]) (pdi_list (pd_name (i := 0) rfl rfl (.inl rfl))) ?_ ?_ ?_ (fun _ _ => rfl) ?_
  · rintro _ rfl; rfl
  · intro _ _; simp
  · rintro _ rfl pre x post _ hx rfl
    have hx1 : x ∈ a.1 := by rw [hx]; simp
    refine ⟨_, _, (pdg_t3 (pdg_name (i := 3) trivial rfl (.inl rfl) (.inl rfl)) (pdg_name (i := 4) trivial rfl (.inl rfl) (.inl rfl)) (pdg_name (i := 5) trivial rfl (.inl rfl) (.inl rfl)) (fun _ => rfl) (fun _ => rfl) (fun _ => rfl) (fun _ => rfl) (fun _ => rfl)), ?_⟩
    refine bsetItem (kr := 0) 2 rfl (pd_name (i := 5) rfl rfl (.inl rfl)) (pd_name (i := 3) rfl rfl (.inl rfl)) x.1.toNat (ixN_at ?_) rfl (.inl rfl) (fun _ _ => rfl) (fun _ => rfl) (fun _ => rfl) (fun _ => rfl) ?_
    · rw [doneL_len]; exact hp x hx1
    · exact phs_nil ⟨trivial, by rw [doneL_snoc]; rfl⟩
  · rintro _ _ rfl rfl
    refine hs_freeze (i := 2) rfl trivial ?_
    refine bret (ptuple rfl U.tuple (TD.seqL (pd_name (i := 2) rfl rfl (.inl rfl))) (fun _ => rfl)) ?_
    exact fun _ h => h
end
end K07


set_option Elab.async false
set_option linter.all false
set_option maxRecDepth 100000
set_option maxHeartbeats 2000000
namespace DL
open PySem PySem.Spec L2
/-! ### a promise of a new list is one of data -/
theorem spF_D {A α : Type} {ps : Addr → A → Ctxt} {kf : A → Nat} {pre : A → Prop} {c : Cod α} {P : A → List α → Prop} {vs : List V} {H : Hp} {Q : VK} {E : XK} (h : spD ps kf pre (cList c) P vs H Q E) : spF ps kf pre c P vs H Q E := by
  obtain ⟨a, b, n, Hf, hp, hn, ex, o, bx, q⟩ := h
  refine ⟨a, b, n, Hf, hp, hn, ex, o, bx, fun r ws Hf' H' xs px e1 e2 e3 e4 e5 f ex' bx' => ?_⟩
  have e0 : Ex Hf' (upd Hf' r (.lst ws)) := Ex.new e2
  refine q (.ref r) (upd Hf' r (.lst ws)) H' xs px ⟨r, ws, rfl, upd_same, paired_mono e4 (fun _ _ z => c.mono e0 z), e5⟩ (f.fix e3 e2 e1) (ex'.fix e1) fun z hz => ⟨?_, (bx' z hz).2⟩
  obtain ⟨_, _, _, _, _, w, _⟩ := bx z hz
  rw [upd_ne (ne_of_none w e3)]; exact (bx' z hz).1
section
variable {P : Program} {w : World} {K : PySem.W.Frag} {mg : Str → Option Value} {base : Heap} {C : Addr} {m x : Str} {pn : List Str} {lv : Nat} {A α : Type} {ps : Addr → A → Ctxt} {kf : A → Nat} {pre : A → Prop} {c : Cod α} {PR : A → List α → Prop}
theorem MCal.dat (M : MCal P w K mg base C m pn lv (spF ps kf pre c PR)) : MCal P w K mg base C m pn lv (spD ps kf pre (cList c) PR) := by
  obtain ⟨f, fd, F, hm, hb⟩ := M.ex
  exact ⟨f, fd, F.imp fun vs H Q E h => spF_D h, hm, hb⟩
theorem Cal.dat (M : Cal P w K mg base x pn lv (spF ps kf pre c PR)) : Cal P w K mg base x pn lv (spD ps kf pre (cList c) PR) := M.imp fun _ _ F => F.imp fun vs H Q E h => spF_D h
/-- a method of one parameter, by place and by keyword -/
structure MBoth (P : Program) (w : World) (K : PySem.W.Frag) (mg : Str → Option Value) (base : Heap) (C : Addr) (m kn : Str) (lv : Nat) (sp : Sp) : Prop where
  ex : ∃ f fd, FnOk P w K mg base CX0 lv f fd [("self" : Str), kn] sp ∧ Meth K C m f ∧ Binds K fd [("self" : Str), kn] [] ∧ KBinds K fd [("self" : Str), kn] [kn] g2 g2
theorem mboth {m kn qual : Str} {st : Stmt} {sp : Sp} (D : MDef K C m qual st) (hb : BindsM st m qual [("self" : Str), kn]) (hk : ∀ (kV doc pm : Value) (an : Option Addr) (cdv ct a b : Value), bindArgs (PySem.W.fnOf m qual (defArgs st) (defBody st) (defScope st) .none kV doc pm an cdv ct) ⟨[a], [kn].zip [b]⟩ = pure ([("self" : Str), kn].zip [a, b]))
    (h : ∀ f fd, Fun K m qual st f fd → FnOk P w K mg base CX0 lv f fd [("self" : Str), kn] sp) : MBoth P w K mg base C m kn lv sp := by
  obtain ⟨f, fd, Fu, hm⟩ := D.ex
  refine ⟨f, fd, h f fd Fu, hm, Fu.binds hb, ?_⟩
  obtain ⟨oc, od, kV, doc, pm, an, cdv, ct, osl, rfl, lk, hcd⟩ := Fu.ex
  exact kb2 fun a b => hk _ _ _ _ _ _ a b
theorem MBoth.p {m kn : Str} {sp : Sp} (M : MBoth P w K mg base C m kn lv sp) : MCal P w K mg base C m [("self" : Str), kn] lv sp := by
  obtain ⟨f, fd, F, hm, hb, _⟩ := M.ex
  exact ⟨f, fd, F, hm, hb⟩
theorem MBoth.k {m kn : Str} {sp : Sp} (M : MBoth P w K mg base C m kn lv sp) : MCalK P w K mg base C m [("self" : Str), kn] [kn] lv sp := by
  obtain ⟨f, fd, F, hm, _, hb⟩ := M.ex
  exact ⟨f, fd, F, hm, hb⟩
theorem MBoth.dat {m kn : Str} (M : MBoth P w K mg base C m kn lv (spF ps kf pre c PR)) : MBoth P w K mg base C m kn lv (spD ps kf pre (cList c) PR) := by
  obtain ⟨f, fd, F, h⟩ := M.ex
  exact ⟨f, fd, F.imp fun vs H Q E h => spF_D h, h⟩
end
/-! ### a method called where errors are caught -/
def tMethXS (C : Addr) (m : Str) (sp : Sp) (E : Stt → XK) (ta : TE) (t : TA) : TE := fun σ H Q => ta σ H fun x H1 => ∃ a dx fs, x = .ref a ∧ H1 a = some (.ins C dx fs) ∧ fs.lookup m = none ∧ t σ H1 fun vs H2 => sp (x :: vs) H2 Q (E σ)
section
variable {X : Cx} {CX : CXT} {k : Nat} {f C : Addr} {fd : FuncData} {ps ks : List Str} {sp : Sp} {E : Stt → XK} {m x : Str} {p pos apos : Pos} {o e : Expr} {es : List Expr} {kws : List Keyword} {ta : TE} {t tk : TA}
theorem pe_methXS {pl : Sem Bool} (he : PE X o ta) (c : Cls X.K C) (hm : Meth X.K C m f) (F : FnOk X.prog X.w X.K X.mg X.base CX k f fd ps sp) (hr : Room k X.A) (hb : Binds X.K fd ps []) (hx : ∀ σ, PassesAt CX X σ (E σ)) (ha : PA X (e :: es) t)
    (hst : starEach (e :: es) X.env = (false, eval e X.env) :: starEach es X.env) (hpl : (backTo pos (starEach es X.env)).any (·.1) = false)
    (ht : eval (.Call (.Attribute o m apos) (e :: es) [] pos) X.env = getDot X.env o m apos pl fun g fx => callWith pos g fx (backTo pos (starEach (e :: es) X.env)) (backToKw pos (keywordEach [] X.env))) :
    PE X (.Call (.Attribute o m apos) (e :: es) [] pos) (tMethXS C m sp E ta t) := by
  constructor
  intro pins s σ H Q I h
  refine dot_ins (R := fun x H1 => t σ H1 fun vs H2 => sp (x :: vs) H2 Q (E σ)) he c hm ht I h fun a H1 s1 I1 q => PySem.W.callWith_K (first := [.ref a]) (h₀ := X.base) I.ok.mod.kin hm.kp (thn (ha.run pos pins s1 σ H1 _ I1 q) ?_) hst hpl
  rintro us s2 ⟨vs, H2, I2, r, q2⟩
  refine ⟨I2.kIn, ?_⟩
  exact run_fnS (us := .ref a :: us) (vs := .ref a :: vs) F hr hb (hx σ) I2 (.cons rfl r) q2
/-! ### C(k = e) -/
def tMakeN0 (C : Addr) (m : Nat) (sp : Sp) (gV : List V → List V → List V) (E : XK) (tk : TA) : TE := fun σ H Q => tk σ H fun zs H2 => zs.length = m ∧
  ∀ x dx, H2 x = none → H2 dx = none → dx ≠ x → sp (gV [.ref x] zs) (upd (upd H2 dx (.own x)) x (.ins C dx [])) (fun v H3 => v = .non ∧ Q (.ref x) H3) E
theorem pe_makeN0 {E : XK} {g : List Value → List Value → List Value} {gV : List V → List V → List V} (M : Mk X.K C f) (F : FnOk X.prog X.w X.K X.mg X.base CX k f fd ps sp) (hr : Room (k + 1) X.A) (hg : Gl X x) (hm : X.mg x = some (.ref C)) (hb : KBn X.K fd ps 1 ks g gV) (hx : Passes CX X E)
    (hkw : PK X kws tk) (hall : (backToKw pos (keywordEach kws X.env)).all (·.1.isSome) = true) (hks : (backToKw pos (keywordEach kws X.env)).filterMap (·.1) = ks)
    (hdb : (x == ("__debug__" : Str)) = false)
    (hpl : ((backTo pos (starEach [] X.env)).any (·.1) || (backToKw pos (keywordEach kws X.env)).any (·.1.isNone)) = false) :
    PE X (.Call (.Name x p) [] kws pos) (tMakeN0 C ks.length sp gV E tk) := by
  refine ⟨fun pins s σ H Q I h => ?_⟩
  refine wpAny_Call_Name_kw (ld_glob I hg hm ?_ hdb)
  refine PySem.W.callWith_KW0 (h₀ := X.base) I.ok.mod.kin M.kp hall ?_ hpl
  refine thn (hkw.run pos pins s σ H _ I h) fun ws s2 ⟨zs, H2, I2, rz, l2, q2⟩ => ⟨I2.kIn, ?_⟩
  rw [hks]
  exact run_makeN (n := 0) M F hr hb hx I2 .nil rz rfl l2 q2
end
section
variable {S : Stc} {Γ : Ctxt} {k : Nat} {α ω : Type} {ca : Cod α} {P : α → Prop} {e : Expr} {pos pn kp : Pos} {C : Addr} {F : Hp → List (Str × V) → ω → Prop} {hm : ∀ {H H' fs y}, Ex H H' → F H fs y → F H' fs y} {x kn : Str} {lv : Nat}
/-- __init__ by its keyword -/
structure ICalK (P : Program) (w : World) (K : PySem.W.Frag) (mg : Str → Option Value) (base : Heap) (C : Addr) (kn : Str) (lv : Nat) (sp : Sp) : Prop where
  ex : ∃ f fd, FnOk P w K mg base CX0 lv f fd [("self" : Str), kn] sp ∧ Mk K C f ∧ KBn K fd [("self" : Str), kn] 1 [kn] g2 g2
theorem kbn2 {K : PySem.W.Frag} {fd : FuncData} {p1 p2 : Str} (h : ∀ a b : Value, bindArgs fd ⟨[a], [p2].zip [b]⟩ = pure ([p1, p2].zip [a, b])) : KBn K fd [p1, p2] 1 [p2] g2 g2 where
  to := fun s us ws _ l1 l2 => by
    match us, ws, l1, l2 with
    | [a], [b], _, _ => exact .of_eq (h a b)
  rel := (kb2 (K := K) h).rel
theorem pmakeK1 {pre : α → Prop} {Pi : α → ω → Prop} {P' : ω → Prop} (I : ICalK S.prog S.w S.K S.mg S.base C kn lv (spI C (fun a => [.d ca a]) pre F Pi)) (hl : lv + 1 ≤ S.lv) (hg : S.sc.names.lookup x = some .globalImplicit) (hmg : S.mg x = some (.ref C)) (he : PD S Γ k e ca P) (hc : ∀ z, P z → pre z ∧ ∀ y, Pi z y → P' y)
    (hall : ∀ env : Env, (backToKw pos (keywordEach [⟨some kn, e, kp⟩] env)).all (·.1.isSome) = true) (hks : ∀ env : Env, (backToKw pos (keywordEach [⟨some kn, e, kp⟩] env)).filterMap (·.1) = [kn])
    (hpl : ∀ env : Env, ((backTo pos (starEach [] env)).any (·.1) || (backToKw pos (keywordEach [⟨some kn, e, kp⟩] env)).any (·.1.isNone)) = false) (hdb : (x == ("__debug__" : Str)) = false := by decide) : PD S Γ k (.Call (.Name x pn) [] [⟨some kn, e, kp⟩] pos) (cIns C F hm) P' := by
  obtain ⟨f, fd, Fn, M, hb⟩ := I.ex
  refine pd_of (fun X G => pe_makeN0 (by rw [G.K]; exact M) (fnG Fn G) (G.room.mono hl) (glb G hg) (by rw [G.mg]; exact hmg) (by rw [G.K]; exact hb) pass0 (pk_cons (tE_ok G) pk_nil) (hall _) (hks _) hdb (hpl _)) fun O n σ Hf H hn s Q q => he O n σ Hf H hn s _ fun v Hf1 H1 z pz rz f s => ⟨rfl, fun x dx hx hdx ne => ?_⟩
  obtain ⟨hp, hh⟩ := hc z pz
  have ex0 : Ex Hf1 (upd (upd H1 dx (.own x)) x (.ins C dx [])) := s.ex.trans ((Ex.new hdx).trans (Ex.new (by rw [upd_ne ne.symm]; exact hx)))
  have fx : Hf1 x = none := s.ex.back hx
  refine ⟨z, x, dx, [v], Hf1, hp, rfl, upd_same, fx, ex0, ⟨rz, trivial⟩, fun Hf' H' fs y py hH hf hF fr ex => ⟨rfl, ?_⟩⟩
  have f1 : Fr (fun z => z = x) Hf1 H1 Hf' H' := by
    refine Fr.trans (M := fun z => z = x) (Fr.trans (M := fun z => z = x) (Hf1 := Hf1) (H1 := upd H1 dx (.own x)) (Fr.newO hdx) (Fr.newO (M := fun z => z = x) (by rw [upd_ne ne.symm]; exact hx)) fun _ z => .inl z) fr fun _ z => .inl z
  have f2 : Fr (Bx Γ) Hf1 H1 Hf' H' := f1.mono fun z e => .inr (by subst e; exact hx)
  have f3 : Fr (Bx Γ) Hf1 H1 (upd Hf' x (.ins C dx fs)) H' := f2.fix hx hf hH
  refine q _ _ _ y (hh y py) ⟨x, dx, fs, rfl, upd_same, hm (Ex.new hf) hF⟩ (f.trans f3 fun _ z => .inl z) ?_
  refine s.grow f3 (ex.fix hH) fun a' ⟨i, hi⟩ => ?_
  obtain ⟨_, z2, z3⟩ := s.at_ i _ hi
  have z4 := z3
  obtain ⟨_, _, _, _, e, _⟩ := z4
  have nx : a' ≠ x := ne_of_none e hx
  exact ⟨by rw [upd_ne nx]; exact f1.fz a' _ e nx z2, boxAt_ex z3 fun o r => f1.keep a' o r nx⟩
end
end DL

set_option Elab.async false
set_option linter.all false
set_option maxRecDepth 100000
set_option maxHeartbeats 4000000
namespace K07
open PySem PySem.Spec L2 DL
/-! ### class Change -/
def FCh : Hp → List (Str × V) → List R3 → Prop := fun H fs rs => ∃ v, fs = [(("rows" : Str), v)] ∧ (cTup cI3).rep H v rs
theorem hmCh {H H' : Hp} {fs : List (Str × V)} {y : List R3} (e : Ex H H') (h : FCh H fs y) : FCh H' fs y := by
  obtain ⟨v, h1, h2⟩ := h
  exact ⟨v, h1, (cTup cI3).mono e h2⟩
abbrev cCh (C : Addr) : Cod (List R3) := cIns C FCh (fun e h => hmCh e h)
theorem nlCh {C : Addr} : NL (cCh C) := nl_ins fun H H' fs y k ⟨v, h1, h2⟩ => ⟨v, h1, nl_tup (nl_t3 nl_int nl_int nl_int) H H' v y k h2⟩
theorem hno_1 {f m : Str} (hm : f ≠ m) {v : V} {fs : List (Str × V)} (h1 : fs = [(f, v)]) : fs.lookup m = none := by
  subst h1
  show (match m == f with | true => some v | false => none) = none
  have : (m == f) = false := by
    rw [beq_eq_false_iff_ne]; exact fun e => hm e.symm
  rw [this]
theorem hno_Ch {m : Str} (hm : ("rows" : Str) ≠ m) : ∀ H fs y0, FCh H fs y0 → fs.lookup m = none := fun H fs y0 ⟨v, h1, _⟩ => hno_1 hm h1
structure TCh (K : PySem.W.Frag) (mg : Str → Option Value) (C : Addr) : Prop where
  k : Kls K mg "Change" C
  nR : NoAttr K C "rows"
  nI : PySem.W.kitOne K (.type "tuple") (.ref C) = some false
theorem pd_rows {S : Stc} {Γ : Ctxt} {k : Nat} {e : Expr} {pos : Pos} {C : Addr} {z : List R3} (T : TCh S.K S.mg C) (h : PD S Γ k e (cCh C) (· = z)) (hb : ∀ env : Env, attributeBase e "rows" env (eval e env) = eval e env) : PD S Γ k (.Attribute e "rows" pos) (cTup cI3) (· = z) :=
  pfld (y := fun x => x) h T.k.cl T.nR (fun H fs y0 ⟨v, h1, h2⟩ => ⟨v, by rw [h1]; exact List.lookup_cons_self, h2⟩) hb
abbrev inCh (i : Nat) : Stmt := inClass (top 31) i
/-! class Book -/
def FBk : Hp → List (Str × V) → List Int → Prop := fun H fs ns => ∃ v, fs = [(("sizes" : Str), v)] ∧ (cTup cInt).rep H v ns
theorem hmBk {H H' : Hp} {fs : List (Str × V)} {y : List Int} (e : Ex H H') (h : FBk H fs y) : FBk H' fs y := by
  obtain ⟨v, h1, h2⟩ := h
  exact ⟨v, h1, (cTup cInt).mono e h2⟩
abbrev cBk (C : Addr) : Cod (List Int) := cIns C FBk (fun e h => hmBk e h)
theorem hno_Bk {m : Str} (hm : ("sizes" : Str) ≠ m) : ∀ H fs y0, FBk H fs y0 → fs.lookup m = none := fun H fs y0 ⟨v, h1, _⟩ => hno_1 hm h1
structure TBk (K : PySem.W.Frag) (mg : Str → Option Value) (C : Addr) : Prop where
  k : Kls K mg "Book" C
  nS : NoAttr K C "sizes"
theorem pd_sizes {S : Stc} {Γ : Ctxt} {k : Nat} {e : Expr} {pos : Pos} {C : Addr} {z : List Int} (T : TBk S.K S.mg C) (h : PD S Γ k e (cBk C) (· = z)) (hb : ∀ env : Env, attributeBase e "sizes" env (eval e env) = eval e env) : PD S Γ k (.Attribute e "sizes" pos) (cTup cInt) (· = z) :=
  pfld (y := fun x => x) h T.k.cl T.nS (fun H fs y0 ⟨v, h1, h2⟩ => ⟨v, by rw [h1]; exact List.lookup_cons_self, h2⟩) hb
abbrev inBk (i : Nat) : Stmt := inClass (top 25) i
/-- sizes of a book -/
def Pl (ns : List Int) : Prop := (1 ≤ ns.length ∧ ns.length ≤ 8) ∧ ∀ n ∈ ns, 2 ≤ n ∧ n ≤ 6
theorem rows64 {rs : List R3} (h : Rows rs) : ∀ r ∈ rs, In64 r := fun r hr => by
  have := h.1 r hr
  simp only [rowOk, Bool.and_eq_true, decide_eq_true_eq] at this
  obtain ⟨⟨a1, a2⟩, ⟨b1, b2⟩, c1, c2⟩ := this
  exact ⟨⟨a1, by omega⟩, ⟨b1, by omega⟩, c1, by omega⟩
/-- of which books rows are -/
def isofL (rs : List R3) (ns : List Int) : Bool := rs.all fun r => decide (r.1 < (ns.length : Int)) && decide (max r.2.1 r.2.2 < atT ns r.1)
structure Ko2 (mg : Str → Option Value) : Prop where
  fewest : ∃ t, mg "FEWEST_WORDINGS" = some (.int 2 t)
section
variable {P : Program} {w : World} {K : PySem.W.Frag} {mg : Str → Option Value} {base : Heap} {C CB : Addr}
variable (U : Bt mg)
include U
theorem c_are_sizes (D : Def K mg "are_sizes" (top 24)) (T0 : Ko mg) (T2 : Ko2 mg) (C_is_list : Cal P w K mg base "is_list" ["value"] 1 (spP (fun (a : List Int) => [.d (cSeq cInt) a]) (fun _ => True) cBool (fun _ => true))) (C_is_integer : Cal P w K mg base "is_integer" ["value"] 1 (spP (fun (a : Int) => [.d cInt a]) (fun _ => True) cBool (fun _ => true))) :
    Cal P w K mg base "are_sizes" ["value"] 2 (spP (fun (a : List Int) => [.d (cSeq cInt) a]) Pl cBool (fun _ => true)) := by
  refine cal_D (N := ["value", "size"]) D (fun _ _ _ _ _ _ us hl => match us, hl with | [_], _ => rfl) ⟨rfl, rfl, rfl, by decide +kernel, rfl, by decide +kernel, by decide +kernel⟩ (fun _ _ => rfl) (by decide) (fun _ _ => trivial) fun b a hp => ?_
  obtain ⟨_, Tplaces⟩ := T0.places
  obtain ⟨_, Twordings⟩ := T0.wordings
  obtain ⟨_, Tfewest⟩ := T2.fewest
  refine HS.le (k := 0 + max 0 0) ?_ (by decide)
  refine bifR (k1 := 0) (k2 := 0) (k3 := 0) (pdt_w (tor (pdt_not (pdt_val (pcal1 C_is_list (show (1 : Nat) ≤ 1 by decide) rfl (pd_name (i := 0) rfl rfl (.inl rfl)) trivial (fun _ => rfl) (fun _ => rfl)) (fun _ _ => rfl))) fun _ => (pdw_or1 (pdt_not (tchain (fun _ => op_le) (fun _ => op_le) pd_int (plen rfl U.len (pd_name (i := 0) rfl rfl (.inl rfl)) (fun _ => rfl)) (pd_glob rfl (v := .int 8) (c := cInt) (y := 8) Tplaces ⟨_, rfl⟩ (fun _ => rfl)) rfl))))) (fun h => ?_) fun h => ?_
  · exfalso
    have := hp.1
    simp at h
    omega
  refine bret (pall rfl U.all (TDF.td (plcN [("size", 1)] (pdi_seq (pd_name (i := 0) rfl rfl (.inl rfl))) trivial (by kernel_rfl) (fun _ _ => rfl) fun x hx => ⟨_, _, (pdg_name (i := 1) trivial rfl (.inl rfl) (.inr rfl)), (fun _ h => h), (pand (pcal1 C_is_integer (show (1 : Nat) ≤ 1 by decide) rfl (pd_name (i := 1) rfl rfl (.inl rfl)) trivial (fun _ => rfl) (fun _ => rfl)) fun _ => (pd_one (pchain (fun _ => op_le) (fun _ => op_le) (pd_glob rfl (v := .int 2) (c := cInt) (y := 2) Tfewest ⟨_, rfl⟩ (fun _ => rfl)) (pd_name (i := 1) rfl rfl (.inl rfl)) (pd_glob rfl (v := .int 6) (c := cInt) (y := 6) Twordings ⟨_, rfl⟩ (fun _ => rfl)) rfl)))⟩)) (fun _ => rfl)) ?_
  intro x h
  refine h.trans ?_
  simp only [List.all_map, List.all_eq_true]
  intro y hy
  have := hp.2 y hy
  simp [this]
abbrev P_initB (CB : Addr) : Sp := spI CB (fun (a : List Int) => [.d (cSeq cInt) a]) Pl FBk (fun a y => y = a)
theorem i_book (D : ∃ f fd, Fun K "__init__" "Book.__init__" (inBk 0) f fd ∧ Mk K CB f) (T : TBk K mg CB) (C_are_sizes : Cal P w K mg base "are_sizes" ["value"] 2 (spP (fun (a : List Int) => [.d (cSeq cInt) a]) Pl cBool (fun _ => true))) : ICal P w K mg base CB ["self", "sizes"] 3 (P_initB CB) := by
  obtain ⟨f, fd, Fu, M⟩ := D
  refine ⟨f, fd, ?_, M, Fu.binds (fun _ _ _ _ _ _ us hl => match us, hl with | [_, _], _ => rfl)⟩
  refine init1 (N := ["self", "sizes"]) (cv := cTup cInt) (g := fun x => x) (h := fun x => x) Fu ⟨rfl, rfl, rfl, by decide +kernel, rfl, by decide +kernel, by decide +kernel⟩ rfl rfl (.inl rfl) (fun _ => rfl) (by decide) (fun _ => trivial) T.k.cl T.nS (fun H y a _ r => ⟨y, rfl, r⟩) (fun _ => rfl) (fun x a hp => ?_) fun x a hp => ?_
  · refine HS.le (k := 0 + max 0 0) ?_ (by decide)
    refine ph_if (k1 := 0) (k2 := 0) (k3 := 0) (pdt_not (pdt_val (pcal1 C_are_sizes (show (2 : Nat) ≤ 2 by decide) rfl (pd_name (i := 1) rfl rfl (.inl rfl)) hp (fun _ => rfl) (fun _ => rfl)) (fun _ _ => rfl))) (fun h => ?_) fun h => ?_
    · exact absurd h (by decide)
    · exact phs_nil rfl
  · exact ptuple rfl U.tuple (pd_name (i := 1) rfl rfl (.inl rfl)) (fun _ => rfl)
omit U in
theorem pmkBk {S : Stc} {Γ : Ctxt} {e : Expr} {pos pn : Pos} {z : List Int} (I : ICal S.prog S.w S.K S.mg S.base CB ["self", "sizes"] 3 (P_initB CB)) (T : TBk S.K S.mg CB) (hl : 3 + 1 ≤ S.lv) (hg : S.sc.names.lookup ("Book" : Str) = some .globalImplicit) (he : PD S Γ 0 e (cSeq cInt) (· = z)) (hp : Pl z)
    (hs : ∀ env : Env, starEach [e] env = (false, eval e env) :: starEach [] env) (hpl : ∀ env : Env, (backTo pos (starEach [] env)).any (·.1) = false) : PD S Γ 0 (.Call (.Name "Book" pn) [e] [] pos) (cBk CB) (· = z) :=
  pmake1 (ca := cSeq cInt) (F := FBk) (hm := fun {_ _ _ _} e h => hmBk e h) (h := fun x => x) I hl hg T.k.mgC he hp (fun _ h => h) hs hpl
abbrev P_lenB (CB : Addr) : Sp := spP (fun (a : List Int) => [.d (cBk CB) a]) (fun _ => True) cInt (fun a => (a.length : Int))
theorem m_lenB (D : ∃ f fd, Fun K "__len__" "Book.__len__" (inBk 2) f fd ∧ PySem.W.findIn K (.ref CB) "__len__" = some (some (.ref f)) ∧ PySem.W.isFn K (.ref f) = true) (T : TBk K mg CB) : LenA P w K mg base CB 1 (P_lenB CB) := by
  obtain ⟨f, fd, Fu, h1, h2⟩ := D
  refine ⟨f, fd, ["self"], ?_, h1, h2, Fu.binds (fun _ _ _ _ _ _ us hl => match us, hl with | [_], _ => rfl)⟩
  refine fn_D (N := ["self"]) Fu ⟨rfl, rfl, rfl, by decide +kernel, rfl, by decide +kernel, by decide +kernel⟩ (fun _ _ => rfl) (by decide) (fun _ _ => trivial) fun b a hp => ?_
  exact bret (plen rfl U.len (TD.seqT (pd_sizes T (pd_name (i := 0) rfl rfl (.inl rfl)) (fun _ => rfl))) (fun _ => rfl)) fun _ h => h
/-! Change's -/
abbrev P_are_rows : Sp := spP (fun (a : List R3) => [.d (cSeq cI3) a]) Rows cBool (fun _ => true)
abbrev P_init (C : Addr) : Sp := spI C (fun (a : List R3) => [.d (cList cI3) a]) Rows FCh (fun a y => y = sort3 a)
abbrev P_initT (C : Addr) : Sp := spI C (fun (a : List R3) => [.d (cTup cI3) a]) Rows FCh (fun a y => y = sort3 a)
theorem ok_init {f : Addr} {fd : FuncData} (Fu : Fun K "__init__" "Change.__init__" (inCh 0) f fd) (T : TCh K mg C) (C_are_rows : Cal P w K mg base "are_rows" ["value"] 4 P_are_rows) : FnOk P w K mg base CX0 5 f fd ["self", "rows"] (P_init C) := by
  refine init1 (N := ["self", "rows"]) (cv := cTup cI3) (g := sort3) (h := sort3) Fu ⟨rfl, rfl, rfl, by decide +kernel, rfl, by decide +kernel, by decide +kernel⟩ rfl rfl (.inl rfl) (fun _ => rfl) (by decide) (fun _ => trivial) T.k.cl T.nR (fun H y a _ r => ⟨y, rfl, r⟩) (fun _ => rfl) (fun x a hp => ?_) fun x a hp => ?_
  · refine HS.le (k := 0 + max 0 0) ?_ (by decide)
    refine ph_if (k1 := 0) (k2 := 0) (k3 := 0) (pdt_not (pdt_val (pcal1 C_are_rows (show (4 : Nat) ≤ 4 by decide) rfl (TD.seqL (pd_name (i := 1) rfl rfl (.inl rfl))) hp (fun _ => rfl) (fun _ => rfl)) (fun _ _ => rfl))) (fun h => ?_) fun h => ?_
    · exact absurd h (by decide)
    · exact phs_nil rfl
  · exact ptuple rfl U.tuple (TD.seqL (TDF.td (psort3 rfl U.sorted (pd_name (i := 1) rfl rfl (.inl rfl)) (by have := hp.2.2; omega) (rows64 hp) (fun _ => rfl)))) (fun _ => rfl)
theorem i_init (D : ∃ f fd, Fun K "__init__" "Change.__init__" (inCh 0) f fd ∧ Mk K C f) (T : TCh K mg C) (C_are_rows : Cal P w K mg base "are_rows" ["value"] 4 P_are_rows) : ICal P w K mg base C ["self", "rows"] 5 (P_init C) := by
  obtain ⟨f, fd, Fu, M⟩ := D
  exact ⟨f, fd, ok_init U Fu T C_are_rows, M, Fu.binds (fun _ _ _ _ _ _ us hl => match us, hl with | [_, _], _ => rfl)⟩
theorem i_initK (D : ∃ f fd, Fun K "__init__" "Change.__init__" (inCh 0) f fd ∧ Mk K C f) (T : TCh K mg C) (C_are_rows : Cal P w K mg base "are_rows" ["value"] 4 P_are_rows) : ICalK P w K mg base C "rows" 5 (P_init C) := by
  obtain ⟨f, fd, Fu, M⟩ := D
  refine ⟨f, fd, ok_init U Fu T C_are_rows, M, ?_⟩
  obtain ⟨oc, od, kV, doc, pm, an, cdv, ct, osl, rfl, lk, hcd⟩ := Fu.ex
  exact kbn2 fun a b => rfl
theorem i_initT (D : ∃ f fd, Fun K "__init__" "Change.__init__" (inCh 0) f fd ∧ Mk K C f) (T : TCh K mg C) (C_are_rows : Cal P w K mg base "are_rows" ["value"] 4 P_are_rows) : ICal P w K mg base C ["self", "rows"] 5 (P_initT C) := by
  obtain ⟨f, fd, Fu, M⟩ := D
  refine ⟨f, fd, ?_, M, Fu.binds (fun _ _ _ _ _ _ us hl => match us, hl with | [_, _], _ => rfl)⟩
  refine init1 (N := ["self", "rows"]) (cv := cTup cI3) (g := sort3) (h := sort3) Fu ⟨rfl, rfl, rfl, by decide +kernel, rfl, by decide +kernel, by decide +kernel⟩ rfl rfl (.inl rfl) (fun _ => rfl) (by decide) (fun _ => trivial) T.k.cl T.nR (fun H y a _ r => ⟨y, rfl, r⟩) (fun _ => rfl) (fun x a hp => ?_) fun x a hp => ?_
  · refine HS.le (k := 0 + max 0 0) ?_ (by decide)
    refine ph_if (k1 := 0) (k2 := 0) (k3 := 0) (pdt_not (pdt_val (pcal1 C_are_rows (show (4 : Nat) ≤ 4 by decide) rfl (TD.seqT (pd_name (i := 1) rfl rfl (.inl rfl))) hp (fun _ => rfl) (fun _ => rfl)) (fun _ _ => rfl))) (fun h => ?_) fun h => ?_
    · exact absurd h (by decide)
    · exact phs_nil rfl
  · exact ptuple rfl U.tuple (TD.seqL (TDF.td (psort3T rfl U.sorted (pd_name (i := 1) rfl rfl (.inl rfl)) (by have := hp.2.2; omega) (rows64 hp) (fun _ => rfl)))) (fun _ => rfl)
omit U in
theorem pmkCh {S : Stc} {Γ : Ctxt} {e : Expr} {pos pn : Pos} {z : List R3} (I : ICal S.prog S.w S.K S.mg S.base C ["self", "rows"] 5 (P_init C)) (T : TCh S.K S.mg C) (hl : 5 + 1 ≤ S.lv) (hg : S.sc.names.lookup ("Change" : Str) = some .globalImplicit) (he : PD S Γ 0 e (cList cI3) (· = z)) (hp : Rows z)
    (hs : ∀ env : Env, starEach [e] env = (false, eval e env) :: starEach [] env) (hpl : ∀ env : Env, (backTo pos (starEach [] env)).any (·.1) = false) : PD S Γ 0 (.Call (.Name "Change" pn) [e] [] pos) (cCh C) (· = sort3 z) :=
  pmake1 (ca := cList cI3) (F := FCh) (hm := fun {_ _ _ _} e h => hmCh e h) (h := sort3) I hl hg T.k.mgC he hp (fun _ h => h) hs hpl
omit U in
theorem pmkChT {S : Stc} {Γ : Ctxt} {e : Expr} {pos pn : Pos} {z : List R3} (I : ICal S.prog S.w S.K S.mg S.base C ["self", "rows"] 5 (P_initT C)) (T : TCh S.K S.mg C) (hl : 5 + 1 ≤ S.lv) (hg : S.sc.names.lookup ("Change" : Str) = some .globalImplicit) (he : PD S Γ 0 e (cTup cI3) (· = z)) (hp : Rows z)
    (hs : ∀ env : Env, starEach [e] env = (false, eval e env) :: starEach [] env) (hpl : ∀ env : Env, (backTo pos (starEach [] env)).any (·.1) = false) : PD S Γ 0 (.Call (.Name "Change" pn) [e] [] pos) (cCh C) (· = sort3 z) :=
  pmake1 (ca := cTup cI3) (F := FCh) (hm := fun {_ _ _ _} e h => hmCh e h) (h := sort3) I hl hg T.k.mgC he hp (fun _ h => h) hs hpl
/-- == -/
structure EqF (K : PySem.W.Frag) (C : Addr) (qual : Str) (st : Stmt) : Prop where
  ex : ∃ f fd, Fun K "__eq__" qual st f fd ∧ PySem.W.findIn K (.ref C) "__eq__" = some (some (.ref f)) ∧ PySem.W.isFn K (.ref f) = true
  cl : Cls K C
  ob : PySem.W.mroIn K C (.type "object") = some true
  ne : PySem.W.findIn K (.ref C) "__ne__" = some (some (.builtin "object.__ne__"))
  nt : PySem.W.subIn K (.type "tuple") (.ref C) = some false
abbrev P_eq (C : Addr) : Sp := spP (fun (a : List R3 × List R3) => [.d (cCh C) a.1, .d (cCh C) a.2]) (fun _ => True) cBool (fun a => decide (a.1 = a.2))
abbrev P_eqT (C : Addr) : Sp := spP (fun (a : List R3 × List R3) => [.d (cCh C) a.1, .d (cTup cI3) a.2]) (fun _ => True) cBool (fun a => false)
theorem m_eq (D : EqF K C "Change.__eq__" (inCh 1)) (T : TCh K mg C) : EqA P w K mg base C 1 (P_eq C) := by
  obtain ⟨f, fd, Fu, h1, h2⟩ := D.ex
  refine ⟨⟨f, fd, ["self", "other"], ?_, h1, h2, Fu.binds (fun _ _ _ _ _ _ us hl => match us, hl with | [_, _], _ => rfl)⟩, D.cl, D.ob, D.ne, D.nt⟩
  refine fn_D (N := ["self", "other"]) Fu ⟨rfl, rfl, rfl, by decide +kernel, rfl, by decide +kernel, by decide +kernel⟩ (fun _ _ => rfl) (by decide) (fun _ _ => trivial) fun b a hp => ?_
  refine bret (pand (pisi rfl U.isinstance (pd_name (i := 1) rfl rfl (.inl rfl)) (nmOwn rfl T.k.mgC) (.own _) (ty_ins T.k.own) T.k.isC (fun _ => rfl)) fun _ => (pd_one (pcmp (op_eqDG rfl) (pd_rows T (pd_name (i := 0) rfl rfl (.inl rfl)) (fun _ => rfl)) (pd_rows T (pd_name (i := 1) rfl rfl (.inl rfl)) (fun _ => rfl)) (rd_eqD (eTup (eT3 eInt eInt eInt)) (by decide)) (nomark _)))) ?_
  exact fun _ h => h
theorem m_eqT (D : EqF K C "Change.__eq__" (inCh 1)) (T : TCh K mg C) : EqA P w K mg base C 1 (P_eqT C) := by
  obtain ⟨f, fd, Fu, h1, h2⟩ := D.ex
  refine ⟨⟨f, fd, ["self", "other"], ?_, h1, h2, Fu.binds (fun _ _ _ _ _ _ us hl => match us, hl with | [_, _], _ => rfl)⟩, D.cl, D.ob, D.ne, D.nt⟩
  refine fn_D (N := ["self", "other"]) Fu ⟨rfl, rfl, rfl, by decide +kernel, rfl, by decide +kernel, by decide +kernel⟩ (fun _ _ => rfl) (by decide) (fun _ _ => trivial) fun b a hp => ?_
  exact bret (pand (x := false) (y := false) (pisi rfl U.isinstance (pd_name (i := 1) rfl rfl (.inl rfl)) (nmOwn rfl T.k.mgC) (.own _) ty_tup T.nI (fun _ => rfl)) fun h => nomatch h) fun _ h => h
omit U in
omit U in
abbrev P_misses (C : Addr) : Sp := spFP (fun (a : List R3 × List Int) => [.d (cCh C) a.1, .d (cTup cInt) a.2]) (fun a => InN a.1 a.2.length) cInt (fun a => (missL a.1 a.2).map fun x => x.1)
omit U in
theorem m_misses (D : MDef K C "misses" "Change.misses" (inCh 6)) (T : TCh K mg C) : MBoth P w K mg base C "misses" "text" 1 (P_misses C) := by
  refine mboth D (fun _ _ _ _ _ _ us hl => match us, hl with | [_, _], _ => rfl) (fun _ _ _ _ _ _ _ _ => rfl) fun f fd Fu => ?_
  refine fn_F (N := ["self", "text", "place", "old", "new"]) Fu ⟨rfl, rfl, rfl, by decide +kernel, rfl, by decide +kernel, by decide +kernel⟩ (fun _ _ => rfl) (by decide) (fun _ _ => trivial) fun b a hp => ?_
  refine bretF (plcT [("place", 2), ("old", 3), ("new", 4)] (pdi_tup (pd_rows T (pd_name (i := 0) rfl rfl (.inl rfl)) (fun _ => rfl))) trivial (by kernel_rfl) (fun _ _ => rfl) fun x hx => ⟨_, _, (pdg_t3 (pdg_name (i := 2) trivial rfl (.inl rfl) (.inr rfl)) (pdg_name (i := 3) trivial rfl (.inl rfl) (.inr rfl)) (pdg_name (i := 4) trivial rfl (.inl rfl) (.inr rfl)) (fun _ => rfl) (fun _ => rfl) (fun _ => rfl) (fun _ => rfl) (fun _ => rfl)), (fun _ h => h), (tts_one (tcmp (fun _ _ => op_ne) (pix ixTG (pd_name (i := 1) rfl rfl (.inr (.inl rfl))) (pd_name (i := 2) rfl rfl (.inl rfl)) (rd_ixTd ?_) (fun _ _ => rfl)) (pd_name (i := 3) rfl rfl (.inl rfl)) rd_neI (nomark _))), fun hq => (pd_name (i := 2) rfl rfl (.inl rfl))⟩)
  exact hp x hx
abbrev P_fits (C : Addr) : Sp := spP (fun (a : List R3 × List Int) => [.d (cCh C) a.1, .d (cTup cInt) a.2]) (fun a => InN a.1 a.2.length) cBool (fun a => decide (missL a.1 a.2 = []))
omit U in
theorem m_fits (D : MDef K C "fits" "Change.fits" (inCh 7)) (T : TCh K mg C) (M_misses : MBoth P w K mg base C "misses" "text" 1 (P_misses C)) : MBoth P w K mg base C "fits" "text" 2 (P_fits C) := by
  refine mboth D (fun _ _ _ _ _ _ us hl => match us, hl with | [_, _], _ => rfl) (fun _ _ _ _ _ _ _ _ => rfl) fun f fd Fu => ?_
  refine fn_D (N := ["self", "text"]) Fu ⟨rfl, rfl, rfl, by decide +kernel, rfl, by decide +kernel, by decide +kernel⟩ (fun _ _ => rfl) (by decide) (fun _ _ => trivial) fun b a hp => ?_
  refine bret (pcmp (op_eqDG rfl) (TDF.td (pm1F M_misses.p T.k.cl (show (1 : Nat) ≤ 1 by decide) (pd_name (i := 0) rfl rfl (.inl rfl)) (pd_name (i := 1) rfl rfl (.inl rfl)) (hno_Ch (by decide +kernel)) hp (fun _ => rfl) (fun _ => rfl) (fun _ => rfl))) (TDF.td (pdf_nil (c := cInt))) (rd_eqD (eList eInt) (by decide)) (nomark _)) ?_
  exact fun _ h => h.trans (decide_eq_decide.mpr (by simp))
abbrev P_isof (C CB : Addr) : Sp := spP (fun (a : List R3 × List Int) => [.d (cCh C) a.1, .d (cBk CB) a.2]) (fun a => (∀ r ∈ a.1, 0 ≤ r.1) ∧ a.2.length ≤ 8) cBool (fun a => isofL a.1 a.2)
theorem m_isof (U2 : mg "max" = none) (D : MDef K C "is_of" "Change.is_of" (inCh 5)) (T : TCh K mg C) (TB : TBk K mg CB) (LB : LenA P w K mg base CB 1 (P_lenB CB)) : MBoth P w K mg base C "is_of" "book" 3 (P_isof C CB) := by
  refine mboth D (fun _ _ _ _ _ _ us hl => match us, hl with | [_, _], _ => rfl) (fun _ _ _ _ _ _ _ _ => rfl) fun f fd Fu => ?_
  refine fn_D (N := ["self", "book", "row"]) Fu ⟨rfl, rfl, rfl, by decide +kernel, rfl, by decide +kernel, by decide +kernel⟩ (fun _ _ => rfl) (by decide) (fun _ _ => trivial) fun b a hp => ?_
  refine bret (pall rfl U.all (TDF.td (plcN [("row", 2)] (pdi_tup (pd_rows T (pd_name (i := 0) rfl rfl (.inl rfl)) (fun _ => rfl))) trivial (by kernel_rfl) (fun _ _ => rfl) fun x hx => ⟨_, _, (pdg_name (i := 2) trivial rfl (.inl rfl) (.inr rfl)), (fun _ h => h), (pand (pcmp (fun _ _ => op_lt) (pix ixTG (pd_name (i := 2) rfl rfl (.inl rfl)) pd_int rd_ix3_0 (fun _ _ => rfl)) (plenO LB (show (1 + 1 : Nat) ≤ 2 by decide) rfl U.len (pd_name (i := 1) rfl rfl (.inr (.inl rfl))) trivial ?_ (fun _ => rfl)) rd_B0 (nomark _)) fun hb => (pd_one (pcmp (fun _ _ => op_lt) (pmaxT rfl U2 (ptail3 (pd_name (i := 2) rfl rfl (.inl rfl))) (fun _ => rfl)) (pix ixTG (pd_sizes TB (pd_name (i := 1) rfl rfl (.inr (.inl rfl))) (fun _ => rfl)) (pix ixTG (pd_name (i := 2) rfl rfl (.inl rfl)) pd_int rd_ix3_0 (fun _ _ => rfl)) (rd_ixTd ?_) (fun _ _ => rfl)) rd_B0 (nomark _))))⟩)) (fun _ => rfl)) ?_
  · have := hp.2; omega
  · exact ⟨hp.1 x hx, of_decide_eq_true hb⟩
  · intro z h
    refine h.trans ?_
    unfold isofL
    rw [List.all_map]
    rfl
end
end K07

set_option Elab.async false
set_option linter.all false
set_option maxRecDepth 100000
set_option maxHeartbeats 2000000
/-! ### what is drawn: rules that tell a property of the value -/
namespace DL
open PySem PySem.Spec L2
section
variable {S : Stc} {Γ : Ctxt} {k k1 k2 k3 kn ke : Nat} {α β : Type} {c : Cod α} {c' : Cod β} {a b e : Expr} {pos pn : Pos} {P1 P2 P3 : Int → Prop} {PB : Bool → Prop} {xs : List α}
theorem paddR (ha : PD S Γ k1 a cInt P1) (hb : PD S Γ k2 b cInt P2) (hp : ∀ x y, P1 x → P2 y → P3 (x + y)) : PD S Γ (k1 + k2) (.BinOp a .Add b pos) cInt P3 :=
  pd_bin (fun _ _ => op_add) ha hb fun x y hx hy Hf H v u e h1 h2 Q q => rd_I0 (g := fun i j => i + j) Hf H v u e h1 h2 Q fun z Hf' H' w pz => q z Hf' H' w (by subst pz; exact hp x y hx hy)
theorem psubR (ha : PD S Γ k1 a cInt P1) (hb : PD S Γ k2 b cInt P2) (hp : ∀ x y, P1 x → P2 y → P3 (x - y)) : PD S Γ (k1 + k2) (.BinOp a .Sub b pos) cInt P3 :=
  pd_bin (fun _ _ => op_sub) ha hb fun x y hx hy Hf H v u e h1 h2 Q q => rd_I0 (g := fun i j => i - j) Hf H v u e h1 h2 Q fun z Hf' H' w pz => q z Hf' H' w (by subst pz; exact hp x y hx hy)
theorem pmodR (ha : PD S Γ k1 a cInt P1) (hb : PD S Γ k2 b cInt P2) (h0 : ∀ y, P2 y → 0 < y) (hp : ∀ x y, P1 x → P2 y → P3 (x % y)) : PD S Γ (k1 + k2) (.BinOp a .Mod b pos) cInt P3 :=
  pd_bin (fun _ _ => op_mod) ha hb fun x y hx hy Hf H v u e h1 h2 Q q => rd_I (C := fun _ j => 0 < j) (g := fun i j => i % j) (h0 y hy) Hf H v u e h1 h2 Q fun z Hf' H' w pz => q z Hf' H' w (by subst pz; exact hp x y hx hy)
theorem peqR (ha : PD S Γ k1 a cInt P1) (hb : PD S Γ k2 b cInt P2) (hm : behindInMarks .Eq b = false) : PD S Γ (k1 + k2) (.Compare a [.Eq] [b] pos) cBool (fun _ => True) :=
  pd_cmp (fun _ _ => op_eq) ha hb (fun x y hx hy Hf H v u e h1 h2 Q q => rd_eqI Hf H v u e h1 h2 Q fun z Hf' H' w _ => q z Hf' H' w trivial) hm
theorem pltR (ha : PD S Γ k1 a cInt P1) (hb : PD S Γ k2 b cInt P2) (hm : behindInMarks .Lt b = false) : PD S Γ (k1 + k2) (.Compare a [.Lt] [b] pos) cBool (fun _ => True) :=
  pd_cmp (fun _ _ => op_lt) ha hb (fun x y hx hy Hf H v u e h1 h2 Q q => rd_B0 (g := fun i j => decide (i < j)) Hf H v u e h1 h2 Q fun z Hf' H' w _ => q z Hf' H' w trivial) hm
/-- int of an int -/
theorem pintR (hg : S.sc.names.lookup ("int" : Str) = some .globalImplicit) (hm : S.mg "int" = none) (h : PD S Γ k e cInt P1) (he : ∀ env : Env, starEach [e] env = (false, eval e env) :: starEach [] env) : PD S Γ k (.Call (.Name "int" pn) [e] [] pos) cInt P1 :=
  pd_y1 (T := "int") (fun X G => call_int1) hg hm PyProof.Rows.boot_int h (fun x hx Hf H v e h1 Q q => .inl ⟨x, by rw [show v = .int x from h1], q x Hf H _ hx rfl Fr.refl e⟩) he
/-- xs[i], i drawn -/
theorem pixLR (ha : PD S Γ k1 a (cList c) (· = xs)) (hb : PD S Γ k2 b cInt (fun y => 0 ≤ y ∧ y < (xs.length : Int))) (hs : PlainIx b) : PD S Γ (k1 + k2) (.Subscript a b pos) c (fun z => z ∈ xs) :=
  pd_ixR ixLG ha hb (fun x y hx hy => by
    subst hx
    have hl : y.toNat < x.length := by omega
    exact rd_ixL ⟨x[y.toNat], by
      unfold atI
      rw [ixN_at hy]
      exact List.getElem?_eq_getElem hl, List.getElem_mem hl⟩) hs
/-- .. of a list that is drawn itself -/
theorem pixLP {n : Nat} {P : α → Prop} (ha : PD S Γ k1 a (cList c) (fun l => l.length = n ∧ ∀ z ∈ l, P z)) (hb : PD S Γ k2 b cInt (fun y => 0 ≤ y ∧ y < (n : Int))) (hs : PlainIx b) : PD S Γ (k1 + k2) (.Subscript a b pos) c P :=
  pd_ixR ixLG ha hb (fun x y hx hy => by
    obtain ⟨h1, h2⟩ := hx
    have hl : y.toNat < x.length := by omega
    exact rd_ixL ⟨x[y.toNat], by
      unfold atI
      rw [ixN_at (by omega)]
      exact List.getElem?_eq_getElem hl, h2 _ (List.getElem_mem hl)⟩) hs
/-- [e for x in xs], e drawn -/
theorem plcQ (own : List (Str × Nat)) {elt tg iter : Expr} {scope : Scope} {Q : β → Prop} (hw : PDI S Γ k tg iter c (· = xs)) (nv : NoBxs Γ (own.map (·.2))) (ok : blkC S.N S.sc scope own = true) (hfs : ∀ (env : Env) x, foldedSetIterable iter env x = pure x) (hk : xs.length * ke ≤ kn)
    (hs : ∀ x, x ∈ xs → ∃ Γ1 is, PDG (S.blk scope) tg c x (wipeC Γ (own.map (·.2))) Γ1 is ∧ (∀ i ∈ is, i ∈ own.map (·.2)) ∧ PD (S.blk scope) Γ1 ke elt c' Q) :
    PDF S Γ (k + kn) (.ListComp elt [⟨tg, iter, [], 0⟩] scope pos) c' (fun ys => ys.length = xs.length ∧ ∀ y ∈ ys, Q y) :=
  pdf_lc ok hfs (TDF.imp (tdf_lc (kt := 0) (ke := ke) (kn := kn) (X := (· = xs)) (fun _ pre ys => ys.length = pre.length ∧ ∀ y ∈ ys, Q y) hw (noBxs_mem nv) (fun _ _ => ⟨rfl, fun _ h => nomatch h⟩) (fun l e => by subst e; rw [Nat.zero_add]; exact hk) (fun l e pre x post ys hx hI => by
    obtain ⟨Γ1, is, h1, h2, h3⟩ := hs x (by rw [← e, hx]; simp)
    refine ⟨Γ1, is, (· = true), h1, h2, tts_nil, fun _ => h3.imp fun y hy => ⟨by rw [List.length_append, List.length_append, hI.1]; rfl, fun z hz => ?_⟩, fun h => nomatch h⟩
    rcases List.mem_append.mp hz with h | h
    · exact hI.2 z h
    · rw [List.mem_singleton.mp h]; exact hy)) fun ys ⟨l, e, h1, h2⟩ => by subst e; exact ⟨h1, h2⟩)
/-- [a, b], both drawn -/
theorem plst2R {P : α → Prop} {a b : Expr} (ha : PD S Γ k1 a c P) (hb : PD S Γ k2 b c P) (hs : ∀ env : Env, starEach [a, b] env = (false, eval a env) :: starEach [b] env) (hs2 : ∀ env : Env, starEach [b] env = (false, eval b env) :: starEach [] env) : PDF S Γ (k1 + k2) (.List [a, b] pos) c (fun l => l.length = 2 ∧ ∀ z ∈ l, P z) :=
  TDF.le (pdf_lst (pda_cons ha (pda_cons (k2 := 0) hb pda_nil hs2) hs) fun as ⟨x, r, hx, ⟨y, r2, hy, e2, e1⟩, e⟩ => ⟨[x, y], by rw [e, e1, e2]; rfl, by simp, rfl, fun z hz => by
    simp at hz
    rcases hz with z | z
    · rw [z]; exact hx
    · rw [z]; exact hy⟩) (by omega)
end
end DL

set_option Elab.async false
set_option linter.all false
set_option maxRecDepth 100000
set_option maxHeartbeats 2000000
namespace DL
open PySem PySem.Spec L2
section
variable {Γ Γ1 : Ctxt} {k k1 k2 : Nat} {α β ρ : Type} {c : Cod α} {P : α → Prop} {te to : TE} {g : TG} {p : Po ρ} {xs : List α} {R : List α → Prop}
theorem hs_unpackP (h : TD te Γ k c P) (hg : ∀ x, P x → ∃ Γ1 is, GD g c x Γ Γ1 is ∧ p.N Γ1) : HS (tAsg te g) Γ k p := fun O n σ Hf H hn S D q1 _ _ _ =>
  h O n σ Hf H hn S _ fun v Hf' H' y py r f s => by
    obtain ⟨Γ1, is, hg, hp⟩ := hg y py
    exact hg.2.2 O (n + k) σ Hf' H' v r s _ fun σ' S' _ => q1 σ' Hf' H' Γ1 hp ⟨S', hg.1, f.ex⟩
theorem tdf_catP {R' : List α → Prop} (ha : TD te Γ k1 (cList c) R) (hb : TD to Γ k2 (cList c) R') (lb : ∀ xs ys, R xs → R' ys → xs.length + ys.length ≤ LB) : TDF (tOp rCat te to) Γ (k1 + k2) c (fun zs => ∃ xs ys, R xs ∧ R' ys ∧ zs = xs ++ ys) := fun O n σ Hf H hn S Q q =>
  ha O n σ Hf H (by omega) S _ fun v Hf1 H1 x px r1 f1 S1 => hb O (n + k1) σ Hf1 H1 (by omega) S1 _ fun u Hf2 H2 y py r2 f2 S2 => by
    have l := lb x y px py
    obtain ⟨a, vs, h1, h2, h3, h4⟩ := (cList c).mono f2.ex r1
    obtain ⟨b, us, g1, g2, g3, g4⟩ := r2
    refine ⟨a, b, vs, us, h1, g1, S2.ex _ _ h2, S2.ex _ _ g2, ?_, fun p hp => ?_⟩
    · have := paired_len h3; have := paired_len g3; exact lb_line (by omega)
    · exact q p (vs ++ us) Hf2 _ _ ⟨x, y, px, py, rfl⟩ upd_same (S2.ex.back hp) (f1.dom p (f2.dom p hp)) (pap h3 g3) (by rw [List.length_append]; have := paired_len h3; have := paired_len g3; omega)
        ((f1.trans f2 fun _ z => .inl z).trans (Fr.newO (M := Bx Γ) hp) fun _ z => .inl z) (by rw [← Nat.add_assoc]; exact S2.grow0 (Fr.newO hp) (S2.ex.trans (Ex.new hp)))
end
section
variable {S : Stc} {Γ : Ctxt} {k k1 k2 kr : Nat} {α β ρ : Type} {c : Cod α} {P : α → Prop} {p : Po ρ} {a b e tg : Expr} {pos pos2 pn : Pos} {rest : List Stmt} {xs : List α} {R R' : List α → Prop}
theorem bunpackP (h : PD S Γ k e c P) (hg : ∀ x, P x → ∃ Γ1 is, PDG S tg c x Γ Γ1 is ∧ PHs S Γ1 kr rest p) (hs : ∀ env : Env, env.scope = S.sc → swapsWithSole [tg] e pos.line env = pure false) (hw : ∀ env : Env, env.scope = S.sc → swappedStores [tg] e env = pure none) (h1 : ∀ env : Env, (assignEach [tg] env).map (·.2) = [assign tg env]) :
    PHs S Γ (k + kr) (.Assign [tg] e pos :: rest) p :=
  phs_cons (N1 := fun G => PHs S G kr rest p) (ph_of (fun X G => ps_asg (tE_ok G) (tGt_ok G) (hs _ G.sc) (hw _ G.sc) (h1 _)) (hs_unpackP h hg)) fun Γ1 e => e
theorem pcatP (ha : PD S Γ k1 a (cList c) R) (hb : PD S Γ k2 b (cList c) R') (lb : ∀ xs ys, R xs → R' ys → xs.length + ys.length ≤ LB) : PDF S Γ (k1 + k2) (.BinOp a .Add b pos) c (fun zs => ∃ xs ys, R xs ∧ R' ys ∧ zs = xs ++ ys) :=
  pdf_of (fun X G => pe_op op_cat (tE_ok G) (tE_ok G)) (tdf_catP ha hb lb)
/-- [e], e drawn -/
theorem plst1R (h : PD S Γ k e c P) (hs : ∀ env : Env, starEach [e] env = (false, eval e env) :: starEach [] env) : PDF S Γ (k + 0) (.List [e] pos) c (fun l => ∃ y, P y ∧ l = [y]) :=
  pdf_lst (pda_cons (k2 := 0) h pda_nil hs) fun as ⟨x, r, hx, e2, e1⟩ => ⟨[x], by rw [e1, e2]; rfl, by simp, x, hx, rfl⟩
theorem ptupleR {PT : List α → Prop} (hg : S.sc.names.lookup ("tuple" : Str) = some .globalImplicit) (hm : S.mg "tuple" = none) (h : PD S Γ k e (cSeq c) PT) (he : ∀ env : Env, starEach [e] env = (false, eval e env) :: starEach [] env) : PD S Γ k (.Call (.Name "tuple" pn) [e] [] pos) (cTup c) PT :=
  pd_y1 (T := "tuple") tupG hg hm PyProof.Rows.boot_tuple h (fun x hx Hf H v e h1 Q q => rc_tuple Hf H v e h1 Q fun z Hf' H' w pz => q z Hf' H' w (by subst pz; exact hx)) he
end
theorem cutD_mem {α : Type} {xs : List α} {l u : Option Int} {x : α} (h : x ∈ cutD xs l u) : x ∈ xs := List.mem_of_mem_drop (List.mem_of_mem_take h)
theorem cutD_head {α : Type} {xs : List α} {j : Int} (h : 0 ≤ j ∧ j ≤ (xs.length : Int)) : cutD xs none (some j) = xs.take j.toNat := by
  have e : j = ((j.toNat : Nat) : Int) := by omega
  unfold cutD
  rw [e, HT.sIx_none, HT.sIx_nat]
  simp
  omega
theorem cutD_tail {α : Type} {xs : List α} {j : Int} (h : 0 ≤ j ∧ j ≤ (xs.length : Int)) : cutD xs (some j) none = xs.drop j.toNat := by
  have e : j = ((j.toNat : Nat) : Int) := by omega
  unfold cutD
  rw [e, HT.sIx_none, HT.sIx_nat]
  have hm : min j.toNat xs.length = j.toNat := by omega
  rw [Int.toNat_natCast, hm]
  exact List.take_of_length_le (by rw [List.length_drop]; omega)
theorem cutD_init {α : Type} {xs : List α} (h : 1 ≤ xs.length) : cutD xs none (some (-1)) = xs.take (xs.length - 1) := by
  unfold cutD HT.sIx
  simp
  omega
end DL

set_option Elab.async false
set_option linter.all false
set_option maxRecDepth 100000
set_option maxHeartbeats 2000000
namespace DL
open PySem PySem.Spec L2
section
variable {Γ : Ctxt} {k : Nat} {ρ : Type} {ts : TS} {p : Po ρ}
/-- some slots forgotten at once -/
theorem HS.drop (vs : List Nat) (nb : NoBxs Γ vs) (h : HS ts (wipeC Γ vs) k p) : HS ts Γ k p := fun O n σ Hf H hn S D q1 q2 q3 q4 =>
  h O n σ Hf H hn (S.forget vs) D (fun σ' Hf' H' Γ' a f => q1 σ' Hf' H' Γ' a ⟨f.sat, (wipeC_keep (noBxs_mem nb)).trans f.bx, f.ex⟩) (fun σ' Hf' H' Γ' a f => q2 σ' Hf' H' Γ' a ⟨f.sat, (wipeC_keep (noBxs_mem nb)).trans f.bx, f.ex⟩)
    (fun σ' Hf' H' Γ' a f => q3 σ' Hf' H' Γ' a ⟨f.sat, (wipeC_keep (noBxs_mem nb)).trans f.bx, f.ex⟩) (fun v σ' Hf' H' Γ' x a b f => q4 v σ' Hf' H' Γ' x a b ⟨f.sat, (wipeC_keep (noBxs_mem nb)).trans f.bx, f.ex⟩)
end
section
variable {S : Stc} {Γ : Ctxt} {α : Type} {c : Cod α} {a b d : Expr} {pos : Pos} {x : α} {b' : Bool}
/-- a if d else b, where it is known which -/
theorem pifT (h : PDT S Γ 0 d (· = b')) (e : b' = true) (ha : PD S Γ 0 a c (· = x)) : PD S Γ 0 (.IfExp d a b pos) c (· = x) :=
  TD.le (pd_if (k1 := 0) (k2 := 0) (k3 := 0) h (fun _ => ha) fun h => by rw [e] at h; cases h) (by decide)
theorem pifF (h : PDT S Γ 0 d (· = b')) (e : b' = false) (hb : PD S Γ 0 b c (· = x)) : PD S Γ 0 (.IfExp d a b pos) c (· = x) :=
  TD.le (pd_if (k1 := 0) (k2 := 0) (k3 := 0) h (fun h => by rw [e] at h; cases h) fun _ => hb) (by decide)
end
def forBody : Stmt → List Stmt
  | .For (body := b) .. => b
  | _ => []
end DL

set_option Elab.async false
set_option linter.all false
set_option maxRecDepth 100000
set_option maxHeartbeats 2000000
namespace DL
open PySem PySem.Spec L2
/-! ### defs that may know that nothing is being shown -/
structure FnG (P : Program) (w : World) (K : PySem.W.Frag) (mg : Str → Option Value) (base : Heap) (k : Nat) (f : Addr) (fd : FuncData) (ps : List Str) (sp : Sp) : Prop where
  len : ∀ vs H Q E, sp vs H Q E → vs.length = ps.length
  run : ∀ (A : Around) (up : List Env) (s : Shared) (H : Hp) (ar : Args) (us : List Value) (vs : List V) (Q : VK) (E : XK), A.guards = some [] → Room k A → Env0 P w K mg base A up s H → BindsTo s fd ar (ps.zip us) → Vals vs us → sp vs H Q E →
    codeAny (model P w) A (.call (.ref f) ar) (CR CX0 up P w H s Q E) s
theorem fnG_of {P : Program} {w : World} {K : PySem.W.Frag} {mg : Str → Option Value} {base : Heap} {x qual : Str} {st : Stmt} {f : Addr} {fd : FuncData} {N ps : List Str} {k : Nat} {sp : Sp} (F : Fun K x qual st f fd) (Sc : FnScope N ps (defScope st)) (len : ∀ vs H Q E, sp vs H Q E → vs.length = ps.length)
    (hb : ∀ (cdv : Value) (A : Around) (up : List Env) (s : Shared) (H : Hp) (vs : List V) (Q : VK) (E : XK), A.guards = some [] → Room k (A.deeper (PyProof.Rows.envOfC qual (defScope st) s.heap.objs.size f cdv)) → sp vs H Q E →
      ∃ t, PSs (cxOf CX0 P w K mg base N qual (defScope st) f cdv A up s H E).nox (defBody st) t ∧ t { nx := fun _ H' => Q .non H', rt := Q } (start N vs) H) : FnG P w K mg base (k + 1) f fd ps sp := by
  obtain ⟨oc, od, kV, doc, pm, an, cdv, ct, osl, rfl, lk, hcd⟩ := F.ex
  refine ⟨len, fun A up s H ar us vs Q E hg hr e0 hbi rv hsp => ?_⟩
  have vl := len _ _ _ _ hsp
  have KIn : K.In s.heap := e0.mod.kin.keeps fun b o e => (e0.bs b o e).1
  have noL : s.heap.NoLimit := e0.mod.nolimit.keeps fun b o e => (e0.bs b o e).1
  have hkd : ∀ y ∈ ps.zip us, (defScope st).names.lookup y.1 = some .local ∨ ((defScope st).names.lookup y.1 = some .cell ∧ ((cellsFrom (s.heap.objs.size + 1) (defScope st).names []).lookup y.1).isSome = true) := fun ⟨n, v⟩ hy => (Sc.par n (List.of_mem_zip hy).1).imp id fun z => ⟨z, PySem.W.cellsFrom_some _ _ _ (.inl z)⟩
  refine codeAny_call_function hr.depth (KIn _ _ lk) rfl Sc.co Sc.gen rfl (PySem.W.codeRec_of KIn hcd) (hbi _ _ _ _ ?_)
  refine wpAny_newFunctionEnv_cells Sc.kind hkd fun env he s1 ic => ?_
  subst he
  refine ⟨noL.keeps ic.toInCall.keep, codeAny_func ?_⟩
  obtain ⟨t, ht, hq⟩ := hb cdv A up s H vs Q E hg (hr.deeper _) hsp
  have I0 : Inv (cxOf CX0 P w K mg base N qual (defScope st) f cdv A up s H E) [] (start N vs) H s1 := inv_start Sc hr.hd e0 vl rv ic
  refine wpAny_mono (ht.nox.run [] s1 (start N vs) H _ I0 hq) (fun fl s' hs => ?_) fun _ _ z => z
  have fin : ∀ {σ' : L2.St} {H' : Hp} {v : V} {u : Value}, Inv (cxOf CX0 P w K mg base N qual (defScope st) f cdv A up s H E) [] σ' H' s' → RelV v u → Q v H' → CE up P w H s Q u s' := fun {σ' H' v u} J r q => ⟨v, H', J.os, J.bare, J.base, J.hok, r, q⟩
  cases fl with
  | ret u =>
    obtain ⟨_, _, _, J, r, q⟩ := hs
    exact fin J r q
  | next =>
    obtain ⟨_, _, J, q⟩ := hs
    exact fin (v := V.non) (u := Value.none) J rfl q
  | brk =>
    obtain ⟨_, _, _, q⟩ := hs
    exact q.elim
  | cont =>
    obtain ⟨_, _, _, q⟩ := hs
    exact q.elim
section
variable {X : Cx} {k : Nat} {f : Addr} {fd : FuncData} {ps : List Str} {sp : Sp} {x : Str} {p pos : Pos} {e : Expr} {es : List Expr} {t : TA} {E : XK}
theorem pe_callG (F : FnG X.prog X.w X.K X.mg X.base k f fd ps sp) (gd : X.A.guards = some []) (hr : Room k X.A) (hg : Gl X x) (hm : X.mg x = some (.ref f)) (hk : PySem.W.keepIn X.K (.ref f) = true) (hb : Binds X.K fd ps [])
    (ha : PA X (e :: es) t) (hdb : (x == ("__debug__" : Str)) = false := by decide) (he : starEach (e :: es) X.env = (false, eval e X.env) :: starEach es X.env := by rfl) (hpl : (backTo pos (starEach es X.env)).any (·.1) = false := by rfl) :
    PE X (.Call (.Name x p) (e :: es) [] pos) (tCall sp [] E t) := by
  refine ⟨fun pins s σ H Q I h => ?_⟩
  refine wpAny_Call_Name_kw (ld_glob I hg hm ?_ hdb)
  refine PySem.W.callWith_K (h₀ := X.base) I.ok.mod.kin hk (thn (ha.run pos pins s σ H _ I h) fun us s1 ⟨vs, H1, I1, r, q⟩ => ⟨I1.kIn, ?_⟩) he hpl
  have r2 : Vals (vs ++ []) (us ++ []) := r.append .nil
  have hl : (us ++ []).length = ps.length := by rw [← r2.length]; exact F.len _ _ _ _ q
  refine wpAny_call (codeAny_mono (F.run X.A X.stack s1 H1 ⟨us, []⟩ (us ++ []) (vs ++ []) Q E gd hr I1.env0 (hb s1 us I1.kIn hl) r2 q) fun r s' hq => ?_)
  cases r with
  | error e => exact False.elim hq
  | ok fl =>
    cases fl with
    | ret u => exact I1.after hq
    | next => exact False.elim hq
    | brk => exact False.elim hq
    | cont => exact False.elim hq
end
structure CalG (P : Program) (w : World) (K : PySem.W.Frag) (mg : Str → Option Value) (base : Heap) (x : Str) (pn : List Str) (lv : Nat) (sp : Sp) : Prop where
  ex : ∃ f fd, FnG P w K mg base lv f fd pn sp ∧ mg x = some (.ref f) ∧ PySem.W.keepIn K (.ref f) = true ∧ Binds K fd pn []
theorem cxGG {P : Program} {w : World} {K : PySem.W.Frag} {mg : Str → Option Value} {base : Heap} {N : List Str} {qual : Str} {st : Stmt} {f : Addr} {cdv : Value} {A : Around} {outer : List Env} {s : Shared} {H : Hp} {E : XK} {lv : Nat} (hg : A.guards = some []) (hr : Room lv (A.deeper (PyProof.Rows.envOfC qual (defScope st) s.heap.objs.size f cdv))) (nd : N.Nodup) :
    Good ⟨N, defScope st, K, mg, P, w, base, lv, fun _ => true, true⟩ (cxOf CX0 P w K mg base N qual (defScope st) f cdv A outer s H E).nox := ⟨rfl, rfl, rfl, rfl, rfl, rfl, rfl, rfl, hr, rfl, rfl, nd, fun _ => hg⟩
section
variable {P : Program} {w : World} {K : PySem.W.Frag} {mg : Str → Option Value} {base : Heap} {x : Str} {st : Stmt} {N pn : List Str} {lv : Nat}
variable {A ρ : Type} {ps : Addr → A → Ctxt} {kf : A → Nat} {pre : A → Prop} {cr : Cod ρ} {PR : A → ρ → Prop}
theorem fn_DG {f : Addr} {fd : FuncData} {qual : Str} (F : Fun K x qual st f fd) (Sc : FnScope N pn (defScope st))
    (hl : ∀ b a, (ps b a).length = pn.length) (hN : pn.length ≤ N.length) (one : ∀ b a, OneB (ps b a))
    (body : ∀ b a, pre a → PHs ⟨N, defScope st, K, mg, P, w, base, lv, fun _ => true, true⟩ (entry N (ps b a)) (kf a) (defBody st) { N := fun _ => False, bk := fun _ => False, ct := fun _ => False, c := cr, R := PR a }) :
    FnG P w K mg base (lv + 1) f fd pn (spD ps kf pre cr PR) := by
  refine fnG_of F Sc (fun vs H Q E h => ?_) (fun cdv A outer s H vs Q E hg hr h => ?_)
  · obtain ⟨a, b, n, Hf, _, _, _, o, _⟩ := h
    rw [argsOk_len o]; exact hl b a
  · obtain ⟨a, b, n, Hf, hp, hn, ex, o, bx, q⟩ := h
    refine ⟨tSs ⟨N, defScope st, K, mg, P, w, base, lv, fun _ => true, true⟩ (defBody st), tSs_ok (cxGG hg hr Sc.nd), ?_⟩
    exact body_ok (by rw [hl]; exact hN) (one b a) hn ex o bx q (body b a hp)
theorem cal_DG (D : Def K mg x st) (hb : BindsD st x pn) (Sc : FnScope N pn (defScope st))
    (hl : ∀ b a, (ps b a).length = pn.length) (hN : pn.length ≤ N.length) (one : ∀ b a, OneB (ps b a))
    (body : ∀ b a, pre a → PHs ⟨N, defScope st, K, mg, P, w, base, lv, fun _ => true, true⟩ (entry N (ps b a)) (kf a) (defBody st) { N := fun _ => False, bk := fun _ => False, ct := fun _ => False, c := cr, R := PR a }) :
    CalG P w K mg base x pn (lv + 1) (spD ps kf pre cr PR) := by
  obtain ⟨f, fd, F, hm⟩ := D.ex
  exact ⟨f, fd, fn_DG F Sc hl hN one body, hm, F.kp, F.binds hb⟩
end
section
variable {S : Stc} {Γ : Ctxt} {k1 k2 : Nat} {A ρ : Type} {cr : Cod ρ} {e : Expr} {es : List Expr} {pos pn : Pos}
theorem fnGG {f : Addr} {fd : FuncData} {pn' : List Str} {sp : Sp} {X : Cx} {l : Nat} (F : FnG S.prog S.w S.K S.mg S.base l f fd pn' sp) (G : Good S X) : FnG X.prog X.w X.K X.mg X.base l f fd pn' sp := by
  rw [G.prog, G.w, G.K, G.mg, G.base]; exact F
theorem pcalXG {ps : Addr → A → Ctxt} {kf : A → Nat} {pre : A → Prop} {PR : A → ρ → Prop} {B : Ctxt → Prop} {P' : ρ → Prop} {pn' : List Str} {x : Str} {l : Nat} (F : CalG S.prog S.w S.K S.mg S.base x pn' l (spD ps kf pre cr PR)) (gd : S.gd = true) (hl : l ≤ S.lv) (hg : S.sc.names.lookup x = some .globalImplicit)
    (h : PDA S Γ k1 (e :: es) B) (hc : ∀ as, B as → ∃ a b, as = ps b a ∧ pre a ∧ kf a ≤ k2 ∧ ∀ x, PR a x → P' x)
    (he : ∀ env : Env, starEach (e :: es) env = (false, eval e env) :: starEach es env) (hpl : ∀ env : Env, (backTo pos (starEach es env)).any (·.1) = false) (hdb : (x == ("__debug__" : Str)) = false := by decide) : PD S Γ (k1 + k2) (.Call (.Name x pn) (e :: es) [] pos) cr P' := by
  obtain ⟨f, fd, F, hm, hk, hb⟩ := F.ex
  exact pd_of (te := tCall (spD ps kf pre cr PR) [] E0 (tA S (e :: es))) (fun X G => pe_callG (fnGG F G) (G.gd gd) (G.room.mono hl) (glb G hg) (by rw [G.mg]; exact hm) (by rw [G.K]; exact hk) (by rw [G.K]; exact hb) (tA_ok G) hdb (he _) (hpl _)) (td_call h hc)
theorem pcalG {ps : Addr → A → Ctxt} {pre : A → Prop} {g : A → ρ} {l : Ctxt} {pn' : List Str} {x : Str} {lv : Nat} (F : CalG S.prog S.w S.K S.mg S.base x pn' lv (spD ps (fun _ => 0) pre cr (fun a x => x = g a))) (gd : S.gd = true) (hl : lv ≤ S.lv) (hg : S.sc.names.lookup x = some .globalImplicit)
    (h : PDA S Γ 0 (e :: es) (· = l)) (a : A) (b : Addr) (hc : l = ps b a) (hp : pre a)
    (he : ∀ env : Env, starEach (e :: es) env = (false, eval e env) :: starEach es env) (hpl : ∀ env : Env, (backTo pos (starEach es env)).any (·.1) = false) (hdb : (x == ("__debug__" : Str)) = false := by decide) : PD S Γ 0 (.Call (.Name x pn) (e :: es) [] pos) cr (· = g a) :=
  pcalXG (k1 := 0) (k2 := 0) F gd hl hg h (fun as e => ⟨a, b, e.trans hc, hp, Nat.le_refl _, fun _ h => h⟩) he hpl hdb
end
end DL

set_option Elab.async false
set_option linter.all false
set_option maxRecDepth 100000
set_option maxHeartbeats 2000000
namespace DL
open PySem PySem.Spec L2 PyProof.Rows
theorem head_G {P : Program} {w : World} {K : PySem.W.Frag} {mg mb : Str → Option Value} {k : Nat} {fa a : Addr} {fd : FuncData} {sp : Sp} {z : Shared} {us : List Value} {ns : List Int} (KZ : K.In z.heap) (gN : z.heap.Ns mainGlobals mg) (bN : z.heap.Ns builtinsNs mb) (bB : ∀ y : Str, y ≠ "__name__" → mb y = bootBuiltins y) (nL : z.heap.NoLimit) (g0 : z.gens = #[])
    (at_ : z.heap.get? a = some { cls := .type "list", data := .seq us.toArray }) (iu : IntsAre us ns) (lz : ns.length ≤ sizeLine) (rm : Room k callerA) (F : ∀ b0 : Heap, K.In b0 → b0.Ns mainGlobals mg → FnG P w K mg b0 k fa fd ["script"] sp) (bd : ∀ (y : Shared) (u : Value), BindsTo y fd ⟨[u], []⟩ [("script", u)])
    (hsp : ∀ H : Hp, SqL K H a (ns.map V.int) → sp [.ref a] H (fun v _ => v = .bl true) fun _ _ _ => False) :
    codeAny (model P w) callerA (.call (.ref fa) ⟨[.ref a], []⟩) (fun r y => r = .ok (.ret (.bool true)) ∧ OldK z.heap y.heap ∧ y.os = z.os ∧ AllBare y.gens) z := by
  have core : ∀ H : Hp, (∀ b, H b = none ∨ ∃ o xs, H b = some (.frz o (.lst xs))) → SqL K H a (ns.map V.int) → HOk P w H z.heap → (∀ b, H b ≠ none → b = a) → (H a ≠ none → K.lookup a = none) → codeAny (model P w) callerA (.call (.ref fa) ⟨[.ref a], []⟩) (fun r y => r = .ok (.ret (.bool true)) ∧ OldK z.heap y.heap ∧ y.os = z.os ∧ AllBare y.gens) z := by
    intro H only sq ok hA hK
    have nod : ∀ {b : Addr} {o : Obj} {es : Array DictEntry} {ep : Nat}, z.heap.get? b = some o → o.data = .dict es ep → H b = none := fun {b o es ep} e d => by
      by_cases q : H b = none
      · exact q
      · have eb := hA b q
        subst eb
        rw [at_] at e
        injection e with e
        rw [← e] at d
        exact absurd d (by intro c; cases c)
    have up : ∀ {b : Addr} {m : Str → Option Value}, z.heap.Ns b m → (hidT z.heap H).Ns b m := fun {b m} ⟨o, es, ep, e, d, r⟩ => ⟨o, es, ep, hidT_get e (nod e d), d, r⟩
    have KH : K.In (hidT z.heap H) := fun b o e => hidT_get (KZ b o e) (by
      by_cases q : H b = none
      · exact q
      · have eb := hA b q
        subst eb
        have := hK q
        rw [this] at e; cases e)
    have md : Mod K mg (hidT z.heap H) := ⟨KH, up gN, ⟨mb, up bN, bB⟩, let ⟨mc, h1, h2⟩ := nL; ⟨mc, up h1, h2⟩⟩
    have en : Env0 P w K mg (hidT z.heap H) callerA [] z H := ⟨rfl, md, fun _ _ e => of_hidT e, Nat.le_of_eq (hidT_size _ _), trivial, (fun _ hb => nomatch (show _ ∈ ([] : List Addr) from hb)), ok, AllBare.of_eq g0⟩
    refine codeAny_mono ((F _ KH (up gN)).run callerA [] z H ⟨[.ref a], []⟩ [.ref a] [.ref a] _ _ rfl rm en (bd z (.ref a)) (.cons rfl .nil) (hsp H sq)) fun r y h => ?_
    match r, h with
    | .ok (.ret u), ⟨v, H', os, bare, un, ok', rr, q⟩ =>
      have q : v = .bl true := q
      subst q
      obtain rfl : u = Value.bool true := rr
      refine ⟨rfl, OldK.of_keep fun b o e => ?_, os, bare⟩
      rcases only b with q | ⟨ob, xs, q⟩
      · exact un.keep b o e q (fun c => (List.not_mem_nil (show b ∈ ([] : List Addr) from c)).elim) (by simp)
      · obtain ⟨e1, _⟩ := ok b _ q
        obtain ⟨e2, _⟩ := ok' b _ (un.frzs b ob _ q)
        rw [e] at e1
        injection e1 with e1
        rw [e1]; exact e2
  cases hk : K.lookup a with
  | some o =>
    have e := KZ a o hk
    rw [at_] at e
    injection e with e
    subst e
    exact core (fun _ => none) (fun _ => .inl rfl) (.inr ⟨_, us.toArray, _, hk, rfl, rfl, rfl, by rw [List.size_toArray, iu.length]; exact lz, by simpa using vals_ints iu⟩) (fun b u c => by cases c) (fun b c => absurd rfl c) fun c => absurd rfl c
  | none =>
    refine core (fun b => if b = a then some (.frz { cls := .type "list", data := .seq us.toArray } (.lst (ns.map V.int))) else none) (fun b => ?_) (.inl (.inr ⟨{ cls := .type "list", data := .seq us.toArray }, if_pos rfl⟩)) (fun b u c => ?_) (fun b c => ?_) fun _ => hk
    · by_cases q : b = a
      · exact .inr ⟨_, _, if_pos q⟩
      · exact .inl (if_neg q)
    · by_cases q : b = a
      · have c' := (if_pos q).symm.trans c
        cases c'
        subst q
        exact ⟨at_, by rw [List.length_map]; exact lz, us, _, vals_ints iu, at_⟩
      · have c' := (if_neg q).symm.trans c
        cases c'
    · by_cases q : b = a
      · exact q
      · exact absurd (if_neg q) c
theorem walk_G {l : PySem.W.OpenLaw} {n k : Nat} {q : Program} {loose : List Str} {XP : (Str → Option Value) → Heap → Prop} {YP : World → Heap → Prop} {d : DefRec} {K : Params → PySem.W.Frag} {sp : World → Sp} (hn : l.most = some n) (hn2 : n ≤ sizeLine) (hdf : d.params.defaults = []) (rm : Room k callerA) (hY : ∀ (w : World) (h : Heap), YP w h → (K w.params).In h)
    (F : ∀ (w : World) (mg : Str → Option Value) (fa : Addr) (h : Heap), (K w.params).In h → h.Ns mainGlobals mg → mg d.name = some (.ref fa) → ∃ fd : FuncData, (∀ (s : Shared) (u : Value), BindsTo s fd ⟨[u], []⟩ [("script", u)]) ∧ ∀ b0 : Heap, (K w.params).In b0 → b0.Ns mainGlobals mg → FnG l.prog w (K w.params) mg b0 k fa fd ["script"] (sp w))
    (hsp : ∀ (w : World) (H : Hp) (a : Addr) (ns : List Int), ns.length ≤ n → SqL (K w.params) H a (ns.map V.int) → sp w [.ref a] H (fun v _ => v = .bl true) fun _ _ _ => False) : PySem.W.WalkO q loose XP YP l.row.toRowW d [] (fun f vs => PySem.call f vs) := by
  refine Att.attach_call hn hdf fun w s₀ z mg mb fa o pm cd doc a us ns G Y ho hd hcd hmg hobj hints hlen hg => ?_
  obtain ⟨fd, hb, hF⟩ := F w mg fa _ (hY w _ Y) G.T.g hmg
  exact head_G (hY w _ Y) G.T.g G.T.b G.T.builtins G.T.nolimit hg hobj hints (Nat.le_trans hlen hn2) rm hF hb (fun H hS => hsp w H a ns hlen hS)
end DL

set_option Elab.async false
set_option linter.all false
set_option maxRecDepth 100000
set_option maxHeartbeats 2000000
namespace DL
open PySem PySem.Spec L2
/-! ### repr of data at any depth -/
theorem piled_is : ∀ ts : List Str, piled ts = (ts.map (·.length)).sum + 2 * ts.length
  | [] => rfl
  | t :: ts => by
    have := piled_is ts
    rw [piled_cons, this, List.map_cons, List.sum_cons, List.length_cons]
    omega
/-- one more sign at either end -/
theorem listText_up (ts : List Str) : (listText ts).length ≤ piled ts + 2 := by
  have up := textFrom_len_le ts 0 "["
  have one : (("[" : String) : Str).length = 1 ∧ (("]" : String) : Str).length = 1 := ⟨rfl, rfl⟩
  have all : (listText ts).length = (textFrom 0 "[" ts).length + (("]" : String) : Str).length := strLen_append ..
  rw [piled_is]
  omega
theorem tupleText_up (ts : List Str) : (tupleText ts).length ≤ piled ts + 3 := by
  rw [piled_is]
  exact tupleText_len_le ts
theorem piled_up {n : Nat} : ∀ {ts : List Str}, (∀ t ∈ ts, t.length ≤ n) → piled ts ≤ (n + 2) * ts.length
  | [], _ => Nat.zero_le _
  | t :: r, h => by
    have h1 := h t List.mem_cons_self
    have h2 := piled_up (fun u hu => h u (List.mem_cons_of_mem _ hu)) (ts := r)
    rw [piled_cons, List.length_cons, Nat.mul_succ]; omega
/-- a piece that can be shown, in at most n signs -/
structure Shw (d : PyData) (n : Nat) : Prop where
  s : d.showable = true
  h : d.hasDict = false
  l : d.shown.length ≤ n
theorem shw_int {i : Int} {k : Nat} (h0 : 0 ≤ i) (hk : 0 < k) (h : i < 10 ^ k) (hz : i.natAbs.log2 < 1920) : Shw (.int i) k := ⟨by unfold PyData.showable; exact decide_eq_true hz, rfl, PyProof.Rows.toString_length_le h0 hk h⟩
theorem shownAll_map {α : Type} (D : α → PyData) : ∀ xs : List α, PyData.shownAll (xs.map D) = xs.map fun x => (D x).shown
  | [] => rfl
  | x :: xs => by rw [List.map_cons, List.map_cons, PyData.shownAll, shownAll_map D xs]
theorem showAll_map {α : Type} {D : α → PyData} {n : Nat} : ∀ {xs : List α}, (∀ x ∈ xs, Shw (D x) n) → PyData.showableAll (xs.map D) = true ∧ PyData.hasDictAll (xs.map D) = false
  | [], _ => ⟨rfl, rfl⟩
  | x :: xs, h => by
    have a := h x List.mem_cons_self
    have b := showAll_map fun y hy => h y (List.mem_cons_of_mem _ hy)
    rw [List.map_cons, PyData.showableAll, PyData.hasDictAll, a.s, a.h, b.1, b.2]; exact ⟨rfl, rfl⟩
theorem shw_list {α : Type} {D : α → PyData} {n : Nat} {xs : List α} (h : ∀ x ∈ xs, Shw (D x) n) : Shw (.list (xs.map D)) ((n + 2) * xs.length + 2) := by
  obtain ⟨a, b⟩ := showAll_map h
  refine ⟨by rw [PyData.showable]; exact a, by rw [PyData.hasDict]; exact b, ?_⟩
  rw [PyData.shown, shownAll_map]
  refine Nat.le_trans (listText_up _) (Nat.add_le_add_right ?_ 2)
  refine Nat.le_trans (piled_up (n := n) fun t ht => ?_) (by rw [List.length_map]; exact Nat.le_refl _)
  obtain ⟨x, hx, rfl⟩ := List.mem_map.mp ht
  exact (h x hx).l
theorem shw_tup {α : Type} {D : α → PyData} {n : Nat} {xs : List α} (h : ∀ x ∈ xs, Shw (D x) n) : Shw (.tuple (xs.map D)) ((n + 2) * xs.length + 3) := by
  obtain ⟨a, b⟩ := showAll_map h
  refine ⟨by rw [PyData.showable]; exact a, by rw [PyData.hasDict]; exact b, ?_⟩
  rw [PyData.shown, shownAll_map]
  refine Nat.le_trans (tupleText_up _) (Nat.add_le_add_right ?_ 3)
  refine Nat.le_trans (piled_up (n := n) fun t ht => ?_) (by rw [List.length_map]; exact Nat.le_refl _)
  obtain ⟨x, hx, rfl⟩ := List.mem_map.mp ht
  exact (h x hx).l
theorem Shw.le {d : PyData} {n m : Nat} (h : Shw d n) (l : n ≤ m) : Shw d m := ⟨h.s, h.h, Nat.le_trans h.l l⟩
def rRepr (K : PySem.W.Frag) : List V → Hp → VK → Prop := fun xs H Q => ∃ (a : Addr) (d : PyData), xs = [.ref a] ∧ Dp K H (.ref a) d ∧ d.depth ≤ 63 ∧ Shw d sizeLine ∧ Q (.str d.shown) H
theorem cr_repr {X : Cx} (hg : X.A.guards = some []) (hu : X.A.units + 64 < cLine) : CallR X (.builtin "repr") (rRepr X.K) := by
  intro pins s σ H xs us Q I r h
  obtain ⟨a, d, rfl, hd, dp, sh, q⟩ := h
  obtain ⟨u, rfl, ru⟩ := vals1 r
  cases ru
  obtain ⟨as, rd⟩ := Dp.reads I d _ _ hd (show RelV (.ref a) (.ref a) from rfl)
  refine repr_of_reads' rd sh.s (fun z => by rw [sh.h] at z; cases z) hg (by omega) (fun _ _ e => e) (fun h' u tk k => ?_) sh.l
  exact ⟨.str d.shown, H, I.kept (t' := tk) k, ⟨_, rfl⟩, q⟩
theorem rc_repr {K : PySem.W.Frag} {α : Type} [DecidableEq α] {c : Cod α} {x : α} (q : EqC c) (hn : q.n ≤ 63) (sh : Shw (q.D x) sizeLine) (hr : ∀ H v, c.rep H v x → ∃ a, v = .ref a) : RC1 (rRepr K) c x cStr (· = (q.D x).shown) := fun Hf H v e h Q k => by
  obtain ⟨a, rfl⟩ := hr _ _ h
  exact ⟨a, q.D x, rfl, q.dp K H _ _ (c.mono e h), Nat.le_trans (q.dep x) hn, sh, k _ Hf H _ rfl rfl Fr.refl e⟩
section
variable {S : Stc} {Γ : Ctxt} {e : Expr} {pos pn : Pos}
theorem preprD {α : Type} [DecidableEq α] {c : Cod α} {x : α} (q : EqC c) (gd : S.gd = true) (hg : S.sc.names.lookup ("repr" : Str) = some .globalImplicit) (hmg : S.mg "repr" = none) (h : PD S Γ 0 e c (· = x)) (hn : q.n ≤ 63) (sh : Shw (q.D x) sizeLine) (hr : ∀ H v, c.rep H v x → ∃ a, v = .ref a) (he : ∀ env : Env, starEach [e] env = (false, eval e env) :: starEach [] env) : PD S Γ 0 (.Call (.Name "repr" pn) [e] [] pos) cStr (· = (q.D x).shown) :=
  pb1 (r := rRepr S.K) (fun X G => by rw [← G.K]; exact cr_repr (G.gd gd) G.room.units) hg hmg (by decide +kernel) h (rc_repr q hn sh hr) he
theorem preprI {i : Int} (hg : S.sc.names.lookup ("repr" : Str) = some .globalImplicit) (hmg : S.mg "repr" = none) (h : PD S Γ 0 e cInt (· = i)) (hz : i.natAbs.log2 < 1920) (he : ∀ env : Env, starEach [e] env = (false, eval e env) :: starEach [] env) : PD S Γ 0 (.Call (.Name "repr" pn) [e] [] pos) cStr (· = Str.ofString (toString i)) :=
  pb1 (fun X G => SkE.call_repr_int) hg hmg (by decide +kernel) h (fun Hf H v ex r Q q => ⟨i, by rw [show v = .int i from r], hz, q _ Hf H _ rfl rfl Fr.refl ex⟩) he
end
end DL

set_option Elab.async false
set_option linter.all false
set_option maxRecDepth 100000
set_option maxHeartbeats 2000000
namespace DL
open PySem PySem.Spec L2
/-! ### enumerate(a tuple) -/
/-- the counter that stands before anything is drawn, over an iterator at p -/
abbrev enum0 (p : Addr) : Obj := { cls := .type "enumerate", data := .fields #[.none, .bool false, .ref p, rawInt 0, .none, .none] }
/-- making it: whatever v is, if iter(v) is a new object o -/
theorem enum_made {v : Value} {o : Obj} {G : Heap → Prop} (B : Begins v o G) :
    Meets (Builtin.«enumerate.__new__» ⟨[.type "enumerate", v], []⟩) fun _ R s => G s.heap ∧ R (.ok (.ret (.ref (s.heap.push o).objs.size))) { s with heap := (s.heap.push o).push (enum0 s.heap.objs.size) } := by
  apply Meets.of_wp
  rintro P w A R ⟨h, gs, dr, tk, os⟩ ⟨g, r⟩
  have sub := sub_enumerate
  have it_ : ∀ {A' : Around} {E : Value → Shared → Prop} {Q : Value → Shared → Prop}, Q (.ref h.objs.size) ⟨h.push o, gs, dr, tk, os⟩ → wpAny (model P w) A' (pyIter v) Q E ⟨h, gs, dr, tk, os⟩ := fun {A' E Q} q => B.iter P w A' E _ Q g q
  wp_walk using it_
  apply wpAny_stack_any
  intro st
  apply wpAny_pure
  split
  · rename_i c _ _ _ _ _
    cases (c == Value.type "enumerate") <;> (wp_walk using it_; exact ⟨_, rfl, r⟩)
  · wp_walk using it_
    exact ⟨_, rfl, r⟩
/-- enumerate(t): its iterator and itself are the two next objects -/
theorem enum_call {P : Program} {w : World} {A : Around} {E : Value → Shared → Prop} {s : Shared} {t : Addr} {xs : Array Value} {Q : Value → Shared → Prop} (ht : s.heap.IsTuple t xs)
    (q : ∀ g, IsEnum g (s.heap.objs.size + 1) s.heap.objs.size 0 .none → g.IsTupleIter s.heap.objs.size t 0 → (∀ b o, s.heap.get? b = some o → g.get? b = some o) → Q (.ref (s.heap.objs.size + 1)) { s with heap := g }) :
    wpAny (model P w) A (call (.type "enumerate") [.ref t]) Q E s := by
  obtain ⟨io, hio⟩ : ∃ io : Obj, io = { cls := .type "tuple_iterator", data := .fields #[.ref t, .int 0 0] } := ⟨_, rfl⟩
  have B : Begins (.ref t) io fun h => h.IsTuple t xs := hio ▸ begins_tuple t xs
  have sz : (s.heap.push io).objs.size = s.heap.objs.size + 1 := Heap.size_push ..
  have cnt : IsEnum ((s.heap.push io).push (enum0 s.heap.objs.size)) (s.heap.objs.size + 1) s.heap.objs.size 0 .none := by
    rw [← sz]
    exact Heap.get?_push_size _ rfl
  have first_ : ((s.heap.push io).push (enum0 s.heap.objs.size)).get? s.heap.objs.size = some io := Heap.get?_push_of_some _ (Heap.get?_push_size _ B.free)
  have spec := callType_new (prog := P) (w := w) (A := A) (E := E) (s := s) (Q := Q) F.called_enumerate (by decide) (F.typeCall_enumerate_1 _) (F.newCall_enumerate_1 _) (fun obj => F.args_object_init_2 obj _) F.entry_enumerate_new (enum_made B)
  refine spec ⟨ht, ?_⟩
  rw [sz]
  exact ⟨⟨_, cnt, rfl⟩, q _ cnt ⟨io, first_, by rw [hio], by rw [hio]; rfl⟩ fun b o e => Heap.get?_push_of_some _ (Heap.get?_push_of_some _ e)⟩
section
variable {X : Cx} {pins : List (Addr × Obj)} {σ : Stt} {H : Hp} {s : Shared}
/-- a new pair (an int, a value that is known), while the objects of ch turned -/
theorem pair_new {g : Heap} {ch : List Addr} {i : Int} {tk tk' : Tok} {x : V} {u : Value} (I : Inv X pins σ H s) (r : RelV x u) (mine : ∀ b ∈ ch, FpOk X pins H b) (rest : ∀ b o, b ∉ ch → s.heap.get? b = some o → g.get? b = some o)
    (at_ : g.get? s.heap.objs.size = some { cls := .type "tuple", data := .seq #[.int i tk, u] }) : Inv X pins σ (upd H s.heap.objs.size (.tup [.int i, x])) { s with heap := g, toks := tk' } := by
  refine I.turnedNew (ch := ch) rest mine (Nat.le_refl _) ?_
  have vals : Vals [.int i, x] [.int i tk, u] := .cons ⟨tk, rfl⟩ (.cons r .nil)
  exact ⟨(by decide : 2 ≤ sizeLine), _, vals, _, at_, rfl, _, rfl⟩
end
/-- the tuple at a as it stands at each turn, each item in a new pair -/
def IteT (K : PySem.W.Frag) (a : Addr) : It where
  go i H := ∃ (xs : List V) (x : V), SqT K H a xs ∧ xs[i]? = some x
  yld i H v H' := ∃ T x, v = .ref T ∧ H T = none ∧ H' = upd H T (.tup [.int (i : Nat), x]) ∧ ∀ xs, SqT K H a xs → xs[i]? = some x
  stop i H := ∃ xs : List V, SqT K H a xs ∧ xs.length = i
theorem turn_enumT {P : Program} {w : World} {K : PySem.W.Frag} {elts : List Expr} {kk : Nat} {tpos : Pos} (a e it : Addr) (ai : a ≠ it) (ea : e ≠ a) (ei : e ≠ it) :
    Turn P w K (.Tuple elts kk tpos) (IteT K a) [e, it] e (fun i h => (∃ old, IsEnum h e it ((i : Nat) : Int) old) ∧ h.IsTupleIter it a i) := by
  have two : ∀ {b : Addr}, b ∈ [e, it] → b = e ∨ b = it := fun m => (List.mem_cons.mp m).imp id List.mem_singleton.mp
  constructor
  · exact List.mem_cons_self
  · rintro i h ⟨⟨old, en⟩, o, g, _, d⟩ b m
    rcases two m with rfl | rfl
    · exact ⟨_, en, fun _ z => by cases z⟩
    · exact ⟨o, g, fun _ z => by rw [d] at z; cases z⟩
  · rintro i h h' ⟨⟨old, en⟩, ti⟩ k
    exact ⟨⟨old, k e List.mem_cons_self _ en⟩, ti.at fun o g => k it (List.mem_cons_of_mem _ List.mem_cons_self) o g⟩
  · -- an item comes
    rintro X rfl rfl rfl calm i pins s σ H E I mine ⟨⟨old, en⟩, ti⟩ ⟨xs, x, sq, hx⟩
    obtain ⟨vs, rel, tup, _⟩ := I.tuple sq
    obtain ⟨v, hv, r⟩ := rel.get hx
    have quiet : X.A.in1.handled = none := I.ok.hd calm
    have lt : i < vs.toArray.size := by
      obtain ⟨l, _⟩ := List.getElem?_eq_some_iff.mp hv
      simpa using l
    have small : ∀ b ∈ [e, it], b < s.heap.objs.size := fun b m => by
      rcases two m with rfl | rfl
      · exact Heap.lt_size en
      · obtain ⟨_, g, _⟩ := ti
        exact Heap.lt_size g
    have not_ : e ∉ [it, a] := fun m => by
      rcases List.mem_cons.mp m with z | z
      · exact ei z
      · exact ea (List.mem_singleton.mp z)
    refine wpAny_pyNext_enum_itemD (Draws.tuple quiet it a ai vs.toArray) en ⟨ti, tup⟩ lt ei not_ fun y g tk hy out st pr sz rest => ?_
    obtain rfl : v = y := by
      rw [List.getElem?_toArray, hv] at hy
      exact Option.some.inj hy
    refine ⟨_, rfl, wpAny_letOwnedTupleGo_enum (s := { s with heap := g, toks := tk + 1 }) out fun g2 en2 but => ?_⟩
    have pr2 : g2.get? s.heap.objs.size = some { cls := .type "tuple", data := .seq #[.int i tk, v] } := by
      rw [but.2 _ (Nat.ne_of_gt (small e List.mem_cons_self))]
      exact pr
    have I2 := pair_new (tk' := tk + 1) I r mine (fun b o n z => by
      have ne : b ≠ e := fun q => n (q ▸ List.mem_cons_self)
      have ni : b ≠ it := fun q => n (q ▸ List.mem_cons_of_mem _ List.mem_cons_self)
      rw [but.2 b ne]
      exact rest b o ne ni z) pr2
    refine ⟨.ref s.heap.objs.size, _, I2, rfl, ⟨s.heap.objs.size, x, rfl, I.hok.fresh (Nat.le_refl _), rfl, fun ys sy => I.tuple_inj sq sy ▸ hx⟩, ⟨⟨v, ?_⟩, st.1.at fun o z => by rw [but.2 it (Ne.symm ei)]; exact z⟩, fun b m => ?_⟩
    · rw [Int.natCast_add]
      exact en2
    · rw [upd_ne (Nat.ne_of_lt (small b m))]
      exact (mine b m).1
  · -- none is left
    rintro X rfl rfl rfl calm i pins s σ H E I mine ⟨⟨old, en⟩, ti⟩ ⟨xs, sq, len⟩
    obtain ⟨vs, rel, tup, _⟩ := I.tuple sq
    have n : vs.toArray.size = i := by
      rw [List.size_toArray, ← len]
      exact rel.length.symm
    have quiet : X.A.in1.handled = none := I.ok.hd calm
    have dr := Draws.tuple (prog := X.prog) (w := X.w) quiet it a ai vs.toArray
    refine wpAny_pyNext_enum_endD dr en (by rw [n]; exact ⟨ti, tup⟩) fun g but => ⟨rfl, ?_⟩
    obtain ⟨a0, a1, _, a2, a3, a4⟩ := mine it (List.mem_cons_of_mem _ List.mem_cons_self)
    exact I.turned (t' := s.toks) (fun b o ne z => but b o ne z) a0 a1 a2 a3 a4
  · rintro A i s Q E ⟨⟨_, en⟩, _⟩ q
    exact wpAny_pyIter_enum en q
def iEnumT (K : PySem.W.Frag) (ta : TA) : TI := fun σ H R => ta σ H fun vs H1 => ∃ a xs, vs = [.ref a] ∧ SqT K H1 a xs ∧ R (IteT K a) H1
theorem pi_enumT {X : Cx} {e : Expr} {ta : TA} {p pos tpos : Pos} {elts : List Expr} {kk : Nat} (hg : Gl X "enumerate") (hm : X.mg "enumerate" = none) (ha : PA X [e] ta) (hs : starEach [e] X.env = [(false, eval e X.env)] := by rfl) :
    PI X (.Tuple elts kk tpos) (.Call (.Name "enumerate" p) [e] [] pos) (iEnumT X.K ta) := by
  constructor
  intro pins s σ H R I h
  have args := thn (Q' := fun us s1 => wpAny (model X.prog X.w) X.A (call (.type "enumerate") us) (fun v s2 => wpAny (model X.prog X.w) X.A (pyIter v) (PIE X pins σ (.Tuple elts kk tpos) R) X.xe s2) X.xe s1) (ha.run pos pins s σ H _ I h) ?_
  · exact PyProof.Rows.Call_ (ld_blt I hg hm PyProof.Rows.boot_enumerate (PyProof.Rows.callWith_type1 args hs rfl))
  rintro us s1 ⟨vs, H1, I1, r, a, xs, rfl, sq, q⟩
  rw [Vals.ref1 r]
  obtain ⟨its, _, tup, _⟩ := I1.tuple sq
  have la : a < s1.heap.objs.size := by
    obtain ⟨_, g, _⟩ := id tup
    exact Heap.lt_size g
  refine enum_call (show s1.heap.IsTuple a its.toArray from tup) fun g en ti more => wpAny_pyIter_enum en ?_
  refine ⟨_, [s1.heap.objs.size + 1, s1.heap.objs.size], _, _, H1, rfl, I1.kept (t' := s1.toks) more, turn_enumT a _ _ (Nat.ne_of_lt la) (Nat.ne_of_gt (Nat.lt_succ_of_lt la)) (Nat.succ_ne_self _), ⟨⟨.none, en⟩, ti⟩, fun b m => ?_, q⟩
  have le : s1.heap.objs.size ≤ b := by
    rcases List.mem_cons.mp m with z | z
    · exact z ▸ Nat.le_succ _
    · exact (List.mem_singleton.mp z) ▸ Nat.le_refl _
  exact I1.fpOk le (I1.hok.fresh le)
/-! ### walks -/
section
variable {Γ : Ctxt} {k : Nat} {α β : Type} {c : Cod α} {c2 : Cod β} {S : Stc} {e e2 : Expr} {pos pn tpos : Pos} {elts : List Expr} {kk : Nat}
def enumL {α : Type} (xs : List α) : List (Int × α) := xs.zipIdx.map fun z => ((z.2 : Int), z.1)
theorem enumL_len {xs : List α} : (enumL xs).length = xs.length := by unfold enumL; rw [List.length_map, List.length_zipIdx]
theorem enumL_get {xs : List α} {i : Nat} {z : Int × α} (h : (enumL xs)[i]? = some z) : z.1 = (i : Int) ∧ xs[i]? = some z.2 := by
  unfold enumL at h
  rw [List.getElem?_map, List.getElem?_zipIdx] at h
  cases hx : xs[i]? with
  | none => rw [hx] at h; cases h
  | some x => rw [hx] at h; cases h; exact ⟨by simp, rfl⟩
theorem tw_enumT {K : PySem.W.Frag} {te : TE} {xs : List α} (h : TD te Γ k (cTup c) (· = xs)) : TW (iEnumT K (tCons te tNil)) Γ k (cT2 cInt c) (· = enumL xs) := fun O n σ Hf H hn S R q =>
  h O n σ Hf H hn S _ fun v Hf' H' ys px ⟨a, vs, e, ha, pr, lb⟩ f s => by
    subst px
    have hl := paired_len pr
    refine ⟨a, vs, by rw [e], SqT.of (s.ex _ _ ha), q _ Hf' H' _ rfl ⟨fun Hf2 H2 i e1 e2 hi => ?_, fun Hf2 H2 e1 e2 => ⟨vs, SqT.of (e2 _ _ (e1 _ _ ha)), by rw [enumL_len]; exact hl⟩, fun Hf2 H2 i w H1 x e1 e2 hy hx => ?_⟩ (by rw [enumL_len]; omega) f s⟩
    · rw [enumL_len] at hi
      exact ⟨vs, vs[i]'(by omega), SqT.of (e2 _ _ (e1 _ _ ha)), List.getElem?_eq_getElem (by omega)⟩
    · obtain ⟨T, y, rfl, hT, rfl, hy⟩ := hy
      obtain ⟨hx1, hx2⟩ := enumL_get hx
      have hTf := e2.back hT
      exact ⟨upd Hf2 T (.tup [.int (i : Nat), y]), ⟨T, .int (i : Nat), y, rfl, upd_same, by rw [hx1]; rfl, c.mono (e1.trans (Ex.new hTf)) (paired_get pr (hy vs (SqT.of (e2 _ _ (e1 _ _ ha)))) hx2)⟩, Fr.new e2 hT, e2.both hTf⟩
theorem pdi_enumT {xs : List α} (hg : S.sc.names.lookup ("enumerate" : Str) = some .globalImplicit) (hm : S.mg "enumerate" = none) (h : PD S Γ k e (cTup c) (· = xs)) (hs : ∀ env : Env, starEach [e] env = (false, eval e env) :: starEach [] env) :
    PDI S Γ k (.Tuple elts kk tpos) (.Call (.Name "enumerate" pn) [e] [] pos) (cT2 cInt c) (· = enumL xs) :=
  pdi_of (wi := iEnumT S.K (tCons (tE S e) tNil)) (fun X G => by rw [← G.K]; exact pi_enumT (glb G hg) (by rw [G.mg]; exact hm) (pa_cons (tE_ok G) pa_nil (hs _)) (hs _)) (tw_enumT h)
theorem zip_get {xs : List α} {ys : List β} {i : Nat} {z : α × β} (h : (xs.zip ys)[i]? = some z) : xs[i]? = some z.1 ∧ ys[i]? = some z.2 := by
  rw [List.getElem?_zip_eq_some] at h; exact h
theorem tw_zipT {K : PySem.W.Frag} {ta tb : TE} {xs : List α} {ys : List β} (h : TD ta Γ 0 (cTup c) (· = xs)) (h' : TD tb Γ 0 (cTup c2) (· = ys)) : TW (RZ.iZipA K (tCons ta (tCons tb tNil))) Γ 0 (cT2 c c2) (· = xs.zip ys) := fun O n σ Hf H hn S R q =>
  h O n σ Hf H hn S _ fun v Hf' H' x px r f s => by
    subst px
    refine h' O n σ Hf' H' hn s _ fun v2 Hf2 H2 y py ⟨b, us, e2, hb, pr2, lb2⟩ f2 s2 => ?_
    subst py
    obtain ⟨a, vs, e, ha, pr, lb⟩ := (cTup c).mono f2.ex r
    have hl := paired_len pr
    have hl2 := paired_len pr2
    have hz : (x.zip y).length = min x.length y.length := List.length_zip
    refine ⟨a, b, vs, us, by rw [e, e2], .inr ⟨SqT.of (s2.ex _ _ ha), SqT.of (s2.ex _ _ hb), q _ Hf2 H2 _ rfl ⟨fun Hf3 H3 i e1 e3 hi => ?_, fun Hf3 H3 e1 e3 => ⟨vs, us, SqT.of (e3 _ _ (e1 _ _ ha)), SqT.of (e3 _ _ (e1 _ _ hb)), by omega⟩, fun Hf3 H3 i w H1 z e1 e3 hy hx => ?_⟩ (by omega) (f.trans f2 fun _ z => .inl z) s2⟩⟩
    · exact ⟨vs, us, vs[i]'(by omega), us[i]'(by omega), SqT.of (e3 _ _ (e1 _ _ ha)), SqT.of (e3 _ _ (e1 _ _ hb)), List.getElem?_eq_getElem (by omega), List.getElem?_eq_getElem (by omega)⟩
    · obtain ⟨T, p, p2, rfl, hT, rfl, hy1, hy2⟩ := hy
      obtain ⟨hx1, hx2⟩ := zip_get hx
      have hTf := e3.back hT
      exact ⟨upd Hf3 T (.tup [p, p2]), ⟨T, p, p2, rfl, upd_same, c.mono (e1.trans (Ex.new hTf)) (paired_get pr (hy1 vs (SqT.of (e3 _ _ (e1 _ _ ha)))) hx1), c2.mono (e1.trans (Ex.new hTf)) (paired_get pr2 (hy2 us (SqT.of (e3 _ _ (e1 _ _ hb)))) hx2)⟩, Fr.new e3 hT, e3.both hTf⟩
theorem pdi_zipT {xs : List α} {ys : List β} (hg : S.sc.names.lookup ("zip" : Str) = some .globalImplicit) (hm : S.mg "zip" = none) (h : PD S Γ 0 e (cTup c) (· = xs)) (h' : PD S Γ 0 e2 (cTup c2) (· = ys)) (hs : ∀ env : Env, starEach [e, e2] env = (false, eval e env) :: starEach [e2] env) (hs2 : ∀ env : Env, starEach [e2] env = (false, eval e2 env) :: starEach [] env) (hpl : ∀ env : Env, (backTo pos (starEach [e2] env)).any (·.1) = false) :
    PDI S Γ 0 (.Tuple elts kk tpos) (.Call (.Name "zip" pn) [e, e2] [] pos) (cT2 c c2) (· = xs.zip ys) :=
  pdi_of (wi := RZ.iZipA S.K (tCons (tE S e) (tCons (tE S e2) tNil))) (fun X G => by rw [← G.K]; exact RZ.pi_zipA (glb G hg) (by rw [G.mg]; exact hm) (pa_cons (tE_ok G) (pa_cons (tE_ok G) pa_nil (hs2 _)) (hs _)) (hs _) (hpl _)) (tw_zipT h h')
theorem tw_revT {K : PySem.W.Frag} {te : TE} {xs : List α} (h : TD te Γ k (cTup c) (· = xs)) : TW (RT.iRevA K te) Γ k c (· = xs.reverse) := fun O n σ Hf H hn S R q =>
  h O n σ Hf H hn S _ fun v Hf' H' ys px ⟨a, vs, e, ha, pr, lb⟩ f s => by
    subst px
    have hl := paired_len pr
    refine ⟨a, vs, e, .inr ⟨SqT.of (s.ex _ _ ha), q _ Hf' H' _ rfl ⟨fun Hf2 H2 i e1 e2 hi => ?_, fun Hf2 H2 e1 e2 => ?_, fun Hf2 H2 i w H1 x e1 e2 hy hx => ?_⟩ (by rw [List.length_reverse]; omega) f s⟩⟩
    · rw [List.length_reverse] at hi
      exact ⟨by omega, vs, vs[vs.length - 1 - i]'(by omega), SqT.of (e2 _ _ (e1 _ _ ha)), List.getElem?_eq_getElem (by omega)⟩
    · show vs.length ≤ ys.reverse.length
      rw [List.length_reverse]; omega
    · obtain ⟨rfl, hy⟩ := hy
      have hi : i < ys.length := by
        have := (List.getElem?_eq_some_iff.mp hx).1
        rw [List.length_reverse] at this; exact this
      rw [List.getElem?_reverse hi] at hx
      have h1 := hy vs (SqT.of (e2 _ _ (e1 _ _ ha)))
      rw [hl] at h1
      exact ⟨Hf2, c.mono e1 (paired_get pr h1 hx), Fr.refl, e2⟩
theorem pdi_revT {tg : Expr} {xs : List α} (hg : S.sc.names.lookup ("reversed" : Str) = some .globalImplicit) (hm : S.mg "reversed" = none) (h : PD S Γ k e (cTup c) (· = xs)) (hs : ∀ env : Env, starEach [e] env = (false, eval e env) :: starEach [] env) :
    PDI S Γ k tg (.Call (.Name "reversed" pn) [e] [] pos) c (· = xs.reverse) :=
  pdi_of (wi := RT.iRevA S.K (tE S e)) (fun X G => by rw [← G.K]; exact RT.pi_revA (glb G hg) (by rw [G.mg]; exact hm) (tE_ok G) (hs _)) (tw_revT h)
end
end DL

set_option Elab.async false
set_option linter.all false
set_option maxRecDepth 100000
set_option maxHeartbeats 2000000
namespace DL
open PySem PySem.Spec L2
/-! ### a list comprehension of two clauses -/
section
variable {Γ : Ctxt} {α β γ : Type} {c : Cod α} {c1 : Cod γ} {c' : Cod β} {wi wi1 : TI} {g g1 : TG} {te : TE}
abbrev lc2L {α β γ : Type} (xs : List α) (F : α → List γ) (f : α → γ → β) : List β := xs.flatMap fun x => (F x).map (f x)
theorem lc2_take {xs : List α} {F : α → List γ} {f : α → γ → β} {i : Nat} : (lc2L (xs.take i) F f).length ≤ (lc2L xs F f).length := by
  have h : lc2L xs F f = lc2L (xs.take i) F f ++ lc2L (xs.drop i) F f := by
    unfold lc2L
    rw [← List.flatMap_append, List.take_append_drop]
  rw [h, List.length_append]; omega
theorem lc2_snoc {xs : List α} {F : α → List γ} {f : α → γ → β} {i : Nat} {x : α} (h : xs[i]? = some x) : lc2L (xs.take (i + 1)) F f = lc2L (xs.take i) F f ++ (F x).map (f x) := by
  unfold lc2L
  rw [take_snoc h, List.flatMap_append, List.flatMap_singleton]
theorem yes_if {σ : Stt} {H : Hp} {A B : Hp → Prop} (h : A H) : tYes σ H (fun b H' => if b = true then A H' else B H') := by
  show if true = true then A H else B H
  rw [if_pos rfl]; exact h
theorem tdf_lc2 {vs vs1 : List Nat} {xs : List α} (F : α → List γ) (f : α → γ → β) (no : NoOwn Γ) (hw : TW wi Γ 0 c (· = xs)) (hz : (lc2L xs F f).length ≤ LB)
    (hs : ∀ x, x ∈ xs → ∃ Γ1 is, NoOwn Γ1 ∧ GD g c x (wipeC Γ vs) Γ1 is ∧ (∀ i ∈ is, i ∈ vs) ∧ TW wi1 Γ1 0 c1 (· = F x) ∧ ∀ y, y ∈ F x → ∃ Γ2 js, GD g1 c1 y (wipeC Γ1 vs1) Γ2 js ∧ (∀ i ∈ js, i ∈ vs1) ∧ TD te Γ2 0 c' (· = f x y)) :
    TDF (tLc2 wi g tYes wi1 g1 tYes te vs vs1) Γ 0 c' (· = lc2L xs F f) := fun O n σ Hf H hn S Q q =>
  hw O n σ Hf H hn S _ fun J Hf1 H1 ys px W lb f1 S1 D hD => by
    subst px
    have nb : ∀ a, ¬ Bx Γ a := no.bx
    have hv : ∀ {Γ' : Ctxt} {ws : List Nat}, (∀ a, ¬ Bx Γ' a) → ∀ a, ¬ Bx (wipeC Γ' ws) a := fun {Γ' ws} h a ⟨i, hi⟩ => by
      rcases wipe_at (σ := []) hi with z | ⟨z, _⟩
      · cases z
      · exact h a ⟨i, z⟩
    refine ⟨fun i m H' => m = ys.length - i ∧ i ≤ ys.length ∧ ∃ Hfi acc, Paired (c'.rep Hfi) acc (lc2L (ys.take i) F f) ∧ H' D = some (.lst acc) ∧ Hfi D = none ∧ Ex Hfi H' ∧ Fr (Bx Γ) Hf1 H1 Hfi H',
      ⟨ys.length, by simp, Nat.zero_le _, Hf1, [], by rw [List.take_zero]; exact .nil, upd_same, S1.ex.back hD, S1.ex.trans (Ex.new hD), Fr.newO hD⟩, ?_⟩
    rintro i m H' ⟨rfl, hi, Hfi, acc, pr, hDi, hfD, ex, fr⟩
    have Si : Sat O Hfi H' (wipe σ vs) (wipeC Γ vs) n := (S1.grow fr ex fun a ha => (nb a ha).elim).wipe vs
    by_cases hlt : i < ys.length
    · have hx : ys[i]? = some ys[i] := List.getElem?_eq_getElem hlt
      refine .inr ⟨W.go Hfi H' i fr.ex ex hlt, fun H2 => ∃ Hfi acc, Paired (c'.rep Hfi) acc (lc2L (ys.take (i + 1)) F f) ∧ H2 D = some (.lst acc) ∧ Hfi D = none ∧ Ex Hfi H2 ∧ Fr (Bx Γ) Hf1 H1 Hfi H2, fun H2 h2 => ⟨ys.length - (i + 1), by omega, rfl, hlt, h2⟩, fun v H2 hy => ?_⟩
      obtain ⟨Hf2, rx, fy, ey⟩ := W.yld Hfi H' i v H2 _ fr.ex ex hy hx
      have S2 : Sat O Hf2 H2 (wipe σ vs) (wipeC Γ vs) n := Si.grow0 fy ey
      obtain ⟨Γ1, is, no1, gd, hin, hw1, hs1⟩ := hs ys[i] (List.getElem_mem hlt)
      have nb1 : ∀ a, ¬ Bx Γ1 a := fun a h => hv nb a (gd.2.1 a h)
      refine gd.2.2 O _ _ Hf2 H2 v rx S2 _ fun σ3 S3 w3 => ⟨(w3 vs hin).trans wipe_wipe, ?_⟩
      refine yes_if ?_
      have F2 : Fr (Bx Γ) Hf1 H1 Hf2 H2 := fr.trans fy fun _ z => z.elim
      have hD2 : H2 D = some (.lst acc) := fy.keep _ _ hDi id
      have hfD2 : Hf2 D = none := fy.fz _ _ hDi id hfD
      refine hw1 O _ σ3 Hf2 H2 hn S3 _ fun J1 Hf4 H4 zs pz W1 lb1 f4 S4 => ?_
      subst pz
      have hD4 : H4 D = some (.lst acc) := f4.keep _ _ hD2 (nb1 D)
      have hfD4 : Hf4 D = none := f4.fz _ _ hD2 (nb1 D) hfD2
      have F4 : Fr (Bx Γ) Hf1 H1 Hf4 H4 := F2.trans f4 fun a z => (nb1 a z).elim
      refine ⟨fun j k H5 => k = (F ys[i]).length - j ∧ j ≤ (F ys[i]).length ∧ ∃ Hfj acc, Paired (c'.rep Hfj) acc (lc2L (ys.take i) F f ++ ((F ys[i]).take j).map (f ys[i])) ∧ H5 D = some (.lst acc) ∧ Hfj D = none ∧ Ex Hfj H5 ∧ Ex Hf4 Hfj ∧ Fr (Bx Γ) Hf1 H1 Hfj H5,
        ⟨(F ys[i]).length, by simp, Nat.zero_le _, Hf4, acc, by rw [List.take_zero, List.map_nil, List.append_nil]; exact paired_mono pr fun _ _ z => c'.mono (fy.ex.trans f4.ex) z, hD4, hfD4, S4.ex, Ex.rfl', F4⟩, ?_⟩
      rintro j k H5 ⟨rfl, hj, Hfj, acc5, pr5, hD5, hfD5, ex5, e45, fr5⟩
      have al : acc5.length ≤ LB := by
        rw [pr5.length]
        have h1 : (lc2L (ys.take (i + 1)) F f).length ≤ (lc2L ys F f).length := lc2_take
        rw [lc2_snoc hx, List.length_append, List.length_map] at h1
        rw [List.length_append, List.length_map, List.length_take]
        omega
      by_cases hlj : j < (F ys[i]).length
      · have hxj : (F ys[i])[j]? = some (F ys[i])[j] := List.getElem?_eq_getElem hlj
        refine .inr ⟨W1.go Hfj H5 j e45 ex5 hlj, fun H6 => ∃ Hfj acc, Paired (c'.rep Hfj) acc (lc2L (ys.take i) F f ++ ((F ys[i]).take (j + 1)).map (f ys[i])) ∧ H6 D = some (.lst acc) ∧ Hfj D = none ∧ Ex Hfj H6 ∧ Ex Hf4 Hfj ∧ Fr (Bx Γ) Hf1 H1 Hfj H6, fun H6 h6 => ⟨(F ys[i]).length - (j + 1), by omega, rfl, hlj, h6⟩, fun v5 H6 hy5 => ?_⟩
        obtain ⟨Hf6, rx6, fy6, ey6⟩ := W1.yld Hfj H5 j v5 H6 _ e45 ex5 hy5 hxj
        have S5 : Sat O Hfj H5 σ3 Γ1 n := S4.reFr no1 ex5 e45 (S1.fr.trans fr5 fun a z => (nb a z).elim)
        have S6 : Sat O Hf6 H6 (wipe σ3 vs1) (wipeC Γ1 vs1) n := (S5.wipe vs1).grow0 fy6 ey6
        obtain ⟨Γ2, js, gd1, hin1, hte⟩ := hs1 (F ys[i])[j] (List.getElem_mem hlj)
        have nb2 : ∀ a, ¬ Bx Γ2 a := fun a h => hv nb1 a (gd1.2.1 a h)
        refine gd1.2.2 O _ _ Hf6 H6 v5 rx6 S6 _ fun σ7 S7 w7 => ⟨(w7 vs1 hin1).trans wipe_wipe, ?_⟩
        refine yes_if ?_
        have hD6 : H6 D = some (.lst acc5) := fy6.keep _ _ hD5 id
        have hfD6 : Hf6 D = none := fy6.fz _ _ hD5 id hfD5
        refine hte O _ σ7 Hf6 H6 hn S7 _ fun y Hf7 H7 yx py ry f7 S8 => ?_
        subst py
        have hD7 : H7 D = some (.lst acc5) := f7.keep _ _ hD6 (nb2 D)
        have hfD7 : Hf7 D = none := f7.fz _ _ hD6 (nb2 D) hfD6
        have F7 : Fr (Bx Γ) Hf1 H1 Hf7 H7 := (fr5.trans fy6 fun _ z => z.elim).trans f7 fun a z => (nb2 a z).elim
        refine ⟨acc5, hD7, lb_lt al, Hf7, acc5 ++ [y], ?_, upd_same, hfD7, S8.ex.mut hfD7, (e45.trans fy6.ex).trans f7.ex, ?_⟩
        · rw [take_snoc hxj, List.map_append, ← List.append_assoc]
          exact Paired.snoc (paired_mono pr5 fun _ _ z => c'.mono (fy6.ex.trans f7.ex) z) ry
        · refine ⟨F7.ex, fun a o e nm => ?_, F7.fz, fun a e => ?_⟩
          · rw [upd_ne (ne_of_none e hD)]; exact F7.keep a o e nm
          · by_cases z : a = D
            · subst z; exact hD
            · rw [upd_ne z] at e; exact F7.dom a e
      · have e : j = (F ys[i]).length := by omega
        subst e
        rw [List.take_length] at pr5
        refine .inl ⟨W1.stop Hfj H5 e45 ex5, Hfj, acc5, by rw [lc2_snoc hx]; exact pr5, hD5, hfD5, ex5, fr5⟩
    · have e : i = ys.length := by omega
      subst e
      rw [List.take_length] at pr
      exact .inl ⟨W.stop Hfi H' fr.ex ex, q D acc Hfi H' _ rfl hDi hfD (f1.dom D hD) pr (by rw [pr.length]; exact hz) (f1.trans fr fun _ z => .inl z) (S1.grow fr ex fun a ha => (nb a ha).elim)⟩
end
end DL

set_option Elab.async false
set_option linter.all false
set_option maxRecDepth 100000
set_option maxHeartbeats 2000000
namespace DL
open PySem PySem.Spec L2
section
variable {S : Stc} {Γ : Ctxt} {α β γ ρ ω : Type} {c : Cod α} {c1 : Cod γ} {c' : Cod β} {p : Po ρ} {pos pos' spos pn : Pos} {a b e : Expr}
abbrev lc2Rd (S : Stc) (tg iter tg1 iter1 elt : Expr) (scope : Scope) (own : List (Str × Nat)) (vs1 : List Nat) : TE := tLc2 (tI S tg iter) (tGt (S.blk scope) tg) tYes (tI (S.blk scope) tg1 iter1) (tGt (S.blk scope) tg1) tYes (tE (S.blk scope) elt) (own.map (·.2)) vs1
theorem plc2 {own : List (Str × Nat)} {vs1 : List Nat} {elt tg iter tg1 iter1 : Expr} {scope : Scope} {xs : List α} (F : α → List γ) (f : α → γ → β) (no : NoOwn Γ) (hw : PDI S Γ 0 tg iter c (· = xs)) (hz : (lc2L xs F f).length ≤ LB)
    (hs : ∀ x, x ∈ xs → ∃ Γ1 is, NoOwn Γ1 ∧ PDG (S.blk scope) tg c x (wipeC Γ (own.map (·.2))) Γ1 is ∧ (∀ i ∈ is, i ∈ own.map (·.2)) ∧ PDI (S.blk scope) Γ1 0 tg1 iter1 c1 (· = F x) ∧ ∀ y, y ∈ F x → ∃ Γ2 js, PDG (S.blk scope) tg1 c1 y (wipeC Γ1 vs1) Γ2 js ∧ (∀ i ∈ js, i ∈ vs1) ∧ PD (S.blk scope) Γ2 0 elt c' (· = f x y)) :
    TDF (lc2Rd S tg iter tg1 iter1 elt scope own vs1) Γ 0 c' (· = lc2L xs F f) := tdf_lc2 F f no hw hz hs
/-- x = [.. for .. for ..], x a plain local: as a list of one's own -/
theorem bsetLc2 (i : Nat) {y : Str} {py : Pos} {elt tg iter tg1 iter1 : Expr} {scope : Scope} {rest : List Stmt} {k2 : Nat} (own : List (Str × Nat)) (vs1 : List Nat) (hv : ∀ i ∈ vs1, i ∈ own.map (·.2)) {R : List β → Prop} (h : TDF (lc2Rd S tg iter tg1 iter1 elt scope own vs1) Γ 0 c' R) (nb : NoBx Γ i) (hi : S.N[i]? = some y) (hyl : S.sc.names.lookup y = some .local)
    (hsw : ∀ env : Env, env.scope = S.sc → swapsWith (.ListComp elt [⟨tg, iter, [], 0⟩, ⟨tg1, iter1, [], 0⟩] scope pos) (some (.Name y py)) spos.line env = pure true) (ok : blkC S.N S.sc scope own = true) (hfs : ∀ (env : Env) x, foldedSetIterable iter env x = pure x) (hfs1 : ∀ (env : Env) x, foldedSetIterable iter1 env x = pure x)
    (hr : ∀ x, R x → PHs S (Γ.set i (.l c' x)) k2 rest p) : PHs S Γ (0 + k2) (.Assign [.Name y py] (.ListComp elt [⟨tg, iter, [], 0⟩, ⟨tg1, iter1, [], 0⟩] scope pos) spos :: rest) p :=
  phs_cons (N1 := fun Γ1 => ∃ x, R x ∧ Γ1 = Γ.set i (.l c' x)) (ph_of (fun X G => ps_setLc2 (own := own) (vs1 := vs1) G.calm (by rw [G.N]; exact G.nd) (by rw [G.N]; exact hi) (by rw [G.sc]; exact hyl) (hsw _ G.sc) (tI_ok G) (blkOk_by (by rw [G.N, G.sc]; exact ok)) hv
    (fun s H C cl fp => tGt_ok (G.blk scope s H C cl fp)) (fun s H C cl fp => pts_nil) (fun s H C cl fp => tI_ok (G.blk scope s H C cl fp)) (fun s H C cl fp => tGt_ok (G.blk scope s H C cl fp)) (fun s H C cl fp => pts_nil) (fun s H C cl fp => tE_ok (G.blk scope s H C cl fp)) (hfs _) hfs1) (hs_setL h nb fun x px => ⟨x, px, rfl⟩)) fun Γ1 ⟨x, px, e⟩ => by subst e; exact hr x px
/-! ### a list times a number -/
theorem paired_rep {G : V → α → Prop} {vs : List V} {xs : List α} (h : Paired G vs xs) : ∀ n : Nat, Paired G (List.replicate n vs).flatten (List.replicate n xs).flatten
  | 0 => .nil
  | n + 1 => by
    rw [List.replicate_succ, List.replicate_succ, List.flatten_cons, List.flatten_cons]
    exact pap h (paired_rep h n)
theorem flat_one (x : α) : ∀ n : Nat, (List.replicate n [x]).flatten = List.replicate n x
  | 0 => rfl
  | n + 1 => by rw [List.replicate_succ, List.flatten_cons, flat_one x n]; rfl
theorem rd_rep {x : α} {i : Int} (h : 0 ≤ i ∧ i ≤ 1000) : RD rRep (cList c) [x] cInt i (cList c) (· = List.replicate i.toNat x) := fun Hf H v u e ⟨a, vs, h1, h2, h3, h4⟩ h5 Q q => by
  obtain rfl := h5
  have hl : vs.length = 1 := h3.length
  have hll : (List.replicate i.toNat vs).flatten.length = i.toNat := by
    have := (paired_rep h3 i.toNat).length
    rw [flat_one, List.length_replicate] at this; exact this
  refine ⟨a, i, vs, h1, rfl, e _ _ h2, by omega, by omega, by rw [hl, Nat.one_mul]; exact Nat.le_trans (by omega : i.toNat ≤ 1000) (by decide), fun p hp => ?_⟩
  have hpf := e.back hp
  refine q _ _ _ _ rfl ⟨p, _, rfl, upd_same, ?_, by rw [hll]; unfold LB; omega⟩ (Fr.new e hp) (e.both hpf)
  have pr := paired_rep (paired_mono h3 fun _ _ z => c.mono (Ex.new (o := .lst (List.replicate i.toNat vs).flatten) hpf) z) i.toNat
  rw [flat_one] at pr
  exact pr
theorem prep1 {k1 k2 : Nat} {P2 : Int → Prop} {x : α} (ha : PD S Γ k1 a (cList c) (· = [x])) (hb : PD S Γ k2 b cInt P2) (h : ∀ i, P2 i → 0 ≤ i ∧ i ≤ 1000) : PD S Γ (k1 + k2) (.BinOp a .Mult b pos) (cList c) (fun l => ∃ i, P2 i ∧ l = List.replicate i.toNat x) :=
  pd_bin (fun _ _ => op_rep) ha hb fun z i hz hi Hf H v u e r1 r2 Q q => by
    subst hz
    exact rd_rep (h i hi) Hf H v u e r1 r2 Q fun l Hf' H' w hl r f ex => q l Hf' H' w ⟨i, hi, hl⟩ r f ex
/-! ### < of tuples, in, index, min -/
theorem rd_ltT {K : PySem.W.Frag} {xs ys : List Int} : RD (rLtT K) (cTup cInt) xs (cTup cInt) ys cBool (· = HT.lexLt xs ys) := fun Hf H v u e ⟨a, vs, h1, h2, h3, _⟩ ⟨b, us, h4, h5, h6, _⟩ Q q => by
  have := ints_of_paired h3
  have := ints_of_paired h6
  subst vs us
  exact ⟨a, b, xs, ys, h1, h4, SqT.of (e _ _ h2), SqT.of (e _ _ h5), q _ Hf H _ rfl rfl Fr.refl e⟩
theorem pltT {xs ys : List Int} (ha : PD S Γ 0 a (cTup cInt) (· = xs)) (hb : PD S Γ 0 b (cTup cInt) (· = ys)) (hm : behindInMarks .Lt b = false) : PD S Γ 0 (.Compare a [.Lt] [b] pos) cBool (· = HT.lexLt xs ys) :=
  pcmp (fun X G => by rw [← G.K]; exact op_ltT G.room.units0) ha hb (rd_ltT (K := S.K)) hm
theorem rd_inSeq {K : PySem.W.Frag} {x : Int} {xs : List Int} : RD (rIn K false) cInt x (cSeq cInt) xs cBool (· = decide (x ∈ xs)) := fun Hf H v u e h1 h2 Q q => by
  rcases h2 with h | h
  · exact rd_inI (neg := false) Hf H v u e h1 h Q q
  · exact rd_inIT (neg := false) Hf H v u e h1 h Q q
theorem tinSeq {x : Int} {xs : List Int} (ha : PD S Γ 0 a cInt (· = x)) (hb : PD S Γ 0 b (cSeq cInt) (· = xs)) (hm : behindInMarks .In b = false) : PDT S Γ 0 (.Compare a [.In] [b] pos) (· = decide (x ∈ xs)) := tcmp op_inG ha hb rd_inSeq hm
abbrev rIxS (K : PySem.W.Frag) : R2 := fun x y H Q => rIxL K x y H Q ∨ rIxT K x y H Q
theorem ixSG : ∀ X, Good S X → IxR X (rIxS S.K) := fun X G => by
  intro va sl pins s σ H x y v u Q I rx ry h hs
  rcases h with h | h
  · exact ixLG X G va sl pins s σ H x y v u Q I rx ry h hs
  · exact ixTG X G va sl pins s σ H x y v u Q I rx ry h hs
theorem rd_ixSd [Inhabited α] {K : PySem.W.Frag} {xs : List α} {i : Int} (h : 0 ≤ i ∧ i < (xs.length : Int)) : RD (rIxS K) (cSeq c) xs cInt i c (· = xs.getD i.toNat default) := fun Hf H v u e h1 h2 Q q => by
  rcases h1 with z | z
  · exact .inl (rd_ixLd h Hf H v u e z h2 Q q)
  · exact .inr (rd_ixTd h Hf H v u e z h2 Q q)
theorem pmin2R {k1 k2 : Nat} {P1 P2 P3 : Int → Prop} (hg : S.sc.names.lookup ("min" : Str) = some .globalImplicit) (hmg : S.mg "min" = none) (ha : PD S Γ k1 a cInt P1) (hb : PD S Γ k2 b cInt P2) (hp : ∀ i j, P1 i → P2 j → P3 (if j < i then j else i)) (he : ∀ env : Env, starEach [a, b] env = (false, eval a env) :: starEach [b] env) (he2 : ∀ env : Env, starEach [b] env = (false, eval b env) :: starEach [] env) (hpl : ∀ env : Env, (backTo pos (starEach [b] env)).any (·.1) = false) :
    PD S Γ (k1 + k2) (.Call (.Name "min" pn) [a, b] [] pos) cInt P3 :=
  pd_of (fun X G => pe_callB (call_min2 G.calm) (glb G hg) (by rw [G.mg]; exact hmg) (by decide +kernel) (pa_cons (tE_ok G) (pa_cons (tE_ok G) pa_nil (he2 _)) (he _)) (by decide) (by decide) (he _) (hpl _)) fun O n σ Hf H hn s Q q => ha O n σ Hf H (by omega) s _ fun v Hf1 H1 z pz rz f1 s1 => hb O (n + k1) σ Hf1 H1 (by omega) s1 _ fun v2 Hf' H' z2 pz2 rz2 f2 s2 => by
    obtain rfl := rz
    obtain rfl := rz2
    exact ⟨z, z2, rfl, q _ Hf' H' _ (hp _ _ pz pz2) rfl (f1.trans f2 fun _ z => .inl z) (by rw [Nat.add_assoc] at s2; exact s2)⟩
end
/-! ### methods of two and three arguments, in order and by names from the end -/
def gs2 {α : Type} : List α → List α → List α
  | [a], [b, c] => [a, c, b]
  | _, _ => []
def gs3 {α : Type} : List α → List α → List α
  | [a], [b, c, d] => [a, d, c, b]
  | _, _ => []
theorem kbs2 {K : PySem.W.Frag} {fd : FuncData} {p1 p2 p3 : Str} (h : ∀ a b c : Value, bindArgs fd ⟨[a], [p3, p2].zip [b, c]⟩ = pure ([p1, p2, p3].zip [a, c, b])) : KBinds K fd [p1, p2, p3] [p3, p2] gs2 gs2 where
  to := fun s us ws _ hl => by
    match us, ws, hl with
    | [a], [b, c], _ => exact .of_eq (h a b c)
    | [], _, hl => cases hl
    | _ :: _ :: _, [], hl => cases hl
    | _ :: _ :: _, _ :: _, hl => cases hl
    | [_], [], hl => cases hl
    | [_], [_], hl => cases hl
    | [_], _ :: _ :: _ :: _, hl => cases hl
  rel := fun {vs us zs ws} h1 h2 => by
    match vs, us, h1, zs, ws, h2 with
    | [], [], _, _, _, _ => exact .nil
    | [_], [_], .cons r .nil, [], [], _ => exact .nil
    | [_], [_], .cons r .nil, [_], [_], _ => exact .nil
    | [_], [_], .cons r .nil, [_, _], [_, _], .cons r2 (.cons r3 .nil) => exact .cons r (.cons r3 (.cons r2 .nil))
    | [_], [_], .cons r .nil, _ :: _ :: _ :: _, _ :: _ :: _ :: _, _ => exact .nil
    | _ :: _ :: _, _ :: _ :: _, _, _, _, _ => exact .nil
theorem kbs3 {K : PySem.W.Frag} {fd : FuncData} {p1 p2 p3 p4 : Str} (h : ∀ a b c d : Value, bindArgs fd ⟨[a], [p4, p3, p2].zip [b, c, d]⟩ = pure ([p1, p2, p3, p4].zip [a, d, c, b])) : KBinds K fd [p1, p2, p3, p4] [p4, p3, p2] gs3 gs3 where
  to := fun s us ws _ hl => by
    match us, ws, hl with
    | [a], [b, c, d], _ => exact .of_eq (h a b c d)
    | [], _, hl => cases hl
    | _ :: _ :: _, [], hl => cases hl
    | _ :: _ :: _, _ :: _, hl => cases hl
    | [_], [], hl => cases hl
    | [_], [_], hl => cases hl
    | [_], [_, _], hl => cases hl
    | [_], _ :: _ :: _ :: _ :: _, hl => cases hl
  rel := fun {vs us zs ws} h1 h2 => by
    match vs, us, h1, zs, ws, h2 with
    | [], [], _, _, _, _ => exact .nil
    | [_], [_], .cons r .nil, [], [], _ => exact .nil
    | [_], [_], .cons r .nil, [_], [_], _ => exact .nil
    | [_], [_], .cons r .nil, [_, _], [_, _], _ => exact .nil
    | [_], [_], .cons r .nil, [_, _, _], [_, _, _], .cons r2 (.cons r3 (.cons r4 .nil)) => exact .cons r (.cons r4 (.cons r3 (.cons r2 .nil)))
    | [_], [_], .cons r .nil, _ :: _ :: _ :: _ :: _, _ :: _ :: _ :: _ :: _, _ => exact .nil
    | _ :: _ :: _, _ :: _ :: _, _, _, _, _ => exact .nil
structure MB2 (P : Program) (w : World) (K : PySem.W.Frag) (mg : Str → Option Value) (base : Heap) (C : Addr) (m p1 p2 : Str) (lv : Nat) (sp : Sp) : Prop where
  ex : ∃ f fd, FnOk P w K mg base CX0 lv f fd [("self" : Str), p1, p2] sp ∧ Meth K C m f ∧ Binds K fd [("self" : Str), p1, p2] [] ∧ KBinds K fd [("self" : Str), p1, p2] [p2, p1] gs2 gs2
structure MB3 (P : Program) (w : World) (K : PySem.W.Frag) (mg : Str → Option Value) (base : Heap) (C : Addr) (m p1 p2 p3 : Str) (lv : Nat) (sp : Sp) : Prop where
  ex : ∃ f fd, FnOk P w K mg base CX0 lv f fd [("self" : Str), p1, p2, p3] sp ∧ Meth K C m f ∧ Binds K fd [("self" : Str), p1, p2, p3] [] ∧ KBinds K fd [("self" : Str), p1, p2, p3] [p3, p2, p1] gs3 gs3
section
variable {P : Program} {w : World} {K : PySem.W.Frag} {mg : Str → Option Value} {base : Heap} {C : Addr} {lv : Nat}
theorem mb2 {m p1 p2 qual : Str} {st : Stmt} {sp : Sp} (D : MDef K C m qual st) (hb : BindsM st m qual [("self" : Str), p1, p2]) (hk : ∀ (kV doc pm : Value) (an : Option Addr) (cdv ct a b c : Value), bindArgs (PySem.W.fnOf m qual (defArgs st) (defBody st) (defScope st) .none kV doc pm an cdv ct) ⟨[a], [p2, p1].zip [b, c]⟩ = pure ([("self" : Str), p1, p2].zip [a, c, b]))
    (h : ∀ f fd, Fun K m qual st f fd → FnOk P w K mg base CX0 lv f fd [("self" : Str), p1, p2] sp) : MB2 P w K mg base C m p1 p2 lv sp := by
  obtain ⟨f, fd, Fu, Mt⟩ := D.ex
  refine ⟨f, fd, h f fd Fu, Mt, Fu.binds hb, ?_⟩
  obtain ⟨oc, od, kV, doc, pm, an, cdv, ct, osl, rfl, lk, hcd⟩ := Fu.ex
  exact kbs2 fun a b c => hk kV doc pm an cdv ct a b c
theorem mb3 {m p1 p2 p3 qual : Str} {st : Stmt} {sp : Sp} (D : MDef K C m qual st) (hb : BindsM st m qual [("self" : Str), p1, p2, p3]) (hk : ∀ (kV doc pm : Value) (an : Option Addr) (cdv ct a b c d : Value), bindArgs (PySem.W.fnOf m qual (defArgs st) (defBody st) (defScope st) .none kV doc pm an cdv ct) ⟨[a], [p3, p2, p1].zip [b, c, d]⟩ = pure ([("self" : Str), p1, p2, p3].zip [a, d, c, b]))
    (h : ∀ f fd, Fun K m qual st f fd → FnOk P w K mg base CX0 lv f fd [("self" : Str), p1, p2, p3] sp) : MB3 P w K mg base C m p1 p2 p3 lv sp := by
  obtain ⟨f, fd, Fu, Mt⟩ := D.ex
  refine ⟨f, fd, h f fd Fu, Mt, Fu.binds hb, ?_⟩
  obtain ⟨oc, od, kV, doc, pm, an, cdv, ct, osl, rfl, lk, hcd⟩ := Fu.ex
  exact kbs3 fun a b c d => hk kV doc pm an cdv ct a b c d
end
section
variable {S : Stc} {Γ : Ctxt} {α β γ ω ρ : Type} {cr : Cod ρ} {ca : Cod α} {cb : Cod β} {cg : Cod γ} {e e2 e3 o : Expr} {pos apos kp1 kp2 kp3 : Pos} {C : Addr} {F : Hp → List (Str × V) → ω → Prop} {hm : ∀ {H H' fs y}, Ex H H' → F H fs y → F H' fs y} {m p1 p2 p3 : Str} {lv : Nat} {x : ω} {y : α} {z : β} {u : γ} {pl : Env → Sem Bool}
theorem pm2 {pre : ω × α × β → Prop} {g : ω × α × β → ρ} (M : MB2 S.prog S.w S.K S.mg S.base C m p1 p2 lv (spP (fun (a : ω × α × β) => [.d (cIns C F hm) a.1, .d ca a.2.1, .d cb a.2.2]) pre cr g)) (hC : Cls S.K C) (hl : lv ≤ S.lv) (ho : PD S Γ 0 o (cIns C F hm) (· = x)) (h1 : PD S Γ 0 e ca (· = y)) (h2 : PD S Γ 0 e2 cb (· = z)) (hno : ∀ H fs y0, F H fs y0 → fs.lookup m = none) (hp : pre (x, y, z))
    (hs : ∀ env : Env, starEach [e, e2] env = (false, eval e env) :: starEach [e2] env) (hs2 : ∀ env : Env, starEach [e2] env = (false, eval e2 env) :: starEach [] env) (hpl : ∀ env : Env, (backTo pos (starEach [e2] env)).any (·.1) = false) (ht : MTree o m apos pos [e, e2] [] pl) : PD S Γ 0 (.Call (.Attribute o m apos) [e, e2] [] pos) cr (· = g (x, y, z)) := by
  obtain ⟨f, fd, Fn, Mt, hb, _⟩ := M.ex
  exact pd_of (fun X G => pe_meth (pl := pl X.env) (tE_ok G) (by rw [G.K]; exact hC) (by rw [G.K]; exact Mt) (fnG Fn G) (G.room.mono hl) (by rw [G.K]; exact hb) .nil pass0 (tA_ok G) (hs _) (hpl _) (ht _))
    (td_meth (k := 0) (k1 := 0) (k2 := 0) ho hno (pda_more (k1 := 0) (k2 := 0) h1 (pda_one h2 hs2) hs) fun y' as h3 h4 => ⟨(y', y, z), 0, by subst h4; rfl, by subst h3; exact hp, Nat.le_refl _, fun x hx => by subst h3; exact hx⟩)
theorem pm2F {pre : ω × α × β → Prop} {g : ω × α × β → List γ} (M : MB2 S.prog S.w S.K S.mg S.base C m p1 p2 lv (spFP (fun (a : ω × α × β) => [.d (cIns C F hm) a.1, .d ca a.2.1, .d cb a.2.2]) pre cg g)) (hC : Cls S.K C) (hl : lv ≤ S.lv) (ho : PD S Γ 0 o (cIns C F hm) (· = x)) (h1 : PD S Γ 0 e ca (· = y)) (h2 : PD S Γ 0 e2 cb (· = z)) (hno : ∀ H fs y0, F H fs y0 → fs.lookup m = none) (hp : pre (x, y, z))
    (hs : ∀ env : Env, starEach [e, e2] env = (false, eval e env) :: starEach [e2] env) (hs2 : ∀ env : Env, starEach [e2] env = (false, eval e2 env) :: starEach [] env) (hpl : ∀ env : Env, (backTo pos (starEach [e2] env)).any (·.1) = false) (ht : MTree o m apos pos [e, e2] [] pl) : PDF S Γ 0 (.Call (.Attribute o m apos) [e, e2] [] pos) cg (· = g (x, y, z)) := by
  obtain ⟨f, fd, Fn, Mt, hb, _⟩ := M.ex
  exact pdf_of (fun X G => pe_meth (pl := pl X.env) (tE_ok G) (by rw [G.K]; exact hC) (by rw [G.K]; exact Mt) (fnG Fn G) (G.room.mono hl) (by rw [G.K]; exact hb) .nil pass0 (tA_ok G) (hs _) (hpl _) (ht _))
    (tdf_meth (k := 0) (k1 := 0) (k2 := 0) ho hno (pda_more (k1 := 0) (k2 := 0) h1 (pda_one h2 hs2) hs) fun y' as h3 h4 => ⟨(y', y, z), 0, by subst h4; rfl, by subst h3; exact hp, Nat.le_refl _, fun x hx => by subst h3; exact hx⟩)
theorem pm3 {pre : ω × α × β × γ → Prop} {g : ω × α × β × γ → ρ} (M : MB3 S.prog S.w S.K S.mg S.base C m p1 p2 p3 lv (spP (fun (a : ω × α × β × γ) => [.d (cIns C F hm) a.1, .d ca a.2.1, .d cb a.2.2.1, .d cg a.2.2.2]) pre cr g)) (hC : Cls S.K C) (hl : lv ≤ S.lv) (ho : PD S Γ 0 o (cIns C F hm) (· = x)) (h1 : PD S Γ 0 e ca (· = y)) (h2 : PD S Γ 0 e2 cb (· = z)) (h3 : PD S Γ 0 e3 cg (· = u)) (hno : ∀ H fs y0, F H fs y0 → fs.lookup m = none) (hp : pre (x, y, z, u))
    (hs : ∀ env : Env, starEach [e, e2, e3] env = (false, eval e env) :: starEach [e2, e3] env) (hs2 : ∀ env : Env, starEach [e2, e3] env = (false, eval e2 env) :: starEach [e3] env) (hs3 : ∀ env : Env, starEach [e3] env = (false, eval e3 env) :: starEach [] env) (hpl : ∀ env : Env, (backTo pos (starEach [e2, e3] env)).any (·.1) = false) (ht : MTree o m apos pos [e, e2, e3] [] pl) : PD S Γ 0 (.Call (.Attribute o m apos) [e, e2, e3] [] pos) cr (· = g (x, y, z, u)) := by
  obtain ⟨f, fd, Fn, Mt, hb, _⟩ := M.ex
  exact pd_of (fun X G => pe_meth (pl := pl X.env) (tE_ok G) (by rw [G.K]; exact hC) (by rw [G.K]; exact Mt) (fnG Fn G) (G.room.mono hl) (by rw [G.K]; exact hb) .nil pass0 (tA_ok G) (hs _) (hpl _) (ht _))
    (td_meth (k := 0) (k1 := 0) (k2 := 0) ho hno (pda_more (k1 := 0) (k2 := 0) h1 (pda_more (k1 := 0) (k2 := 0) h2 (pda_one h3 hs3) hs2) hs) fun y' as h5 h4 => ⟨(y', y, z, u), 0, by subst h4; rfl, by subst h5; exact hp, Nat.le_refl _, fun x hx => by subst h5; exact hx⟩)
/-- o.m(p2 = e2, p1 = e) -/
theorem pm2k {pre : ω × α × β → Prop} {g : ω × α × β → ρ} (M : MB2 S.prog S.w S.K S.mg S.base C m p1 p2 lv (spP (fun (a : ω × α × β) => [.d (cIns C F hm) a.1, .d ca a.2.1, .d cb a.2.2]) pre cr g)) (hC : Cls S.K C) (hl : lv ≤ S.lv) (ho : PD S Γ 0 o (cIns C F hm) (· = x)) (h2 : PD S Γ 0 e2 cb (· = z)) (h1 : PD S Γ 0 e ca (· = y)) (hno : ∀ H fs y0, F H fs y0 → fs.lookup m = none) (hp : pre (x, y, z))
    (hall : ∀ env : Env, (backToKw pos (keywordEach [⟨some p2, e2, kp2⟩, ⟨some p1, e, kp1⟩] env)).all (·.1.isSome) = true) (hks : ∀ env : Env, (backToKw pos (keywordEach [⟨some p2, e2, kp2⟩, ⟨some p1, e, kp1⟩] env)).filterMap (·.1) = [p2, p1])
    (hpl : ∀ env : Env, ((backTo pos (starEach [] env)).any (·.1) || (backToKw pos (keywordEach [⟨some p2, e2, kp2⟩, ⟨some p1, e, kp1⟩] env)).any (·.1.isNone)) = false) (ht : MTree o m apos pos [] [⟨some p2, e2, kp2⟩, ⟨some p1, e, kp1⟩] pl) : PD S Γ 0 (.Call (.Attribute o m apos) [] [⟨some p2, e2, kp2⟩, ⟨some p1, e, kp1⟩] pos) cr (· = g (x, y, z)) := by
  obtain ⟨f, fd, Fn, Mt, _, hb⟩ := M.ex
  refine pd_of (fun X G => pe_methK (pl := pl X.env) (tE_ok G) (by rw [G.K]; exact hC) (by rw [G.K]; exact Mt) (fnG Fn G) (G.room.mono hl) (by rw [G.K]; exact hb) pass0 (pk_cons (tE_ok G) (pk_cons (tE_ok G) pk_nil)) (hall _) (hks _) (hpl _) (ht _)) fun O n σ Hf H hn s Q q => ?_
  refine ho O n σ Hf H hn s _ fun v Hf1 H1 y' py r1 f1 s1 => ?_
  subst py
  obtain ⟨a, dx, fs, e1, e4, e3⟩ := id r1
  refine ⟨a, dx, fs, e1, s1.ex _ _ e4, hno _ _ _ e3, ?_⟩
  refine h2 O n σ Hf1 H1 hn s1 _ fun v2 Hf2 H2 z' pz r2 f2 s2 => ?_
  refine h1 O n σ Hf2 H2 hn s2 _ fun v3 Hf3 H3 u' pu r3 f3 s3 => ?_
  subst pz pu
  refine ⟨(y', u', z'), 0, n, Hf3, hp, hn, s3.ex, ⟨(cIns C F hm).mono (f2.ex.trans f3.ex) r1, r3, cb.mono f3.ex r2, trivial⟩, fun w hw => by simp at hw, fun w Hf4 H4 x px r f4 ex4 _ => ?_⟩
  have f4' : Fr (fun _ => False) Hf3 H3 Hf4 H4 := f4.mono fun w hw => by simp at hw
  exact q w Hf4 H4 x px r (((f1.trans f2 fun _ z => .inl z).trans f3 fun _ z => .inl z).trans f4' fun _ z => z.elim) (s3.grow0 f4' ex4)
theorem pm2kF {pre : ω × α × β → Prop} {g : ω × α × β → List γ} (M : MB2 S.prog S.w S.K S.mg S.base C m p1 p2 lv (spFP (fun (a : ω × α × β) => [.d (cIns C F hm) a.1, .d ca a.2.1, .d cb a.2.2]) pre cg g)) (hC : Cls S.K C) (hl : lv ≤ S.lv) (ho : PD S Γ 0 o (cIns C F hm) (· = x)) (h2 : PD S Γ 0 e2 cb (· = z)) (h1 : PD S Γ 0 e ca (· = y)) (hno : ∀ H fs y0, F H fs y0 → fs.lookup m = none) (hp : pre (x, y, z))
    (hall : ∀ env : Env, (backToKw pos (keywordEach [⟨some p2, e2, kp2⟩, ⟨some p1, e, kp1⟩] env)).all (·.1.isSome) = true) (hks : ∀ env : Env, (backToKw pos (keywordEach [⟨some p2, e2, kp2⟩, ⟨some p1, e, kp1⟩] env)).filterMap (·.1) = [p2, p1])
    (hpl : ∀ env : Env, ((backTo pos (starEach [] env)).any (·.1) || (backToKw pos (keywordEach [⟨some p2, e2, kp2⟩, ⟨some p1, e, kp1⟩] env)).any (·.1.isNone)) = false) (ht : MTree o m apos pos [] [⟨some p2, e2, kp2⟩, ⟨some p1, e, kp1⟩] pl) : PDF S Γ 0 (.Call (.Attribute o m apos) [] [⟨some p2, e2, kp2⟩, ⟨some p1, e, kp1⟩] pos) cg (· = g (x, y, z)) := by
  obtain ⟨f, fd, Fn, Mt, _, hb⟩ := M.ex
  refine pdf_of (fun X G => pe_methK (pl := pl X.env) (tE_ok G) (by rw [G.K]; exact hC) (by rw [G.K]; exact Mt) (fnG Fn G) (G.room.mono hl) (by rw [G.K]; exact hb) pass0 (pk_cons (tE_ok G) (pk_cons (tE_ok G) pk_nil)) (hall _) (hks _) (hpl _) (ht _)) fun O n σ Hf H hn s Q q => ?_
  refine ho O n σ Hf H hn s _ fun v Hf1 H1 y' py r1 f1 s1 => ?_
  subst py
  obtain ⟨a, dx, fs, e1, e4, e3⟩ := id r1
  refine ⟨a, dx, fs, e1, s1.ex _ _ e4, hno _ _ _ e3, ?_⟩
  refine h2 O n σ Hf1 H1 hn s1 _ fun v2 Hf2 H2 z' pz r2 f2 s2 => ?_
  refine h1 O n σ Hf2 H2 hn s2 _ fun v3 Hf3 H3 u' pu r3 f3 s3 => ?_
  subst pz pu
  have F3 := (f1.trans f2 fun _ z => .inl z).trans f3 fun _ z => .inl z
  refine ⟨(y', u', z'), 0, n, Hf3, hp, hn, s3.ex, ⟨(cIns C F hm).mono (f2.ex.trans f3.ex) r1, r3, cb.mono f3.ex r2, trivial⟩, fun w hw => by simp at hw, fun w ws Hf4 H4 x px h5 h6 h7 pr lb f4 ex4 _ => ?_⟩
  have f4' : Fr (fun _ => False) Hf3 H3 Hf4 H4 := f4.mono fun w hw => by simp at hw
  exact q w ws Hf4 H4 x px h5 h6 (F3.dom _ h7) pr lb (F3.trans f4' fun _ z => z.elim) (s3.grow0 f4' ex4)
/-- o.m(p3 = e3, p2 = e2, p1 = e) -/
theorem pm3k {pre : ω × α × β × γ → Prop} {g : ω × α × β × γ → ρ} (M : MB3 S.prog S.w S.K S.mg S.base C m p1 p2 p3 lv (spP (fun (a : ω × α × β × γ) => [.d (cIns C F hm) a.1, .d ca a.2.1, .d cb a.2.2.1, .d cg a.2.2.2]) pre cr g)) (hC : Cls S.K C) (hl : lv ≤ S.lv) (ho : PD S Γ 0 o (cIns C F hm) (· = x)) (h3 : PD S Γ 0 e3 cg (· = u)) (h2 : PD S Γ 0 e2 cb (· = z)) (h1 : PD S Γ 0 e ca (· = y)) (hno : ∀ H fs y0, F H fs y0 → fs.lookup m = none) (hp : pre (x, y, z, u))
    (hall : ∀ env : Env, (backToKw pos (keywordEach [⟨some p3, e3, kp3⟩, ⟨some p2, e2, kp2⟩, ⟨some p1, e, kp1⟩] env)).all (·.1.isSome) = true) (hks : ∀ env : Env, (backToKw pos (keywordEach [⟨some p3, e3, kp3⟩, ⟨some p2, e2, kp2⟩, ⟨some p1, e, kp1⟩] env)).filterMap (·.1) = [p3, p2, p1])
    (hpl : ∀ env : Env, ((backTo pos (starEach [] env)).any (·.1) || (backToKw pos (keywordEach [⟨some p3, e3, kp3⟩, ⟨some p2, e2, kp2⟩, ⟨some p1, e, kp1⟩] env)).any (·.1.isNone)) = false) (ht : MTree o m apos pos [] [⟨some p3, e3, kp3⟩, ⟨some p2, e2, kp2⟩, ⟨some p1, e, kp1⟩] pl) : PD S Γ 0 (.Call (.Attribute o m apos) [] [⟨some p3, e3, kp3⟩, ⟨some p2, e2, kp2⟩, ⟨some p1, e, kp1⟩] pos) cr (· = g (x, y, z, u)) := by
  obtain ⟨f, fd, Fn, Mt, _, hb⟩ := M.ex
  refine pd_of (fun X G => pe_methK (pl := pl X.env) (tE_ok G) (by rw [G.K]; exact hC) (by rw [G.K]; exact Mt) (fnG Fn G) (G.room.mono hl) (by rw [G.K]; exact hb) pass0 (pk_cons (tE_ok G) (pk_cons (tE_ok G) (pk_cons (tE_ok G) pk_nil))) (hall _) (hks _) (hpl _) (ht _)) fun O n σ Hf H hn s Q q => ?_
  refine ho O n σ Hf H hn s _ fun v Hf1 H1 y' py r1 f1 s1 => ?_
  subst py
  obtain ⟨a, dx, fs, e1, e4, e5⟩ := id r1
  refine ⟨a, dx, fs, e1, s1.ex _ _ e4, hno _ _ _ e5, ?_⟩
  refine h3 O n σ Hf1 H1 hn s1 _ fun v2 Hf2 H2 z' pz r2 f2 s2 => ?_
  refine h2 O n σ Hf2 H2 hn s2 _ fun v3 Hf3 H3 u' pu r3 f3 s3 => ?_
  refine h1 O n σ Hf3 H3 hn s3 _ fun v4 Hf4 H4 t' pt r4 f4 s4 => ?_
  subst pz pu pt
  refine ⟨(y', t', u', z'), 0, n, Hf4, hp, hn, s4.ex, ⟨(cIns C F hm).mono ((f2.ex.trans f3.ex).trans f4.ex) r1, r4, cb.mono f4.ex r3, cg.mono (f3.ex.trans f4.ex) r2, trivial⟩, fun w hw => by simp at hw, fun w Hf5 H5 x px r f5 ex5 _ => ?_⟩
  have f5' : Fr (fun _ => False) Hf4 H4 Hf5 H5 := f5.mono fun w hw => by simp at hw
  exact q w Hf5 H5 x px r ((((f1.trans f2 fun _ z => .inl z).trans f3 fun _ z => .inl z).trans f4 fun _ z => .inl z).trans f5' fun _ z => z.elim) (s4.grow0 f5' ex5)
end
end DL

set_option Elab.async false
set_option linter.all false
set_option maxRecDepth 100000
set_option maxHeartbeats 2000000
namespace DL
open PySem PySem.Spec L2
/-! ### a def that ends without a return -/
section
variable {P : Program} {w : World} {K : PySem.W.Frag} {mg : Str → Option Value} {base : Heap} {x : Str} {st : Stmt} {N pn : List Str} {lv : Nat}
variable {A : Type} {ps : A → Ctxt} {pre : A → Prop}
theorem fn_N {f : Addr} {fd : FuncData} {qual : Str} (F : Fun K x qual st f fd) (Sc : FnScope N pn (defScope st))
    (hl : ∀ a, (ps a).length = pn.length) (hN : pn.length ≤ N.length) (one : ∀ a, NoB (ps a))
    (body : ∀ a, pre a → PHs (ρ := Unit) ⟨N, defScope st, K, mg, P, w, base, lv, fun _ => true, false⟩ (entry N (ps a)) 0 (defBody st) { N := fun _ => True, bk := fun _ => False, ct := fun _ => False, c := cNon, R := fun _ => False }) :
    FnOk P w K mg base CX0 (lv + 1) f fd pn (spP ps pre cNon (fun _ => ())) := by
  refine F.ok Sc (fun vs H Q E h => ?_) (fun cdv Ar outer s H vs Q E hr h => ?_)
  · obtain ⟨a, b, n, Hf, _, _, _, o, _⟩ := h
    rw [argsOk_len o]; exact hl a
  · obtain ⟨a, b, n, Hf, hp, hn, ex, o, bx, q⟩ := h
    refine ⟨tSs ⟨N, defScope st, K, mg, P, w, base, lv, fun _ => true, false⟩ (defBody st), tSs_ok (cxG hr Sc.nd), ?_⟩
    have nb : ∀ z, Sl.bx z ∉ ps a := fun z hz => by
      obtain ⟨i, hi⟩ := List.getElem?_of_mem hz
      exact noB_at (one a) hi
    have one' : OneB (ps a) := by
      have : ∀ G : Ctxt, NoB G → OneB G := fun G => by
        induction G with
        | nil => exact fun _ => trivial
        | cons s G ih =>
          intro h
          cases s with
          | bx z => exact h.elim
          | un => exact ih h
          | d c x => exact ih h
          | l c x => exact ih h
          | r p => exact ih h
      exact this _ (one a)
    have S0 : Sat ⟨fun z => Sl.bx z ∈ ps a, Hf, H⟩ Hf H (start N vs) (entry N (ps a)) n := sat_entry (by rw [hl]; exact hN) o one' ex bx
    refine body a hp _ n _ Hf H hn S0 _ (fun σ' Hf' H' Γ' _ f => q .non Hf' H' () rfl rfl f.sat.fr f.sat.ex fun z hz => (nb z hz).elim) (fun _ _ _ _ z _ => z.elim) (fun _ _ _ _ z _ => z.elim) fun _ _ _ _ _ _ z _ _ => z.elim
theorem cal_N (D : Def K mg x st) (hb : BindsD st x pn) (Sc : FnScope N pn (defScope st))
    (hl : ∀ a, (ps a).length = pn.length) (hN : pn.length ≤ N.length) (one : ∀ a, NoB (ps a))
    (body : ∀ a, pre a → PHs (ρ := Unit) ⟨N, defScope st, K, mg, P, w, base, lv, fun _ => true, false⟩ (entry N (ps a)) 0 (defBody st) { N := fun _ => True, bk := fun _ => False, ct := fun _ => False, c := cNon, R := fun _ => False }) :
    Cal P w K mg base x pn (lv + 1) (spP ps pre cNon (fun _ => ())) := by
  obtain ⟨f, fd, F, hm⟩ := D.ex
  exact ⟨f, fd, fn_N F Sc hl hN one body, hm, F.kp, F.binds hb⟩
end
section
variable {S : Stc} {Γ : Ctxt} {k k2 : Nat} {α β ρ : Type} {c : Cod α} {P : α → Prop} {e a b : Expr} {pos pn : Pos} {rest : List Stmt} {p : Po ρ}
/-- a statement that is but an expression -/
theorem bdrop (h : PD S Γ k e c P) (hs : ∀ env : Env, env.scope = S.sc → swapsWith e none pos.line env = pure false) (hr : PHs S Γ k2 rest p) : PHs S Γ (k + k2) (.Expr e pos :: rest) p :=
  phs_cons (N1 := fun G => G = Γ) (ph_of (fun X G => ps_expr (tE_ok G) (hs _ G.sc)) (hs_drop h rfl)) fun Γ1 e => by subst e; exact hr
/-- (a, *xs) -/
theorem ptupc {kx : Nat} {xs : List α} {x : α} {sp : Pos} (ha : PD S Γ 0 a c (· = x)) (hb : PD S Γ 0 b (cSeq c) (· = xs)) (hl : xs.length + 1 ≤ 1000) (hs : ∀ env : Env, starEach [a, .Starred b sp] env = (false, eval a env) :: starEach [.Starred b sp] env) (hs2 : ∀ env : Env, starEach [.Starred b sp] env = (true, eval b env) :: starEach [] env) : PD S Γ 0 (.Tuple [a, .Starred b sp] kx pos) (cTup c) (· = x :: xs) :=
  pd_tupl (pda_cons (k1 := 0) (k2 := 0) ha (pda_star (k1 := 0) (k2 := 0) hb pda_nil hs2) hs) fun as ⟨y, r, py, ⟨r2, e2, e3⟩, e⟩ => ⟨x :: xs, by subst py e2; rw [e, e3, List.append_nil]; rfl, by rw [List.length_cons]; exact hl, rfl⟩
/-- (*xs, a) -/
theorem ptupr {kx : Nat} {xs : List α} {x : α} {sp : Pos} (hb : PD S Γ 0 b (cSeq c) (· = xs)) (ha : PD S Γ 0 a c (· = x)) (hl : xs.length + 1 ≤ 1000) (hs : ∀ env : Env, starEach [.Starred b sp, a] env = (true, eval b env) :: starEach [a] env) (hs2 : ∀ env : Env, starEach [a] env = (false, eval a env) :: starEach [] env) : PD S Γ 0 (.Tuple [.Starred b sp, a] kx pos) (cTup c) (· = xs ++ [x]) :=
  pd_tupl (pda_star (k1 := 0) (k2 := 0) hb (pda_cons (k1 := 0) (k2 := 0) ha pda_nil hs2) hs) fun as ⟨r, ⟨y, r2, py, e2, e3⟩, e⟩ => ⟨xs ++ [x], by subst py e2; rw [e, e3, List.map_append]; rfl, by rw [List.length_append]; exact hl, rfl⟩
end
end DL

set_option Elab.async false
set_option linter.all false
set_option maxRecDepth 100000
set_option maxHeartbeats 2000000
namespace DL
open PySem PySem.Spec L2
section
variable {S : Stc} {Γ : Ctxt} {k k1 k2 k3 ke kt kn : Nat} {α β : Type} {c : Cod α} {c' : Cod β} {pos : Pos}
/-- a comprehension over what is drawn, with draws -/
theorem plcQX (own : List (Str × Nat)) {X : List α → Prop} {elt tg iter : Expr} {scope : Scope} {Q : β → Prop} (hw : PDI S Γ k tg iter c X) (nv : NoBxs Γ (own.map (·.2))) (ok : blkC S.N S.sc scope own = true) (hfs : ∀ (env : Env) x, foldedSetIterable iter env x = pure x) (hk : ∀ xs, X xs → xs.length * ke ≤ kn)
    (hs : ∀ x, ∃ Γ1 is, PDG (S.blk scope) tg c x (wipeC Γ (own.map (·.2))) Γ1 is ∧ (∀ i ∈ is, i ∈ own.map (·.2)) ∧ PD (S.blk scope) Γ1 ke elt c' Q) :
    PDF S Γ (k + kn) (.ListComp elt [⟨tg, iter, [], 0⟩] scope pos) c' (fun ys => ∃ xs, X xs ∧ ys.length = xs.length ∧ ∀ y ∈ ys, Q y) :=
  pdf_lc ok hfs (tdf_lc (kt := 0) (ke := ke) (kn := kn) (X := X) (fun _ pre ys => ys.length = pre.length ∧ ∀ y ∈ ys, Q y) hw (noBxs_mem nv) (fun _ _ => ⟨rfl, fun _ h => nomatch h⟩) (fun l e => by rw [Nat.zero_add]; exact hk l e) (fun l e pre x post ys hx hI => by
    obtain ⟨Γ1, is, h1, h2, h3⟩ := hs x
    refine ⟨Γ1, is, (· = true), h1, h2, tts_nil, fun _ => h3.imp fun y hy => ⟨by rw [List.length_append, List.length_append, hI.1]; rfl, fun z hz => ?_⟩, fun h => nomatch h⟩
    rcases List.mem_append.mp hz with h | h
    · exact hI.2 z h
    · rw [List.mem_singleton.mp h]; exact hy))
/-- [x for x in xs if ..], the test drawn -/
theorem plcF (own : List (Str × Nat)) {elt tg iter : Expr} {ifs : List Expr} {scope : Scope} {xs : List α} (hw : PDI S Γ k tg iter c (· = xs)) (nv : NoBxs Γ (own.map (·.2))) (ok : blkC S.N S.sc scope own = true) (hfs : ∀ (env : Env) x, foldedSetIterable iter env x = pure x) (hk : xs.length * kt ≤ kn)
    (hs : ∀ x, x ∈ xs → ∃ Γ1 is, PDG (S.blk scope) tg c x (wipeC Γ (own.map (·.2))) Γ1 is ∧ (∀ i ∈ is, i ∈ own.map (·.2)) ∧ TDT (tTs (S.blk scope) ifs) Γ1 kt (fun _ => True) ∧ PD (S.blk scope) Γ1 0 elt c (· = x)) :
    PDF S Γ (k + kn) (.ListComp elt [⟨tg, iter, ifs, 0⟩] scope pos) c (fun ys => ys.Sublist xs) :=
  pdf_lc ok hfs (TDF.imp (tdf_lc (kt := kt) (ke := 0) (kn := kn) (X := (· = xs)) (fun _ pre ys => ys.Sublist pre) hw (noBxs_mem nv) (fun _ _ => List.Sublist.refl _) (fun l e => by subst e; exact hk) (fun l e pre x post ys hx hI => by
    obtain ⟨Γ1, is, h1, h2, h3, h4⟩ := hs x (by rw [← e, hx]; simp)
    exact ⟨Γ1, is, fun _ => True, h1, h2, h3, fun _ => h4.imp fun y hy => by subst hy; exact hI.append (List.Sublist.refl _), fun _ => hI.trans (List.sublist_append_left _ _)⟩)) fun ys ⟨l, e, h⟩ => by subst e; exact h)
theorem plst3R {P : α → Prop} {a b d : Expr} (ha : PD S Γ k1 a c P) (hb : PD S Γ k2 b c P) (hd : PD S Γ k3 d c P) (hs : ∀ env : Env, starEach [a, b, d] env = (false, eval a env) :: starEach [b, d] env) (hs2 : ∀ env : Env, starEach [b, d] env = (false, eval b env) :: starEach [d] env) (hs3 : ∀ env : Env, starEach [d] env = (false, eval d env) :: starEach [] env) : PDF S Γ (k1 + (k2 + k3)) (.List [a, b, d] pos) c (fun l => l.length = 3 ∧ ∀ z ∈ l, P z) :=
  TDF.le (pdf_lst (pda_cons ha (pda_cons hb (pda_cons (k2 := 0) hd pda_nil hs3) hs2) hs) fun as ⟨x, r, hx, ⟨y, r2, hy, ⟨z, r3, hz, e3, e2⟩, e1⟩, e⟩ => ⟨[x, y, z], by rw [e, e1, e2, e3]; rfl, by simp, rfl, fun u hu => by
    simp at hu
    rcases hu with h | h | h
    · rw [h]; exact hx
    · rw [h]; exact hy
    · rw [h]; exact hz⟩) (by omega)
end
end DL

set_option Elab.async false
set_option linter.all false
set_option maxRecDepth 100000
set_option maxHeartbeats 4000000
/-! ### what may be None; repr of any piece; min of texts; int of a truth; dict of pairs -/
namespace DL
open PySem PySem.Spec L2
def cOpt {α : Type} (c : Cod α) : Cod (Option α) := ⟨fun H v o => match o with | none => v = .non | some x => c.rep H v x, fun {H H' v o} e h => match o, h with | none, h => h | some x, h => c.mono e h⟩
structure NotN {α : Type} (c : Cod α) : Prop where
  ne : ∀ H v x, c.rep H v x → v ≠ .non
theorem nn_tup {α : Type} {c : Cod α} : NotN (cTup c) := ⟨fun H v x ⟨a, _, h, _⟩ e => by rw [h] at e; cases e⟩
section
variable {S : Stc} {Γ : Ctxt} {k k1 k2 : Nat} {α β γ : Type} {c : Cod α} {c2 : Cod β} {c3 : Cod γ} {pos pn : Pos} {a b d e : Expr} {te : TE}
theorem TD.opt1 {P : α → Prop} (h : TD te Γ k c P) : TD te Γ k (cOpt c) (fun o => ∃ x, P x ∧ o = some x) := h.conv fun H v x px r => ⟨some x, ⟨x, px, rfl⟩, r⟩
theorem TD.optE {x : α} (h : TD te Γ k c (· = x)) : TD te Γ k (cOpt c) (· = some x) := h.conv fun H v y px r => ⟨some x, rfl, by subst px; exact r⟩
theorem pnoneO {j : Nat} : PD S Γ 0 (.Constant .none j pos) (cOpt c) (· = none) := pd_none.conv fun H v y _ r => ⟨none, rfl, r⟩
theorem opt_go {H : Hp} : ∀ {vs : List V} {xs : List α}, Paired (c.rep H) vs xs → Paired ((cOpt c).rep H) vs (xs.map some)
  | _, _, .nil => .nil
  | _, _, .cons r t => .cons r (opt_go t)
theorem TD.optL {xs : List α} (h : TD te Γ k (cList c) (· = xs)) : TD te Γ k (cList (cOpt c)) (· = xs.map some) := h.conv fun H v y px r => ⟨y.map some, by subst px; rfl, by
  obtain ⟨a, vs, h1, h2, h3, h4⟩ := r
  refine ⟨a, vs, h1, h2, ?_, h4⟩
  subst px; exact opt_go h3⟩
theorem rd_isNO {o : Option α} (n : NotN c) : RD (fun x y H Q => y = .non ∧ Q (.bl (decide (x = .non))) H) (cOpt c) o cNon () cBool (· = o.isNone) := fun Hf H v u e h1 h2 Q q => by
  refine ⟨h2, q _ Hf H _ rfl ?_ Fr.refl e⟩
  show V.bl _ = V.bl _
  congr 1
  cases o with
  | none => exact decide_eq_true h1
  | some x => exact decide_eq_false (n.ne _ _ _ h1)
theorem rd_notNO {o : Option α} (n : NotN c) : RD (fun x y H Q => y = .non ∧ Q (.bl (!decide (x = .non))) H) (cOpt c) o cNon () cBool (· = o.isSome) := fun Hf H v u e h1 h2 Q q => by
  refine ⟨h2, q _ Hf H _ rfl ?_ Fr.refl e⟩
  show V.bl _ = V.bl _
  congr 1
  cases o with
  | none => rw [decide_eq_true (show v = .non from h1)]; rfl
  | some x => rw [decide_eq_false (n.ne _ _ _ h1)]; rfl
theorem pisNO {o : Option α} (n : NotN c) {j : Nat} {p2 : Pos} (ha : PD S Γ 0 a (cOpt c) (· = o)) : PD S Γ 0 (.Compare a [.Is] [.Constant .none j p2] pos) cBool (· = o.isNone) := pcmp (fun _ _ => op_isN) ha pd_none (rd_isNO n) (by rfl)
theorem tisNO {o : Option α} (n : NotN c) {j : Nat} {p2 : Pos} (ha : PD S Γ 0 a (cOpt c) (· = o)) : PDT S Γ 0 (.Compare a [.Is] [.Constant .none j p2] pos) (· = o.isNone) := tcmp (fun _ _ => op_isN) ha pd_none (rd_isNO n) (by rfl)
theorem tnotNO {o : Option α} (n : NotN c) {j : Nat} {p2 : Pos} (ha : PD S Γ 0 a (cOpt c) (· = o)) : PDT S Γ 0 (.Compare a [.IsNot] [.Constant .none j p2] pos) (· = o.isSome) := tcmp (fun _ _ => op_notN) ha pd_none (rd_notNO n) (by rfl)
end
def eOptT {α : Type} [DecidableEq α] {c : Cod α} (q : EqC c) : EqC (cOpt (cTup c)) := ⟨fun o => match o with | none => .none | some x => (eTup q).D x, q.n + 2, fun K H v o h => match o, h with
    | none, h => by obtain rfl := (show v = .non from h); exact .non
    | some x, h => (eTup q).dp K H v x h,
  fun o => match o with | none => rfl | some x => (eTup q).lay x,
  fun o => match o with | none => by simp [PyData.depth] | some x => Nat.le_succ_of_le ((eTup q).dep x),
  fun x y => match x, y with
    | none, none => by simp [PyData.eqv]
    | none, some y => by show PyData.eqv .none (.tuple _) = _; simp [PyData.eqv]
    | some x, none => by show PyData.eqv (.tuple _) .none = _; simp [PyData.eqv]
    | some x, some y => by
      refine ((eTup q).eqv x y).trans (decide_eq_decide.mpr ⟨fun h => by rw [h], fun h => Option.some.inj h⟩)⟩
/-! ### repr -/
structure DpC {α : Type} (c : Cod α) (x : α) (d : PyData) : Prop where
  dp : ∀ K H v, c.rep H v x → Dp K H v d
theorem EqC.at {α : Type} [DecidableEq α] {c : Cod α} (q : EqC c) (x : α) : DpC c x (q.D x) := ⟨fun K H v h => q.dp K H v x h⟩
theorem cr_reprN {X : Cx} : CallR X (.builtin "repr") (fun xs H Q => xs = [.non] ∧ Q (.str "None") H) := by
  intro pins s σ H xs us Q I r h
  obtain ⟨rfl, q⟩ := h
  obtain ⟨u, rfl, t⟩ := vals1 r
  cases t
  exact PySem.P.repr_of_none ⟨.str _, H, I.tok _, ⟨_, rfl⟩, q⟩
/-- repr of None or of a piece that lies in a list or tuple -/
def rReprA (K : PySem.W.Frag) : List V → Hp → VK → Prop := fun xs H Q => (xs = [.non] ∧ Q (.str "None") H) ∨ rRepr K xs H Q
theorem cr_reprA {X : Cx} (hg : X.A.guards = some []) (hu : X.A.units + 64 < cLine) : CallR X (.builtin "repr") (rReprA X.K) := by
  intro pins s σ H xs us Q I r h
  rcases h with h | h
  · exact cr_reprN pins s σ H xs us Q I r h
  · exact cr_repr hg hu pins s σ H xs us Q I r h
def shO (o : Option (List Int)) : Str := match o with | none => "None" | some x => ((eTup eInt).D x).shown
section
variable {S : Stc} {Γ : Ctxt} {k k1 k2 : Nat} {α β γ ρ : Type} {c : Cod α} {c1 : Cod α} {c2 : Cod β} {c3 : Cod γ} {p : Po ρ} {pos pn : Pos} {a b d e : Expr} {x : α} {y : β} {z : γ}
theorem preprA {t : PyData} (D : DpC c x t) (gd : S.gd = true) (hg : S.sc.names.lookup ("repr" : Str) = some .globalImplicit) (hmg : S.mg "repr" = none) (h : PD S Γ 0 e c (· = x)) (hn : t.depth ≤ 63) (sh : Shw t sizeLine) (hr : ∀ H v, c.rep H v x → ∃ a, v = .ref a) (he : ∀ env : Env, starEach [e] env = (false, eval e env) :: starEach [] env) : PD S Γ 0 (.Call (.Name "repr" pn) [e] [] pos) cStr (· = t.shown) :=
  pb1 (r := rRepr S.K) (fun X G => by rw [← G.K]; exact cr_repr (G.gd gd) G.room.units) hg hmg (by decide +kernel) h (fun Hf H v ex r Q q => by
    obtain ⟨a, rfl⟩ := hr _ _ r
    exact ⟨a, t, rfl, D.dp _ _ _ (c.mono ex r), hn, sh, q _ Hf H _ rfl rfl Fr.refl ex⟩) he
theorem preprO {o : Option (List Int)} (gd : S.gd = true) (hg : S.sc.names.lookup ("repr" : Str) = some .globalImplicit) (hmg : S.mg "repr" = none) (h : PD S Γ 0 e (cOpt (cTup cInt)) (· = o)) (sh : ∀ x, o = some x → Shw ((eTup eInt).D x) sizeLine) (he : ∀ env : Env, starEach [e] env = (false, eval e env) :: starEach [] env) : PD S Γ 0 (.Call (.Name "repr" pn) [e] [] pos) cStr (· = shO o) :=
  pb1 (r := rReprA S.K) (fun X G => by rw [← G.K]; exact cr_reprA (G.gd gd) G.room.units) hg hmg (by decide +kernel) h (fun Hf H v ex r Q q => by
    cases o with
    | none =>
      obtain rfl := (show v = .non from r)
      exact .inl ⟨rfl, q _ Hf H _ rfl rfl Fr.refl ex⟩
    | some x =>
      obtain ⟨a, vs, e1, e2, e3⟩ := (show (cTup cInt).rep Hf v x from r)
      subst e1
      exact .inr ⟨a, (eTup eInt).D x, rfl, (eTup eInt).dp _ _ _ _ ((cTup cInt).mono ex r), Nat.le_trans ((eTup eInt).dep x) (by decide), sh x rfl, q _ Hf H _ rfl rfl Fr.refl ex⟩) he
/-- a list of three unlike things -/
def cL3 (c : Cod α) (d : Cod β) (f : Cod γ) : Cod (α × β × γ) := ⟨fun H v x => ∃ a u w y, v = .ref a ∧ H a = some (.lst [u, w, y]) ∧ c.rep H u x.1 ∧ d.rep H w x.2.1 ∧ f.rep H y x.2.2,
  fun e ⟨a, u, w, y, h1, h2, h3, h4, h5⟩ => ⟨a, u, w, y, h1, e _ _ h2, c.mono e h3, d.mono e h4, f.mono e h5⟩⟩
theorem dp_L3 {s t u : PyData} (h1 : DpC c1 x s) (h2 : DpC c2 y t) (h3 : DpC c3 z u) : DpC (cL3 c1 c2 c3) (x, y, z) (.list [s, t, u]) := ⟨fun K H v ⟨a, p, q, r, e1, e2, e3, e4, e5⟩ => by
  subst e1; exact .lst (SqL.of e2) (.cons (h1.dp K H _ e3) (.cons (h2.dp K H _ e4) (.cons (h3.dp K H _ e5) .nil)))⟩
theorem plst3H (ha : PD S Γ 0 a c1 (· = x)) (hb : PD S Γ 0 b c2 (· = y)) (hd : PD S Γ 0 d c3 (· = z)) (hs : ∀ env : Env, starEach [a, b, d] env = (false, eval a env) :: starEach [b, d] env) (hs2 : ∀ env : Env, starEach [b, d] env = (false, eval b env) :: starEach [d] env) (hs3 : ∀ env : Env, starEach [d] env = (false, eval d env) :: starEach [] env) : PD S Γ 0 (.List [a, b, d] pos) (cL3 c1 c2 c3) (· = (x, y, z)) :=
  pd_of (fun X G => pe_lst (pa_cons (tE_ok G) (pa_cons (tE_ok G) (pa_cons (tE_ok G) pa_nil (hs3 _)) (hs2 _)) (hs _))) fun O n σ Hf H hn S0 Q q =>
    ha O n σ Hf H hn S0 _ fun v Hf1 H1 x1 p1 r1 f1 S1 => hb O n σ Hf1 H1 hn S1 _ fun u Hf2 H2 y1 p2 r2 f2 S2 => hd O n σ Hf2 H2 hn S2 _ fun w Hf3 H3 z1 p3 r3 f3 S3 =>
      ⟨by show 3 ≤ sizeLine; decide, fun p hp => by
        have em := Ex.new (o := .lst [v, u, w]) (S3.ex.back hp)
        subst p1 p2 p3
        exact q _ (upd Hf3 p (.lst [v, u, w])) _ (x1, y1, z1) rfl ⟨p, v, u, w, rfl, upd_same, c1.mono ((f2.ex.trans f3.ex).trans em) r1, c2.mono (f3.ex.trans em) r2, c3.mono em r3⟩
          (((f1.trans f2 fun _ h => .inl h).trans f3 fun _ h => .inl h).trans (Fr.new (M := Bx Γ) S3.ex hp) fun _ z => .inl z) (S3.new hp)⟩
/-! ### int(b), xs * n, dict(pairs) -/
theorem pintB {t : Bool} (hg : S.sc.names.lookup ("int" : Str) = some .globalImplicit) (hm : S.mg "int" = none) (h : PD S Γ 0 e cBool (· = t)) (he : ∀ env : Env, starEach [e] env = (false, eval e env) :: starEach [] env) : PD S Γ 0 (.Call (.Name "int" pn) [e] [] pos) cInt (· = if t = true then 1 else 0) :=
  py1 (T := "int") (fun X G => call_int1) hg hm PyProof.Rows.boot_int h (fun Hf H v ex r Q q => .inr ⟨t, by rw [show v = .bl t from r], q _ Hf H _ rfl (by cases t <;> rfl) Fr.refl ex⟩) he
theorem prepL {xs : List α} {i : Int} (ha : PD S Γ 0 a (cList c) (· = xs)) (hb : PD S Γ 0 b cInt (· = i)) (h : 0 ≤ i ∧ i ≤ 1000) (hl : xs.length ≤ 1000) : PD S Γ 0 (.BinOp a .Mult b pos) (cList c) (· = (List.replicate i.toNat xs).flatten) :=
  pd_bin (k1 := 0) (k2 := 0) (fun _ _ => op_rep) ha hb fun z j hz hj Hf H v u e ⟨p, vs, h1, h2, h3, h4⟩ h5 Q q => by
    subst hz hj
    obtain rfl := h5
    have hlen : vs.length = z.length := h3.length
    have hm : z.length * j.toNat ≤ 1000000 := Nat.le_trans (Nat.mul_le_mul hl (show j.toNat ≤ 1000 by omega)) (by decide)
    have hll : (List.replicate j.toNat vs).flatten.length = z.length * j.toNat := by rw [List.length_flatten, List.map_replicate, List.sum_replicate_nat, hlen, Nat.mul_comm]
    refine ⟨p, j, vs, h1, rfl, e _ _ h2, by omega, by omega, by rw [hlen]; exact Nat.le_trans hm (by decide), fun p hp => ?_⟩
    have hpf := e.back hp
    refine q _ _ _ _ rfl ⟨p, _, rfl, upd_same, ?_, by rw [hll]; exact hm⟩ (Fr.new e hp) (e.both hpf)
    exact paired_rep (paired_mono h3 fun _ _ z => c.mono (Ex.new (o := .lst (List.replicate j.toNat vs).flatten) hpf) z) j.toNat
def rDictP (K : PySem.W.Frag) : List V → Hp → VK → Prop := fun xs H Q => ∃ (a : Addr) (ps : List Addr) (kvs : List (Key × V)), xs = [.ref a] ∧ SqL K H a (ps.map V.ref) ∧ Paired (fun p kv => SqT K H p [kV kv.1, kv.2]) ps kvs ∧
    ∀ p, H p = none → Q (.ref p) (upd H p (.dK (mergeK [] kvs)))
theorem pairs_at {K : PySem.W.Frag} {Hf H : Hp} (e : Ex Hf H) : ∀ {vs : List V} {xs : List (Int × α)}, Paired ((cT2 cInt c).rep Hf) vs xs → ∃ (ps : List Addr) (kvs : List (Key × V)), vs = ps.map V.ref ∧ Paired (fun p kv => SqT K H p [kV kv.1, kv.2]) ps kvs ∧ PDc c Hf kvs xs
  | _, _, .nil => ⟨[], [], rfl, .nil, .nil⟩
  | _, _, .cons ⟨p, u, w, h1, h2, h3, h4⟩ t => by
    obtain ⟨ps, kvs, e1, e2, e3⟩ := pairs_at (K := K) e t
    obtain rfl := (show u = .int _ from h3)
    exact ⟨p :: ps, (.inl _, w) :: kvs, by rw [h1, e1]; rfl, .cons (SqT.of (e _ _ h2)) e2, .cons ⟨rfl, h4⟩ e3⟩
theorem pdc_merge {H : Hp} {ks : List (Key × V)} {xs : List (Int × α)} (h : PDc c H ks xs) : ∀ {ks0 : List (Key × V)} {d0 : List (Int × α)}, PDc c H ks0 d0 → PDc c H (mergeK ks0 ks) (xs.foldl (fun d kv => putD d kv.1 kv.2) d0) := by
  induction h with
  | nil => exact fun q => q
  | cons r t ih =>
    intro ks0 d0 q
    rename_i p x _ _
    have := pdc_put q x.1 r.2
    rw [← r.1] at this
    exact ih this
theorem pdictP {xs : List (Int × α)} (hg : S.sc.names.lookup ("dict" : Str) = some .globalImplicit) (hm : S.mg "dict" = none) (h : PD S Γ 0 e (cList (cT2 cInt c)) (· = xs)) (he : ∀ env : Env, starEach [e] env = (false, eval e env) :: starEach [] env) : PD S Γ 0 (.Call (.Name "dict" pn) [e] [] pos) (cDic c) (· = dicOf xs) :=
  py1 (T := "dict") (r := rDictP S.K) (fun X G => by rw [← G.K]; exact call_dictP G.calm) hg hm (by decide +kernel) h (fun Hf H v ex ⟨a, vs, h1, h2, h3, h4⟩ Q q => by
    obtain ⟨ps, kvs, e1, e2, e3⟩ := pairs_at (K := S.K) ex h3
    refine ⟨a, ps, kvs, by rw [h1], SqL.of (by rw [← e1]; exact ex _ _ h2), e2, fun p hp => ?_⟩
    have hpf := ex.back hp
    have pm := (pdc_merge e3 (ks0 := []) (d0 := []) .nil).mono (Ex.new (o := .dK (mergeK [] kvs)) hpf)
    refine q _ _ _ _ rfl ⟨p, _, rfl, upd_same, pm, ?_⟩ (Fr.new ex hp) (ex.both hpf)
    have l1 := pm.length
    have l2 := dicOf_len xs
    have l3 := h3.length
    unfold dicOf at l2
    omega) he
/-! ### min of a list of texts -/
def ltL (xs ys : List Int) : Bool := PySem.W.listLt xs ys
def minL (x : List Int) (xs : List (List Int)) : List Int := xs.foldl (fun a y => if ltL y a = true then y else a) x
theorem dataLt_D (xs ys : List Int) : PySem.W.dataLt ((eTup eInt).D xs) ((eTup eInt).D ys) = ltL xs ys := (PySem.W.dataLt_tuple _ _).trans (PySem.W.lexAll_map (α := Int) xs ys)
theorem minD_L (x : List Int) : ∀ xs : List (List Int), PySem.W.minD ((eTup eInt).D x) (xs.map (eTup eInt).D) = (eTup eInt).D (minL x xs) := fun xs => by
  unfold PySem.W.minD minL
  induction xs generalizing x with
  | nil => rfl
  | cons y ys ih =>
    rw [List.map_cons, List.foldl_cons, List.foldl_cons, ← ih, dataLt_D y x]
    cases ltL y x <;> rfl
def rMinL (K : PySem.W.Frag) : List V → Hp → VK → Prop := fun vs H Q => ∃ (a : Addr) (us : List V) (x : List Int) (xs : List (List Int)), vs = [V.ref a] ∧ SqL K H a us ∧ DpAll K H us ((x :: xs).map (eTup eInt).D) ∧ ∀ (i : Nat) (v : V), us[i]? = some v → ((x :: xs).map (eTup eInt).D)[i]? = some ((eTup eInt).D (minL x xs)) → Q v H
theorem alike_D : PySem.W.AlikeAll (((xs : List (List Int)).map (eTup eInt).D)) := by
  refine ⟨fun x hx y hy => ?_, fun x hx => ?_⟩
  · obtain ⟨i, _, rfl⟩ := List.mem_map.mp hx
    obtain ⟨j, _, rfl⟩ := List.mem_map.mp hy
    show PySem.W.alike (.tuple _) (.tuple _) = true
    simp only [PySem.W.alike]
    exact PySem.W.alikeAll_map (α := Int) i j
  · obtain ⟨i, _, rfl⟩ := List.mem_map.mp hx
    exact fun z => nomatch z
theorem dpAll_get {K : PySem.W.Frag} {H : Hp} : ∀ {vs : List V} {ds : List PyData} {i : Nat} {v : V}, DpAll K H vs ds → vs[i]? = some v → ∃ d, ds[i]? = some d ∧ Dp K H v d
  | _, _, 0, _, .cons h t, e => ⟨_, rfl, by obtain rfl := Option.some.inj e; exact h⟩
  | _, _, i + 1, _, .cons h t, e => dpAll_get (i := i) t e
theorem cr_minL {X : Cx} (hc : X.calm = true) (hu : X.A.units + 64 < cLine) : CallR X (.builtin "min") (rMinL X.K) := by
  intro pins s σ H vs us Q I r h
  obtain ⟨a, ws, x, xs, rfl, hs, hd, q⟩ := h
  obtain ⟨its, rv, hl, hz⟩ := I.list hs
  rw [Vals.ref1 r]
  obtain ⟨as, rd⟩ := Dp.readsAll I _ _ _ hd rv
  have dd : PyData.depthAll ((x :: xs).map (eTup eInt).D) ≤ 2 := depAll (fun y => (eTup eInt).dep y) _
  refine PySem.W.min_list_data (x := (eTup eInt).D x) (xs := xs.map (eTup eInt).D) (as := as) (I.ok.hd hc) (let ⟨o, n, h1, h2, _, h3⟩ := hl; ⟨o, h1, h2, n, h3⟩) (by simpa using rd) (alike_D (xs := x :: xs)) (by show X.A.units + 1 + PyData.depthAll ((x :: xs).map (eTup eInt).D) < cLine; omega) fun i v h' tk bs hv rd' hk => ?_
  have hv' : its[i]? = some v := by simpa using hv
  have hlen := rv.length
  have hi : i < ws.length := by
    rw [hlen]
    exact (List.getElem?_eq_some_iff.mp hv').1
  have hw : ws[i]? = some ws[i] := List.getElem?_eq_getElem hi
  obtain ⟨u, e1, ru⟩ := rv.get hw
  obtain rfl : u = v := by rw [e1] at hv'; exact Option.some.inj hv'
  obtain ⟨d, e2, dp⟩ := dpAll_get hd hw
  obtain ⟨cs, rd2⟩ := Dp.reads I d _ _ dp ru
  rw [minD_L] at rd'
  have := (PyProof.Rows.reads_det (fun b o e _ => hk b o e) rd2 rd').1
  exact ⟨ws[i], H, I.kept hk, ru, q i _ hw (by rw [this]; exact e2)⟩
theorem minL_mem (x : List Int) : ∀ xs : List (List Int), minL x xs ∈ x :: xs := fun xs => by
  unfold minL
  induction xs generalizing x with
  | nil => exact List.mem_singleton.mpr rfl
  | cons y ys ih =>
    rw [List.foldl_cons]
    rcases List.mem_cons.mp (ih (if ltL y x = true then y else x)) with h | h
    · rw [h]
      split
      · exact List.mem_cons_of_mem _ List.mem_cons_self
      · exact List.mem_cons_self
    · exact List.mem_cons_of_mem _ (List.mem_cons_of_mem _ h)
theorem cT_at {H : Hp} : ∀ {vs : List V} {xs : List (List Int)} {i : Nat} {v : V}, Paired ((cTup cInt).rep H) vs xs → vs[i]? = some v → ∃ x, xs[i]? = some x ∧ (cTup cInt).rep H v x
  | _, _, 0, _, .cons h t, e => ⟨_, rfl, by obtain rfl := Option.some.inj e; exact h⟩
  | _, _, i + 1, _, .cons h t, e => cT_at (i := i) t e
theorem pminL {x : List Int} {xs : List (List Int)} (hg : S.sc.names.lookup ("min" : Str) = some .globalImplicit) (hmg : S.mg "min" = none) (h : PD S Γ 0 e (cList (cTup cInt)) (· = x :: xs)) (he : ∀ env : Env, starEach [e] env = (false, eval e env) :: starEach [] env) : PD S Γ 0 (.Call (.Name "min" pn) [e] [] pos) (cTup cInt) (· = minL x xs) :=
  pb1 (r := rMinL S.K) (id := "min") (fun X G => by rw [← G.K]; exact cr_minL G.calm G.room.units) hg hmg (by decide +kernel) h (fun Hf H v ex ⟨a, vs, h1, h2, h3, h4⟩ Q q => by
    refine ⟨a, vs, x, xs, by rw [h1], SqL.of (ex _ _ h2), dpAll_of (c := cTup cInt) (fun v x r => (eTup eInt).dp S.K H v x r) (paired_mono h3 fun _ _ r => (cTup cInt).mono ex r), fun i w hw dp => ?_⟩
    obtain ⟨z, e1, rz⟩ := cT_at h3 hw
    have e7 : z = minL x xs := by
      rw [List.getElem?_map, e1] at dp
      have e8 : (eTup eInt).D z = (eTup eInt).D (minL x xs) := Option.some.inj dp
      have e9 := (eTup eInt).eqv z (minL x xs)
      have e10 := (eTup eInt).eqv (minL x xs) (minL x xs)
      rw [e8, e10] at e9
      exact of_decide_eq_true (e9.symm.trans (decide_eq_true rfl))
    exact q _ Hf H w rfl (by rw [← e7]; exact rz) Fr.refl ex) he
end
end DL

set_option Elab.async false
set_option linter.all false
set_option maxRecDepth 100000
set_option maxHeartbeats 4000000
/-! ### defs of two and three arguments, also by names from the end -/
namespace DL
open PySem PySem.Spec L2
theorem paired_rev {α β : Type} {R : α → β → Prop} : ∀ {l : List α} {m : List β}, Paired R l m → Paired R l.reverse m.reverse
  | _, _, .nil => .nil
  | _, _, .cons r t => by rw [List.reverse_cons, List.reverse_cons]; exact Paired.snoc (paired_rev t) r
abbrev gRv (α : Type) : List α → List α → List α := fun us ws => us ++ ws.reverse
theorem vals_app {vs us : List _} {zs ws : List _} (h1 : Vals vs us) (h2 : Vals zs ws) : Vals (gRv V vs zs) (gRv Value us ws) := h1.append (paired_rev h2)
structure CalR (P : Program) (w : World) (K : PySem.W.Frag) (mg : Str → Option Value) (base : Heap) (x : Str) (ps : List Str) (lv : Nat) (sp : Sp) : Prop where
  ex : ∃ f fd, FnOk P w K mg base CX0 lv f fd ps sp ∧ mg x = some (.ref f) ∧ PySem.W.keepIn K (.ref f) = true ∧ Binds K fd ps [] ∧ KBn K fd ps 0 ps.reverse (gRv Value) (gRv V)
section
variable {P : Program} {w : World} {K : PySem.W.Frag} {mg : Str → Option Value} {base : Heap} {x : Str} {st : Stmt} {N pn : List Str} {lv : Nat} {sp : Sp}
theorem CalR.c (C : CalR P w K mg base x pn lv sp) : Cal P w K mg base x pn lv sp := by
  obtain ⟨f, fd, h1, h2, h3, h4, _⟩ := C.ex
  exact ⟨f, fd, h1, h2, h3, h4⟩
def BindsR (st : Stmt) (x : Str) (pn : List Str) : Prop := ∀ (kV doc pm : Value) (an : Option Addr) (cdv ct : Value) (ws : List Value), ws.length = pn.length → bindArgs (PySem.W.fnOf x x (defArgs st) (defBody st) (defScope st) .none kV doc pm an cdv ct) ⟨[], pn.reverse.zip ws⟩ = pure (pn.zip ws.reverse)
theorem calR_of (D : Def K mg x st) (hb : BindsD st x pn) (hk : BindsR st x pn) (h : ∀ f fd, Fun K x x st f fd → FnOk P w K mg base CX0 lv f fd pn sp) : CalR P w K mg base x pn lv sp := by
  obtain ⟨f, fd, F, hm⟩ := D.ex
  refine ⟨f, fd, h f fd F, hm, F.kp, F.binds hb, ⟨fun s us ws _ l1 l2 => ?_, vals_app⟩⟩
  obtain ⟨oc, od, kV, doc, pm, an, cdv, ct, osl, rfl, lk, hcd⟩ := F.ex
  obtain rfl : us = [] := List.eq_nil_of_length_eq_zero l1
  exact .of_eq (hk kV doc pm an cdv ct ws (by rw [l2, List.length_reverse]))
end
section
variable {S : Stc} {Γ : Ctxt} {α β γ ρ : Type} {c1 : Cod α} {c2 : Cod β} {c3 : Cod γ} {cr : Cod ρ} {x : α} {y : β} {z : γ} {e1 e2 e3 : Expr} {pos pn k1 k2 k3 : Pos} {xn p1 p2 p3 : Str} {lv : Nat}
theorem poptE {k : Nat} (h : PD S Γ k e1 c1 (· = x)) : PD S Γ k e1 (cOpt c1) (· = some x) := TD.optE h
theorem poptL {k : Nat} {xs : List α} (h : PD S Γ k e1 (cList c1) (· = xs)) : PD S Γ k e1 (cList (cOpt c1)) (· = xs.map some) := TD.optL h
theorem pminLE {l : List (List Int)} {x : List Int} {xs : List (List Int)} (hl : l = x :: xs) (hg : S.sc.names.lookup ("min" : Str) = some .globalImplicit) (hmg : S.mg "min" = none) (h : PD S Γ 0 e1 (cList (cTup cInt)) (· = l)) (he : ∀ env : Env, starEach [e1] env = (false, eval e1 env) :: starEach [] env) : PD S Γ 0 (.Call (.Name "min" pn) [e1] [] pos) (cTup cInt) (· = minL x xs) := pminL hg hmg (by rw [← hl]; exact h) he
/-- f(p2 = e2, p1 = e1) -/
theorem pcalR2 {pre : α × β → Prop} {g : α × β → ρ} (C : CalR S.prog S.w S.K S.mg S.base xn [p1, p2] lv (spP (fun (a : α × β) => [.d c1 a.1, .d c2 a.2]) pre cr g)) (hl : lv ≤ S.lv) (hg : S.sc.names.lookup xn = some .globalImplicit) (h2 : PD S Γ 0 e2 c2 (· = y)) (h1 : PD S Γ 0 e1 c1 (· = x)) (hp : pre (x, y))
    (hall : ∀ env : Env, (backToKw pos (keywordEach [⟨some p2, e2, k2⟩, ⟨some p1, e1, k1⟩] env)).all (·.1.isSome) = true) (hks : ∀ env : Env, (backToKw pos (keywordEach [⟨some p2, e2, k2⟩, ⟨some p1, e1, k1⟩] env)).filterMap (·.1) = [p2, p1])
    (hpl : ∀ env : Env, ((backTo pos (starEach [] env)).any (·.1) || (backToKw pos (keywordEach [⟨some p2, e2, k2⟩, ⟨some p1, e1, k1⟩] env)).any (·.1.isNone)) = false) (hdb : (xn == ("__debug__" : Str)) = false := by decide) :
    PD S Γ 0 (.Call (.Name xn pn) [] [⟨some p2, e2, k2⟩, ⟨some p1, e1, k1⟩] pos) cr (· = g (x, y)) := by
  obtain ⟨f, fd, Fo, hm, hk, _, bd⟩ := C.ex
  exact pd_of (te := tCallN0 2 (spP (fun (a : α × β) => [.d c1 a.1, .d c2 a.2]) pre cr g) _ E0 (tCons (tE S e2) (tCons (tE S e1) tNil))) (fun X G => pe_callN0 (fnG Fo G) (G.room.mono hl) (glb G hg) (by rw [G.mg]; exact hm) (by rw [G.K]; exact hk) (by rw [G.K]; exact bd) pass0 (pk_cons (tE_ok G) (pk_cons (tE_ok G) pk_nil)) (hall _) (hks _) hdb (hpl _))
    fun O n σ Hf H hn s Q q => h2 O n σ Hf H hn s _ fun v1 Hf1 H1 y' py r1 f1 s1 => by
      subst py
      refine h1 O n σ Hf1 H1 hn s1 _ fun v2 Hf2 H2 x' px r2 f2 s2 => ?_
      subst px
      refine ⟨rfl, (x', y'), 0, n, Hf2, hp, hn, s2.ex, ⟨r2, c2.mono f2.ex r1, trivial⟩, fun w hw => by simp at hw, fun w Hf3 H3 u px r f3 ex3 _ => ?_⟩
      have f3' : Fr (fun _ => False) Hf2 H2 Hf3 H3 := f3.mono fun w hw => by simp at hw
      exact q w Hf3 H3 u px r ((f1.trans f2 fun _ z => .inl z).trans f3' fun _ z => z.elim) (s2.grow0 f3' ex3)
/-- f(p3 = e3, p2 = e2, p1 = e1) -/
theorem pcalR3 {pre : α × β × γ → Prop} {g : α × β × γ → ρ} (C : CalR S.prog S.w S.K S.mg S.base xn [p1, p2, p3] lv (spP (fun (a : α × β × γ) => [.d c1 a.1, .d c2 a.2.1, .d c3 a.2.2]) pre cr g)) (hl : lv ≤ S.lv) (hg : S.sc.names.lookup xn = some .globalImplicit) (h3 : PD S Γ 0 e3 c3 (· = z)) (h2 : PD S Γ 0 e2 c2 (· = y)) (h1 : PD S Γ 0 e1 c1 (· = x)) (hp : pre (x, y, z))
    (hall : ∀ env : Env, (backToKw pos (keywordEach [⟨some p3, e3, k3⟩, ⟨some p2, e2, k2⟩, ⟨some p1, e1, k1⟩] env)).all (·.1.isSome) = true) (hks : ∀ env : Env, (backToKw pos (keywordEach [⟨some p3, e3, k3⟩, ⟨some p2, e2, k2⟩, ⟨some p1, e1, k1⟩] env)).filterMap (·.1) = [p3, p2, p1])
    (hpl : ∀ env : Env, ((backTo pos (starEach [] env)).any (·.1) || (backToKw pos (keywordEach [⟨some p3, e3, k3⟩, ⟨some p2, e2, k2⟩, ⟨some p1, e1, k1⟩] env)).any (·.1.isNone)) = false) (hdb : (xn == ("__debug__" : Str)) = false := by decide) :
    PD S Γ 0 (.Call (.Name xn pn) [] [⟨some p3, e3, k3⟩, ⟨some p2, e2, k2⟩, ⟨some p1, e1, k1⟩] pos) cr (· = g (x, y, z)) := by
  obtain ⟨f, fd, Fo, hm, hk, _, bd⟩ := C.ex
  exact pd_of (te := tCallN0 3 (spP (fun (a : α × β × γ) => [.d c1 a.1, .d c2 a.2.1, .d c3 a.2.2]) pre cr g) _ E0 (tCons (tE S e3) (tCons (tE S e2) (tCons (tE S e1) tNil)))) (fun X G => pe_callN0 (fnG Fo G) (G.room.mono hl) (glb G hg) (by rw [G.mg]; exact hm) (by rw [G.K]; exact hk) (by rw [G.K]; exact bd) pass0 (pk_cons (tE_ok G) (pk_cons (tE_ok G) (pk_cons (tE_ok G) pk_nil))) (hall _) (hks _) hdb (hpl _))
    fun O n σ Hf H hn s Q q => h3 O n σ Hf H hn s _ fun v1 Hf1 H1 z' pz r1 f1 s1 => by
      subst pz
      refine h2 O n σ Hf1 H1 hn s1 _ fun v2 Hf2 H2 y' py r2 f2 s2 => ?_
      subst py
      refine h1 O n σ Hf2 H2 hn s2 _ fun v3 Hf3 H3 x' px r3 f3 s3 => ?_
      subst px
      refine ⟨rfl, (x', y', z'), 0, n, Hf3, hp, hn, s3.ex, ⟨r3, c2.mono f3.ex r2, c3.mono (f2.ex.trans f3.ex) r1, trivial⟩, fun w hw => by simp at hw, fun w Hf4 H4 u px r f4 ex4 _ => ?_⟩
      have f4' : Fr (fun _ => False) Hf3 H3 Hf4 H4 := f4.mono fun w hw => by simp at hw
      exact q w Hf4 H4 u px r (((f1.trans f2 fun _ z => .inl z).trans f3 fun _ z => .inl z).trans f4' fun _ z => z.elim) (s3.grow0 f4' ex4)
end
end DL

set_option Elab.async false
set_option linter.all false
set_option maxRecDepth 100000
set_option maxHeartbeats 4000000
namespace K07
open PySem PySem.Spec L2 DL
def dNew (y : List R3) : List (Int × Int) := dicOf (y.map fun x => (x.1, x.2.2))
def wrongD (y z : List R3) : List Int := (z.filter fun x => !decide ((valD (dNew y) x.1).getD x.2.1 = x.2.1)).map fun x => x.1
def rowsD (y z : List R3) : List R3 := (y.map fun x => (x.1, x.2.1, (valD (dNew z) x.1).getD x.2.2)) ++ (z.filter fun r => !(valD (dNew y) r.1).isSome)
def dOld (y : List R3) : List (Int × Int) := dicOf (y.map fun x => (x.1, x.2.1))
def canF (y z : List R3) : Bool := (z.map fun x => decide ((valD (dNew y) x.1).getD x.2.1 = x.2.1)).all id
def commL (y z : List R3) : Bool := if decide ((canF y z, canF z y) = (true, true)) = true then decide (sort3 (rowsD y z) = sort3 (rowsD z y)) else decide ((canF y z, canF z y) = (false, false))
def lfL (pl : List Int) (y : List R3) : List Int := (rangeL 0 pl.length).map fun p => (valD (dOld y) p).getD 0
section
variable {P : Program} {w : World} {K : PySem.W.Frag} {mg : Str → Option Value} {base : Heap} {C CB : Addr}
variable (U : Bt mg)
include U
abbrev P_thenM (C : Addr) : Sp := spP (fun (a : List R3 × List R3) => [.d (cCh C) a.1, .d (cCh C) a.2]) (fun a => wrongD a.1 a.2 = [] ∧ Rows (rowsD a.1 a.2)) (cCh C) (fun a => sort3 (rowsD a.1 a.2))
theorem ok_then {f : Addr} {fd : FuncData} (Fu : Fun K "then" "Change.then" (inCh 10) f fd) (T : TCh K mg C) (I_Change : ICal P w K mg base C ["self", "rows"] 5 (P_init C)) : FnOk P w K mg base CX0 7 f fd ["self", "other"] (P_thenM C) := by
  refine fn_D (N := ["self", "other", "reached", "wrong", "last", "rows", "place", "old", "new", "row"]) Fu ⟨rfl, rfl, rfl, by decide +kernel, rfl, by decide +kernel, by decide +kernel⟩ (fun _ _ => rfl) (by decide) (fun _ _ => trivial) fun b a hp => ?_
  refine HS.le (k := 0) ?_ (Nat.zero_le _)
  refine bifR (k1 := 0) (k2 := 0) (k3 := 0) (pdt_not (pdt_val (pisi rfl U.isinstance (pd_name (i := 1) rfl rfl (.inl rfl)) (nmOwn rfl T.k.mgC) (.own _) (ty_ins T.k.own) T.k.isC (fun _ => rfl)) (fun _ _ => rfl))) (fun h => ?_) fun h => ?_
  · exact absurd h (by decide)
  refine bset (k := 0) (k2 := 0) 2 (pdcN [("place", 6), ("old", 7), ("new", 8)] (pdi_tup (pd_rows T (pd_name (i := 0) rfl rfl (.inl rfl)) (fun _ => rfl))) trivial (by kernel_rfl) (fun _ _ => rfl) fun x hx => ⟨_, _, (pdg_t3 (pdg_name (i := 6) trivial rfl (.inl rfl) (.inr rfl)) (pdg_name (i := 7) trivial rfl (.inl rfl) (.inr rfl)) (pdg_name (i := 8) trivial rfl (.inl rfl) (.inr rfl)) (fun _ => rfl) (fun _ => rfl) (fun _ => rfl) (fun _ => rfl) (fun _ => rfl)), (fun _ h => h), ⟨(pd_name (i := 6) rfl rfl (.inl rfl)), (pd_name (i := 8) rfl rfl (.inl rfl))⟩⟩) trivial rfl (.inr rfl) (sw_cell rfl) (.inl rfl) ?_
  rintro _ rfl
  refine bsetLc (k := 0) (k2 := 0) 3 [("place", 6), ("old", 7), ("new", 8)] (tdf_lcT (pdi_tup (pd_rows T (pd_name (i := 1) rfl rfl (.inl rfl)) (fun _ => rfl))) trivial fun x hx => ⟨_, _, (pdg_t3 (pdg_name (i := 6) trivial rfl (.inl rfl) (.inr rfl)) (pdg_name (i := 7) trivial rfl (.inl rfl) (.inr rfl)) (pdg_name (i := 8) trivial rfl (.inl rfl) (.inr rfl)) (fun _ => rfl) (fun _ => rfl) (fun _ => rfl) (fun _ => rfl) (fun _ => rfl)), (fun _ h => h), (tts_one (tcmp (fun _ _ => op_ne) (pdget2 (pd_name (i := 2) rfl rfl (.inr (.inl rfl))) (pd_name (i := 6) rfl rfl (.inl rfl)) (pd_name (i := 7) rfl rfl (.inl rfl)) (fun _ => ⟨rfl, rfl, rfl, rfl⟩)) (pd_name (i := 7) rfl rfl (.inl rfl)) rd_neI (nomark _))), fun hq => (pd_name (i := 6) rfl rfl (.inl rfl))⟩) trivial rfl rfl rfl rfl rfl (by kernel_rfl) (fun _ _ => rfl) ?_
  rintro _ rfl
  refine bifR (k1 := 0) (k2 := 0) (k3 := 0) (tcmp (op_neDG rfl) (pd_name (i := 3) rfl rfl (.inl rfl)) (TDF.td (pdf_nil (c := cInt))) (rd_neD (eList eInt) (by decide)) (nomark _)) (fun h => ?_) fun h => ?_
  · have h2 : true = !decide (wrongD a.1 a.2 = []) := h
    rw [hp.1] at h2
    exact absurd h2 (by decide)
  refine bset (k := 0) (k2 := 0) 4 (pdcN [("place", 6), ("old", 7), ("new", 8)] (pdi_tup (pd_rows T (pd_name (i := 1) rfl rfl (.inl rfl)) (fun _ => rfl))) trivial (by kernel_rfl) (fun _ _ => rfl) fun x hx => ⟨_, _, (pdg_t3 (pdg_name (i := 6) trivial rfl (.inl rfl) (.inr rfl)) (pdg_name (i := 7) trivial rfl (.inl rfl) (.inr rfl)) (pdg_name (i := 8) trivial rfl (.inl rfl) (.inr rfl)) (fun _ => rfl) (fun _ => rfl) (fun _ => rfl) (fun _ => rfl) (fun _ => rfl)), (fun _ h => h), ⟨(pd_name (i := 6) rfl rfl (.inl rfl)), (pd_name (i := 8) rfl rfl (.inl rfl))⟩⟩) trivial rfl (.inr rfl) (sw_cell rfl) (.inl rfl) ?_
  rintro _ rfl
  refine bsetLc (k := 0) (k2 := 0) 5 [("place", 6), ("old", 7), ("new", 8)] (tdf_lcN (pdi_tup (pd_rows T (pd_name (i := 0) rfl rfl (.inl rfl)) (fun _ => rfl))) trivial fun x hx => ⟨_, _, (pdg_t3 (pdg_name (i := 6) trivial rfl (.inl rfl) (.inr rfl)) (pdg_name (i := 7) trivial rfl (.inl rfl) (.inr rfl)) (pdg_name (i := 8) trivial rfl (.inl rfl) (.inr rfl)) (fun _ => rfl) (fun _ => rfl) (fun _ => rfl) (fun _ => rfl) (fun _ => rfl)), (fun _ h => h), (pt3 (pd_name (i := 6) rfl rfl (.inl rfl)) (pd_name (i := 7) rfl rfl (.inl rfl)) (pdget2 (pd_name (i := 4) rfl rfl (.inr (.inl rfl))) (pd_name (i := 6) rfl rfl (.inl rfl)) (pd_name (i := 8) rfl rfl (.inl rfl)) (fun _ => ⟨rfl, rfl, rfl, rfl⟩)) (fun _ => rfl) (fun _ => rfl) (fun _ => rfl))⟩) trivial rfl rfl rfl rfl rfl (by kernel_rfl) (fun _ _ => rfl) ?_
  rintro _ rfl
  refine bret (pmkCh I_Change T (show (5 + 1 : Nat) ≤ 6 by decide) rfl (TDF.td (pstar2 (TD.seqL (pd_name (i := 5) rfl rfl (.inl rfl))) (TD.seqL (TDF.td (plcT [("row", 9)] (pdi_tup (pd_rows T (pd_name (i := 1) rfl rfl (.inl rfl)) (fun _ => rfl))) trivial (by kernel_rfl) (fun _ _ => rfl) fun x hx => ⟨_, _, (pdg_name (i := 9) trivial rfl (.inl rfl) (.inr rfl)), (fun _ h => h), (tts_one (ttnotinD (pix ixTG (pd_name (i := 9) rfl rfl (.inl rfl)) pd_int rd_ix3_0 (fun _ _ => rfl)) (pd_name (i := 2) rfl rfl (.inr (.inl rfl))) rfl)), fun hq => (pd_name (i := 9) rfl rfl (.inl rfl))⟩))) (fun _ => rfl) (fun _ => rfl) ?_)) ?_ (fun _ => rfl) (fun _ => rfl)) ?_
  · have h8 := hp.2.2.2
    unfold rowsD at h8
    rw [List.length_append] at h8
    rw [List.map_id']
    exact Nat.le_trans h8 (by decide)
  · rw [List.map_id']; exact hp.2
  · exact fun _ h => h.trans (by rw [List.map_id']; rfl)
theorem m_then (D : MDef K C "then" "Change.then" (inCh 10)) (T : TCh K mg C) (I_Change : ICal P w K mg base C ["self", "rows"] 5 (P_init C)) : MCal P w K mg base C "then" ["self", "other"] 7 (P_thenM C) :=
  mcal_of D (fun _ _ _ _ _ _ us hl => match us, hl with | [_, _], _ => rfl) fun f fd Fu => ok_then U Fu T I_Change
abbrev P_canF (C : Addr) : Sp := spP (fun (a : List R3 × List R3) => [.d (cCh C) a.1, .d (cCh C) a.2]) (fun _ => True) cBool (fun a => canF a.1 a.2)
theorem c_can (D : Def K mg "can_follow" (top 33)) (T : TCh K mg C) : Cal P w K mg base "can_follow" ["one", "other"] 1 (P_canF C) := by
  refine cal_D (N := ["one", "other", "reached", "place", "old", "new"]) D (fun _ _ _ _ _ _ us hl => match us, hl with | [_, _], _ => rfl) ⟨rfl, rfl, rfl, by decide +kernel, rfl, by decide +kernel, by decide +kernel⟩ (fun _ _ => rfl) (by decide) (fun _ _ => trivial) fun b a hp => ?_
  refine HS.le (k := 0) ?_ (Nat.zero_le _)
  refine bset (k := 0) (k2 := 0) 2 (pdcN [("place", 3), ("old", 4), ("new", 5)] (pdi_tup (pd_rows T (pd_name (i := 0) rfl rfl (.inl rfl)) (fun _ => rfl))) trivial (by kernel_rfl) (fun _ _ => rfl) fun x hx => ⟨_, _, (pdg_t3 (pdg_name (i := 3) trivial rfl (.inl rfl) (.inr rfl)) (pdg_name (i := 4) trivial rfl (.inl rfl) (.inr rfl)) (pdg_name (i := 5) trivial rfl (.inl rfl) (.inr rfl)) (fun _ => rfl) (fun _ => rfl) (fun _ => rfl) (fun _ => rfl) (fun _ => rfl)), (fun _ h => h), ⟨(pd_name (i := 3) rfl rfl (.inl rfl)), (pd_name (i := 5) rfl rfl (.inl rfl))⟩⟩) trivial rfl (.inr rfl) (sw_cell rfl) (.inl rfl) ?_
  rintro _ rfl
  exact bret (pall rfl U.all (TDF.td (plcN [("place", 3), ("old", 4), ("new", 5)] (pdi_tup (pd_rows T (pd_name (i := 1) rfl rfl (.inl rfl)) (fun _ => rfl))) trivial (by kernel_rfl) (fun _ _ => rfl) fun x hx => ⟨_, _, (pdg_t3 (pdg_name (i := 3) trivial rfl (.inl rfl) (.inr rfl)) (pdg_name (i := 4) trivial rfl (.inl rfl) (.inr rfl)) (pdg_name (i := 5) trivial rfl (.inl rfl) (.inr rfl)) (fun _ => rfl) (fun _ => rfl) (fun _ => rfl) (fun _ => rfl) (fun _ => rfl)), (fun _ h => h), (pcmp (fun _ _ => op_eq) (pdget2 (pd_name (i := 2) rfl rfl (.inr (.inl rfl))) (pd_name (i := 3) rfl rfl (.inl rfl)) (pd_name (i := 4) rfl rfl (.inl rfl)) (fun _ => ⟨rfl, rfl, rfl, rfl⟩)) (pd_name (i := 4) rfl rfl (.inl rfl)) rd_eqI (nomark _))⟩)) (fun _ => rfl)) fun _ h => h
omit U in
abbrev P_orders (C : Addr) : Sp := spP (fun (a : List R3 × List R3) => [.d (cCh C) a.1, .d (cCh C) a.2]) (fun _ => True) (cT2 cBool cBool) (fun a => (canF a.1 a.2, canF a.2 a.1))
omit U in
theorem c_orders (D : Def K mg "orders" (top 34)) (C_can : Cal P w K mg base "can_follow" ["one", "other"] 1 (P_canF C)) : CalR P w K mg base "orders" ["one", "other"] 2 (P_orders C) := by
  refine calR_of D (fun _ _ _ _ _ _ us hl => match us, hl with | [_, _], _ => rfl) (fun _ _ _ _ _ _ us hl => match us, hl with | [_, _], _ => rfl) fun f fd Fu => ?_
  refine fn_D (N := ["one", "other"]) Fu ⟨rfl, rfl, rfl, by decide +kernel, rfl, by decide +kernel, by decide +kernel⟩ (fun _ _ => rfl) (by decide) (fun _ _ => trivial) fun b a hp => ?_
  refine HS.le (k := 0) ?_ (Nat.zero_le _)
  exact bret (pt2 (pcal2 C_can (show (1 : Nat) ≤ 1 by decide) rfl (pd_name (i := 0) rfl rfl (.inl rfl)) (pd_name (i := 1) rfl rfl (.inl rfl)) trivial (fun _ => rfl) (fun _ => rfl) (fun _ => rfl)) (pcal2 C_can (show (1 : Nat) ≤ 1 by decide) rfl (pd_name (i := 1) rfl rfl (.inl rfl)) (pd_name (i := 0) rfl rfl (.inl rfl)) trivial (fun _ => rfl) (fun _ => rfl) (fun _ => rfl)) (fun _ => rfl) (fun _ => rfl)) fun _ h => h
def CanPre (a : List R3 × List R3) : Prop := canF a.1 a.2 = true → wrongD a.1 a.2 = [] ∧ Rows (rowsD a.1 a.2)
abbrev P_commute (C : Addr) : Sp := spP (fun (a : List R3 × List R3) => [.d (cCh C) a.1, .d (cCh C) a.2]) (fun a => CanPre a ∧ CanPre (a.2, a.1)) cBool (fun a => commL a.1 a.2)
omit U in
theorem c_commute (D : Def K mg "commute" (top 35)) (T : TCh K mg C) (C_orders : Cal P w K mg base "orders" ["one", "other"] 2 (P_orders C)) (M : MCal P w K mg base C "then" ["self", "other"] 7 (P_thenM C)) (E : EqA P w K mg base C 1 (P_eq C)) : CalR P w K mg base "commute" ["one", "other"] 8 (P_commute C) := by
  refine calR_of D (fun _ _ _ _ _ _ us hl => match us, hl with | [_, _], _ => rfl) (fun _ _ _ _ _ _ us hl => match us, hl with | [_, _], _ => rfl) fun f fd Fu => ?_
  refine fn_D (N := ["one", "other"]) Fu ⟨rfl, rfl, rfl, by decide +kernel, rfl, by decide +kernel, by decide +kernel⟩ (fun _ _ => rfl) (by decide) (fun _ _ => trivial) fun b a hp => ?_
  refine HS.le (k := 0 + 0 + 0) ?_ (Nat.zero_le _)
  have eb : ∀ t u : Bool, ∃ v : Bool, v = t ∧ True := fun t u => ⟨t, rfl, trivial⟩
  refine bifR (k1 := 0) (k2 := 0) (k3 := 0) (tcmp (op_eqDG rfl) (pcal2 C_orders (show (2 : Nat) ≤ 7 by decide) rfl (pd_name (i := 0) rfl rfl (.inl rfl)) (pd_name (i := 1) rfl rfl (.inl rfl)) trivial (fun _ => rfl) (fun _ => rfl) (fun _ => rfl)) (pt2 (c1 := cBool) (c2 := cBool) (x := true) (y := true) (pd_bool (i := true)) (pd_bool (i := true)) (fun _ => rfl) (fun _ => rfl)) (rd_eqD (eT2 eBool eBool) (by decide)) (nomark _)) (fun h => ?_) fun h => ?_
  · have h1 : (canF a.1 a.2, canF a.2 a.1) = (true, true) := of_decide_eq_true h.symm
    have h2 := congrArg Prod.fst h1
    have h3 := congrArg Prod.snd h1
    have p1 := hp.1 h2
    have p2 := hp.2 h3
    refine bret (peqO E (show (1 : Nat) ≤ 7 by decide) see_ins (pm1 M T.k.cl (show (7 : Nat) ≤ 7 by decide) (pd_name (i := 0) rfl rfl (.inl rfl)) (pd_name (i := 1) rfl rfl (.inl rfl)) (hno_Ch (by decide +kernel)) p1 (fun _ => rfl) (fun _ => rfl) (fun _ => rfl)) (pm1 M T.k.cl (show (7 : Nat) ≤ 7 by decide) (pd_name (i := 1) rfl rfl (.inl rfl)) (pd_name (i := 0) rfl rfl (.inl rfl)) (hno_Ch (by decide +kernel)) p2 (fun _ => rfl) (fun _ => rfl) (fun _ => rfl)) trivial (nomark _)) fun x e => ?_
    rw [e]
    show _ = commL a.1 a.2
    unfold commL
    rw [if_pos h.symm]
  · refine bret (pcmp (op_eqDG rfl) (pcal2 C_orders (show (2 : Nat) ≤ 7 by decide) rfl (pd_name (i := 0) rfl rfl (.inl rfl)) (pd_name (i := 1) rfl rfl (.inl rfl)) trivial (fun _ => rfl) (fun _ => rfl) (fun _ => rfl)) (pt2 (c1 := cBool) (c2 := cBool) (x := false) (y := false) (pd_bool (i := false)) (pd_bool (i := false)) (fun _ => rfl) (fun _ => rfl)) (rd_eqD (eT2 eBool eBool) (by decide)) (nomark _)) fun x e => ?_
    rw [e]
    show _ = commL a.1 a.2
    unfold commL
    rw [if_neg (by rw [← h]; decide)]
abbrev P_lf (C CB : Addr) : Sp := spP (fun (a : List Int × List R3) => [.d (cBk CB) a.1, .d (cCh C) a.2]) (fun a => a.1.length ≤ 8) (cTup cInt) (fun a => lfL a.1 a.2)
theorem c_least (D : Def K mg "least_fitting" (top 36)) (T : TCh K mg C) (TB : TBk K mg CB) (LB : LenA P w K mg base CB 1 (P_lenB CB)) : Cal P w K mg base "least_fitting" ["book", "change"] 3 (P_lf C CB) := by
  refine cal_D (N := ["book", "change", "olds", "place", "old", "new"]) D (fun _ _ _ _ _ _ us hl => match us, hl with | [_, _], _ => rfl) ⟨rfl, rfl, rfl, by decide +kernel, rfl, by decide +kernel, by decide +kernel⟩ (fun _ _ => rfl) (by decide) (fun _ _ => trivial) fun b a hp => ?_
  have hp : a.1.length ≤ 8 := hp
  refine HS.le (k := 0) ?_ (Nat.zero_le _)
  refine bset (k := 0) (k2 := 0) 2 (pdcN [("place", 3), ("old", 4), ("new", 5)] (pdi_tup (pd_rows T (pd_name (i := 1) rfl rfl (.inl rfl)) (fun _ => rfl))) trivial (by kernel_rfl) (fun _ _ => rfl) fun x hx => ⟨_, _, (pdg_t3 (pdg_name (i := 3) trivial rfl (.inl rfl) (.inr rfl)) (pdg_name (i := 4) trivial rfl (.inl rfl) (.inr rfl)) (pdg_name (i := 5) trivial rfl (.inl rfl) (.inr rfl)) (fun _ => rfl) (fun _ => rfl) (fun _ => rfl) (fun _ => rfl) (fun _ => rfl)), (fun _ h => h), ⟨(pd_name (i := 3) rfl rfl (.inl rfl)), (pd_name (i := 4) rfl rfl (.inl rfl))⟩⟩) trivial rfl (.inr rfl) (sw_cell rfl) (.inl rfl) ?_
  rintro _ rfl
  exact bret (ptuple rfl U.tuple (TD.seqL (TDF.td (plcN [("place", 3)] (prng1 rfl U.range (plenO LB (show (1 + 1 : Nat) ≤ 2 by decide) rfl U.len (pd_name (i := 0) rfl rfl (.inl rfl)) trivial (by omega) (fun _ => rfl)) (by omega) (fun _ => rfl)) trivial (by kernel_rfl) (fun _ _ => rfl) fun x hx => ⟨_, _, (pdg_name (i := 3) trivial rfl (.inl rfl) (.inr rfl)), (fun _ h => h), (pdget2 (pd_name (i := 2) rfl rfl (.inr (.inl rfl))) (pd_name (i := 3) rfl rfl (.inl rfl)) (pd_int (i := 0)) (fun _ => ⟨rfl, rfl, rfl, rfl⟩))⟩))) (fun _ => rfl)) fun _ h => h
end
end K07

set_option Elab.async false
set_option linter.all false
set_option maxRecDepth 100000
set_option maxHeartbeats 4000000
namespace K07
open PySem PySem.Spec L2 DL
abbrev sUn : Stmt := top 37
abbrev nUn : List Str := ["book", "one", "other", "change", "pairs", "first", "second"]
theorem scUn : FnScope nUn ["book", "one", "other"] (defScope sUn) := ⟨rfl, rfl, rfl, by decide +kernel, rfl, by decide +kernel, by decide +kernel⟩
def candL (pl : List Int) (y z : List R3) : List (List Int) := ([(y, z), (z, y)].filter fun p => canF p.1 p.2).map fun p => lfL pl (sort3 (rowsD p.1 p.2))
def unlikeL (pl : List Int) (y z : List R3) : Option (List Int) := if commL y z = true then none else match candL pl y z with | [] => none | x :: xs => some (minL x xs)
theorem cand_ne {pl : List Int} {y z : List R3} (h : commL y z = false) : ∃ x xs, candL pl y z = x :: xs := by
  unfold candL
  unfold commL at h
  cases e1 : canF y z with
  | true => exact ⟨lfL pl (sort3 (rowsD y z)), _, by rw [List.filter_cons_of_pos (by exact e1), List.map_cons]⟩
  | false =>
    cases e2 : canF z y with
    | true => exact ⟨lfL pl (sort3 (rowsD z y)), [], by rw [List.filter_cons_of_neg (by show ¬ canF y z = true; rw [e1]; decide), List.filter_cons_of_pos (by exact e2)]; rfl⟩
    | false => rw [e1, e2, if_neg (by decide)] at h; exact absurd h (by decide)
theorem unlike_some {pl : List Int} {y z : List R3} (h : commL y z = false) {x : List Int} {xs : List (List Int)} (e : candL pl y z = x :: xs) : unlikeL pl y z = some (minL x xs) := by
  unfold unlikeL
  rw [if_neg (by rw [h]; decide), e]
def OfB (pl : List Int) (y : List R3) : Prop := (∀ r ∈ y, 0 ≤ r.1) ∧ pl.length ≤ 8 ∧ isofL y pl = true
section
variable {P : Program} {w : World} {K : PySem.W.Frag} {mg : Str → Option Value} {base : Heap} {C CB : Addr}
variable (U : Bt mg)
include U
abbrev P_unlike (C CB : Addr) : Sp := spP (fun (a : List Int × List R3 × List R3) => [.d (cBk CB) a.1, .d (cCh C) a.2.1, .d (cCh C) a.2.2]) (fun a => OfB a.1 a.2.1 ∧ OfB a.1 a.2.2 ∧ CanPre (a.2.1, a.2.2) ∧ CanPre (a.2.2, a.2.1)) (cOpt (cTup cInt)) (fun a => unlikeL a.1 a.2.1 a.2.2)
theorem c_unlike (mm : mg "min" = none) (D : Def K mg "unlike_at" sUn) (T : TCh K mg C) (M : MBoth P w K mg base C "is_of" "book" 3 (P_isof C CB)) (Th : MCal P w K mg base C "then" ["self", "other"] 7 (P_thenM C)) (C_can : Cal P w K mg base "can_follow" ["one", "other"] 1 (P_canF C)) (C_comm : Cal P w K mg base "commute" ["one", "other"] 8 (P_commute C)) (C_least : Cal P w K mg base "least_fitting" ["book", "change"] 3 (P_lf C CB)) : CalR P w K mg base "unlike_at" ["book", "one", "other"] 9 (P_unlike C CB) := by
  refine calR_of D (fun _ _ _ _ _ _ us hl => match us, hl with | [_, _, _], _ => rfl) (fun _ _ _ _ _ _ us hl => match us, hl with | [_, _, _], _ => rfl) fun f fd Fu => ?_
  refine fn_D (N := nUn) Fu scUn (fun _ _ => rfl) (by decide) (fun _ _ => trivial) fun b a hp => ?_
  obtain ⟨pl, y, z⟩ := a
  obtain ⟨h1, h2, h3, h4⟩ := hp
  have h1 : OfB pl y := h1
  have h2 : OfB pl z := h2
  have h3 : CanPre (y, z) := h3
  have h4 : CanPre (z, y) := h4
  refine HS.ctx (Γ' := [.d (cBk CB) pl, .d (cCh C) y, .d (cCh C) z, .un, .un, .un, .un]) rfl ?_
  refine HS.le (k := 0 + 0 + 0) ?_ (Nat.zero_le _)
  refine bfor (k := 0) (kk := 0) (kn := 0) (k2 := 0) [3] (fun _ pre Γ => Γ = [.d (cBk CB) pl, .d (cCh C) y, .d (cCh C) z, .un, .un, .un, .un]) (pdi_tup (ptup (c := cCh C) (xs := [y, z]) (.cons (pd_name (i := 1) rfl rfl (.inl rfl)) (.cons (pd_name (i := 2) rfl rfl (.inl rfl)) .nil (fun _ => rfl)) (fun _ => rfl)) (by simp))) ?_ ?_ ?_ (fun _ _ => rfl) ?_
  · intro _ _; rfl
  · intro _ _; simp
  · intro xs exs pre x post Γ1 hx e
    subst xs
    subst e
    have hx1 : OfB pl x := by
      have : x ∈ [y, z] := by rw [hx]; simp
      rcases List.mem_cons.mp this with e | e
      · rw [e]; exact h1
      · rw [List.mem_singleton.mp e]; exact h2
    refine ⟨_, _, (pdg_name (i := 3) trivial rfl (.inl rfl) (.inl rfl)), ?_⟩
    refine HS.ctx (Γ' := [.d (cBk CB) pl, .d (cCh C) y, .d (cCh C) z, .d (cCh C) x, .un, .un, .un]) rfl ?_
    refine HS.le (k := 0 + 0 + 0) ?_ (Nat.zero_le _)
    refine bifR (k1 := 0) (k2 := 0) (k3 := 0) (pdt_w (tor (pdt_not (pdt_val (pisi rfl U.isinstance (pd_name (i := 3) rfl rfl (.inl rfl)) (nmOwn rfl T.k.mgC) (.own _) (ty_ins T.k.own) T.k.isC (fun _ => rfl)) (fun _ _ => rfl))) fun _ => (pdw_or1 (pdt_not (pdt_val (pm1 M.p T.k.cl (show (3 : Nat) ≤ 8 by decide) (pd_name (i := 3) rfl rfl (.inl rfl)) (pd_name (i := 0) rfl rfl (.inr (.inl rfl))) (hno_Ch (by decide +kernel)) ⟨hx1.1, hx1.2.1⟩ (fun _ => rfl) (fun _ => rfl) (fun _ => rfl)) (fun _ _ => rfl)))))) (fun h => ?_) fun h => ?_
    · exfalso
      have h5 : true = (!true || !isofL x pl) := h
      rw [hx1.2.2] at h5
      exact absurd h5 (by decide)
    · exact phs_nil ⟨trivial, rfl⟩
  · intro xs Γ1 exs e
    subst xs
    subst e
    refine HS.ctx (Γ' := [.d (cBk CB) pl, .d (cCh C) y, .d (cCh C) z, .un, .un, .un, .un]) rfl ?_
    refine bifR (k1 := 0) (k2 := 0) (k3 := 0) (pdt_val (pcal2 C_comm (show (8 : Nat) ≤ 8 by decide) rfl (pd_name (i := 1) rfl rfl (.inl rfl)) (pd_name (i := 2) rfl rfl (.inl rfl)) ⟨h3, h4⟩ (fun _ => rfl) (fun _ => rfl) (fun _ => rfl)) (fun _ _ => rfl)) (fun h => ?_) fun h => ?_
    · have h5 : commL y z = true := h.symm
      refine bret (pnoneO (c := cTup cInt)) fun x e => ?_
      rw [e]
      show none = unlikeL pl y z
      unfold unlikeL
      rw [if_pos h5]
    · have h5 : commL y z = false := h.symm
      obtain ⟨x, xs, e⟩ := cand_ne (pl := pl) h5
      refine bset (k := 0) (k2 := 0) 4 (TDF.td (plst (c := cT2 (cCh C) (cCh C)) (xs := [(y, z), (z, y)]) (.cons (pt2 (pd_name (i := 1) rfl rfl (.inl rfl)) (pd_name (i := 2) rfl rfl (.inl rfl)) (fun _ => rfl) (fun _ => rfl)) (.cons (pt2 (pd_name (i := 2) rfl rfl (.inl rfl)) (pd_name (i := 1) rfl rfl (.inl rfl)) (fun _ => rfl) (fun _ => rfl)) .nil (fun _ => rfl)) (fun _ => rfl)) (by simp))) trivial rfl (.inl rfl) (fun _ _ => rfl) (.inl rfl) ?_
      intro ps eps
      subst ps
      refine HS.ctx (Γ' := [.d (cBk CB) pl, .d (cCh C) y, .d (cCh C) z, .un, .d (cList (cT2 (cCh C) (cCh C))) [(y, z), (z, y)], .un, .un]) rfl ?_
      have e9 : ([(y, z), (z, y)].filter fun p => canF p.1 p.2).map (fun p => lfL pl (sort3 (rowsD p.1 p.2))) = x :: xs := e
      refine bret (poptE (pminLE (x := x) (xs := xs) e9 rfl mm (TDF.td ?hl) (fun _ => rfl))) fun o ho => ho.trans (unlike_some h5 e).symm
      refine (plcT (f := fun p : List R3 × List R3 => lfL pl (sort3 (rowsD p.1 p.2))) (q := fun p => canF p.1 p.2) [("first", 5), ("second", 6)] (pdi_list (pd_name (i := 4) rfl rfl (.inl rfl))) trivial (by kernel_rfl) (fun _ _ => rfl) fun p hp => ⟨_, _, (pdg_t2 (pdg_name (i := 5) trivial rfl (.inl rfl) (.inr rfl)) (pdg_name (i := 6) trivial rfl (.inl rfl) (.inr rfl)) (fun _ => rfl) (fun _ => rfl) (fun _ => rfl) (fun _ => rfl)), (fun _ h => h), (tts_one (pdt_val (pcal2 (x := p.1) (y := p.2) (g := fun a : List R3 × List R3 => canF a.1 a.2) C_can (show (1 : Nat) ≤ 8 by decide) rfl (pd_name (i := 5) rfl rfl (.inl rfl)) (pd_name (i := 6) rfl rfl (.inl rfl)) trivial (fun _ => rfl) (fun _ => rfl) (fun _ => rfl)) (fun _ _ => rfl))), fun hq => (pcal2 (x := pl) (y := sort3 (rowsD p.1 p.2)) (g := fun a : List Int × List R3 => lfL a.1 a.2) C_least (show (3 : Nat) ≤ 8 by decide) rfl (pd_name (i := 0) rfl rfl (.inr (.inl rfl))) (pm1 (y := p.1) (z := p.2) (g := fun a : List R3 × List R3 => sort3 (rowsD a.1 a.2)) Th T.k.cl (show (7 : Nat) ≤ 8 by decide) (pd_name (i := 5) rfl rfl (.inl rfl)) (pd_name (i := 6) rfl rfl (.inl rfl)) (hno_Ch (by decide +kernel)) ?_ (fun _ => rfl) (fun _ => rfl) (fun _ => rfl)) h1.2.1 (fun _ => rfl) (fun _ => rfl) (fun _ => rfl))⟩)
      rcases List.mem_cons.mp hp with q | q
      · subst q; exact h3 hq
      · rw [List.mem_singleton.mp q] at hq ⊢; exact h4 hq
end
end K07

set_option Elab.async false
set_option linter.all false
set_option maxRecDepth 100000
set_option maxHeartbeats 4000000
namespace K07
open PySem PySem.Spec L2 DL
abbrev sTake : Stmt := top 41
abbrev nTake : List Str := ["box", "many", "digit", "mixed"]
theorem scTake : FnScope nTake ["box", "many"] (defScope sTake) := ⟨rfl, rfl, rfl, by decide +kernel, rfl, by decide +kernel, by decide +kernel⟩
section
variable {P : Program} {w : World} {K : PySem.W.Frag} {mg : Str → Option Value} {base : Heap}
abbrev spTake : Sp := spD (fun b (many : Int) => [.bx b, .d cInt many]) (fun _ => 1) (fun many => 0 < many ∧ many < 1073741824) cInt (fun many x => 0 ≤ x ∧ x < many)
theorem ok_take {f : Addr} {fd : FuncData} (F : Fun K "_law_take" "_law_take" sTake f fd) (mI : mg "int" = none) : FnOk P w K mg base CX0 1 f fd ["box", "many"] spTake := by
  refine F.ok scTake (fun vs H Q E h => ?_) (fun cdv A outer s H vs Q E hr h => ?_)
  · obtain ⟨a, b, n, Hf, _, _, _, o, _⟩ := h
    exact argsOk_len o
  · obtain ⟨many, b, n, Hf, ⟨m0, m1⟩, hn, ex, o, bx, q⟩ := h
    obtain ⟨hb0, g, big, m, c, hb, h1, h2, h3, h4⟩ := bx b (by simp)
    obtain ⟨v1, v2, rfl, rfl, rfl⟩ : ∃ v1 v2, vs = [v1, v2] ∧ v1 = .ref b ∧ v2 = .int many := by
      match vs, o with
      | [v1, v2], o => exact ⟨v1, v2, rfl, o.1, o.2.1⟩
    have fin : ∀ (x g' c' : Int), 0 ≤ x → x < many → 0 ≤ c' → c' ≤ c + 1 → Q (.int x) (upd H b (.lst [.int g', .bl big, .int m, .int c'])) := fun x g' c' x0 x1 c0 c1 => by
      have nb : Hf b = none := hb0
      refine q _ Hf _ x ⟨x0, x1⟩ rfl ⟨Ex.rfl', fun a o e ne => ?_, fun a o e ne z => z, fun a e => ?_⟩ (ex.mut nb) fun z hz => ?_
      · rw [upd_ne (fun z => ne (by subst z; simp))]; exact e
      · by_cases z : a = b
        · subst z; rw [upd_same] at e; cases e
        · rw [upd_ne z] at e; exact e
      · have : z = b := by simpa using hz
        subst this
        exact ⟨nb, g', big, m, c', upd_same, h1, h2, c0, by show c' ≤ ((n + 1 : Nat) : Int); omega⟩
    refine ⟨_, pss_cons (ps_if (PW.pt (pw_and (pt_val (pe_ix ix_list (pv 0) pe_int (fun _ _ => rfl))) (pw_and1 (pt_cmpR op_gt (pe_ix ix_list (pv 0) pe_int (fun _ _ => rfl)) pe_int (nomark _)))))
        (pss_cons (ps_set (i := 2) scTake.nd rfl (.inl rfl) (pe_op op_mod (pe_callTy call_int1 (by rfl) mI (by decide +kernel) (pa_cons (pe_ix ix_list (pv 0) pe_int (fun _ _ => rfl)) pa_nil)) (pv 1)))
        (pss_cons (ps_asg (pe_op op_fdiv (pe_ix ix_list (pv 0) pe_int (fun _ _ => rfl)) (pv 1)) (pg_sub (pv 0) pe_int set_list))
        (pss_one (ps_ret (pv 2))))) pss_nil)
      (pss_cons (ps_asg (pe_op op_add (pe_ix ix_list (pv 0) pe_int (fun _ _ => rfl)) pe_int) (pg_sub (pv 0) pe_int set_list))
      (pss_cons (ps_set (i := 3) scTake.nd rfl (.inl rfl) (pe_op op_mod (pe_callTy call_int1 (by rfl) mI (by decide +kernel) (pa_cons (pe_op op_pow (pe_op op_add (pe_op op_add (pe_ix ix_list (pv 0) pe_int (fun _ _ => rfl)) (pe_op op_mul pe_int (pe_ix ix_list (pv 0) pe_int (fun _ _ => rfl)))) pe_int) pe_int) pa_nil)) pe_int))
      (pss_one (ps_ret (pe_op op_mod (pe_op op_fdiv (pe_op op_mod (pe_callTy call_int1 (by rfl) mI (by decide +kernel) (pa_cons (pe_op op_pow (pe_op op_add (pe_op op_mul (pv 3) pe_int) (pe_op op_mul pe_int (pe_ix ix_list (pv 0) pe_int (fun _ _ => rfl)))) pe_int) pa_nil)) pe_int) pe_int) (pv 1)))))), ?_⟩
    have hn' : n + 1 ≤ 8589934592 := hn
    -- the rest, where no digit is left
    refine ⟨.ref b, rfl, b, _, 1, .bl big, rfl, rfl, SqL.of hb, rfl, big, rfl, ?_⟩
    have alt : ∀ {A B C : Prop}, (big = false → C) → (big = true → B) → (if big = true then B else C) := fun {A B C} hC hB => by
      cases big with
      | true => exact iteT (hB rfl)
      | false => exact iteF (hC rfl)
    refine alt (A := True) (fun eb => iteF ?r1) fun eb => ?r2
    rotate_left
    refine ⟨.ref b, rfl, b, _, 0, .int g, rfl, rfl, SqL.of hb, rfl, g, 0, rfl, rfl, _, rfl, ?_⟩
    refine ite2 (fun hg => ?_) fun _ => ?r3
    · refine ⟨.ref b, rfl, b, _, 0, .int g, rfl, rfl, SqL.of hb, rfl, .inl ⟨g, rfl, .int many, rfl, g, many, rfl, rfl, m0, ?_⟩⟩
      refine ⟨.ref b, rfl, b, _, 0, .int g, rfl, rfl, SqL.of hb, rfl, .int many, rfl, g, many, rfl, rfl, ⟨m0, m1⟩, .ref b, rfl, b, _, 0, 0, rfl, rfl, hb, rfl, ?_⟩
      exact ⟨_, rfl, fin _ (g / many) c (Int.emod_nonneg _ (by omega)) (Int.emod_lt_of_pos _ m0) h3 (by omega)⟩
    all_goals
        refine ⟨.ref b, rfl, b, _, 3, .int c, rfl, rfl, SqL.of hb, rfl, c, 1, rfl, rfl, ?_⟩
        refine ⟨.ref b, rfl, b, _, 3, 3, rfl, rfl, hb, rfl, ?_⟩
        have hb2 : (upd H b (.lst [.int g, .bl big, .int m, .int (c + 1)])) b = some (.lst [.int g, .bl big, .int m, .int (c + 1)]) := upd_same
        refine ⟨.ref b, rfl, b, _, 2, .int m, rfl, rfl, SqL.of hb2, rfl, .ref b, rfl, b, _, 3, .int (c + 1), rfl, rfl, SqL.of hb2, rfl, 15485863, c + 1, rfl, rfl, .inl ⟨by decide, by decide⟩, m, 15485863 * (c + 1), rfl, rfl, _, 179424691, rfl, rfl, _, 5, rfl, rfl, ⟨by decide, by decide, ?_⟩, .inl ⟨_, rfl, ?_⟩⟩
        · have : m + 15485863 * (c + 1) + 179424691 < 18446744073709551616 := by omega
          have : 0 ≤ m + 15485863 * (c + 1) + 179424691 := by omega
          omega
        refine ⟨_, 2147483647, rfl, rfl, (show (0 : Int) < 2147483647 by decide), ?_⟩
        have M0 : 0 ≤ ((m + 15485863 * (c + 1) + 179424691) ^ (5 : Int).toNat) % 2147483647 := Int.emod_nonneg _ (by decide)
        have M1 : ((m + 15485863 * (c + 1) + 179424691) ^ (5 : Int).toNat) % 2147483647 < 2147483647 := Int.emod_lt_of_pos _ (by decide)
        refine ⟨_, rfl, _, 48271, rfl, rfl, .inl ⟨Int.lt_of_lt_of_le (by decide) M0, Int.lt_trans M1 (by decide)⟩, .ref b, rfl, b, _, 3, .int (c + 1), rfl, rfl, SqL.of hb2, rfl, 7927, c + 1, rfl, rfl, .inl ⟨by decide, by decide⟩, _, 7927 * (c + 1), rfl, rfl, _, 3, rfl, rfl, ⟨by decide, by decide, ?_⟩, .inl ⟨_, rfl, ?_⟩⟩
        · generalize ((m + 15485863 * (c + 1) + 179424691) ^ (5 : Int).toNat) % 2147483647 = M at M0 M1 ⊢
          omega
        refine ⟨_, 2147483587, rfl, rfl, (show (0 : Int) < 2147483587 by decide), _, 64, rfl, rfl, ⟨by decide, by decide⟩, .int many, rfl, _, many, rfl, rfl, m0, ?_⟩
        exact fin _ g (c + 1) (Int.emod_nonneg _ (by omega)) (Int.emod_lt_of_pos _ m0) (by omega) (by omega)
end
end K07

set_option Elab.async false
set_option linter.all false
set_option maxRecDepth 100000
set_option maxHeartbeats 4000000
namespace K07
open PySem PySem.Spec L2 DL
/-! ### the law's own plain functions -/
def stepL (ws : List Int) (found : List (List Int)) : List (List Int) := found.flatMap fun row => ws.map fun x => row ++ [x]
theorem stepL_snoc (ws : List Int) (pre : List (List Int)) (row : List Int) : stepL ws (pre ++ [row]) = stepL ws pre ++ ws.map fun x => row ++ [x] := by unfold stepL; rw [List.flatMap_append]; simp
def textsP (parts : List (List Int)) : List (List Int) := parts.foldl (fun found ws => stepL ws found) [[]]
theorem textsP_snoc (pre : List (List Int)) (ws : List Int) : textsP (pre ++ [ws]) = stepL ws (textsP pre) := by unfold textsP; rw [List.foldl_append]; rfl
theorem stepL_len (ws : List Int) : ∀ found : List (List Int), (stepL ws found).length = found.length * ws.length
  | [] => by simp [stepL]
  | f :: fs => by
    have := stepL_len ws fs
    unfold stepL at this ⊢
    rw [List.flatMap_cons, List.length_append, this, List.length_map, List.length_cons, Nat.add_mul, Nat.one_mul, Nat.add_comm]
def szP (parts : List (List Int)) : Nat := parts.foldl (fun n ws => n * ws.length) 1
theorem szP_snoc (pre : List (List Int)) (ws : List Int) : szP (pre ++ [ws]) = szP pre * ws.length := by unfold szP; rw [List.foldl_append]; rfl
theorem sz_go : ∀ (post : List (List Int)) (n : Nat), (∀ ws ∈ post, 1 ≤ ws.length) → n ≤ post.foldl (fun n ws => n * ws.length) n
  | [], n, _ => Nat.le_refl _
  | ws :: r, n, h => by
    rw [List.foldl_cons]
    exact Nat.le_trans (Nat.le_mul_of_pos_right n (h ws List.mem_cons_self)) (sz_go r _ fun x hx => h x (List.mem_cons_of_mem _ hx))
theorem szP_pre {pre post : List (List Int)} (h : ∀ ws ∈ post, 1 ≤ ws.length) : szP pre ≤ szP (pre ++ post) := by
  unfold szP; rw [List.foldl_append]; exact sz_go post _ h
theorem textsP_len (parts : List (List Int)) : (textsP parts).length = szP parts := by
  suffices ∀ l : List (List Int), (textsP l.reverse).length = szP l.reverse by have := this parts.reverse; rwa [List.reverse_reverse] at this
  intro l
  induction l with
  | nil => rfl
  | cons w l ih => rw [List.reverse_cons, textsP_snoc, szP_snoc, stepL_len, ih]
theorem stepL_row (ws : List Int) {n : Nat} {found : List (List Int)} (h : ∀ row ∈ found, row.length = n) : ∀ row ∈ stepL ws found, row.length = n + 1 := fun r hr => by
  unfold stepL at hr
  obtain ⟨y, hy, hx⟩ := List.mem_flatMap.mp hr
  obtain ⟨x, _, rfl⟩ := List.mem_map.mp hx
  rw [List.length_append, h y hy]; rfl
theorem textsP_row (parts : List (List Int)) : ∀ row ∈ textsP parts, row.length = parts.length := by
  suffices ∀ l : List (List Int), ∀ row ∈ textsP l.reverse, row.length = l.length by have := this parts.reverse; rwa [List.reverse_reverse, List.length_reverse] at this
  intro l
  induction l with
  | nil => intro row h; rw [List.mem_singleton.mp (show row ∈ [[]] from h)]; rfl
  | cons w l ih => rw [List.reverse_cons, textsP_snoc]; exact stepL_row w ih
def PtOk (parts : List (List Int)) : Prop := parts.length ≤ 8 ∧ (∀ ws ∈ parts, 1 ≤ ws.length) ∧ szP parts ≤ 1000
def oldsL (rs : List R3) (p : Int) : List Int := (rs.filter fun r => decide (r.1 = p)).map fun r => r.2.1
def fewL (rs : List R3) : Bool := decide (((asc (rs.map fun r => r.1)).length : Int) < 5)
def spareL (rs : List R3) (s p : Int) : List Int := if decide (oldsL rs p = []) = true then [0] else (List.replicate (if fewL rs = true then 1 else 0 : Int).toNat [0, s - 1]).flatten
def partL (rs : List R3) (sz : List Int) (p : Int) : List Int := asc (oldsL rs p ++ spareL rs (atT sz p) p)
def countL (sz : List Int) (ps : List Int) : Int := ps.foldl (fun c p => c * atT sz p) 1
theorem countL_snoc (sz pre : List Int) (p : Int) : countL sz (pre ++ [p]) = countL sz pre * atT sz p := by unfold countL; rw [List.foldl_append]; rfl
def partsL (sz : List Int) (rs : List R3) : List (List Int) := if decide (countL sz (rangeL 0 sz.length) ≤ 81) = true then sz.map fun s => rangeL 0 s.toNat else (rangeL 0 sz.length).map (partL rs sz)
def behL (rows more : List R3) (text : List Int) : Option (List Int) := if (!decide (missL rows text = [])) = true then none else if decide (missL more (doneL rows text) = []) = true then some (doneL more (doneL rows text)) else none
theorem sz_at {pl : List Int} (h : Pl pl) {p : Int} (hp : 0 ≤ p ∧ p < (pl.length : Int)) : 2 ≤ atT pl p ∧ atT pl p ≤ 6 := by
  have e : atT pl p = pl[p.toNat]'(by omega) := by
    show pl.getD _ _ = _
    rw [List.getD_eq_getElem?_getD, List.getElem?_eq_getElem (by omega)]; rfl
  rw [e]
  exact h.2 _ (List.getElem_mem _)
theorem rng_mem {n : Nat} {p : Int} : p ∈ rangeL 0 n ↔ 0 ≤ p ∧ p < (n : Int) := by
  unfold rangeL
  constructor
  · intro h
    obtain ⟨i, hi, e⟩ := List.mem_map.mp h
    have := List.mem_range.mp hi
    omega
  · intro h
    exact List.mem_map.mpr ⟨p.toNat, List.mem_range.mpr (by omega), by omega⟩
theorem spare_len (rs : List R3) (s p : Int) : (spareL rs s p).length ≤ 2 := by
  unfold spareL
  split
  · decide
  · cases fewL rs <;> simp
section
variable {P : Program} {w : World} {K : PySem.W.Frag} {mg : Str → Option Value} {base : Heap}
variable (U : Bt mg)
include U
abbrev nTexts : List Str := ["sizes", "wordings", "found", "part", "longer", "text", "wording"]
abbrev P_texts : Sp := spP (fun (a : List Int × List (List Int)) => [.d (cList cInt) a.1, .d (cList (cList cInt)) a.2]) (fun a => PtOk a.2) (cList (cTup cInt)) (fun a => textsP a.2)
theorem c_texts (D : Def K mg "_law_texts" (top 43)) : Cal P w K mg base "_law_texts" ["sizes", "wordings"] 1 P_texts := by
  refine cal_D (N := nTexts) D (fun _ _ _ _ _ _ us hl => match us, hl with | [_, _], _ => rfl) ⟨rfl, rfl, rfl, by decide +kernel, rfl, by decide +kernel, by decide +kernel⟩ (fun _ _ => rfl) (by decide) (fun _ _ => trivial) fun b a hp => ?_
  obtain ⟨sz, a⟩ := a
  obtain ⟨h8, h1, hz⟩ := hp
  have h8 : a.length ≤ 8 := h8
  have h1 : ∀ ws ∈ a, 1 ≤ ws.length := h1
  have hz : szP a ≤ 1000 := hz
  refine HS.le (k := 0) ?_ (Nat.zero_le _)
  refine bset (k := 0) (k2 := 0) 2 (TDF.td (plst (xs := [[]]) (.cons (ptup (c := cInt) .nil (by simp)) .nil (fun _ => rfl)) (by simp))) trivial rfl (.inl rfl) (fun _ _ => rfl) (.inl rfl) ?_
  intro x0 e0
  subst x0
  refine bfor (k := 0) (kk := 0) (kn := 0) (k2 := 0) [3, 4, 5] (fun _ pre Γ => Γ = [.d (cList cInt) sz, .d (cList (cList cInt)) a, .d (cList (cTup cInt)) (textsP pre), .un, .un, .un, .un]) (pdi_list (pd_name (i := 1) rfl rfl (.inl rfl))) ?_ ?_ ?_ (fun _ _ => rfl) ?_
  · intro _ _; rfl
  · intro _ _; simp
  · intro xs exs pre ws post Γ1 hx e
    have exs : xs = a := exs
    subst xs
    subst e
    have hx : a = pre ++ ws :: post := hx
    have hw := h1 ws (by rw [hx]; simp)
    have hpl : pre.length < 8 := by have := congrArg List.length hx; rw [List.length_append, List.length_cons] at this; omega
    have hn : (textsP pre).length ≤ 1000 := by
      rw [textsP_len]
      refine Nat.le_trans (szP_pre (post := ws :: post) fun x hxx => h1 x (by rw [hx]; exact List.mem_append_right _ hxx)) ?_
      rw [← hx]; exact hz
    have hn2 : (textsP pre).length * ws.length ≤ 1000 := by
      rw [textsP_len, ← szP_snoc]
      refine Nat.le_trans (szP_pre (pre := pre ++ [ws]) (post := post) fun x hxx => h1 x (by rw [hx]; exact List.mem_append_right _ (List.mem_cons_of_mem _ hxx))) ?_
      rw [List.append_assoc, List.singleton_append, ← hx]; exact hz
    refine ⟨_, _, (pdg_name (i := 3) trivial rfl (.inl rfl) (.inl rfl)), ?_⟩
    refine bset (k := 0) (k2 := 0) 4 (TDF.td (pdf_nil (c := cTup cInt))) trivial rfl (.inl rfl) (fun _ _ => rfl) (.inl rfl) ?_
    intro x1 e1
    subst x1
    refine bfor (k := 0) (kk := 0) (kn := 0) (k2 := 0) [5] (fun _ pre3 Γ => Γ = [.d (cList cInt) sz, .d (cList (cList cInt)) a, .d (cList (cTup cInt)) (textsP pre), .d (cList cInt) ws, .d (cList (cTup cInt)) (stepL ws pre3), .un, .un]) (pdi_list (pd_name (i := 2) rfl rfl (.inl rfl))) ?_ ?_ ?_ (fun _ _ => rfl) ?_
    · intro _ _; rfl
    · intro _ _; simp
    · intro xs exs pre3 row post3 Γ1 hx4 e
      have exs : xs = textsP pre := exs
      subst xs
      subst e
      have hr1 := textsP_row pre row (by rw [hx4]; simp)
      have hr2 := stepL_len ws pre3
      have hr3 := congrArg List.length hx4
      rw [List.length_append, List.length_cons] at hr3
      have hr4 : pre3.length * ws.length + ws.length ≤ 1000 := by
        refine Nat.le_trans ?_ hn2
        rw [hr3]
        have : (pre3.length + 1) * ws.length ≤ (pre3.length + (post3.length + 1)) * ws.length := Nat.mul_le_mul_right _ (by omega)
        rwa [Nat.add_mul, Nat.one_mul] at this
      refine ⟨_, _, (pdg_name (i := 5) trivial rfl (.inr rfl) (.inl rfl)), ?_⟩
      refine bset (k := 0) (k2 := 0) 4 (TDF.td (pcat (pd_name (i := 4) rfl rfl (.inl rfl)) (TDF.td (plcN [("wording", 6)] (pdi_list (pd_name (i := 3) rfl rfl (.inl rfl))) trivial (by kernel_rfl) (fun _ _ => rfl) fun x hx => ⟨_, _, (pdg_name (i := 6) trivial rfl (.inl rfl) (.inr rfl)), (fun _ h => h), (pbin catTG (pd_name (i := 5) rfl rfl (.inr (.inl rfl))) (ptup (.cons (pd_name (i := 6) rfl rfl (.inl rfl)) .nil (fun _ => rfl)) (by simp)) (rd_catT ?_))⟩)) ?_)) trivial rfl (.inl rfl) (fun _ _ => rfl) (.inl rfl) ?_
      · show row.length + 1 ≤ LB; unfold LB; omega
      · rw [List.length_map]; unfold LB; omega
      · intro x2 e2
        subst x2
        exact phs_nil ⟨trivial, by rw [stepL_snoc]; rfl⟩
    · intro xs Γ1 exs e
      have exs : xs = textsP pre := exs
      subst xs
      subst e
      refine bset (k := 0) (k2 := 0) 2 (pd_name (i := 4) rfl rfl (.inl rfl)) trivial rfl (.inl rfl) (fun _ _ => rfl) (.inl rfl) ?_
      intro x2 e2
      subst x2
      exact phs_nil ⟨trivial, by rw [textsP_snoc]; rfl⟩
  · intro xs Γ1 exs e
    have exs : xs = a := exs
    subst xs
    subst e
    exact bret (pd_name (i := 2) rfl rfl (.inl rfl)) fun _ h => h
omit U in
abbrev P_fitsL : Sp := spP (fun (a : List R3 × List Int) => [.d (cList cI3) a.1, .d (cTup cInt) a.2]) (fun a => InN a.1 a.2.length) cBool (fun a => decide (missL a.1 a.2 = []))
omit U in
theorem c_fits (D : Def K mg "_law_fits" (top 45)) : Cal P w K mg base "_law_fits" ["rows", "text"] 1 P_fitsL := by
  refine cal_D (N := ["rows", "text", "row"]) D (fun _ _ _ _ _ _ us hl => match us, hl with | [_, _], _ => rfl) ⟨rfl, rfl, rfl, by decide +kernel, rfl, by decide +kernel, by decide +kernel⟩ (fun _ _ => rfl) (by decide) (fun _ _ => trivial) fun b a hp => ?_
  refine bret (pcmp (op_eqDG rfl) (TDF.td (plcT [("row", 2)] (pdi_list (pd_name (i := 0) rfl rfl (.inl rfl))) trivial (by kernel_rfl) (fun _ _ => rfl) fun x hx => ⟨_, _, (pdg_name (i := 2) trivial rfl (.inl rfl) (.inr rfl)), (fun _ h => h), (tts_one (tcmp (fun _ _ => op_ne) (pix ixTG (pd_name (i := 1) rfl rfl (.inr (.inl rfl))) (pix ixTG (pd_name (i := 2) rfl rfl (.inl rfl)) pd_int rd_ix3_0 (fun _ _ => rfl)) (rd_ixTd ?_) (fun _ _ => rfl)) (pix ixTG (pd_name (i := 2) rfl rfl (.inl rfl)) pd_int rd_ix3_1 (fun _ _ => rfl)) rd_neI (nomark _))), fun hq => (pd_name (i := 2) rfl rfl (.inl rfl))⟩)) (TDF.td (pdf_nil (c := cI3))) (rd_eqD (eList (eT3 eInt eInt eInt)) (by decide)) (nomark _)) ?_
  · exact hp x hx
  · exact fun _ h => h.trans (by rw [List.map_id']; rfl)
omit U in
abbrev P_beh : Sp := spP (fun (a : List R3 × List R3 × List Int) => [.d (cList cI3) a.1, .d (cList cI3) a.2.1, .d (cTup cInt) a.2.2]) (fun a => InN a.1 a.2.2.length ∧ InN a.2.1 a.2.2.length) (cOpt (cTup cInt)) (fun a => behL a.1 a.2.1 a.2.2)
omit U in
theorem c_behind (D : Def K mg "_law_behind" (top 47)) (C_fits : Cal P w K mg base "_law_fits" ["rows", "text"] 1 P_fitsL) (C_done : Cal P w K mg base "_law_done" ["rows", "text"] 1 P_done) : Cal P w K mg base "_law_behind" ["rows", "more", "text"] 2 P_beh := by
  refine cal_D (N := ["rows", "more", "text", "reached"]) D (fun _ _ _ _ _ _ us hl => match us, hl with | [_, _, _], _ => rfl) ⟨rfl, rfl, rfl, by decide +kernel, rfl, by decide +kernel, by decide +kernel⟩ (fun _ _ => rfl) (by decide) (fun _ _ => trivial) fun b a hp => ?_
  obtain ⟨rows, more, text⟩ := a
  obtain ⟨h1, h2⟩ := hp
  have h1 : InN rows text.length := h1
  have h2 : InN more text.length := h2
  have h3 : InN more (doneL rows text).length := by rw [doneL_len]; exact h2
  refine HS.ctx (Γ' := [.d (cList cI3) rows, .d (cList cI3) more, .d (cTup cInt) text, .un]) rfl ?_
  refine HS.le (k := 0 + 0 + 0) ?_ (Nat.zero_le _)
  refine bifR (k1 := 0) (k2 := 0) (k3 := 0) (pdt_not (pdt_val (pcal2 C_fits (show (1 : Nat) ≤ 1 by decide) rfl (pd_name (i := 0) rfl rfl (.inl rfl)) (pd_name (i := 2) rfl rfl (.inl rfl)) h1 (fun _ => rfl) (fun _ => rfl) (fun _ => rfl)) (fun _ _ => rfl))) (fun h => ?_) fun h => ?_
  · have h : true = !decide (missL rows text = []) := h
    refine bret (pnoneO (c := cTup cInt)) fun x e => ?_
    rw [e]
    show none = behL rows more text
    unfold behL
    rw [if_pos h.symm]
  · have h : false = !decide (missL rows text = []) := h
    refine bset (k := 0) (k2 := 0) 3 (pcal2 C_done (show (1 : Nat) ≤ 1 by decide) rfl (pd_name (i := 0) rfl rfl (.inl rfl)) (pd_name (i := 2) rfl rfl (.inl rfl)) h1 (fun _ => rfl) (fun _ => rfl) (fun _ => rfl)) trivial rfl (.inl rfl) (fun env he => by cases env; cases he; rfl) (.inl rfl) ?_
    intro x0 e0
    have e0 : x0 = doneL rows text := e0
    subst x0
    refine bret (pif (pdt_val (pcal2 C_fits (show (1 : Nat) ≤ 1 by decide) rfl (pd_name (i := 1) rfl rfl (.inl rfl)) (pd_name (i := 3) rfl rfl (.inl rfl)) h3 (fun _ => rfl) (fun _ => rfl) (fun _ => rfl)) (fun _ _ => rfl)) (fun _ => poptE (pcal2 C_done (show (1 : Nat) ≤ 1 by decide) rfl (pd_name (i := 1) rfl rfl (.inl rfl)) (pd_name (i := 3) rfl rfl (.inl rfl)) h3 (fun _ => rfl) (fun _ => rfl) (fun _ => rfl))) fun _ => pnoneO) fun x e => ?_
    exact e.trans (show _ = behL rows more text from (Eq.symm (if_neg (by rw [← h]; decide))))
abbrev nLook : List Str := ["sizes", "rows", "more", "count", "parts", "few", "place", "olds", "spare", "row", "size"]
abbrev P_look : Sp := spP (fun (a : List Int × List R3 × List R3) => [.d (cList cInt) a.1, .d (cList cI3) a.2.1, .d (cList cI3) a.2.2]) (fun a => Pl a.1 ∧ (a.2.1.length ≤ 8 ∧ a.2.2.length ≤ 8) ∧ PtOk (partsL a.1 (a.2.1 ++ a.2.2))) (cList (cTup cInt)) (fun a => textsP (partsL a.1 (a.2.1 ++ a.2.2)))
theorem c_looked (D : Def K mg "_law_looked_at" (top 44)) (C_texts : Cal P w K mg base "_law_texts" ["sizes", "wordings"] 1 P_texts) : Cal P w K mg base "_law_looked_at" ["sizes", "rows", "more"] 2 P_look := by
  refine cal_D (N := nLook) D (fun _ _ _ _ _ _ us hl => match us, hl with | [_, _, _], _ => rfl) ⟨rfl, rfl, rfl, by decide +kernel, rfl, by decide +kernel, by decide +kernel⟩ (fun _ _ => rfl) (by decide) (fun _ _ => trivial) fun b a hp => ?_
  obtain ⟨sz, rows, more⟩ := a
  obtain ⟨hsz, ⟨hl1, hl2⟩, hok⟩ := hp
  have hsz : Pl sz := hsz
  have hl1 : rows.length ≤ 8 := hl1
  have hl2 : more.length ≤ 8 := hl2
  have hok : PtOk (partsL sz (rows ++ more)) := hok
  have h8 := hsz.1.2
  have hlb : rows.length + more.length ≤ DL.LB := by unfold DL.LB; omega
  have hlr : (rows ++ more).length ≤ 16 := by rw [List.length_append]; omega
  refine HS.ctx (Γ' := [.d (cList cInt) sz, .d (cList cI3) rows, .d (cList cI3) more, .un, .un, .un, .un, .un, .un, .un, .un]) rfl ?_
  refine HS.le (k := 0 + 0 + 0) ?_ (Nat.zero_le _)
  refine bpar (k1 := 0) (k2 := 0) (kr := 0) (s1 := .d cInt 1) (s2 := .l (cList cInt) []) 3 4 (TD.tx' (pd_int (i := 1))) (TDF.tx' (pdf_nil (c := cList cInt))) trivial trivial (by decide) (fun z => nomatch z) (fun z => nomatch z) rfl rfl rfl rfl (fun _ => rfl) (fun _ => rfl) (fun env he => by cases env; cases he; rfl) (fun env he => by cases env; cases he; rfl) ?_
  refine HS.ctx (Γ' := [.d (cList cInt) sz, .d (cList cI3) rows, .d (cList cI3) more, .d cInt 1, .l (cList cInt) [], .un, .un, .un, .un, .un, .un]) rfl ?_
  refine bset (k := 0) (k2 := 0) 5 (pcmp (fun _ _ => op_lt) (plenSet rfl U.len (pset rfl U.set (TD.seqL (TDF.td (plcN [("row", 9)] (pdi_list (TDF.td (pcat (pd_name (i := 1) rfl rfl (.inl rfl)) (pd_name (i := 2) rfl rfl (.inl rfl)) hlb))) trivial (by kernel_rfl) (fun _ _ => rfl) fun x hx => ⟨_, _, (pdg_name (i := 9) trivial rfl (.inl rfl) (.inr rfl)), (fun _ h => h), (pix ixTG (pd_name (i := 9) rfl rfl (.inl rfl)) pd_int rd_ix3_0 (fun _ _ => rfl))⟩))) (by rw [List.length_map]; omega) (fun _ => rfl)) (fun _ => rfl)) (pd_int (i := 5)) rd_B0 (nomark _)) trivial rfl (.inl rfl) (fun env he => by cases env; cases he; rfl) (.inl rfl) ?_
  intro x0 e0
  have e0 : x0 = fewL (rows ++ more) := e0
  subst x0
  refine HS.ctx (Γ' := [.d (cList cInt) sz, .d (cList cI3) rows, .d (cList cI3) more, .d cInt 1, .l (cList cInt) [], .d cBool (fewL (rows ++ more)), .un, .un, .un, .un, .un]) rfl ?_
  refine bfor (k := 0) (kk := 0) (kn := 0) (k2 := 0) [6, 7, 8] (fun _ pre Γ => Γ = [.d (cList cInt) sz, .d (cList cI3) rows, .d (cList cI3) more, .d cInt (countL sz pre), .l (cList cInt) (pre.map (partL (rows ++ more) sz)), .d cBool (fewL (rows ++ more)), .un, .un, .un, .un, .un]) (prng1 rfl U.range (plen rfl U.len (TD.seqL (pd_name (i := 0) rfl rfl (.inl rfl))) (fun _ => rfl)) (by omega) (fun _ => rfl)) ?_ ?_ ?_ (fun _ _ => rfl) ?_
  · intro xs exs; rfl
  · intro _ _; simp
  · intro xs exs pre p post Γ1 hx e
    have exs : xs = rangeL 0 sz.length := exs
    subst xs
    subst e
    have hx : rangeL 0 sz.length = pre ++ p :: post := hx
    have hpm : p ∈ rangeL 0 sz.length := by rw [hx]; simp
    have hp := rng_mem.mp hpm
    have hat := sz_at hsz hp
    have hpl : pre.length ≤ 8 := by have := congrArg List.length hx; rw [rangeL_len, List.length_append] at this; omega
    have hol : (oldsL (rows ++ more) p).length ≤ 16 := by unfold oldsL; rw [List.length_map]; exact Nat.le_trans (List.length_filter_le _ _) hlr
    have hspl := spare_len (rows ++ more) (atT sz p) p
    refine ⟨_, _, (pdg_name (i := 6) trivial rfl (.inr rfl) (.inl rfl)), ?_⟩
    refine HS.ctx (Γ' := [.d (cList cInt) sz, .d (cList cI3) rows, .d (cList cI3) more, .d cInt (countL sz pre), .l (cList cInt) (pre.map (partL (rows ++ more) sz)), .d cBool (fewL (rows ++ more)), .d cInt p, .un, .un, .un, .un]) rfl ?_
    refine bset (k := 0) (k2 := 0) 3 (pbin (fun _ _ => op_mul) (pd_name (i := 3) rfl rfl (.inl rfl)) (pix ixLG (pd_name (i := 0) rfl rfl (.inl rfl)) (pd_name (i := 6) rfl rfl (.inr (.inl rfl))) (rd_ixLd hp) (fun _ _ => rfl)) (rd_I (.inr ⟨Int.lt_of_lt_of_le (by decide) hat.1, Int.lt_of_le_of_lt hat.2 (by decide)⟩))) trivial rfl (.inl rfl) (fun env he => by cases env; cases he; rfl) (.inl rfl) ?_
    intro x1 e1
    subst x1
    refine HS.ctx (Γ' := [.d (cList cInt) sz, .d (cList cI3) rows, .d (cList cI3) more, .d cInt (countL sz (pre ++ [p])), .l (cList cInt) (pre.map (partL (rows ++ more) sz)), .d cBool (fewL (rows ++ more)), .d cInt p, .un, .un, .un, .un]) (by rw [countL_snoc]; rfl) ?_
    refine bsetLc (k := 0) (k2 := 0) 7 [("row", 9)] (tdf_lcT (f := fun r : R3 => r.2.1) (q := fun r : R3 => decide (r.1 = p)) (pdi_list (TDF.td (pcat (pd_name (i := 1) rfl rfl (.inl rfl)) (pd_name (i := 2) rfl rfl (.inl rfl)) hlb))) trivial fun x hx => ⟨_, _, (pdg_name (i := 9) trivial rfl (.inl rfl) (.inr rfl)), (fun _ h => h), (tts_one (tcmp (fun _ _ => op_eq) (pix ixTG (pd_name (i := 9) rfl rfl (.inl rfl)) pd_int rd_ix3_0 (fun _ _ => rfl)) (pd_name (i := 6) rfl rfl (.inr (.inl rfl))) rd_eqI (nomark _))), fun hq => (pix ixTG (pd_name (i := 9) rfl rfl (.inl rfl)) pd_int rd_ix3_1 (fun _ _ => rfl))⟩) trivial rfl rfl rfl rfl rfl (by kernel_rfl) (fun _ _ => rfl) ?_
    intro x2 e2
    have e2 : x2 = oldsL (rows ++ more) p := e2
    subst x2
    refine HS.ctx (Γ' := [.d (cList cInt) sz, .d (cList cI3) rows, .d (cList cI3) more, .d cInt (countL sz (pre ++ [p])), .l (cList cInt) (pre.map (partL (rows ++ more) sz)), .d cBool (fewL (rows ++ more)), .d cInt p, .d (cList cInt) (oldsL (rows ++ more) p), .un, .un, .un]) rfl ?_
    refine bset (k := 0) (k2 := 0) 8 (pif (tcmp (op_eqDG rfl) (pd_name (i := 7) rfl rfl (.inl rfl)) (TDF.td (pdf_nil (c := cInt))) (rd_eqD (eList eInt) (by decide)) (nomark _)) (fun _ => TDF.td (plst (c := cInt) (xs := [0]) (.cons pd_int .nil (fun _ => rfl)) (by simp))) fun _ => prepL (xs := [0, atT sz p - 1]) (TDF.td (plst (c := cInt) (.cons pd_int (.cons (pbin (fun _ _ => op_sub) (pix ixLG (pd_name (i := 0) rfl rfl (.inl rfl)) (pd_name (i := 6) rfl rfl (.inr (.inl rfl))) (rd_ixLd hp) (fun _ _ => rfl)) (pd_int (i := 1)) rd_I0) .nil (fun _ => rfl)) (fun _ => rfl)) (by simp))) (pintB rfl U.int (pd_name (i := 5) rfl rfl (.inl rfl)) (fun _ => rfl)) (by split <;> decide) (by simp)) trivial rfl (.inl rfl) (fun env he => by cases env; cases he; rfl) (.inl rfl) ?_
    intro x3 e3
    have e3 : x3 = spareL (rows ++ more) (atT sz p) p := e3
    subst x3
    refine HS.ctx (Γ' := [.d (cList cInt) sz, .d (cList cI3) rows, .d (cList cI3) more, .d cInt (countL sz (pre ++ [p])), .l (cList cInt) (pre.map (partL (rows ++ more) sz)), .d cBool (fewL (rows ++ more)), .d cInt p, .d (cList cInt) (oldsL (rows ++ more) p), .d (cList cInt) (spareL (rows ++ more) (atT sz p) p), .un, .un]) rfl ?_
    refine bappend (k := 0) (k2 := 0) (P := fun x => x = partL (rows ++ more) sz p) 4 rfl (TDF.td (psortSet rfl U.sorted (pset rfl U.set (TD.seqL (TDF.td (pcat (pd_name (i := 7) rfl rfl (.inl rfl)) (pd_name (i := 8) rfl rfl (.inl rfl)) (by unfold DL.LB; omega)))) (by rw [List.length_append]; omega) (fun _ => rfl)) (Nat.lt_of_le_of_lt (asc_len _) (by rw [List.length_append]; omega)) (fun _ => rfl))) (by rw [List.length_map]; unfold DL.LB; omega) rfl (.inl rfl) (fun _ => rfl) rfl (fun _ => rfl) (fun _ => rfl) ?_
    intro x4 e4
    subst x4
    refine phs_nil ⟨trivial, ?_⟩
    rw [List.map_append]
    rfl
  · intro xs Γ1 exs e
    have exs : xs = rangeL 0 sz.length := exs
    subst xs
    subst e
    refine hs_freeze (i := 4) rfl trivial ?_
    refine HS.ctx (Γ' := [.d (cList cInt) sz, .d (cList cI3) rows, .d (cList cI3) more, .d cInt (countL sz (rangeL 0 sz.length)), .d (cList (cList cInt)) ((rangeL 0 sz.length).map (partL (rows ++ more) sz)), .d cBool (fewL (rows ++ more)), .un, .un, .un, .un, .un]) rfl ?_
    refine HS.le (k := 0 + max 0 0 + 0) ?_ (Nat.zero_le _)
    refine bifS (k1 := 0) (k2 := 0) (k3 := 0) (kr := 0) (N1 := fun Γ => Γ = [.d (cList cInt) sz, .d (cList cI3) rows, .d (cList cI3) more, .d cInt (countL sz (rangeL 0 sz.length)), .d (cList (cList cInt)) (partsL sz (rows ++ more)), .d cBool (fewL (rows ++ more)), .un, .un, .un, .un, .un]) (tcmp (fun _ _ => op_le) (pd_name (i := 3) rfl rfl (.inl rfl)) (pd_int (i := 81)) rd_B0 (nomark _)) (fun h => ?_) (fun h => ?_) ?_
    · have h : true = decide (countL sz (rangeL 0 sz.length) ≤ 81) := h
      refine bsetLc (k := 0) (k2 := 0) 4 [("size", 10)] (tdf_lcN (f := fun s : Int => rangeL 0 s.toNat) (pdi_list (pd_name (i := 0) rfl rfl (.inl rfl))) trivial fun x hx => ⟨_, _, (pdg_name (i := 10) trivial rfl (.inl rfl) (.inr rfl)), (fun _ h => h), TDF.td (plrg1 rfl U.list rfl U.range (pd_name (i := 10) rfl rfl (.inl rfl)) (by have := hsz.2 x hx; omega) (fun _ => rfl) (fun _ => rfl))⟩) trivial rfl rfl rfl rfl rfl (by kernel_rfl) (fun _ _ => rfl) ?_
      intro x1 e1
      subst x1
      refine phs_nil ?_
      have : partsL sz (rows ++ more) = sz.map fun s => rangeL 0 s.toNat := if_pos h.symm
      rw [this]
      rfl
    · have h : false = decide (countL sz (rangeL 0 sz.length) ≤ 81) := h
      refine phs_nil ?_
      have : partsL sz (rows ++ more) = (rangeL 0 sz.length).map (partL (rows ++ more) sz) := if_neg (by rw [← h]; decide)
      rw [this]
    · intro Γ1 e
      subst e
      exact bret (pcal2 C_texts (show (1 : Nat) ≤ 1 by decide) rfl (pd_name (i := 0) rfl rfl (.inl rfl)) (pd_name (i := 4) rfl rfl (.inl rfl)) hok (fun _ => rfl) (fun _ => rfl) (fun _ => rfl)) fun _ h => h
end
end K07

set_option Elab.async false
set_option linter.all false
set_option maxRecDepth 100000
set_option maxHeartbeats 4000000
namespace K07
open PySem PySem.Spec L2 DL
/-! ### the plain law: rows by places -/
def look (rs : List R3) (p : Int) : Option (Int × Int) := (rs.find? fun r => decide (r.1 = p)).map fun r => r.2
theorem look_nil (p : Int) : look [] p = none := rfl
theorem look_cons (r : R3) (rs : List R3) (p : Int) : look (r :: rs) p = if r.1 = p then some r.2 else look rs p := by
  unfold look
  rw [List.find?_cons]
  by_cases h : r.1 = p
  · rw [if_pos h, show decide (r.1 = p) = true from decide_eq_true h]; rfl
  · rw [if_neg h, show decide (r.1 = p) = false from decide_eq_false h]
theorem look_none {p : Int} : ∀ {rs : List R3}, look rs p = none ↔ p ∉ rs.map (·.1)
  | [] => by simp [look_nil]
  | r :: rs => by
    rw [look_cons, List.map_cons, List.mem_cons]
    by_cases h : r.1 = p
    · rw [if_pos h]; simp [h]
    · rw [if_neg h, look_none (rs := rs)]
      constructor
      · rintro h1 (h2 | h2)
        · exact h h2.symm
        · exact h1 h2
      · intro h1 h2; exact h1 (.inr h2)
theorem look_mem {p : Int} {v : Int × Int} : ∀ {rs : List R3}, look rs p = some v → (p, v) ∈ rs
  | [], h => by simp [look_nil] at h
  | r :: rs, h => by
    rw [look_cons] at h
    by_cases e : r.1 = p
    · rw [if_pos e] at h
      injection h with h
      rw [← e, ← h]; exact List.mem_cons_self
    · rw [if_neg e] at h; exact List.mem_cons_of_mem _ (look_mem h)
theorem mem_look {p : Int} {v : Int × Int} : ∀ {rs : List R3}, (rs.map (·.1)).Nodup → (p, v) ∈ rs → look rs p = some v
  | [], _, h => nomatch h
  | r :: rs, nd, h => by
    rw [List.map_cons, List.nodup_cons] at nd
    rw [look_cons]
    rcases List.mem_cons.mp h with e | e
    · rw [← e, if_pos rfl]
    · have : ¬ r.1 = p := fun z => nd.1 (by rw [z]; exact List.mem_map.mpr ⟨_, e, rfl⟩)
      rw [if_neg this]; exact mem_look nd.2 e
theorem look_iff {p : Int} {v : Int × Int} {rs : List R3} (nd : (rs.map (·.1)).Nodup) : look rs p = some v ↔ (p, v) ∈ rs := ⟨look_mem, mem_look nd⟩
theorem look_perm {a b : List R3} (nd : (a.map (·.1)).Nodup) (h : a.Perm b) (p : Int) : look a p = look b p := by
  have nb : (b.map (·.1)).Nodup := (h.map _).nodup_iff.mp nd
  apply Option.ext
  intro v
  rw [look_iff nd, look_iff nb, h.mem_iff]
theorem look_map (g : Int → Int × Int → Int × Int) (p : Int) : ∀ y : List R3, look (y.map fun x => (x.1, g x.1 x.2)) p = (look y p).map (g p)
  | [] => rfl
  | r :: y => by
    rw [List.map_cons, look_cons, look_cons, look_map g p y]
    by_cases e : r.1 = p
    · rw [if_pos e, if_pos e, e]; rfl
    · rw [if_neg e, if_neg e]
theorem look_append (a b : List R3) (p : Int) : look (a ++ b) p = (look a p).or (look b p) := by
  unfold look
  rw [List.find?_append]
  cases a.find? fun r => decide (r.1 = p) <;> rfl
theorem look_filter (q : Int → Bool) (p : Int) : ∀ z : List R3, look (z.filter fun r => q r.1) p = if q p = true then look z p else none
  | [] => by simp [look_nil]
  | r :: z => by
    rw [List.filter_cons]
    by_cases e : r.1 = p
    · subst e
      by_cases h : q r.1 = true
      · rw [if_pos h, if_pos h, look_cons, look_cons, if_pos rfl, if_pos rfl]
      · rw [if_neg h, if_neg h]
        have := look_filter q r.1 z
        rw [if_neg h] at this; exact this
    · by_cases h : q r.1 = true
      · rw [if_pos h, look_cons, if_neg e, look_filter q p z, look_cons, if_neg e]
      · rw [if_neg h, look_filter q p z, look_cons, if_neg e]
theorem perm_mem {α : Type} [DecidableEq α] : ∀ {l m : List α}, l.Nodup → m.Nodup → (∀ a, a ∈ l ↔ a ∈ m) → l.Perm m
  | [], m, _, _, h => by
    cases m with
    | nil => exact .nil
    | cons x m => exact absurd ((h x).mpr List.mem_cons_self) List.not_mem_nil
  | x :: l, m, h1, h2, h => by
    have n1 := List.nodup_cons.mp h1
    have hx : x ∈ m := (h x).mp List.mem_cons_self
    have hp := List.perm_cons_erase hx
    have n2 : (m.erase x).Nodup := h2.erase x
    refine (List.Perm.cons x (perm_mem n1.2 n2 fun a => ?_)).trans hp.symm
    rw [List.Nodup.mem_erase_iff h2]
    constructor
    · intro ha
      exact ⟨fun e => n1.1 (e ▸ ha), (h a).mp (List.mem_cons_of_mem _ ha)⟩
    · rintro ⟨ne, ha⟩
      rcases List.mem_cons.mp ((h a).mpr ha) with e | e
      · exact absurd e ne
      · exact e
theorem nodup_fst {rs : List R3} (h : (rs.map (·.1)).Nodup) : rs.Nodup := List.Pairwise.of_map (·.1) (fun a b ne e => ne (by rw [e])) h
theorem sort3_perm_eq {a b : List R3} (h : a.Perm b) (h64 : ∀ r ∈ a, In64 r) : sort3 a = sort3 b :=
  perm_sorted_eq (((sortBy_perm _ a).trans h).trans (sortBy_perm _ b).symm) (sortBy_up _ a) (sortBy_up _ b) fun x hx y hy => code3_inj (h64 x ((sortBy_perm _ a).mem_iff.mp hx)) (h64 y ((sortBy_perm _ a).mem_iff.mp hy))
theorem sort3_perm (a : List R3) : (sort3 a).Perm a := sortBy_perm _ a
theorem Rows.perm {a b : List R3} (h : Rows a) (p : b.Perm a) : Rows b := ⟨fun r hr => h.1 r (p.mem_iff.mp hr), (p.map _).nodup_iff.mpr h.2.1, by rw [p.length_eq]; exact h.2.2⟩
theorem Rows.sort {a : List R3} (h : Rows a) : Rows (sort3 a) := h.perm (sort3_perm a)
theorem sort3_ext {a b : List R3} (ha : Rows a) (hb : Rows b) (h : ∀ p, look a p = look b p) : sort3 a = sort3 b :=
  sort3_perm_eq (perm_mem (nodup_fst ha.2.1) (nodup_fst hb.2.1) fun r => by
    obtain ⟨p, v⟩ := r
    rw [← look_iff ha.2.1, ← look_iff hb.2.1, h]) (rows64 ha)
theorem look_sort {a : List R3} (h : Rows a) (p : Int) : look (sort3 a) p = look a p := look_perm h.sort.2.1 (sort3_perm a) p
theorem sort3_idem {a : List R3} (h : Rows a) : sort3 (sort3 a) = sort3 a := sort3_ext h.sort h (look_sort h)
/-! ### rows that are in order -/
theorem rowOk_iff {r : R3} : rowOk r = true ↔ (0 ≤ r.1 ∧ r.1 < 8) ∧ (0 ≤ r.2.1 ∧ r.2.1 < 6) ∧ (0 ≤ r.2.2 ∧ r.2.2 < 6) := by simp only [rowOk, Bool.and_eq_true, decide_eq_true_eq]
theorem rows_len {rs : List R3} (h1 : ∀ r ∈ rs, rowOk r = true) (h2 : (rs.map (·.1)).Nodup) : rs.length ≤ 8 := by
  have := card_ext.le_of (l := rs.map (·.1)) (m := rangeL 0 8) h2 fun k hk => by
    obtain ⟨r, hr, e⟩ := List.mem_map.mp hk
    have := (rowOk_iff.mp (h1 r hr)).1
    rw [e] at this
    unfold rangeL
    exact List.mem_map.mpr ⟨k.toNat, List.mem_range.mpr (by omega), by omega⟩
  rw [List.length_map, rangeL_len] at this; exact this
theorem rows_mk {rs : List R3} (h1 : ∀ r ∈ rs, rowOk r = true) (h2 : (rs.map (·.1)).Nodup) : Rows rs := ⟨h1, h2, rows_len h1 h2⟩
theorem Rows.look_ok {rs : List R3} (h : Rows rs) {p : Int} {v : Int × Int} (e : look rs p = some v) : (0 ≤ p ∧ p < 8) ∧ (0 ≤ v.1 ∧ v.1 < 6) ∧ (0 ≤ v.2 ∧ v.2 < 6) := rowOk_iff.mp (h.1 _ (look_mem e))
/-! ### one behind the other -/
def comp : Option (Int × Int) → Option (Int × Int) → Option (Int × Int)
  | some (o, _), some (_, n) => some (o, n)
  | some v, none => some v
  | none, z => z
theorem valD_look : ∀ (y : List R3) (p : Int), valD (y.map fun x => (x.1, x.2.2)) p = (look y p).map fun v => v.2
  | [], p => rfl
  | r :: y, p => by
    have ih := valD_look y p
    rw [List.map_cons, look_cons]
    unfold valD at ih ⊢
    rw [List.find?_cons]
    by_cases e : r.1 = p
    · rw [if_pos e, show decide ((r.1, r.2.2).1 = p) = true from decide_eq_true e]; rfl
    · rw [if_neg e, show decide ((r.1, r.2.2).1 = p) = false from decide_eq_false e]; exact ih
theorem dNew_look {y : List R3} (nd : (y.map (·.1)).Nodup) (p : Int) : valD (dNew y) p = (look y p).map fun v => v.2 := by
  unfold dNew
  rw [valD_dicOf, ← List.map_reverse, valD_look]
  rw [look_perm (a := y.reverse) (b := y) ((y.reverse_perm.map _).nodup_iff.mpr nd) y.reverse_perm p]
def gN (z : List R3) (q : Int) (v : Int × Int) : Int × Int := (v.1, ((look z q).map fun v => v.2).getD v.2)
def gQ (y : List R3) (q : Int) : Bool := !((look y q).map fun v => v.2).isSome
theorem look_rowsD {y z : List R3} (ny : (y.map (·.1)).Nodup) (nz : (z.map (·.1)).Nodup) (p : Int) : look (rowsD y z) p = comp (look y p) (look z p) := by
  unfold rowsD
  have h1 : (y.map fun x : R3 => (x.1, x.2.1, (valD (dNew z) x.1).getD x.2.2)) = y.map fun x => (x.1, gN z x.1 x.2) := List.map_congr_left fun x _ => by
    rw [dNew_look nz]; rfl
  have h2 : (z.filter fun r : R3 => !(valD (dNew y) r.1).isSome) = z.filter fun r => gQ y r.1 := List.filter_congr fun x _ => by
    rw [dNew_look ny]; rfl
  rw [h1, h2, look_append, look_map, look_filter]
  unfold gN gQ
  cases e1 : look y p with
  | none =>
    cases e2 : look z p with
    | none => simp [comp]
    | some v => simp [comp]
  | some v =>
    obtain ⟨o, m⟩ := v
    cases e2 : look z p with
    | none => simp [comp]
    | some w => obtain ⟨o2, n⟩ := w; simp [comp]
theorem rows_rowsD {y z : List R3} (hy : Rows y) (hz : Rows z) : Rows (rowsD y z) := by
  refine rows_mk (fun r hr => ?_) ?_
  · unfold rowsD at hr
    rcases List.mem_append.mp hr with h | h
    · obtain ⟨x, hx, e⟩ := List.mem_map.mp h
      have h1 := rowOk_iff.mp (hy.1 x hx)
      subst e
      refine rowOk_iff.mpr ⟨h1.1, h1.2.1, ?_⟩
      rw [dNew_look hz.2.1]
      cases e2 : look z x.1 with
      | none => exact h1.2.2
      | some w => exact (hz.look_ok e2).2.2
    · exact hz.1 r (List.mem_filter.mp h).1
  · unfold rowsD
    rw [List.map_append, List.map_map]
    refine List.nodup_append.mpr ⟨hy.2.1, ?_, fun a ha b hb e => ?_⟩
    · exact (List.Sublist.map _ (List.filter_sublist)).nodup hz.2.1
    · subst e
      obtain ⟨r, hr, e⟩ := List.mem_map.mp hb
      obtain ⟨h1, h2⟩ := List.mem_filter.mp hr
      rw [dNew_look hy.2.1] at h2
      subst e
      have : look y r.1 = none := by
        cases e3 : look y r.1 with
        | none => rfl
        | some v => rw [e3] at h2; simp at h2
      exact look_none.mp this ha
/-! ### back -/
/-! ### clashes -/
def Cl (a b : Option (Int × Int)) : Prop := ∃ o m o2 n, a = some (o, m) ∧ b = some (o2, n) ∧ o2 ≠ m
theorem mem_wrongD {y z : List R3} (hy : Rows y) (hz : Rows z) {p : Int} : p ∈ wrongD y z ↔ Cl (look y p) (look z p) := by
  unfold wrongD
  rw [List.mem_map]
  constructor
  · rintro ⟨r, hr, e⟩
    obtain ⟨h1, h2⟩ := List.mem_filter.mp hr
    subst e
    rw [dNew_look hy.2.1] at h2
    cases e1 : look y r.1 with
    | none => rw [e1] at h2; simp at h2
    | some v =>
      obtain ⟨o, m⟩ := v
      rw [e1] at h2
      refine ⟨o, m, r.2.1, r.2.2, rfl, mem_look hz.2.1 h1, fun e => ?_⟩
      simp [e] at h2
  · rintro ⟨o, m, o2, n, h1, h2, ne⟩
    refine ⟨(p, o2, n), List.mem_filter.mpr ⟨look_mem h2, ?_⟩, rfl⟩
    rw [dNew_look hy.2.1, h1]
    simp; exact fun e => ne e.symm
theorem sub_map_fst {q : R3 → Bool} {L : List R3} (h : (L.map (·.1)).Nodup) : ((L.filter q).map (·.1)).Nodup := (List.Sublist.map _ (List.filter_sublist)).nodup h
theorem sort3_fst {L : List R3} (h : Rows L) : ((sort3 L).map (·.1)).Pairwise (· ≤ ·) := by
  rw [List.pairwise_map]
  have h64 := rows64 h.sort
  have : ∀ (M : List R3), (∀ r ∈ M, In64 r) → M.Pairwise (fun a b => code3 a ≤ code3 b) → M.Pairwise (fun a b => a.1 ≤ b.1) := fun M => by
    induction M with
    | nil => exact fun _ _ => .nil
    | cons x M ih =>
      intro hm hp
      rw [List.pairwise_cons] at hp ⊢
      refine ⟨fun b hb => ?_, ih (fun r hr => hm r (List.mem_cons_of_mem _ hr)) hp.2⟩
      have c := hp.1 b hb
      obtain ⟨_, x2, x3⟩ := hm x List.mem_cons_self
      obtain ⟨_, b2, b3⟩ := hm b (List.mem_cons_of_mem _ hb)
      unfold code3 at c
      omega
  exact this _ h64 (sortBy_up _ L)
/-- no clash -/
theorem wrong_nil {y z : List R3} (hy : Rows y) (hz : Rows z) : wrongD y z = [] ↔ ∀ p, ¬ Cl (look y p) (look z p) := by
  rw [List.eq_nil_iff_forall_not_mem]
  exact forall_congr' fun p => not_congr (mem_wrongD hy hz)
theorem sortI_nil {l : List Int} : sortI l = [] ↔ l = [] := by
  have := (sortBy_perm id l).length_eq
  constructor
  · intro h
    have e : sortBy id l = [] := h
    rw [e] at this
    cases l with
    | nil => rfl
    | cons => simp at this
  · intro h; subst h
    exact List.length_eq_zero_iff.mp this
/-! ### the law's own one for both -/
/-- rows of a change of the book with sizes ns -/
structure Of (ns : List Int) (rs : List R3) : Prop where
  at_ : ∀ r ∈ rs, (0 ≤ r.1 ∧ r.1 < (ns.length : Int)) ∧ (0 ≤ r.2.1 ∧ r.2.1 < atT ns r.1) ∧ (0 ≤ r.2.2 ∧ r.2.2 < atT ns r.1)
  nd : (rs.map (·.1)).Nodup
theorem atT_mem {ns : List Int} {i : Int} (h : 0 ≤ i ∧ i < (ns.length : Int)) : atT ns i ∈ ns := by
  have hl : i.toNat < ns.length := by omega
  show ns.getD i.toNat default ∈ ns
  rw [List.getD_eq_getElem?_getD, List.getElem?_eq_getElem hl]
  exact List.getElem_mem hl
theorem Pl.at {ns : List Int} (h : Pl ns) {i : Int} (hi : 0 ≤ i ∧ i < (ns.length : Int)) : 2 ≤ atT ns i ∧ atT ns i ≤ 6 := h.2 _ (atT_mem hi)
theorem mem_rangeL {lo x : Int} {n : Nat} : x ∈ rangeL lo n ↔ lo ≤ x ∧ x < lo + (n : Int) := by
  unfold rangeL
  rw [List.mem_map]
  constructor
  · rintro ⟨i, hi, rfl⟩
    have := List.mem_range.mp hi
    omega
  · intro h
    exact ⟨(x - lo).toNat, List.mem_range.mpr (by omega), by omega⟩
theorem Of.rows {ns : List Int} {rs : List R3} (hp : Pl ns) (h : Of ns rs) : Rows rs := rows_mk (fun r hr => by
  obtain ⟨h1, h2, h3⟩ := h.at_ r hr
  have := hp.at h1
  have := hp.1.2
  exact rowOk_iff.mpr ⟨⟨h1.1, by omega⟩, ⟨h2.1, by omega⟩, h3.1, by omega⟩) h.nd
theorem Of.filter {ns : List Int} {rs : List R3} (h : Of ns rs) (q : R3 → Bool) : Of ns (rs.filter q) := ⟨fun r hr => h.at_ r (List.mem_filter.mp hr).1, sub_map_fst h.nd⟩
theorem Of.snoc {ns : List Int} {rs : List R3} (h : Of ns rs) {r : R3} (h1 : (0 ≤ r.1 ∧ r.1 < (ns.length : Int)) ∧ (0 ≤ r.2.1 ∧ r.2.1 < atT ns r.1) ∧ (0 ≤ r.2.2 ∧ r.2.2 < atT ns r.1)) (h2 : ∀ q ∈ rs, q.1 ≠ r.1) : Of ns (rs ++ [r]) := ⟨fun q hq => by
  rcases List.mem_append.mp hq with z | z
  · exact h.at_ q z
  · rw [List.mem_singleton.mp z]; exact h1, by
  rw [List.map_append, List.nodup_append]
  refine ⟨h.nd, by simp, fun a ha b hb e => ?_⟩
  obtain ⟨q, hq, rfl⟩ := List.mem_map.mp ha
  simp at hb
  exact h2 q hq (e.trans hb)⟩
theorem Of.beside {ns : List Int} {rs : List R3} (h : Of ns rs) (s o n : Int) (h1 : (0 ≤ s ∧ s < (ns.length : Int)) ∧ (0 ≤ o ∧ o < atT ns s) ∧ (0 ≤ n ∧ n < atT ns s)) : Of ns ((rs.filter fun r => !decide (r.1 = s)) ++ [(s, o, n)]) :=
  (h.filter _).snoc h1 fun q hq => by
    have := (List.mem_filter.mp hq).2
    simpa using this
theorem Of.inN {ns : List Int} {rs : List R3} (h : Of ns rs) {n : Nat} (hn : n = ns.length) : InN rs n := fun r hr => by subst hn; exact (h.at_ r hr).1
end K07

set_option Elab.async false
set_option linter.all false
set_option maxRecDepth 100000
set_option maxHeartbeats 4000000
namespace DL
open PySem PySem.Spec L2
/-! ### a, b = a list of two unlike things -/
section
variable {Γ Γ1 Γ2 : Ctxt} {α β : Type} {c1 : Cod α} {c2 : Cod β} {g1 g2 : TG}
theorem gd_L2 {K : PySem.W.Frag} {x : α × β} {is js : List Nat} (h1 : GD g1 c1 x.1 Γ Γ1 is) (h2 : GD g2 c2 x.2 Γ1 Γ2 js) : GD (gLst K 2 (gCons g1 (gCons g2 gNil))) (cL2 c1 c2) x Γ Γ2 (is ++ js) := by
  obtain ⟨b1, d1, h1⟩ := h1
  obtain ⟨b2, d2, h2⟩ := h2
  refine ⟨b1.trans b2, fun a h => d1 a (d2 a h), fun O n σ Hf H v r S Q q => ?_⟩
  obtain ⟨a, u, w, e1, e2, r1, r2⟩ := r
  refine ⟨a, [u, w], e1, SqL.of (S.ex _ _ e2), rfl, u, [w], rfl, h1 O n σ Hf H u r1 S _ fun σ1 S1 w1 => ⟨w, [], rfl, h2 O n σ1 Hf H w r2 S1 _ fun σ2 S2 w2 => ⟨rfl, q σ2 S2 fun vs hi => ?_⟩⟩⟩
  rw [w2 vs fun i m => hi i (List.mem_append_right _ m), w1 vs fun i m => hi i (List.mem_append_left _ m)]
end
section
variable {S : Stc} {Γ Γ1 Γ2 : Ctxt} {α β : Type} {c1 : Cod α} {c2 : Cod β} {a b : Expr} {pos : Pos}
end
section
variable {S : Stc} {Γ Γ1 Γ2 : Ctxt} {k1 k2 : Nat} {α β : Type} {c1 : Cod α} {c2 : Cod β} {a b e : Expr} {pos : Pos} {P1 : α → Prop} {P2 : β → Prop}
theorem pdg_L2 {kx : Nat} {x : α × β} {is js : List Nat} (h1 : PDG S a c1 x.1 Γ Γ1 is) (h2 : PDG S b c2 x.2 Γ1 Γ2 js) (hs : ∀ env : Env, (assignEach [a, b] env).map (·.2) = assign a env :: (assignEach [b] env).map (·.2)) (hs2 : ∀ env : Env, (assignEach [b] env).map (·.2) = assign b env :: (assignEach [] env).map (·.2))
    (hn : ∀ env : Env, (assignEach [a, b] env).length = 2) (hst : ∀ env : Env, (assignEach [a, b] env).findIdx? (·.1) = none) : PDG S (.Tuple [a, b] kx pos) (cL2 c1 c2) x Γ Γ2 (is ++ js) :=
  pdg_of (g := gLst S.K 2 (gCons (tGt S a) (gCons (tGt S b) gNil))) (fun X G => by rw [← G.K]; exact pg_lst G.calm (pgs_cons (tGt_ok G) (pgs_cons (tGt_ok G) pgs_nil (hs2 _)) (hs _)) (hn _) (hst _)) (gd_L2 h1 h2)
/-- [a, b], unlike -/
theorem plst2P (ha : PD S Γ k1 a c1 P1) (hb : PD S Γ k2 b c2 P2) (hs : ∀ env : Env, starEach [a, b] env = (false, eval a env) :: starEach [b] env) (hs2 : ∀ env : Env, starEach [b] env = (false, eval b env) :: starEach [] env) : PD S Γ (k1 + k2) (.List [a, b] pos) (cL2 c1 c2) (fun z => P1 z.1 ∧ P2 z.2) :=
  pd_of (fun X G => pe_lst (pa_cons (tE_ok G) (pa_cons (tE_ok G) pa_nil (hs2 _)) (hs _))) (td_lst2 ha hb)
theorem pgtR {P1 P2 : Int → Prop} (ha : PD S Γ k1 a cInt P1) (hb : PD S Γ k2 b cInt P2) (hm : behindInMarks .Gt b = false) : PD S Γ (k1 + k2) (.Compare a [.Gt] [b] pos) cBool (fun _ => True) :=
  pd_cmp (fun _ _ => op_gt) ha hb (fun x y hx hy Hf H v u e h1 h2 Q q => rd_B0 (g := fun i j => decide (i > j)) Hf H v u e h1 h2 Q fun z Hf' H' w _ => q z Hf' H' w trivial) hm
theorem teqR {P1 P2 : Int → Prop} (ha : PD S Γ k1 a cInt P1) (hb : PD S Γ k2 b cInt P2) (hm : behindInMarks .Eq b = false) : PDT S Γ (k1 + k2) (.Compare a [.Eq] [b] pos) (fun _ => True) :=
  pdt_cmp (fun _ _ => op_eq) ha hb (fun x y hx hy Hf H v u e h1 h2 Q q => rd_eqI Hf H v u e h1 h2 Q fun z Hf' H' w _ => q z Hf' H' w trivial) hm
theorem tgtR {P1 P2 : Int → Prop} (ha : PD S Γ k1 a cInt P1) (hb : PD S Γ k2 b cInt P2) (hm : behindInMarks .Gt b = false) : PDT S Γ (k1 + k2) (.Compare a [.Gt] [b] pos) (fun _ => True) :=
  pdt_cmp (fun _ _ => op_gt) ha hb (fun x y hx hy Hf H v u e h1 h2 Q q => rd_B0 (g := fun i j => decide (i > j)) Hf H v u e h1 h2 Q fun z Hf' H' w _ => q z Hf' H' w trivial) hm
/-- [e for x in xs], e drawn, as a read thing -/
theorem tdf_lcQ {k ke kn : Nat} {xs : List α} (own : List (Str × Nat)) {elt tg iter : Expr} {scope : Scope} {Q : β → Prop} (hw : PDI S Γ k tg iter c1 (· = xs)) (nv : NoBxs Γ (own.map (·.2))) (hk : xs.length * ke ≤ kn)
    (hs : ∀ x, x ∈ xs → ∃ Γ1 is, PDG (S.blk scope) tg c1 x (wipeC Γ (own.map (·.2))) Γ1 is ∧ (∀ i ∈ is, i ∈ own.map (·.2)) ∧ PD (S.blk scope) Γ1 ke elt c2 Q) :
    TDF (lcRd S tg iter [] elt scope own) Γ (k + kn) c2 (fun ys => ys.length = xs.length ∧ ∀ y ∈ ys, Q y) :=
  TDF.imp (tdf_lc (kt := 0) (ke := ke) (kn := kn) (X := (· = xs)) (fun _ pre ys => ys.length = pre.length ∧ ∀ y ∈ ys, Q y) hw (noBxs_mem nv) (fun _ _ => ⟨rfl, fun _ h => nomatch h⟩) (fun l e => by subst e; rw [Nat.zero_add]; exact hk) (fun l e pre x post ys hx hI => by
    obtain ⟨Γ1, is, h1, h2, h3⟩ := hs x (by rw [← e, hx]; simp)
    refine ⟨Γ1, is, (· = true), h1, h2, tts_nil, fun _ => h3.imp fun y hy => ⟨by rw [List.length_append, List.length_append, hI.1]; rfl, fun z hz => ?_⟩, fun h => nomatch h⟩
    rcases List.mem_append.mp hz with h | h
    · exact hI.2 z h
    · rw [List.mem_singleton.mp h]; exact hy)) fun ys ⟨l, e, h1, h2⟩ => by subst e; exact ⟨h1, h2⟩
end
end DL

set_option Elab.async false
set_option linter.all false
set_option maxRecDepth 100000
set_option maxHeartbeats 4000000
namespace K07
open PySem PySem.Spec L2 DL
theorem erase_perm {α : Type} : ∀ {l : List α} {i : Nat} (h : i < l.length), (l[i] :: l.eraseIdx i).Perm l
  | x :: l, 0, _ => .refl _
  | x :: l, i + 1, h => by
    have h' : i < l.length := by simpa using h
    show (l[i] :: x :: l.eraseIdx i).Perm (x :: l)
    exact (List.Perm.swap x l[i] _).trans ((erase_perm h').cons x)
def Spt (spots : List Int) (n : Nat) : Prop := spots.Pairwise (· < ·) ∧ ∀ x ∈ spots, 0 ≤ x ∧ x < (n : Int)
theorem nodup_len {n : Nat} {l : List Int} (h : l.Nodup) (hr : ∀ x ∈ l, 0 ≤ x ∧ x < (n : Int)) : l.length ≤ n := by
  have p : ((rangeL 0 n).filter fun x => decide (x ∈ l)).Perm l := perm_mem ((List.filter_sublist).nodup (by unfold rangeL; exact List.Pairwise.map _ (fun i j (h : i ≠ j) e => h (by omega)) List.nodup_range)) h fun a => by
    rw [List.mem_filter, decide_eq_true_eq, mem_rangeL]
    exact ⟨fun z => z.2, fun z => ⟨by have := hr a z; omega, z⟩⟩
  rw [← p.length_eq]
  refine Nat.le_trans (List.length_filter_le _ _) ?_
  rw [rangeL_len]
  exact Nat.le_refl _
theorem Spt.nd {l : List Int} {n : Nat} (h : Spt l n) : l.Nodup := h.1.imp fun {a b} z e => by omega
theorem Spt.len {l : List Int} {n : Nat} (h : Spt l n) : l.length ≤ n := nodup_len h.nd h.2
theorem sort_spt {l : List Int} {n : Nat} (hn : l.Nodup) (hr : ∀ x ∈ l, 0 ≤ x ∧ x < (n : Int)) : Spt (sortI l) n := by
  have hp := sortBy_perm id l
  refine ⟨?_, fun x hx => hr x (hp.mem_iff.mp hx)⟩
  have h1 : (sortI l).Pairwise (· ≤ ·) := sortBy_up id l
  have h2 : (sortI l).Nodup := hp.nodup_iff.mpr hn
  exact (h1.and h2).imp fun {a b} z => by have := z.1; have := z.2; omega
theorem rng_nd (n : Nat) : (rangeL 0 n).Nodup := by
  unfold rangeL
  exact List.Pairwise.map _ (fun i j (h : i ≠ j) e => h (by omega)) List.nodup_range
theorem Of.len {ns : List Int} {rs : List R3} (h : Of ns rs) : rs.length ≤ ns.length := by
  have := nodup_len (n := ns.length) h.nd fun x hx => by
    obtain ⟨r, hr, rfl⟩ := List.mem_map.mp hx
    exact (h.at_ r hr).1
  rwa [List.length_map] at this
theorem Of.sub {ns : List Int} {rs qs : List R3} (h : Of ns rs) (s : qs.Sublist rs) : Of ns qs := ⟨fun r hr => h.at_ r (s.subset hr), (s.map _).nodup h.nd⟩
theorem Of.map {ns : List Int} {rs : List R3} (h : Of ns rs) (f : R3 → R3) (h1 : ∀ r ∈ rs, (f r).1 = r.1 ∧ (0 ≤ (f r).2.1 ∧ (f r).2.1 < atT ns r.1) ∧ (0 ≤ (f r).2.2 ∧ (f r).2.2 < atT ns r.1)) : Of ns (rs.map f) := ⟨fun q hq => by
  obtain ⟨r, hr, rfl⟩ := List.mem_map.mp hq
  obtain ⟨e, h2, h3⟩ := h1 r hr
  rw [e]
  exact ⟨(h.at_ r hr).1, h2, h3⟩, by
  have e : List.map ((fun x : R3 => x.1) ∘ f) rs = rs.map (·.1) := List.map_congr_left fun r hr => (h1 r hr).1
  rw [List.map_map, e]
  exact h.nd⟩
theorem Of.append {ns : List Int} {a b : List R3} (ha : Of ns a) (hb : Of ns b) (h : ∀ x ∈ a, ∀ y ∈ b, x.1 ≠ y.1) : Of ns (a ++ b) := ⟨fun q hq => by
  rcases List.mem_append.mp hq with z | z
  · exact ha.at_ q z
  · exact hb.at_ q z, by
  rw [List.map_append, List.nodup_append]
  refine ⟨ha.nd, hb.nd, fun x hx y hy e => ?_⟩
  obtain ⟨p, hp, rfl⟩ := List.mem_map.mp hx
  obtain ⟨q, hq, rfl⟩ := List.mem_map.mp hy
  exact h p hp q hq e⟩
section
variable {S : Stc} {Γ : Ctxt} {e : Expr} {pos pn pb : Pos}
theorem ptake {i : Nat} {z : Addr} {m : Int} {bn : Str} (C_take : Cal S.prog S.w S.K S.mg S.base "_law_take" ["box", "many"] 1 spTake) (hl : 1 ≤ S.lv) (hg : S.sc.names.lookup ("_law_take" : Str) = some .globalImplicit) (hΓ : Γ[i]? = some (.bx z)) (hN : S.N[i]? = some bn) (hv : Vis S.sc bn) (h : PD S Γ 0 e cInt (· = m)) (hm : 0 < m ∧ m < 1073741824)
    (he : ∀ env : Env, starEach [.Name bn pb, e] env = (false, eval (.Name bn pb) env) :: starEach [e] env) (he2 : ∀ env : Env, starEach [e] env = (false, eval e env) :: starEach [] env) (hpl : ∀ env : Env, (backTo pos (starEach [e] env)).any (·.1) = false) (hd : (bn == ("__debug__" : Str)) = false := by decide) (hcd : (bn == ("__classdict__" : Str)) = false := by decide) :
    PD S Γ 1 (.Call (.Name "_law_take" pn) [.Name bn pb, e] [] pos) cInt (fun x => 0 ≤ x ∧ x < m) :=
  pcalX (k1 := 0) (k2 := 1) C_take hl hg (pda_boxp (k2 := 0) hΓ hN hv (pda_one h he2) hd hcd) (fun as e => ⟨m, z, e, hm, Nat.le_refl _, fun _ h => h⟩) he hpl
theorem ptakeR {k i : Nat} {z : Addr} {PM : Int → Prop} {bn : Str} (C_take : Cal S.prog S.w S.K S.mg S.base "_law_take" ["box", "many"] 1 spTake) (hl : 1 ≤ S.lv) (hg : S.sc.names.lookup ("_law_take" : Str) = some .globalImplicit) (hΓ : Γ[i]? = some (.bx z)) (hN : S.N[i]? = some bn) (hv : Vis S.sc bn) (h : PD S Γ k e cInt PM) (hm : ∀ m, PM m → 0 < m ∧ m < 1073741824)
    (he : ∀ env : Env, starEach [.Name bn pb, e] env = (false, eval (.Name bn pb) env) :: starEach [e] env) (he2 : ∀ env : Env, starEach [e] env = (false, eval e env) :: starEach [] env) (hpl : ∀ env : Env, (backTo pos (starEach [e] env)).any (·.1) = false) (hd : (bn == ("__debug__" : Str)) = false := by decide) (hcd : (bn == ("__classdict__" : Str)) = false := by decide) :
    PD S Γ (k + 1) (.Call (.Name "_law_take" pn) [.Name bn pb, e] [] pos) cInt (fun x => ∃ m, PM m ∧ 0 ≤ x ∧ x < m) :=
  pcalX (k1 := k) (k2 := 1) C_take hl hg (pda_box hΓ hN hv (pda_cons (k2 := 0) h pda_nil he2) hd hcd) (fun as ⟨r, ⟨x, r2, px, e2, e1⟩, e0⟩ => ⟨x, z, by subst e2 e1; exact e0, hm x px, Nat.le_refl _, fun y hy => ⟨x, px, hy⟩⟩) he hpl
end
section
variable {P : Program} {w : World} {K : PySem.W.Frag} {mg : Str → Option Value} {base : Heap}
variable (U : Bt mg)
include U
theorem c_take (D : Def K mg "_law_take" (top 41)) : Cal P w K mg base "_law_take" ["box", "many"] 1 spTake :=
  cal_of D (fun _ _ _ _ _ _ us hl => match us, hl with | [_, _], _ => rfl) fun f fd F => ok_take F U.int
abbrev nWorld : List Str := ["box", "wide", "total", "sizes", "left", "spots", "turn", "place"]
abbrev P_world : Sp := spD (fun b (a : Unit) => [.bx b]) (fun _ => 30) (fun _ => True) (cL2 (cList cInt) (cList cInt)) (fun _ x => Pl x.1 ∧ Spt x.2 x.1.length)
theorem c_world (mmin : mg "min" = none) (D : Def K mg "_law_world" (top 42)) (C_take : Cal P w K mg base "_law_take" ["box", "many"] 1 spTake) : Cal P w K mg base "_law_world" ["box"] 2 P_world := by
  refine cal_D (N := nWorld) D (fun _ _ _ _ _ _ us hl => match us, hl with | [_], _ => rfl) ⟨rfl, rfl, rfl, by decide +kernel, rfl, by decide +kernel, by decide +kernel⟩ (fun _ _ => rfl) (by decide) (fun _ _ => trivial) fun b a hp => ?_
  refine HS.le (k := 1 + 0 + (0 + max (0 + 1) (0 + (0 + 1 + 1)) + (0 + 8 + (0 + 0 + (0 + max 0 (0 + 1) + 0 + 8 + 0))))) ?_ (by decide)
  refine bset (k := 1 + 0) (k2 := 0 + max (0 + 1) (0 + (0 + 1 + 1)) + (0 + 8 + (0 + 0 + (0 + max 0 (0 + 1) + 0 + 8 + 0)))) 1 (peqR (k1 := 1) (k2 := 0) (ptake C_take (show (1 : Nat) ≤ 1 by decide) rfl (i := 0) rfl rfl (.inr (.inl rfl)) (pd_int (i := 4)) (by decide) (fun _ => rfl) (fun _ => rfl) (fun _ => rfl)) (pd_int (i := 0)) (nomark _)) trivial rfl (.inl rfl) (fun env he => by cases env; cases he; rfl) (.inl rfl) ?_
  intro wide _
  refine HS.ctx (Γ' := [.bx b, .d cBool wide, .un, .un, .un, .un, .un, .un]) rfl ?_
  refine bset (k := 0 + max (0 + 1) (0 + (0 + 1 + 1))) (k2 := 0 + 8 + (0 + 0 + (0 + max 0 (0 + 1) + 0 + 8 + 0))) 2 (pd_if (k1 := 0) (k2 := 0 + 1) (k3 := 0 + (0 + 1 + 1)) (P := fun z : Int => 1 ≤ z ∧ z ≤ 8) (pdt_val (pd_name (i := 1) rfl rfl (.inl rfl)) (fun _ _ => rfl)) (fun _ => paddR (k1 := 0) (k2 := 1) (P3 := fun z : Int => 1 ≤ z ∧ z ≤ 8) (pd_int (i := 6)) (ptake C_take (show (1 : Nat) ≤ 1 by decide) rfl (i := 0) rfl rfl (.inr (.inl rfl)) (pd_int (i := 3)) (by decide) (fun _ => rfl) (fun _ => rfl) (fun _ => rfl)) (by rintro x y rfl ⟨h1, h2⟩; omega)) fun _ => paddR (k1 := 0) (k2 := 0 + 1 + 1) (P3 := fun z : Int => 1 ≤ z ∧ z ≤ 8) (pd_int (i := 1)) (ptakeR (k := 0 + 1) (PM := fun m => m ∈ ([8, 3] : List Int)) C_take (show (1 : Nat) ≤ 1 by decide) rfl (i := 0) rfl rfl (.inr (.inl rfl)) (pixLR (k1 := 0) (k2 := 1) (TDF.td (plst (c := cInt) (xs := [8, 3]) (.cons pd_int (.cons pd_int .nil (fun _ => rfl)) (fun _ => rfl)) (by simp))) (ptake C_take (show (1 : Nat) ≤ 1 by decide) rfl (i := 0) rfl rfl (.inr (.inl rfl)) (pd_int (i := 2)) (by decide) (fun _ => rfl) (fun _ => rfl) (fun _ => rfl)) (fun _ _ => rfl)) (fun m hm => by simp at hm; omega) (fun _ => rfl) (fun _ => rfl) (fun _ => rfl)) (by rintro x y rfl ⟨m, hm, h1, h2⟩; simp at hm; omega)) trivial rfl (.inl rfl) (fun env he => by cases env; cases he; rfl) (.inl rfl) ?_
  intro t ht
  have ht : 1 ≤ t ∧ t ≤ 8 := ht
  refine HS.ctx (Γ' := [.bx b, .d cBool wide, .d cInt t, .un, .un, .un, .un, .un]) rfl ?_
  refine bsetLc (k := 0 + 8) (k2 := 0 + 0 + (0 + max 0 (0 + 1) + 0 + 8 + 0)) 3 [("place", 7)] (tdf_lcQ (k := 0) (ke := 1) (kn := 8) (Q := fun z => z ∈ ([2, 3, 2, 4, 6, 5] : List Int)) [("place", 7)] (prng1 rfl U.range (pd_name (i := 2) rfl rfl (.inl rfl)) (by omega) (fun _ => rfl)) trivial (by rw [rangeL_len]; omega) fun x hx => ⟨_, _, (pdg_name (i := 7) trivial rfl (.inl rfl) (.inr rfl)), (fun _ h => h), (pixLR (k1 := 0) (k2 := 1) (TDF.td (plst (c := cInt) (xs := [2, 3, 2, 4, 6, 5]) (.cons pd_int (.cons pd_int (.cons pd_int (.cons pd_int (.cons pd_int (.cons pd_int .nil (fun _ => rfl)) (fun _ => rfl)) (fun _ => rfl)) (fun _ => rfl)) (fun _ => rfl)) (fun _ => rfl)) (by simp))) (ptake C_take (show (1 : Nat) ≤ 1 by decide) rfl (i := 0) rfl rfl (.inr (.inl rfl)) (pd_int (i := 6)) (by decide) (fun _ => rfl) (fun _ => rfl) (fun _ => rfl)) (fun _ _ => rfl))⟩) trivial rfl rfl rfl rfl rfl (by kernel_rfl) (fun _ _ => rfl) ?_
  rintro sz ⟨hl, hz⟩
  rw [rangeL_len] at hl
  have hpl : Pl sz := ⟨by omega, fun n hn => by have := hz n hn; simp at this; omega⟩
  refine HS.ctx (Γ' := [.bx b, .d cBool wide, .d cInt t, .d (cList cInt) sz, .un, .un, .un, .un]) rfl ?_
  refine bpar (k1 := 0) (k2 := 0) (kr := 0 + max 0 (0 + 1) + 0 + 8 + 0) (s1 := .l cInt (rangeL 0 t.toNat)) (s2 := .l cInt []) 4 5 (TDF.tx' (plrg1 rfl U.list rfl U.range (pd_name (i := 2) rfl rfl (.inl rfl)) (by omega) (fun _ => rfl) (fun _ => rfl))) (TDF.tx' (pdf_nil (c := cInt))) trivial trivial (by decide) (fun z => nomatch z) (fun z => nomatch z) rfl rfl rfl rfl (fun _ => rfl) (fun _ => rfl) (fun env he => by cases env; cases he; rfl) (fun env he => by cases env; cases he; rfl) ?_
  refine HS.ctx (Γ' := [.bx b, .d cBool wide, .d cInt t, .d (cList cInt) sz, .l cInt (rangeL 0 t.toNat), .l cInt [], .un, .un]) rfl ?_
  refine bfor (k := 0 + max 0 (0 + 1) + 0) (kk := 1) (kn := 8) (k2 := 0) (X' := fun xs => ∃ j : Int, (1 ≤ j ∧ j ≤ t) ∧ xs = rangeL 0 j.toNat) [6] (fun xs pre Γ => ∃ left spots : List Int, left.length + pre.length = t.toNat ∧ spots.length = pre.length ∧ (spots ++ left).Perm (rangeL 0 t.toNat) ∧ Γ = [.bx b, .d cBool wide, .d cInt t, .d (cList cInt) sz, .l cInt left, .l cInt spots, .un, .un]) (pdi_range1 rfl U.range (pda_cons (k1 := 0 + max 0 (0 + 1)) (k2 := 0) (pd_if (k1 := 0) (k2 := 0) (k3 := 0 + 1) (P := fun j => 1 ≤ j ∧ j ≤ t) (pdt_val (pd_name (i := 1) rfl rfl (.inl rfl)) (fun _ _ => rfl)) (fun _ => (pd_name (i := 2) rfl rfl (.inl rfl)).imp fun j e => by rw [e]; omega) fun _ => paddR (k1 := 0) (k2 := 1) (P3 := fun j => 1 ≤ j ∧ j ≤ t) (pd_int (i := 1)) (ptakeR (k := 0) (PM := fun m => 1 ≤ m ∧ m ≤ t) C_take (show (1 : Nat) ≤ 1 by decide) rfl (i := 0) rfl rfl (.inr (.inl rfl)) (pmin2R (k1 := 0) (k2 := 0) (P3 := fun m => 1 ≤ m ∧ m ≤ t) rfl mmin (pd_int (i := 4)) (pd_name (i := 2) rfl rfl (.inl rfl)) (by rintro i j rfl rfl; split <;> omega) (fun _ => rfl) (fun _ => rfl) (fun _ => rfl)) (fun m hm => by omega) (fun _ => rfl) (fun _ => rfl) (fun _ => rfl)) (by rintro x y rfl ⟨m, hm, h1, h2⟩; omega)) pda_nil (fun _ => rfl)) (fun as ⟨j, r, hj, er, e⟩ => ⟨j, by rw [e, er], by omega, by omega, j, hj, rfl⟩) (fun _ => rfl)) ?_ ?_ ?_ (fun _ _ => rfl) ?_
  · intro xs _
    exact ⟨_, _, by rw [rangeL_len]; simp, rfl, by simp, rfl⟩
  · rintro xs ⟨j, hj, rfl⟩; rw [rangeL_len]; omega
  · intro xs hxs pre x post Γ1 hx hI
    obtain ⟨j, hj, rfl⟩ := hxs
    obtain ⟨left, spots, hl1, hl2, hpm, rfl⟩ := hI
    have hlen := congrArg List.length hx
    rw [rangeL_len, List.length_append, List.length_cons] at hlen
    have hlt : pre.length < t.toNat := by omega
    refine ⟨_, _, pdg_name (i := 6) trivial rfl (.inl rfl) (.inl rfl), ?_⟩
    refine bappendPop (k := 1) (kr := 0) 5 4 (by decide) rfl rfl (ptake C_take (show (1 : Nat) ≤ 1 by decide) rfl (i := 0) rfl rfl (.inr (.inl rfl)) (td_view (i := 4) rfl flat_int (plen rfl U.len (TD.seqL (pd_name (i := 4) rfl rfl (.inl rfl))) (fun _ => rfl))) (by omega) (fun _ => rfl) (fun _ => rfl) (fun _ => rfl)) (by unfold DL.LB; omega) (by unfold DL.LB; omega) rfl rfl (.inl rfl) (.inl rfl) (fun _ => rfl) (fun _ => rfl) rfl rfl (fun _ => rfl) (fun _ => rfl) (fun _ => rfl) fun z hz => ?_
    have hz2 : z.toNat < left.length := by omega
    refine ⟨z.toNat, left[z.toNat], by omega, List.getElem?_eq_getElem hz2, phs_nil ⟨trivial, left.eraseIdx z.toNat, spots ++ [left[z.toNat]], ?_, ?_, ?_, rfl⟩⟩
    · rw [List.length_eraseIdx_of_lt hz2, List.length_append]; simp; omega
    · rw [List.length_append, List.length_append]; simp; omega
    · rw [List.append_assoc]
      exact (List.Perm.append_left spots (erase_perm hz2)).trans hpm
  · intro xs Γ1 hxs hI
    obtain ⟨left, spots, hl1, hl2, hpm, rfl⟩ := hI
    refine hs_freeze (i := 5) rfl trivial ?_
    refine bret (plst2 (pd_name (i := 3) rfl rfl (.inl rfl)) (TDF.td (psortI' rfl U.sorted (pd_name (i := 5) rfl rfl (.inl rfl)) (fun _ => rfl))) (fun _ => rfl) (fun _ => rfl)) ?_
    intro z e
    rw [e]
    have hnd : (spots ++ left).Nodup := hpm.nodup_iff.mpr (rng_nd _)
    refine ⟨hpl, sort_spt (List.nodup_append.mp hnd).1 fun x hx => ?_⟩
    have := mem_rangeL.mp (hpm.mem_iff.mp (List.mem_append_left left hx))
    show 0 ≤ x ∧ x < (sz.length : Int)
    omega
abbrev nSome : List Str := ["box", "sizes", "spots", "found", "place", "old", "new"]
abbrev P_some : Sp := spD (fun b (a : List Int × List Int) => [.bx b, .d (cList cInt) a.1, .d (cList cInt) a.2]) (fun _ => 32) (fun a => Pl a.1 ∧ Spt a.2 a.1.length) (cList cI3) (fun a x => Of a.1 x)
omit U in
theorem c_some (D : Def K mg "_law_some" (top 48)) (C_take : Cal P w K mg base "_law_take" ["box", "many"] 1 spTake) : Cal P w K mg base "_law_some" ["box", "sizes", "spots"] 2 P_some := by
  refine cal_D (N := nSome) D (fun _ _ _ _ _ _ us hl => match us, hl with | [_, _, _], _ => rfl) ⟨rfl, rfl, rfl, by decide +kernel, rfl, by decide +kernel, by decide +kernel⟩ (fun _ _ => rfl) (by decide) (fun _ _ => trivial) fun b a hp => ?_
  obtain ⟨sz, sp⟩ := a
  obtain ⟨hsz, hsp⟩ := hp
  have hsz : Pl sz := hsz
  have hsp : Spt sp sz.length := hsp
  have h8 := hsz.1.2
  have hl := hsp.len
  refine HS.le (k := 0 + (0 + 32 + 0)) ?_ (by decide)
  refine bsetL (k := 0) (k2 := 0 + 32 + 0) 3 (pdf_nil (c := cI3)) trivial rfl (.inl rfl) (fun env he => by cases env; cases he; rfl) (.inl rfl) ?_
  intro x0 e0
  subst x0
  refine bfor (k := 0) (kk := 1 + (1 + (1 + 0 + max 0 0 + (1 + 0 + max 0 0 + 0)))) (kn := 32) (k2 := 0) [4, 5, 6] (fun xs pre Γ => ∃ found : List R3, Of sz found ∧ (∀ q ∈ found, q.1 ∈ pre) ∧ found.length ≤ pre.length ∧ Γ = [.bx b, .d (cList cInt) sz, .d (cList cInt) sp, .l cI3 found, .un, .un, .un]) (pdi_list (pd_name (i := 2) rfl rfl (.inl rfl))) ?_ ?_ ?_ (fun _ _ => rfl) ?_
  · intro xs _
    exact ⟨[], ⟨fun _ h => (nomatch h), List.nodup_nil⟩, fun _ h => (nomatch h), Nat.le_refl _, rfl⟩
  · intro xs e
    have e : xs = sp := e
    subst xs
    have : sp.length * 4 ≤ 32 := by omega
    exact this
  · intro xs exs pre p post Γ1 hx hI
    have exs : xs = sp := exs
    subst xs
    obtain ⟨found, hf1, hf2, hf3, rfl⟩ := hI
    have hx : sp = pre ++ p :: post := hx
    have hp1 := hsp.2 p (by rw [hx]; simp)
    have hw := hsz.at hp1
    have hpl : pre.length ≤ 8 := by have := congrArg List.length hx; rw [List.length_append] at this; omega
    have hxp : p ∉ pre := fun h => by
      have hnd := hsp.nd
      rw [hx] at hnd
      exact (List.nodup_append.mp hnd).2.2 p h p (by simp) rfl
    refine ⟨_, _, (pdg_name (i := 4) trivial rfl (.inl rfl) (.inl rfl)), ?_⟩
    refine HS.ctx (Γ' := [.bx b, .d (cList cInt) sz, .d (cList cInt) sp, .l cI3 found, .d cInt p, .un, .un]) rfl ?_
    refine bset (k := 1) (k2 := 1 + (1 + 0 + max 0 0 + (1 + 0 + max 0 0 + 0))) (P := fun v => (0 ≤ v ∧ v < atT sz p)) 5 (ptake C_take (show (1 : Nat) ≤ 1 by decide) rfl (i := 0) rfl rfl (.inl rfl) (pix ixLG (pd_name (i := 1) rfl rfl (.inl rfl)) (pd_name (i := 4) rfl rfl (.inl rfl)) (rd_ixLd hp1) (fun _ _ => rfl)) (by omega) (fun _ => rfl) (fun _ => rfl) (fun _ => rfl)) trivial rfl (.inl rfl) (fun env he => by cases env; cases he; rfl) (.inl rfl) ?_
    intro o ho
    have ho : 0 ≤ o ∧ o < atT sz p := ho
    refine HS.ctx (Γ' := [.bx b, .d (cList cInt) sz, .d (cList cInt) sp, .l cI3 found, .d cInt p, .d cInt o, .un]) rfl ?_
    refine bset (k := 1) (k2 := 1 + 0 + max 0 0 + (1 + 0 + max 0 0 + 0)) (P := fun v => (0 ≤ v ∧ v < atT sz p)) 6 (ptake C_take (show (1 : Nat) ≤ 1 by decide) rfl (i := 0) rfl rfl (.inl rfl) (pix ixLG (pd_name (i := 1) rfl rfl (.inl rfl)) (pd_name (i := 4) rfl rfl (.inl rfl)) (rd_ixLd hp1) (fun _ _ => rfl)) (by omega) (fun _ => rfl) (fun _ => rfl) (fun _ => rfl)) trivial rfl (.inl rfl) (fun env he => by cases env; cases he; rfl) (.inl rfl) ?_
    intro n1 hn1
    have hn1 : 0 ≤ n1 ∧ n1 < atT sz p := hn1
    refine HS.ctx (Γ' := [.bx b, .d (cList cInt) sz, .d (cList cInt) sp, .l cI3 found, .d cInt p, .d cInt o, .d cInt n1]) rfl ?_
    refine bset (k := 1 + 0 + max 0 0) (k2 := 1 + 0 + max 0 0 + 0) (P := fun v => (0 ≤ v ∧ v < atT sz p)) 6 (pd_if (k1 := 1 + 0) (k2 := 0) (k3 := 0) (teqR (k1 := 1) (k2 := 0) (ptake C_take (show (1 : Nat) ≤ 1 by decide) rfl (i := 0) rfl rfl (.inl rfl) (pd_int (i := 3)) (by decide) (fun _ => rfl) (fun _ => rfl) (fun _ => rfl)) (pd_int (i := 0)) (nomark _)) (fun _ => (pd_name (i := 5) rfl rfl (.inl rfl)).imp fun v e => by rw [e]; exact ho) fun _ => (pd_name (i := 6) rfl rfl (.inl rfl)).imp fun v e => by rw [e]; exact hn1) trivial rfl (.inl rfl) (fun env he => by cases env; cases he; rfl) (.inl rfl) ?_
    intro n hn
    have hn : 0 ≤ n ∧ n < atT sz p := hn
    refine HS.ctx (Γ' := [.bx b, .d (cList cInt) sz, .d (cList cInt) sp, .l cI3 found, .d cInt p, .d cInt o, .d cInt n]) rfl ?_
    refine bifS (k1 := 1 + 0) (k2 := 0) (k3 := 0) (kr := 0) (N1 := fun Γ => ∃ found' : List R3, Of sz found' ∧ (∀ q ∈ found', q.1 ∈ pre ++ [p]) ∧ found'.length ≤ (pre ++ [p]).length ∧ Γ = [.bx b, .d (cList cInt) sz, .d (cList cInt) sp, .l cI3 found', .d cInt p, .d cInt o, .d cInt n]) (tgtR (k1 := 1) (k2 := 0) (ptake C_take (show (1 : Nat) ≤ 1 by decide) rfl (i := 0) rfl rfl (.inl rfl) (pd_int (i := 4)) (by decide) (fun _ => rfl) (fun _ => rfl) (fun _ => rfl)) (pd_int (i := 0)) (nomark _)) (fun h => ?_) (fun h => ?_) ?_
    · refine bappend (k := 0) (k2 := 0) 3 rfl (pt3 (pd_name (i := 4) rfl rfl (.inl rfl)) (pd_name (i := 5) rfl rfl (.inl rfl)) (pd_name (i := 6) rfl rfl (.inl rfl)) (fun _ => rfl) (fun _ => rfl) (fun _ => rfl)) (by unfold DL.LB; omega) rfl (.inl rfl) (fun _ => rfl) rfl (fun _ => rfl) (fun _ => rfl) ?_
      intro y ey
      subst y
      refine phs_nil ⟨found ++ [(p, o, n)], hf1.snoc ⟨hp1, ho, hn⟩ (fun q hq e => hxp (by rw [← (show q.1 = p from e)]; exact hf2 q hq)), ?_, by rw [List.length_append, List.length_append]; simpa using hf3, rfl⟩
      intro q hq
      rcases List.mem_append.mp hq with z | z
      · exact List.mem_append_left _ (hf2 q z)
      · rw [List.mem_singleton.mp z]; simp
    · exact phs_nil ⟨found, hf1, fun q hq => List.mem_append_left _ (hf2 q hq), by rw [List.length_append]; omega, rfl⟩
    · rintro Γ1 ⟨found', h1, h2, h3, rfl⟩
      exact phs_nil ⟨trivial, found', h1, h2, h3, rfl⟩
  · intro xs Γ1 exs hI
    obtain ⟨found, hf1, _, _, rfl⟩ := hI
    refine hs_freeze (i := 3) rfl trivial ?_
    refine bret (pd_name (i := 3) rfl rfl (.inl rfl)) ?_
    intro z e
    rw [e]
    exact hf1
abbrev nSpoilt : List Str := ["box", "sizes", "rows", "at", "way", "place", "old", "new", "step", "moved"]
abbrev P_spoilt : Sp := spD (fun b (a : List Int × List R3) => [.bx b, .d (cList cInt) a.1, .d (cList cI3) a.2]) (fun _ => 3) (fun a => Pl a.1 ∧ Of a.1 a.2) (cList cI3) (fun a x => Of a.1 x)
theorem c_spoilt (D : Def K mg "_law_spoilt" (top 49)) (C_take : Cal P w K mg base "_law_take" ["box", "many"] 1 spTake) : Cal P w K mg base "_law_spoilt" ["box", "sizes", "rows"] 2 P_spoilt := by
  refine cal_D (N := nSpoilt) D (fun _ _ _ _ _ _ us hl => match us, hl with | [_, _, _], _ => rfl) ⟨rfl, rfl, rfl, by decide +kernel, rfl, by decide +kernel, by decide +kernel⟩ (fun _ _ => rfl) (by decide) (fun _ _ => trivial) fun b a hp => ?_
  obtain ⟨sz, rows⟩ := a
  obtain ⟨hsz, hof⟩ := hp
  have hsz : Pl sz := hsz
  have hof : Of sz rows := hof
  have h8 := hsz.1.2
  have hl := hof.len
  refine HS.ctx (Γ' := [.bx b, .d (cList cInt) sz, .d (cList cI3) rows, .un, .un, .un, .un, .un, .un, .un]) rfl ?_
  refine HS.le (k := 0 + 0 + (1 + 1 + (0 + (0 + 1 + (0 + (0 + max 0 0 + 0)))))) ?_ (by decide)
  refine bifR (k1 := 0) (k2 := 0) (k3 := 1 + 1 + (0 + (0 + 1 + (0 + (0 + max 0 0 + 0))))) (tcmp (op_eqDG rfl) (pd_name (i := 2) rfl rfl (.inl rfl)) (TDF.td (pdf_nil (c := cI3))) (rd_eqD (eList (eT3 eInt eInt eInt)) (by decide)) (nomark _)) (fun h => ?_) fun h => ?_
  · refine bret (pd_name (i := 2) rfl rfl (.inl rfl)) fun z e => ?_
    rw [e]; exact hof
  have hne : rows ≠ [] := of_decide_eq_false (show false = decide (rows = []) from h).symm
  have hlp : 0 < rows.length := List.length_pos_iff.mpr hne
  refine bparP (k1 := 1) (k2 := 1) (kr := 0 + (0 + 1 + (0 + (0 + max 0 0 + 0)))) 3 4 (R1 := fun s => ∃ v : Int, (0 ≤ v ∧ v < (rows.length : Int)) ∧ s = .d cInt v) (R2 := fun s => ∃ v : Int, (0 ≤ v ∧ v < 3) ∧ s = .d cInt v) (TD.tx (ptake C_take (show (1 : Nat) ≤ 1 by decide) rfl (i := 0) rfl rfl (.inl rfl) (plen rfl U.len (TD.seqL (pd_name (i := 2) rfl rfl (.inl rfl))) (fun _ => rfl)) (by omega) (fun _ => rfl) (fun _ => rfl) (fun _ => rfl))) (TD.tx (ptake C_take (show (1 : Nat) ≤ 1 by decide) rfl (i := 0) rfl rfl (.inl rfl) (pd_int (i := 3)) (by decide) (fun _ => rfl) (fun _ => rfl) (fun _ => rfl))) trivial trivial (by decide) nun nun rfl rfl rfl rfl (fun _ => rfl) (fun _ => rfl) (fun env he => by cases env; cases he; rfl) (fun env he => by cases env; cases he; rfl) ?_
  rintro _ _ ⟨i, hi, rfl⟩ ⟨way, hway, rfl⟩
  refine HS.ctx (Γ' := [.bx b, .d (cList cInt) sz, .d (cList cI3) rows, .d cInt i, .d cInt way, .un, .un, .un, .un, .un]) rfl ?_
  obtain ⟨r, hr⟩ : ∃ r, r = rows.getD i.toNat default := ⟨_, rfl⟩
  have hrm : rows[i.toNat]'(by omega) = r := by rw [hr, List.getD_eq_getElem?_getD, List.getElem?_eq_getElem (by omega)]; rfl
  have hr1 := hof.at_ r (by rw [← hrm]; exact List.getElem_mem _)
  obtain ⟨hp1, hr2, hr3⟩ := hr1
  have hw := hsz.at hp1
  refine bunpack (k := 0) (kr := 0 + 1 + (0 + (0 + max 0 0 + 0))) (x := r) ((pix ixLG (pd_name (i := 2) rfl rfl (.inl rfl)) (pd_name (i := 3) rfl rfl (.inl rfl)) (rd_ixLd hi) (fun _ _ => rfl)).imp fun z e => e.trans hr.symm) (pdg_t3 (pdg_name (i := 5) trivial rfl (.inl rfl) (.inl rfl)) (pdg_name (i := 6) trivial rfl (.inl rfl) (.inl rfl)) (pdg_name (i := 7) trivial rfl (.inl rfl) (.inl rfl)) (fun _ => rfl) (fun _ => rfl) (fun _ => rfl) (fun _ => rfl) (fun _ => rfl)) (fun _ => rfl) (fun _ => rfl) (fun _ => rfl) ?_
  refine HS.ctx (Γ' := [.bx b, .d (cList cInt) sz, .d (cList cI3) rows, .d cInt i, .d cInt way, .d cInt r.1, .d cInt r.2.1, .d cInt r.2.2, .un, .un]) rfl ?_
  refine bset (k := 0 + 1) (k2 := 0 + (0 + max 0 0 + 0)) (P := fun _ => True) 8 (paddR (k1 := 0) (k2 := 1) (P3 := fun _ => True) (pd_int (i := 1)) (ptake C_take (show (1 : Nat) ≤ 1 by decide) rfl (i := 0) rfl rfl (.inl rfl) (pbin (fun _ _ => op_sub) (pix ixLG (pd_name (i := 1) rfl rfl (.inl rfl)) (pd_name (i := 5) rfl rfl (.inl rfl)) (rd_ixLd hp1) (fun _ _ => rfl)) (pd_int (i := 1)) rd_I0) (show (0 : Int) < atT sz r.1 - 1 ∧ atT sz r.1 - 1 < 1073741824 by omega) (fun _ => rfl) (fun _ => rfl) (fun _ => rfl)) (fun _ _ _ _ => trivial)) trivial rfl (.inl rfl) (fun env he => by cases env; cases he; rfl) (.inl rfl) ?_
  intro st _
  refine HS.ctx (Γ' := [.bx b, .d (cList cInt) sz, .d (cList cI3) rows, .d cInt i, .d cInt way, .d cInt r.1, .d cInt r.2.1, .d cInt r.2.2, .d cInt st, .un]) rfl ?_
  refine bset (k := 0) (k2 := 0 + max 0 0 + 0) 9 (pt3 (pd_name (i := 5) rfl rfl (.inl rfl)) (pbin (fun _ _ => op_mod) (pintR rfl U.int (pbin (fun _ _ => op_add) (pd_name (i := 6) rfl rfl (.inl rfl)) (pd_name (i := 8) rfl rfl (.inl rfl)) rd_I0) (fun _ => rfl)) (pix ixLG (pd_name (i := 1) rfl rfl (.inl rfl)) (pd_name (i := 5) rfl rfl (.inl rfl)) (rd_ixLd hp1) (fun _ _ => rfl)) (rd_I (show 0 < atT sz r.1 by omega))) (pd_name (i := 7) rfl rfl (.inl rfl)) (fun _ => rfl) (fun _ => rfl) (fun _ => rfl)) trivial rfl (.inl rfl) (fun env he => by cases env; cases he; rfl) (.inl rfl) ?_
  intro m0 em0
  refine HS.ctx (Γ' := [.bx b, .d (cList cInt) sz, .d (cList cI3) rows, .d cInt i, .d cInt way, .d cInt r.1, .d cInt r.2.1, .d cInt r.2.2, .d cInt st, .d cI3 m0]) rfl ?_
  have md : ∀ x : Int, 0 ≤ x % atT sz r.1 ∧ x % atT sz r.1 < atT sz r.1 := fun x => ⟨Int.emod_nonneg _ (by omega), Int.emod_lt_of_pos _ (by omega)⟩
  refine bifS (k1 := 0) (k2 := 0) (k3 := 0) (kr := 0) (N1 := fun Γ => ∃ m : R3, (m.1 = r.1 ∧ (0 ≤ m.2.1 ∧ m.2.1 < atT sz r.1) ∧ (0 ≤ m.2.2 ∧ m.2.2 < atT sz r.1)) ∧ Γ = [.bx b, .d (cList cInt) sz, .d (cList cI3) rows, .d cInt i, .d cInt way, .d cInt r.1, .d cInt r.2.1, .d cInt r.2.2, .d cInt st, .d cI3 m]) (tcmp (fun _ _ => op_eq) (pd_name (i := 4) rfl rfl (.inl rfl)) (pd_int (i := 1)) rd_eqI (nomark _)) (fun h => ?_) (fun h => phs_nil ⟨m0, by rw [em0]; exact ⟨rfl, md _, hr3⟩, rfl⟩) ?_
  · refine bset (k := 0) (k2 := 0) 9 (pt3 (pd_name (i := 5) rfl rfl (.inl rfl)) (pd_name (i := 6) rfl rfl (.inl rfl)) (pbin (fun _ _ => op_mod) (pintR rfl U.int (pbin (fun _ _ => op_add) (pd_name (i := 7) rfl rfl (.inl rfl)) (pd_name (i := 8) rfl rfl (.inl rfl)) rd_I0) (fun _ => rfl)) (pix ixLG (pd_name (i := 1) rfl rfl (.inl rfl)) (pd_name (i := 5) rfl rfl (.inl rfl)) (rd_ixLd hp1) (fun _ _ => rfl)) (rd_I (show 0 < atT sz r.1 by omega))) (fun _ => rfl) (fun _ => rfl) (fun _ => rfl)) trivial rfl (.inl rfl) (fun env he => by cases env; cases he; rfl) (.inl rfl) ?_
    intro m1 em1
    exact phs_nil ⟨m1, by rw [em1]; exact ⟨rfl, hr2, md _⟩, rfl⟩
  rintro _ ⟨m, ⟨hm1, hm2, hm3⟩, rfl⟩
  have hs2 : 0 ≤ i ∧ i ≤ (rows.length : Int) := by omega
  have hs3 : 0 ≤ i + 1 ∧ i + 1 ≤ (rows.length : Int) := by omega
  have hsub : (cutD rows none (some i) ++ cutD rows (some (i + 1)) none).Sublist rows := by
    rw [cutD_head hs2, cutD_tail hs3]
    refine List.Sublist.trans (List.Sublist.append_left (List.drop_sublist_drop_left _ (show i.toNat ≤ (i + 1).toNat by omega)) _) ?_
    rw [List.take_append_drop]
    exact List.Sublist.refl _
  have hne2 : ∀ q ∈ cutD rows none (some i) ++ cutD rows (some (i + 1)) none, q.1 ≠ r.1 := fun q hq e => by
    rw [cutD_head hs2, cutD_tail hs3] at hq
    have hnd := hof.nd
    have hsplit : rows = rows.take i.toNat ++ r :: rows.drop (i + 1).toNat := by
      rw [show (i + 1).toNat = i.toNat + 1 by omega, ← hrm]
      rw [List.getElem_cons_drop, List.take_append_drop]
    rw [hsplit, List.map_append, List.map_cons, List.nodup_append] at hnd
    rcases List.mem_append.mp hq with z | z
    · exact hnd.2.2 q.1 (List.mem_map_of_mem z) r.1 List.mem_cons_self e
    · have := (List.nodup_cons.mp hnd.2.1).1
      exact this (by rw [← e]; exact List.mem_map_of_mem z)
  have hcl : (cutD rows none (some i)).length + (cutD rows (some (i + 1)) none).length ≤ 8 := by rw [← List.length_append]; exact Nat.le_trans hsub.length_le (by omega)
  refine bret (TDF.td (pcat (TDF.td (pcat (TDF.td (pslL (pd_name (i := 2) rfl rfl (.inl rfl)) .none (.some (pd_name (i := 3) rfl rfl (.inl rfl))))) (TDF.td (pslL (pd_name (i := 2) rfl rfl (.inl rfl)) (.some (pbin (fun _ _ => op_add) (pd_name (i := 3) rfl rfl (.inl rfl)) (pd_int (i := 1)) rd_I0)) .none)) (by unfold DL.LB; omega))) (prepL (xs := [m]) (TDF.td (plst (c := cI3) (.cons (pd_name (i := 9) rfl rfl (.inl rfl)) .nil (fun _ => rfl)) (by simp))) (pintB rfl U.int (pcmp (fun _ _ => op_lt) (pd_name (i := 4) rfl rfl (.inl rfl)) (pd_int (i := 2)) rd_B0 (nomark _)) (fun _ => rfl)) (by split <;> decide) (by simp)) ?_)) ?_
  · rw [List.length_append]
    have : (List.replicate (if decide (way < 2) = true then 1 else 0 : Int).toNat [m]).flatten.length ≤ 1 := by split <;> simp
    unfold DL.LB; omega
  · intro z e
    rw [e]
    show Of sz (_ ++ _)
    split
    · refine (hof.sub hsub).append (b := [m]) ⟨fun q hq => ?_, by simp⟩ fun x hx y hy => ?_
      · rw [List.mem_singleton.mp hq, hm1]; exact ⟨hp1, hm2, hm3⟩
      · rw [List.mem_singleton.mp hy, hm1]; exact hne2 x hx
    · simp only [Int.toNat_zero, List.replicate_zero, List.flatten_nil, List.append_nil]
      exact hof.sub hsub
end
end K07

set_option Elab.async false
set_option linter.all false
set_option maxRecDepth 100000
set_option maxHeartbeats 4000000
namespace K07
open PySem PySem.Spec L2 DL
theorem val_mem : ∀ {kvs : List (Int × Int)} {k v : Int}, valD kvs k = some v → (k, v) ∈ kvs := fun {kvs k v} h => by
  unfold valD at h
  cases e : kvs.find? fun kv => decide (kv.1 = k) with
  | none => rw [e] at h; cases h
  | some p =>
    rw [e] at h
    have h1 : p.2 = v := Option.some.inj h
    have h2 := List.find?_some e
    have h3 : p.1 = k := of_decide_eq_true h2
    have := List.mem_of_find?_eq_some e
    obtain ⟨p1, p2⟩ := p
    subst h1 h3
    exact this
theorem dic_mem {l : List (Int × Int)} {k v : Int} (h : valD (dicOf l) k = some v) : (k, v) ∈ l := by
  rw [valD_dicOf] at h
  have := val_mem h
  exact List.mem_reverse.mp this
section
variable {S : Stc} {Γ : Ctxt} {a b : Expr} {pos : Pos}
theorem ttnotinD0 {x : Int} {xs : List Int} (ha : PD S Γ 0 a cInt (· = x)) (hb : PD S Γ 0 b (cList cInt) (· = xs)) (hm : behindInMarks .NotIn b = false) : PDT S Γ 0 (.Compare a [.NotIn] [b] pos) (· = !decide (x ∈ xs)) := tcmp op_notInG ha hb (rd_inI (neg := true)) hm
end
section
variable {P : Program} {w : World} {K : PySem.W.Frag} {mg : Str → Option Value} {base : Heap}
variable (U : Bt mg)
include U
abbrev nPair : List Str := ["box", "sizes", "spots", "way", "turned", "rows", "far", "taken", "news", "row", "place", "old", "new"]
abbrev P_pair : Sp := spD (fun b (a : List Int × List Int) => [.bx b, .d (cList cInt) a.1, .d (cList cInt) a.2]) (fun _ => 70) (fun a => Pl a.1 ∧ Spt a.2 a.1.length) (cL2 (cList cI3) (cList cI3)) (fun a x => Of a.1 x.1 ∧ Of a.1 x.2)
theorem c_pair (md : mg "dict" = none) (D : Def K mg "_law_pair" (top 50)) (C_take : Cal P w K mg base "_law_take" ["box", "many"] 1 spTake) (C_some : Cal P w K mg base "_law_some" ["box", "sizes", "spots"] 2 P_some) (C_spoilt : Cal P w K mg base "_law_spoilt" ["box", "sizes", "rows"] 2 P_spoilt) : Cal P w K mg base "_law_pair" ["box", "sizes", "spots"] 3 P_pair := by
  refine cal_D (N := nPair) D (fun _ _ _ _ _ _ us hl => match us, hl with | [_, _, _], _ => rfl) ⟨rfl, rfl, rfl, by decide +kernel, rfl, by decide +kernel, by decide +kernel⟩ (fun _ _ => rfl) (by decide) (fun _ _ => trivial) fun b a hp => ?_
  obtain ⟨sz, sp⟩ := a
  obtain ⟨hsz, hsp⟩ := hp
  have hsz : Pl sz := hsz
  have hsp : Spt sp sz.length := hsp
  have h8 := hsz.1.2
  have hl := hsp.len
  refine HS.le (k := 1 + 1 + (0 + 32 + (0 + 32 + (0 + max 0 0 + (0 + max 0 0 + (0 + max 0 0 + (0 + max 0 0 + (0 + 0 + 1 + max (3 + 0) 0 + 0)))))))) ?_ (by decide)
  refine bparP (k1 := 1) (k2 := 1) (kr := 0 + 32 + (0 + 32 + (0 + max 0 0 + (0 + max 0 0 + (0 + max 0 0 + (0 + max 0 0 + (0 + 0 + 1 + max (3 + 0) 0 + 0))))))) 3 4 (R1 := fun s => ∃ v : Int, (0 ≤ v ∧ v < 8) ∧ s = .d cInt v) (R2 := fun s => ∃ v : Int, (0 ≤ v ∧ v < 2) ∧ s = .d cInt v) (TD.tx (ptake C_take (show (1 : Nat) ≤ 2 by decide) rfl (i := 0) rfl rfl (.inl rfl) (pd_int (i := 8)) (by decide) (fun _ => rfl) (fun _ => rfl) (fun _ => rfl))) (TD.tx (ptake C_take (show (1 : Nat) ≤ 2 by decide) rfl (i := 0) rfl rfl (.inl rfl) (pd_int (i := 2)) (by decide) (fun _ => rfl) (fun _ => rfl) (fun _ => rfl))) trivial trivial (by decide) nun nun rfl rfl rfl rfl (fun _ => rfl) (fun _ => rfl) (fun env he => by cases env; cases he; rfl) (fun env he => by cases env; cases he; rfl) ?_
  rintro _ _ ⟨way, hway, rfl⟩ ⟨turned, htd, rfl⟩
  refine HS.ctx (Γ' := [.bx b, .d (cList cInt) sz, .d (cList cInt) sp, .d cInt way, .d cInt turned, .un, .un, .un, .un, .un, .un, .un, .un]) rfl ?_
  refine bset (k := 0 + 32) (k2 := 0 + 32 + (0 + max 0 0 + (0 + max 0 0 + (0 + max 0 0 + (0 + max 0 0 + (0 + 0 + 1 + max (3 + 0) 0 + 0)))))) (P := fun x => Of sz x) 5 (pcalX (k1 := 0) (k2 := 32) C_some (show (2 : Nat) ≤ 2 by decide) rfl (pda_boxp (k2 := 0) (i := 0) rfl rfl (.inl rfl) (pda_more (k1 := 0) (k2 := 0) (pd_name (i := 1) rfl rfl (.inl rfl)) (pda_one (pd_name (i := 2) rfl rfl (.inl rfl)) (fun _ => rfl)) (fun _ => rfl))) (fun as e => ⟨(sz, sp), b, e, ⟨hsz, hsp⟩, Nat.le_refl _, fun x hx => hx⟩) (fun _ => rfl) (fun _ => rfl)) trivial rfl (.inl rfl) (fun env he => by cases env; cases he; rfl) (.inl rfl) ?_
  intro rows hr
  have hr : Of sz rows := hr
  refine HS.ctx (Γ' := [.bx b, .d (cList cInt) sz, .d (cList cInt) sp, .d cInt way, .d cInt turned, .d (cList cI3) rows, .un, .un, .un, .un, .un, .un, .un]) rfl ?_
  refine bset (k := 0 + 32) (k2 := (0 + max 0 0 + (0 + max 0 0 + (0 + max 0 0 + (0 + max 0 0 + (0 + 0 + 1 + max (3 + 0) 0 + 0)))))) (P := fun x => Of sz x) 6 (pcalX (k1 := 0) (k2 := 32) C_some (show (2 : Nat) ≤ 2 by decide) rfl (pda_boxp (k2 := 0) (i := 0) rfl rfl (.inl rfl) (pda_more (k1 := 0) (k2 := 0) (pd_name (i := 1) rfl rfl (.inl rfl)) (pda_one (pd_name (i := 2) rfl rfl (.inl rfl)) (fun _ => rfl)) (fun _ => rfl))) (fun as e => ⟨(sz, sp), b, e, ⟨hsz, hsp⟩, Nat.le_refl _, fun x hx => hx⟩) (fun _ => rfl) (fun _ => rfl)) trivial rfl (.inl rfl) (fun env he => by cases env; cases he; rfl) (.inl rfl) ?_
  intro far hf
  have hf : Of sz far := hf
  refine HS.ctx (Γ' := [.bx b, .d (cList cInt) sz, .d (cList cInt) sp, .d cInt way, .d cInt turned, .d (cList cI3) rows, .d (cList cI3) far, .un, .un, .un, .un, .un, .un]) rfl ?_
  refine bifS (k1 := 0) (k2 := 0) (k3 := 0) (kr := (0 + max 0 0 + (0 + max 0 0 + (0 + max 0 0 + (0 + 0 + 1 + max (3 + 0) 0 + 0))))) (N1 := fun Γ => ∃ rows far : List R3, Of sz rows ∧ Of sz far ∧ Γ = [.bx b, .d (cList cInt) sz, .d (cList cInt) sp, .d cInt way, .d cInt turned, .d (cList cI3) rows, .d (cList cI3) far, .un, .un, .un, .un, .un, .un]) (tcmp (fun _ _ => op_eq) (pd_name (i := 3) rfl rfl (.inl rfl)) (pd_int (i := 0)) rd_eqI (nomark _)) (fun h => ?_) (fun h => phs_nil ⟨rows, far, hr, hf, rfl⟩) ?_
  · refine bset (k := 0) (k2 := 0) 7 (TDF.td (plcN [("row", 9)] (pdi_list (pd_name (i := 5) rfl rfl (.inl rfl))) trivial (by kernel_rfl) (fun _ _ => rfl) fun x hx => ⟨_, _, (pdg_name (i := 9) trivial rfl (.inl rfl) (.inr rfl)), (fun _ h => h), (pix ixTG (pd_name (i := 9) rfl rfl (.inl rfl)) pd_int rd_ix3_0 (fun _ _ => rfl))⟩)) trivial rfl (.inr rfl) (sw_cell rfl) (.inl rfl) ?_
    intro tk etk
    refine HS.ctx (Γ' := [.bx b, .d (cList cInt) sz, .d (cList cInt) sp, .d cInt way, .d cInt turned, .d (cList cI3) rows, .d (cList cI3) far, .d (cList cInt) tk, .un, .un, .un, .un, .un]) rfl ?_
    refine bsetLc (k := 0) (k2 := 0) 6 [("row", 9)] (tdf_lcT (f := fun r : R3 => r) (q := fun r : R3 => !decide (r.1 ∈ tk)) (pdi_list (pd_name (i := 6) rfl rfl (.inl rfl))) trivial fun x hx => ⟨_, _, (pdg_name (i := 9) trivial rfl (.inl rfl) (.inr rfl)), (fun _ h => h), (tts_one (ttnotinD0 (pix ixTG (pd_name (i := 9) rfl rfl (.inl rfl)) pd_int rd_ix3_0 (fun _ _ => rfl)) (pd_name (i := 7) rfl rfl (.inr (.inl rfl))) rfl)), fun hq => (pd_name (i := 9) rfl rfl (.inl rfl))⟩) trivial rfl rfl rfl rfl rfl (by kernel_rfl) (fun _ _ => rfl) ?_
    intro f2 ef2
    refine HS.drop [7] trivial ?_
    exact phs_nil ⟨rows, f2, hr, by rw [ef2, List.map_id']; exact hf.filter _, rfl⟩
  rintro _ ⟨rows, far, hr, hf, rfl⟩
  refine bifS (k1 := 0) (k2 := 0) (k3 := 0) (kr := (0 + max 0 0 + (0 + max 0 0 + (0 + 0 + 1 + max (3 + 0) 0 + 0)))) (N1 := fun Γ => ∃ rows far : List R3, Of sz rows ∧ Of sz far ∧ Γ = [.bx b, .d (cList cInt) sz, .d (cList cInt) sp, .d cInt way, .d cInt turned, .d (cList cI3) rows, .d (cList cI3) far, .un, .un, .un, .un, .un, .un]) (tcmp (fun _ _ => op_eq) (pd_name (i := 3) rfl rfl (.inl rfl)) (pd_int (i := 1)) rd_eqI (nomark _)) (fun h => ?_) (fun h => phs_nil ⟨rows, far, hr, hf, rfl⟩) ?_
  · have hlr := hr.len
    have hlf := hf.len
    refine bsetLc (k := 0) (k2 := 0) 5 [("place", 10), ("old", 11), ("new", 12)] (tdf_lcN (f := fun r : R3 => ((r.1, r.2.1, r.2.1) : R3)) (pdi_list (pd_name (i := 5) rfl rfl (.inl rfl))) trivial fun x hx => ⟨_, _, (pdg_t3 (pdg_name (i := 10) trivial rfl (.inl rfl) (.inr rfl)) (pdg_name (i := 11) trivial rfl (.inl rfl) (.inr rfl)) (pdg_name (i := 12) trivial rfl (.inl rfl) (.inr rfl)) (fun _ => rfl) (fun _ => rfl) (fun _ => rfl) (fun _ => rfl) (fun _ => rfl)), (fun _ h => h), (pt3 (pd_name (i := 10) rfl rfl (.inl rfl)) (pd_name (i := 11) rfl rfl (.inl rfl)) (pd_name (i := 11) rfl rfl (.inl rfl)) (fun _ => rfl) (fun _ => rfl) (fun _ => rfl))⟩) trivial rfl rfl rfl rfl rfl (by kernel_rfl) (fun _ _ => rfl) ?_
    intro r2 er2
    have hr2 : Of sz r2 := by rw [er2]; exact hr.map _ fun r h => ⟨rfl, (hr.at_ r h).2.1, (hr.at_ r h).2.1⟩
    have hlr2 := hr2.len
    refine HS.ctx (Γ' := [.bx b, .d (cList cInt) sz, .d (cList cInt) sp, .d cInt way, .d cInt turned, .d (cList cI3) r2, .d (cList cI3) far, .un, .un, .un, .un, .un, .un]) rfl ?_
    refine bset (k := 0) (k2 := 0) 7 (TDF.td (plcN [("row", 9)] (pdi_list (pd_name (i := 5) rfl rfl (.inl rfl))) trivial (by kernel_rfl) (fun _ _ => rfl) fun x hx => ⟨_, _, (pdg_name (i := 9) trivial rfl (.inl rfl) (.inr rfl)), (fun _ h => h), (pix ixTG (pd_name (i := 9) rfl rfl (.inl rfl)) pd_int rd_ix3_0 (fun _ _ => rfl))⟩)) trivial rfl (.inr rfl) (sw_cell rfl) (.inl rfl) ?_
    intro tk etk
    have etk : tk = r2.map fun r => r.1 := etk
    refine HS.ctx (Γ' := [.bx b, .d (cList cInt) sz, .d (cList cInt) sp, .d cInt way, .d cInt turned, .d (cList cI3) r2, .d (cList cI3) far, .d (cList cInt) tk, .un, .un, .un, .un, .un]) rfl ?_
    refine bset (k := 0) (k2 := 0) 6 (TDF.td (pcat (TDF.td (pslL (pd_name (i := 5) rfl rfl (.inl rfl)) (.some (pd_int (i := 1))) .none)) (TDF.td (plcT (f := fun r : R3 => r) (q := fun r : R3 => !decide (r.1 ∈ tk)) [("row", 9)] (pdi_list (pd_name (i := 6) rfl rfl (.inl rfl))) trivial (by kernel_rfl) (fun _ _ => rfl) fun x hx => ⟨_, _, (pdg_name (i := 9) trivial rfl (.inl rfl) (.inr rfl)), (fun _ h => h), (tts_one (ttnotinD0 (pix ixTG (pd_name (i := 9) rfl rfl (.inl rfl)) pd_int rd_ix3_0 (fun _ _ => rfl)) (pd_name (i := 7) rfl rfl (.inr (.inl rfl))) rfl)), fun hq => (pd_name (i := 9) rfl rfl (.inl rfl))⟩)) ?_)) trivial rfl (.inl rfl) (fun env he => by cases env; cases he; rfl) (.inl rfl) ?_
    · have h1 : (cutD r2 (some 1) none).length ≤ 8 := Nat.le_trans (((List.take_sublist _ _).trans (List.drop_sublist _ _)).length_le) (by omega)
      have h2 := List.length_filter_le (fun r : R3 => !decide (r.1 ∈ tk)) far
      rw [List.length_map]
      unfold DL.LB; omega
    intro f2 ef2
    refine HS.drop [7] trivial ?_
    refine phs_nil ⟨r2, f2, hr2, ?_, rfl⟩
    rw [ef2, List.map_id']
    refine (hr2.sub (show (cutD r2 (some 1) none).Sublist r2 from (List.take_sublist _ _).trans (List.drop_sublist _ _))).append (hf.filter _) fun x hx y hy e => ?_
    have h1 := (List.mem_filter.mp hy).2
    have h2 : x.1 ∈ tk := by rw [etk]; exact List.mem_map_of_mem (cutD_mem hx)
    rw [← e] at h1
    simp [h2] at h1
  rintro _ ⟨rows, far, hr, hf, rfl⟩
  refine bifS (k1 := 0) (k2 := 0) (k3 := 0) (kr := (0 + max 0 0 + (0 + 0 + 1 + max (3 + 0) 0 + 0))) (N1 := fun Γ => ∃ rows far : List R3, Of sz rows ∧ Of sz far ∧ Γ = [.bx b, .d (cList cInt) sz, .d (cList cInt) sp, .d cInt way, .d cInt turned, .d (cList cI3) rows, .d (cList cI3) far, .un, .un, .un, .un, .un, .un]) (tcmp op_inG (pd_name (i := 3) rfl rfl (.inl rfl)) (TDF.td (plst (c := cInt) (xs := [2, 3, 4]) (.cons pd_int (.cons pd_int (.cons pd_int .nil (fun _ => rfl)) (fun _ => rfl)) (fun _ => rfl)) (by simp))) (rd_inI (neg := false)) rfl) (fun h => ?_) (fun h => phs_nil ⟨rows, far, hr, hf, rfl⟩) ?_
  · refine bset (k := 0) (k2 := 0) 8 (pdictP (c := cInt) rfl md (TDF.td (plcN (f := fun r : R3 => (r.1, r.2.2)) [("row", 9)] (pdi_list (pd_name (i := 5) rfl rfl (.inl rfl))) trivial (by kernel_rfl) (fun _ _ => rfl) fun x hx => ⟨_, _, (pdg_name (i := 9) trivial rfl (.inl rfl) (.inr rfl)), (fun _ h => h), (pt2 (pix ixTG (pd_name (i := 9) rfl rfl (.inl rfl)) pd_int rd_ix3_0 (fun _ _ => rfl)) (pix ixTG (pd_name (i := 9) rfl rfl (.inl rfl)) pd_int rd_ix3_2 (fun _ _ => rfl)) (fun _ => rfl) (fun _ => rfl))⟩)) (fun _ => rfl)) trivial rfl (.inr rfl) (sw_cell rfl) (.inl rfl) ?_
    intro nw enw
    refine HS.ctx (Γ' := [.bx b, .d (cList cInt) sz, .d (cList cInt) sp, .d cInt way, .d cInt turned, .d (cList cI3) rows, .d (cList cI3) far, .un, .d (cDic cInt) nw, .un, .un, .un, .un]) rfl ?_
    refine bsetLc (k := 0) (k2 := 0) 6 [("place", 10), ("old", 11), ("new", 12)] (tdf_lcN (f := fun r : R3 => ((r.1, (valD nw r.1).getD r.2.1, r.2.2) : R3)) (pdi_list (pd_name (i := 6) rfl rfl (.inl rfl))) trivial fun x hx => ⟨_, _, (pdg_t3 (pdg_name (i := 10) trivial rfl (.inl rfl) (.inr rfl)) (pdg_name (i := 11) trivial rfl (.inl rfl) (.inr rfl)) (pdg_name (i := 12) trivial rfl (.inl rfl) (.inr rfl)) (fun _ => rfl) (fun _ => rfl) (fun _ => rfl) (fun _ => rfl) (fun _ => rfl)), (fun _ h => h), (pt3 (pd_name (i := 10) rfl rfl (.inl rfl)) (pdget2 (pd_name (i := 8) rfl rfl (.inr (.inl rfl))) (pd_name (i := 10) rfl rfl (.inl rfl)) (pd_name (i := 11) rfl rfl (.inl rfl)) (fun _ => ⟨rfl, rfl, rfl, rfl⟩)) (pd_name (i := 12) rfl rfl (.inl rfl)) (fun _ => rfl) (fun _ => rfl) (fun _ => rfl))⟩) trivial rfl rfl rfl rfl rfl (by kernel_rfl) (fun _ _ => rfl) ?_
    intro f2 ef2
    refine HS.drop [8] trivial ?_
    refine phs_nil ⟨rows, f2, hr, ?_, rfl⟩
    rw [ef2]
    refine hf.map _ fun r h => ⟨rfl, ?_, (hf.at_ r h).2.2⟩
    show 0 ≤ (valD nw r.1).getD r.2.1 ∧ (valD nw r.1).getD r.2.1 < atT sz r.1
    cases e : valD nw r.1 with
    | none => exact (hf.at_ r h).2.1
    | some v =>
      rw [enw] at e
      obtain ⟨q, hq, eqq⟩ := List.mem_map.mp (dic_mem e)
      have e1 : q.1 = r.1 := congrArg (fun z : Int × Int => z.1) eqq
      have e2 : q.2.2 = v := congrArg (fun z : Int × Int => z.2) eqq
      have := (hr.at_ q hq).2.2
      rw [e1, e2] at this
      exact this
  rintro _ ⟨rows, far, hr, hf, rfl⟩
  refine bifS (k1 := 0) (k2 := 0) (k3 := 0) (kr := (0 + 0 + 1 + max (3 + 0) 0 + 0)) (N1 := fun Γ => ∃ rows far : List R3, Of sz rows ∧ Of sz far ∧ Γ = [.bx b, .d (cList cInt) sz, .d (cList cInt) sp, .d cInt way, .d cInt turned, .d (cList cI3) rows, .d (cList cI3) far, .un, .un, .un, .un, .un, .un]) (tcmp (fun _ _ => op_eq) (pd_name (i := 3) rfl rfl (.inl rfl)) (pd_int (i := 5)) rd_eqI (nomark _)) (fun h => ?_) (fun h => phs_nil ⟨rows, far, hr, hf, rfl⟩) ?_
  · refine bsetLc (k := 0) (k2 := 0) 6 [("place", 10), ("old", 11), ("new", 12)] (tdf_lcN (f := fun r : R3 => ((r.1, r.2.2, r.2.1) : R3)) (pdi_list (pd_name (i := 5) rfl rfl (.inl rfl))) trivial fun x hx => ⟨_, _, (pdg_t3 (pdg_name (i := 10) trivial rfl (.inl rfl) (.inr rfl)) (pdg_name (i := 11) trivial rfl (.inl rfl) (.inr rfl)) (pdg_name (i := 12) trivial rfl (.inl rfl) (.inr rfl)) (fun _ => rfl) (fun _ => rfl) (fun _ => rfl) (fun _ => rfl) (fun _ => rfl)), (fun _ h => h), (pt3 (pd_name (i := 10) rfl rfl (.inl rfl)) (pd_name (i := 12) rfl rfl (.inl rfl)) (pd_name (i := 11) rfl rfl (.inl rfl)) (fun _ => rfl) (fun _ => rfl) (fun _ => rfl))⟩) trivial rfl rfl rfl rfl rfl (by kernel_rfl) (fun _ _ => rfl) ?_
    intro f2 ef2
    exact phs_nil ⟨rows, f2, hr, by rw [ef2]; exact hr.map _ fun r h => ⟨rfl, (hr.at_ r h).2.2, (hr.at_ r h).2.1⟩, rfl⟩
  rintro _ ⟨rows, far, hr, hf, rfl⟩
  refine bifS (k1 := 0 + (0 + 1)) (k2 := 0 + 3 + 0) (k3 := 0) (kr := 0) (N1 := fun Γ => ∃ rows far : List R3, Of sz rows ∧ Of sz far ∧ Γ = [.bx b, .d (cList cInt) sz, .d (cList cInt) sp, .d cInt way, .d cInt turned, .d (cList cI3) rows, .d (cList cI3) far, .un, .un, .un, .un, .un, .un]) (pdt_w (pdw_andG (k1 := 0) (k2 := 0 + 1) (tcmp op_inG (pd_name (i := 3) rfl rfl (.inl rfl)) (TDF.td (pcat (TDF.td (plst (c := cInt) (xs := [1, 4]) (.cons pd_int (.cons pd_int .nil (fun _ => rfl)) (fun _ => rfl)) (by simp))) (prepL (xs := [2, 3]) (TDF.td (plst (c := cInt) (xs := [2, 3]) (.cons pd_int (.cons pd_int .nil (fun _ => rfl)) (fun _ => rfl)) (by simp))) (pintB rfl U.int (pcmp (fun _ _ => op_gt) (plen rfl U.len (TD.seqL (pd_name (i := 2) rfl rfl (.inl rfl))) (fun _ => rfl)) (pd_int (i := 5)) rd_B0 (nomark _)) (fun _ => rfl)) (by split <;> decide) (by simp)) ?_)) (rd_inI (neg := false)) rfl) fun _ => (pdw_and1 (teqR (k1 := 1) (k2 := 0) (ptake C_take (show (1 : Nat) ≤ 2 by decide) rfl (i := 0) rfl rfl (.inl rfl) (pd_int (i := 2)) (by decide) (fun _ => rfl) (fun _ => rfl) (fun _ => rfl)) (pd_int (i := 0)) (nomark _))))) (fun h => ?_) (fun h => phs_nil ⟨rows, far, hr, hf, rfl⟩) ?_
  · have : (List.replicate (if decide ((5 : Int) < (sp.length : Int)) = true then 1 else 0 : Int).toNat [(2 : Int), 3]).flatten.length ≤ 2 := by split <;> simp
    unfold DL.LB
    show 2 + _ ≤ _
    omega
  · refine bset (k := 0 + 3) (k2 := 0) (P := fun x => Of sz x) 6 (pcalX (k1 := 0) (k2 := 3) C_spoilt (show (2 : Nat) ≤ 2 by decide) rfl (pda_boxp (k2 := 0) (i := 0) rfl rfl (.inl rfl) (pda_more (k1 := 0) (k2 := 0) (pd_name (i := 1) rfl rfl (.inl rfl)) (pda_one (pd_name (i := 6) rfl rfl (.inl rfl)) (fun _ => rfl)) (fun _ => rfl))) (fun as e => ⟨(sz, far), b, e, ⟨hsz, hf⟩, Nat.le_refl _, fun x hx => hx⟩) (fun _ => rfl) (fun _ => rfl)) trivial rfl (.inl rfl) (fun env he => by cases env; cases he; rfl) (.inl rfl) ?_
    intro f2 hf2
    exact phs_nil ⟨rows, f2, hr, hf2, rfl⟩
  rintro _ ⟨rows, far, hr, hf, rfl⟩
  refine bret (R' := fun z => Of sz z.1 ∧ Of sz z.2) (TD.le (pd_if (k1 := 0) (k2 := 0) (k3 := 0) (P := fun z => Of sz z.1 ∧ Of sz z.2) (tcmp (fun _ _ => op_eq) (pd_name (i := 4) rfl rfl (.inl rfl)) (pd_int (i := 0)) rd_eqI (nomark _)) (fun _ => (plst2 (pd_name (i := 5) rfl rfl (.inl rfl)) (pd_name (i := 6) rfl rfl (.inl rfl)) (fun _ => rfl) (fun _ => rfl)).imp fun z e => by rw [e]; exact ⟨hr, hf⟩) fun _ => (plst2 (pd_name (i := 6) rfl rfl (.inl rfl)) (pd_name (i := 5) rfl rfl (.inl rfl)) (fun _ => rfl) (fun _ => rfl)).imp fun z e => by rw [e]; exact ⟨hf, hr⟩) (by decide)) fun z h => h
end
end K07

set_option Elab.async false
set_option linter.all false
set_option maxRecDepth 100000
set_option maxHeartbeats 4000000
namespace K07
open PySem PySem.Spec L2 DL
/-! ### one pair of changes -/
def lookL (sz : List Int) (rows far : List R3) : List (List Int) := textsP (partsL sz (rows ++ far))
def unlL (sz : List Int) (rows far : List R3) : List (List Int) := (lookL sz rows far).filter fun t => !decide (behL rows far t = behL far rows t)
def wideL (sz : List Int) (rows far : List R3) : List (Option (List Int)) := ((unlL sz rows far).take 1).map (fun t => some (t ++ [0])) ++ [none]
theorem rng_filter {α : Type} [Inhabited α] (T : List α) (g : α → Bool) : ((rangeL 0 T.length).filter fun k => g (T.getD k.toNat default)).map (fun k => T.getD k.toNat default) = T.filter g := by
  have e : T = (rangeL 0 T.length).map fun k => T.getD k.toNat default := by
    refine List.ext_getElem? fun i => ?_
    rw [List.getElem?_map]
    unfold rangeL
    rw [List.getElem?_map]
    by_cases h : i < T.length
    · rw [List.getElem?_eq_getElem (l := List.range T.length) (i := i) (by simpa using h), List.getElem_range, List.getElem?_eq_getElem h]
      show some T[i] = some (T.getD _ default)
      rw [show ((0 : Int) + (i : Int)).toNat = i by omega, List.getD_eq_getElem?_getD, List.getElem?_eq_getElem h]; rfl
    · rw [List.getElem?_eq_none (by omega), List.getElem?_eq_none (by rw [List.length_range]; omega)]; rfl
  have := congrArg (List.filter g) e
  rw [List.filter_map] at this
  exact this.symm
theorem rows_nil : Rows [] := rows_mk (fun _ h => nomatch h) List.nodup_nil
theorem sort3_nil : sort3 [] = [] := (sort3_perm []).eq_nil
theorem shw_bool (b : Bool) : Shw (.bool b) 5 := by cases b <;> exact ⟨rfl, rfl, by decide +kernel⟩
theorem shw_b2 (x : Bool × Bool) : Shw ((eT2 eBool eBool).D x) sizeLine := by
  have := shw_tup (D := PyData.bool) (xs := [x.1, x.2]) (n := 5) fun b _ => shw_bool b
  exact this.le (show (5 + 2) * 2 + 3 ≤ sizeLine by decide)
theorem ref_T2 {α β : Type} {c : Cod α} {d : Cod β} {x : α × β} : ∀ H v, (cT2 c d).rep H v x → ∃ a, v = .ref a := fun H v ⟨a, _, _, h, _⟩ => ⟨a, h⟩
theorem ref_L3 {α β γ : Type} {c : Cod α} {d : Cod β} {f : Cod γ} {x : α × β × γ} : ∀ H v, (cL3 c d f).rep H v x → ∃ a, v = .ref a := fun H v ⟨a, _, _, _, h, _⟩ => ⟨a, h⟩
theorem log6 {x : Int} (h : 0 ≤ x ∧ x < 6) : x.natAbs.log2 < 1920 := by
  have : x.natAbs < 8 := by omega
  exact Nat.lt_of_le_of_lt (Nat.log2_le_self _) (by omega)
theorem shw_txt {t : List Int} (h : t.length ≤ 9 ∧ ∀ x ∈ t, 0 ≤ x ∧ x < 6) : Shw ((eTup eInt).D t) sizeLine :=
  (shw_tup (D := eInt.D) (n := 1) fun x hx => shw_int (k := 1) (h.2 x hx).1 (by decide) (by have := (h.2 x hx).2; omega) (log6 (h.2 x hx))).le (by have := h.1; exact Nat.le_trans (show _ ≤ 30 by omega) (by decide))
/-- what has to be known of the pair -/
structure Facts (sz : List Int) (rows far : List R3) : Prop where
  ok : PtOk (partsL sz (rows ++ far))
  ln : (lookL sz rows far).length ≤ 1000
  len : ∀ t ∈ lookL sz rows far, t.length = sz.length
  small : ∀ t ∈ lookL sz rows far, ∀ x ∈ t, 0 ≤ x ∧ x < 6
  can : canF (sort3 rows) (sort3 far) = !decide (((lookL sz rows far).map (behL rows far)).filter (fun o => o.isSome) = [])
  can' : canF (sort3 far) (sort3 rows) = !decide (((lookL sz rows far).map (behL far rows)).filter (fun o => o.isSome) = [])
  comm : commL (sort3 rows) (sort3 far) = decide (unlL sz rows far = [])
  comm' : commL (sort3 far) (sort3 rows) = decide (unlL sz rows far = [])
  un : unlikeL sz (sort3 rows) (sort3 far) = ((unlL sz rows far).map some ++ [none]).getD 0 default
  un' : unlikeL sz (sort3 far) (sort3 rows) = ((unlL sz rows far).map some ++ [none]).getD 0 default
  unw : unlikeL (sz ++ [2]) (sort3 rows) (sort3 far) = (wideL sz rows far).getD 0 default
  pre : CanPre (sort3 rows, sort3 far)
  pre' : CanPre (sort3 far, sort3 rows)
  ofF : OfB sz (sort3 rows)
  ofL : OfB sz (sort3 far)
  ofW : sz.length < 8 → OfB (sz ++ [2]) (sort3 rows) ∧ OfB (sz ++ [2]) (sort3 far)
  ofN : OfB sz []
  pn : CanPre (sort3 rows, [])
  pn' : CanPre ([], sort3 rows)
  cn : canF (sort3 rows) [] = true ∧ canF [] (sort3 rows) = true
  mn : commL (sort3 rows) [] = true
abbrev nPr : List Str := ["shelf", "sizes", "rows", "far", "first", "last", "looked", "ways", "back", "unlike", "can", "wider", "turn", "none", "text", "k", "way"]
abbrev sPr : Stmt := top 51
theorem scPr : FnScope nPr ["shelf", "sizes", "rows", "far", "first", "last"] (defScope sPr) := ⟨rfl, rfl, rfl, by decide +kernel, rfl, by decide +kernel, by decide +kernel⟩
section
variable {P : Program} {w : World} {K : PySem.W.Frag} {mg : Str → Option Value} {base : Heap} {C CB : Addr}
variable (U : Bt mg)
include U
/-- more of what the built-in names are -/
structure Bt3 (mg : Str → Option Value) : Prop where
  min : mg "min" = none
  max : mg "max" = none
  dict : mg "dict" = none
  repr : mg "repr" = none
abbrev P_pr (C CB : Addr) : Sp := spP (fun (a : List Int × List R3 × List R3) => [.d (cBk CB) a.1, .d (cList cInt) a.1, .d (cList cI3) a.2.1, .d (cList cI3) a.2.2, .d (cCh C) (sort3 a.2.1), .d (cCh C) (sort3 a.2.2)]) (fun a => Pl a.1 ∧ Of a.1 a.2.1 ∧ Of a.1 a.2.2 ∧ Facts a.1 a.2.1 a.2.2) cBool (fun _ => true)
theorem c_pr (U3 : Bt3 mg) (D : Def K mg "_law_pair_right" sPr) (T : TCh K mg C) (TB : TBk K mg CB) (I : ICal P w K mg base C ["self", "rows"] 5 (P_init C)) (IB : ICal P w K mg base CB ["self", "sizes"] 3 (P_initB CB)) (C_look : Cal P w K mg base "_law_looked_at" ["sizes", "rows", "more"] 2 P_look) (C_beh : Cal P w K mg base "_law_behind" ["rows", "more", "text"] 2 P_beh)
    (C_ord : CalR P w K mg base "orders" ["one", "other"] 2 (P_orders C)) (C_comm : CalR P w K mg base "commute" ["one", "other"] 8 (P_commute C)) (C_un : CalR P w K mg base "unlike_at" ["book", "one", "other"] 9 (P_unlike C CB)) : CalG P w K mg base "_law_pair_right" ["shelf", "sizes", "rows", "far", "first", "last"] 10 (P_pr C CB) := by
  refine cal_DG (N := nPr) D (fun _ _ _ _ _ _ us hl => match us, hl with | [_, _, _, _, _, _], _ => rfl) scPr (fun _ _ => rfl) (by decide) (fun _ _ => trivial) fun b a hp => ?_
  obtain ⟨sz, rows, far⟩ := a
  obtain ⟨hsz, hr, hf, F⟩ := hp
  have hsz : Pl sz := hsz
  have hr : Of sz rows := hr
  have hf : Of sz far := hf
  have F : Facts sz rows far := F
  have h8 := hsz.1.2
  have hlr := hr.len
  have hlf := hf.len
  have hln := F.ln
  have hInR : ∀ t ∈ lookL sz rows far, InN rows t.length := fun t ht => hr.inN (F.len t ht)
  have hInF : ∀ t ∈ lookL sz rows far, InN far t.length := fun t ht => hf.inN (F.len t ht)
  have hul : (unlL sz rows far).length ≤ 1000 := Nat.le_trans (List.length_filter_le _ _) hln
  have hum : ∀ t ∈ unlL sz rows far, t ∈ lookL sz rows far := fun t ht => (List.mem_filter.mp ht).1
  refine HS.ctx (Γ' := [.d (cBk CB) sz, .d (cList cInt) sz, .d (cList cI3) rows, .d (cList cI3) far, .d (cCh C) (sort3 rows), .d (cCh C) (sort3 far), .un, .un, .un, .un, .un, .un, .un, .un, .un, .un, .un]) rfl ?_
  refine HS.le (k := 0) ?_ (Nat.zero_le _)
  refine bset (k := 0) (k2 := 0) 6 (pcal3 (g := fun a : List Int × List R3 × List R3 => textsP (partsL a.1 (a.2.1 ++ a.2.2))) C_look (show (2 : Nat) ≤ 9 by decide) rfl (pd_name (i := 1) rfl rfl (.inl rfl)) (pd_name (i := 2) rfl rfl (.inr (.inl rfl))) (pd_name (i := 3) rfl rfl (.inr (.inl rfl))) ⟨hsz, ⟨by show rows.length ≤ 8; omega, by show far.length ≤ 8; omega⟩, F.ok⟩ (fun _ => rfl) (fun _ => rfl) (fun _ => rfl) (fun _ => rfl)) trivial rfl (.inr rfl) (fun env he => sw_cell rfl env he) (.inl rfl) ?_
  intro x0 e0
  have e0 : x0 = lookL sz rows far := e0
  subst x0
  refine HS.ctx (Γ' := [.d (cBk CB) sz, .d (cList cInt) sz, .d (cList cI3) rows, .d (cList cI3) far, .d (cCh C) (sort3 rows), .d (cCh C) (sort3 far), .d (cList (cTup cInt)) (lookL sz rows far), .un, .un, .un, .un, .un, .un, .un, .un, .un, .un]) rfl ?_
  refine bset (k := 0) (k2 := 0) 7 (TDF.td (plcN (f := behL rows far) [("text", 14)] (pdi_list (pd_name (i := 6) rfl rfl (.inr (.inl rfl)))) trivial (by kernel_rfl) (fun _ _ => rfl) fun t ht => ⟨_, _, (pdg_name (i := 14) trivial rfl (.inl rfl) (.inr rfl)), (fun _ h => h), (pcal3 (x := rows) (y := far) (z := t) (g := fun a : List R3 × List R3 × List Int => behL a.1 a.2.1 a.2.2) C_beh (show (2 : Nat) ≤ 9 by decide) rfl (pd_name (i := 2) rfl rfl (.inr (.inl rfl))) (pd_name (i := 3) rfl rfl (.inr (.inl rfl))) (pd_name (i := 14) rfl rfl (.inl rfl)) ⟨hInR t ht, hInF t ht⟩ (fun _ => rfl) (fun _ => rfl) (fun _ => rfl) (fun _ => rfl))⟩)) trivial rfl (.inr rfl) (fun env he => sw_cell rfl env he) (.inl rfl) ?_
  intro x0 e0
  subst x0
  refine HS.ctx (Γ' := [.d (cBk CB) sz, .d (cList cInt) sz, .d (cList cI3) rows, .d (cList cI3) far, .d (cCh C) (sort3 rows), .d (cCh C) (sort3 far), .d (cList (cTup cInt)) (lookL sz rows far), .d (cList (cOpt (cTup cInt))) ((lookL sz rows far).map (behL rows far)), .un, .un, .un, .un, .un, .un, .un, .un, .un]) rfl ?_
  refine bset (k := 0) (k2 := 0) 8 (TDF.td (plcN (f := behL far rows) [("text", 14)] (pdi_list (pd_name (i := 6) rfl rfl (.inr (.inl rfl)))) trivial (by kernel_rfl) (fun _ _ => rfl) fun t ht => ⟨_, _, (pdg_name (i := 14) trivial rfl (.inl rfl) (.inr rfl)), (fun _ h => h), (pcal3 (x := far) (y := rows) (z := t) (g := fun a : List R3 × List R3 × List Int => behL a.1 a.2.1 a.2.2) C_beh (show (2 : Nat) ≤ 9 by decide) rfl (pd_name (i := 3) rfl rfl (.inr (.inl rfl))) (pd_name (i := 2) rfl rfl (.inr (.inl rfl))) (pd_name (i := 14) rfl rfl (.inl rfl)) ⟨hInF t ht, hInR t ht⟩ (fun _ => rfl) (fun _ => rfl) (fun _ => rfl) (fun _ => rfl))⟩)) trivial rfl (.inr rfl) (fun env he => sw_cell rfl env he) (.inl rfl) ?_
  intro x0 e0
  subst x0
  refine HS.ctx (Γ' := [.d (cBk CB) sz, .d (cList cInt) sz, .d (cList cI3) rows, .d (cList cI3) far, .d (cCh C) (sort3 rows), .d (cCh C) (sort3 far), .d (cList (cTup cInt)) (lookL sz rows far), .d (cList (cOpt (cTup cInt))) ((lookL sz rows far).map (behL rows far)), .d (cList (cOpt (cTup cInt))) ((lookL sz rows far).map (behL far rows)), .un, .un, .un, .un, .un, .un, .un, .un]) rfl ?_
  refine bsetLc (k := 0) (k2 := 0) 9 [("k", 15)] (tdf_lcT (f := fun k : Int => (lookL sz rows far).getD k.toNat default) (q := fun k : Int => !decide (((lookL sz rows far).map (behL rows far)).getD k.toNat default = ((lookL sz rows far).map (behL far rows)).getD k.toNat default)) (prng1 rfl U.range (plen rfl U.len (TD.seqL (pd_name (i := 6) rfl rfl (.inr (.inl rfl)))) (fun _ => rfl)) (by omega) (fun _ => rfl)) trivial fun k hk => ⟨_, _, (pdg_name (i := 15) trivial rfl (.inl rfl) (.inr rfl)), (fun _ h => h), (tts_one (tcmp (op_neDG rfl) (pix ixLG (pd_name (i := 7) rfl rfl (.inr (.inl rfl))) (pd_name (i := 15) rfl rfl (.inl rfl)) (rd_ixLd ?_) (fun _ _ => rfl)) (pix ixLG (pd_name (i := 8) rfl rfl (.inr (.inl rfl))) (pd_name (i := 15) rfl rfl (.inl rfl)) (rd_ixLd ?_) (fun _ _ => rfl)) (rd_neD (eOptT eInt) (by decide)) (nomark _))), fun hq => (pix ixLG (pd_name (i := 6) rfl rfl (.inr (.inl rfl))) (pd_name (i := 15) rfl rfl (.inl rfl)) (rd_ixLd ?_) (fun _ _ => rfl))⟩) trivial rfl rfl rfl rfl rfl (by kernel_rfl) (fun _ _ => rfl) ?_
  · rw [List.length_map]; have := mem_rangeL.mp hk; omega
  · rw [List.length_map]; have := mem_rangeL.mp hk; omega
  · have := mem_rangeL.mp hk; omega
  intro x0 e0
  obtain rfl : x0 = unlL sz rows far := by
    refine e0.trans ?_
    have hcon : ∀ k ∈ rangeL 0 (lookL sz rows far).length, (!decide (((lookL sz rows far).map (behL rows far)).getD k.toNat default = ((lookL sz rows far).map (behL far rows)).getD k.toNat default)) = !decide (behL rows far ((lookL sz rows far).getD k.toNat default) = behL far rows ((lookL sz rows far).getD k.toNat default)) := fun k hk => by
      have := mem_rangeL.mp hk
      have hk2 : k.toNat < (lookL sz rows far).length := by omega
      simp only [List.getD_eq_getElem?_getD, List.getElem?_map, List.getElem?_eq_getElem hk2, Option.map_some, Option.getD_some]
    have h1 := rng_filter (lookL sz rows far) fun t => !decide (behL rows far t = behL far rows t)
    have h2 : (rangeL 0 ((lookL sz rows far).length : Int).toNat).filter (fun k : Int => !decide (((lookL sz rows far).map (behL rows far)).getD k.toNat default = ((lookL sz rows far).map (behL far rows)).getD k.toNat default)) = (rangeL 0 (lookL sz rows far).length).filter fun k => !decide (behL rows far ((lookL sz rows far).getD k.toNat default) = behL far rows ((lookL sz rows far).getD k.toNat default)) := List.filter_congr hcon
    rw [h2]
    exact h1
  refine HS.ctx (Γ' := [.d (cBk CB) sz, .d (cList cInt) sz, .d (cList cI3) rows, .d (cList cI3) far, .d (cCh C) (sort3 rows), .d (cCh C) (sort3 far), .d (cList (cTup cInt)) (lookL sz rows far), .d (cList (cOpt (cTup cInt))) ((lookL sz rows far).map (behL rows far)), .d (cList (cOpt (cTup cInt))) ((lookL sz rows far).map (behL far rows)), .d (cList (cTup cInt)) (unlL sz rows far), .un, .un, .un, .un, .un, .un, .un]) rfl ?_
  refine bset (k := 0) (k2 := 0) 10 (TDF.td (plst (c := cBool) (.cons (pcmp (op_neDG rfl) (TDF.td (plcT (f := fun o : Option (List Int) => o) (q := fun o => o.isSome) [("way", 16)] (pdi_list (pd_name (i := 7) rfl rfl (.inr (.inl rfl)))) trivial (by kernel_rfl) (fun _ _ => rfl) fun o ho => ⟨_, _, (pdg_name (i := 16) trivial rfl (.inl rfl) (.inr rfl)), (fun _ h => h), (tts_one (tnotNO nn_tup (pd_name (i := 16) rfl rfl (.inl rfl)))), fun hq => (pd_name (i := 16) rfl rfl (.inl rfl))⟩)) (TDF.td (pdf_nil (c := cOpt (cTup cInt)))) (rd_neD (eList (eOptT eInt)) (by decide)) (nomark _)) (.cons (pcmp (op_neDG rfl) (TDF.td (plcT (f := fun o : Option (List Int) => o) (q := fun o => o.isSome) [("way", 16)] (pdi_list (pd_name (i := 8) rfl rfl (.inr (.inl rfl)))) trivial (by kernel_rfl) (fun _ _ => rfl) fun o ho => ⟨_, _, (pdg_name (i := 16) trivial rfl (.inl rfl) (.inr rfl)), (fun _ h => h), (tts_one (tnotNO nn_tup (pd_name (i := 16) rfl rfl (.inl rfl)))), fun hq => (pd_name (i := 16) rfl rfl (.inl rfl))⟩)) (TDF.td (pdf_nil (c := cOpt (cTup cInt)))) (rd_neD (eList (eOptT eInt)) (by decide)) (nomark _)) .nil (fun _ => rfl)) (fun _ => rfl)) (by simp))) trivial rfl (.inl rfl) (fun _ _ => rfl) (.inl rfl) ?_
  intro x0 e0
  obtain rfl : x0 = [canF (sort3 rows) (sort3 far), canF (sort3 far) (sort3 rows)] := by
    rw [F.can, F.can']
    refine e0.trans ?_
    rw [List.map_id', List.map_id']
  refine HS.ctx (Γ' := [.d (cBk CB) sz, .d (cList cInt) sz, .d (cList cI3) rows, .d (cList cI3) far, .d (cCh C) (sort3 rows), .d (cCh C) (sort3 far), .d (cList (cTup cInt)) (lookL sz rows far), .d (cList (cOpt (cTup cInt))) ((lookL sz rows far).map (behL rows far)), .d (cList (cOpt (cTup cInt))) ((lookL sz rows far).map (behL far rows)), .d (cList (cTup cInt)) (unlL sz rows far), .d (cList cBool) [canF (sort3 rows) (sort3 far), canF (sort3 far) (sort3 rows)], .un, .un, .un, .un, .un, .un]) rfl ?_
  refine bset (k := 0) (k2 := 0) 11 (TDF.td (pcat (TDF.td (plcN (f := fun t : List Int => some (t ++ [0])) [("text", 14)] (pdi_list (TDF.td (pslL (pd_name (i := 9) rfl rfl (.inl rfl)) .none (.some (pd_int (i := 1)))))) trivial (by kernel_rfl) (fun _ _ => rfl) fun t ht => ⟨_, _, (pdg_name (i := 14) trivial rfl (.inl rfl) (.inr rfl)), (fun _ h => h), (poptE (pbin catTG (pd_name (i := 14) rfl rfl (.inl rfl)) (ptup (c := cInt) (xs := [0]) (.cons pd_int .nil (fun _ => rfl)) (by simp)) (rd_catT ?_)))⟩)) (TDF.td (plst (c := cOpt (cTup cInt)) (xs := [none]) (.cons pnoneO .nil (fun _ => rfl)) (by simp))) ?_)) trivial rfl (.inl rfl) (fun env he => by cases env; cases he; rfl) (.inl rfl) ?_
  · have := F.len t (hum t (cutD_mem ht))
    unfold DL.LB; show t.length + 1 ≤ _; omega
  · have h1 : (cutD (unlL sz rows far) none (some 1)).length ≤ 1000 := Nat.le_trans (((List.take_sublist _ _).trans (List.drop_sublist _ _)).length_le) hul
    rw [List.length_map]; unfold DL.LB; show _ + 1 ≤ _; omega
  intro x0 e0
  obtain rfl : x0 = wideL sz rows far := e0.trans (by
    unfold wideL
    congr 2
    cases hu : unlL sz rows far with
    | nil => rfl
    | cons a l => exact cutD_head ⟨by decide, by rw [List.length_cons]; omega⟩)
  refine HS.ctx (Γ' := [.d (cBk CB) sz, .d (cList cInt) sz, .d (cList cI3) rows, .d (cList cI3) far, .d (cCh C) (sort3 rows), .d (cCh C) (sort3 far), .d (cList (cTup cInt)) (lookL sz rows far), .d (cList (cOpt (cTup cInt))) ((lookL sz rows far).map (behL rows far)), .d (cList (cOpt (cTup cInt))) ((lookL sz rows far).map (behL far rows)), .d (cList (cTup cInt)) (unlL sz rows far), .d (cList cBool) [canF (sort3 rows) (sort3 far), canF (sort3 far) (sort3 rows)], .d (cList (cOpt (cTup cInt))) (wideL sz rows far), .un, .un, .un, .un, .un]) rfl ?_
  have shU : ∀ t ∈ unlL sz rows far, Shw ((eTup eInt).D t) sizeLine := fun t ht => shw_txt ⟨by rw [F.len t (hum t ht)]; omega, F.small t (hum t ht)⟩
  have shO1 : ∀ o : Option (List Int), o = ((unlL sz rows far).map some ++ [none]).getD 0 default → ∀ x, o = some x → Shw ((eTup eInt).D x) sizeLine := fun o eo x ex => by
    rw [ex] at eo
    cases hu : unlL sz rows far with
    | nil => rw [hu] at eo; cases eo
    | cons t l =>
      rw [hu] at eo
      have : x = t := Option.some.inj eo
      rw [this]
      exact shU t (by rw [hu]; exact List.mem_cons_self)
  have shO2 : ∀ o : Option (List Int), o = (wideL sz rows far).getD 0 default → ∀ x, o = some x → Shw ((eTup eInt).D x) sizeLine := fun o eo x ex => by
    rw [ex] at eo
    unfold wideL at eo
    cases hu : unlL sz rows far with
    | nil => rw [hu] at eo; cases eo
    | cons t l =>
      rw [hu] at eo
      have e1 : x = t ++ [0] := Option.some.inj eo
      have hm : t ∈ lookL sz rows far := hum t (by rw [hu]; exact List.mem_cons_self)
      rw [e1]
      refine shw_txt ⟨by rw [List.length_append, F.len t hm]; show sz.length + 1 ≤ 9; omega, fun y hy => ?_⟩
      rcases List.mem_append.mp hy with z | z
      · exact F.small t hm y z
      · rw [List.mem_singleton.mp z]; decide
  refine bfor (k := 0) (kk := 0) (kn := 0) (k2 := 0) [12] (fun _ pre Γ => Γ = [.d (cBk CB) sz, .d (cList cInt) sz, .d (cList cI3) rows, .d (cList cI3) far, .d (cCh C) (sort3 rows), .d (cCh C) (sort3 far), .d (cList (cTup cInt)) (lookL sz rows far), .d (cList (cOpt (cTup cInt))) ((lookL sz rows far).map (behL rows far)), .d (cList (cOpt (cTup cInt))) ((lookL sz rows far).map (behL far rows)), .d (cList (cTup cInt)) (unlL sz rows far), .d (cList cBool) [canF (sort3 rows) (sort3 far), canF (sort3 far) (sort3 rows)], .d (cList (cOpt (cTup cInt))) (wideL sz rows far), .un, .un, .un, .un, .un]) (prng1 rfl U.range (pd_int (i := 2)) (by decide) (fun _ => rfl)) ?_ ?_ ?_ (fun _ _ => rfl) ?_
  · intro xs exs; rfl
  · intro _ _; simp
  · intro xs exs pre p post Γ1 hx e
    subst e
    refine ⟨_, _, (pdg_name (i := 12) trivial rfl (.inl rfl) (.inl rfl)), ?_⟩
    refine HS.ctx (Γ' := [.d (cBk CB) sz, .d (cList cInt) sz, .d (cList cI3) rows, .d (cList cI3) far, .d (cCh C) (sort3 rows), .d (cCh C) (sort3 far), .d (cList (cTup cInt)) (lookL sz rows far), .d (cList (cOpt (cTup cInt))) ((lookL sz rows far).map (behL rows far)), .d (cList (cOpt (cTup cInt))) ((lookL sz rows far).map (behL far rows)), .d (cList (cTup cInt)) (unlL sz rows far), .d (cList cBool) [canF (sort3 rows) (sort3 far), canF (sort3 far) (sort3 rows)], .d (cList (cOpt (cTup cInt))) (wideL sz rows far), .d cInt p, .un, .un, .un, .un]) rfl ?_
    refine HS.le (k := 0 + 0 + (0 + 0 + (0 + 0 + (0 + 0 + (0 + 0 + (0 + 0 + 0)))))) ?_ (Nat.zero_le _)
    refine bifR (k1 := 0) (k2 := 0) (k3 := 0 + 0 + (0 + 0 + (0 + 0 + (0 + 0 + (0 + 0 + (0)))))) (tcmp (fun _ _ => op_ne) (preprD (eT2 eBool eBool) rfl rfl U3.repr (pcal2 (g := fun a : List R3 × List R3 => (canF a.1 a.2, canF a.2 a.1)) C_ord.c (show (2 : Nat) ≤ 9 by decide) rfl (pd_name (i := 4) rfl rfl (.inl rfl)) (pd_name (i := 5) rfl rfl (.inl rfl)) trivial (fun _ => rfl) (fun _ => rfl) (fun _ => rfl)) (by decide) (shw_b2 _) ref_T2 (fun _ => rfl)) (preprD (eT2 eBool eBool) rfl rfl U3.repr (pt2 (pix ixLG (pd_name (i := 10) rfl rfl (.inl rfl)) (pd_int (i := 0)) (rd_ixLd (show (0 : Int) ≤ 0 ∧ (0 : Int) < 2 by decide)) (fun _ _ => rfl)) (pix ixLG (pd_name (i := 10) rfl rfl (.inl rfl)) (pd_int (i := 1)) (rd_ixLd (show (0 : Int) ≤ 1 ∧ (1 : Int) < 2 by decide)) (fun _ _ => rfl)) (fun _ => rfl) (fun _ => rfl)) (by decide) (shw_b2 _) ref_T2 (fun _ => rfl)) rd_neStr (nomark _)) (fun h => ?_) fun h => ?_
    · exfalso
      have h := h
      simp at h
    refine bifR (k1 := 0) (k2 := 0) (k3 := 0 + 0 + (0 + 0 + (0 + 0 + (0 + 0 + (0))))) (tcmp (fun _ _ => op_ne) (prepr rfl U3.repr (pcal2 (g := fun a : List R3 × List R3 => commL a.1 a.2) C_comm.c (show (8 : Nat) ≤ 9 by decide) rfl (pd_name (i := 4) rfl rfl (.inl rfl)) (pd_name (i := 5) rfl rfl (.inl rfl)) ⟨F.pre, F.pre'⟩ (fun _ => rfl) (fun _ => rfl) (fun _ => rfl)) (fun _ => rfl)) (prepr rfl U3.repr (pcmp (op_eqDG rfl) (pd_name (i := 9) rfl rfl (.inl rfl)) (TDF.td (pdf_nil (c := cTup cInt))) (rd_eqD (eList (eTup eInt)) (by decide)) (nomark _)) (fun _ => rfl)) rd_neStr (nomark _)) (fun h => ?_) fun h => ?_
    · exfalso
      have h := h
      have h2 : true = !decide (bStr (commL (sort3 rows) (sort3 far)) = bStr (decide (unlL sz rows far = []))) := h
      rw [F.comm] at h2; simp at h2
    refine bifR (k1 := 0) (k2 := 0) (k3 := 0 + 0 + (0 + 0 + (0 + 0 + (0)))) (tcmp (fun _ _ => op_ne) (preprO rfl rfl U3.repr (pcal3 (g := fun a : List Int × List R3 × List R3 => unlikeL a.1 a.2.1 a.2.2) C_un.c (show (9 : Nat) ≤ 9 by decide) rfl (pd_name (i := 0) rfl rfl (.inl rfl)) (pd_name (i := 4) rfl rfl (.inl rfl)) (pd_name (i := 5) rfl rfl (.inl rfl)) ⟨F.ofF, F.ofL, F.pre, F.pre'⟩ (fun _ => rfl) (fun _ => rfl) (fun _ => rfl) (fun _ => rfl)) (shO1 _ F.un) (fun _ => rfl)) (preprO rfl rfl U3.repr (pix ixLG (TDF.td (pcat (poptL (pd_name (i := 9) rfl rfl (.inl rfl))) (TDF.td (plst (c := cOpt (cTup cInt)) (xs := [none]) (.cons pnoneO .nil (fun _ => rfl)) (by simp))) (by rw [List.length_map]; unfold DL.LB; show _ + 1 ≤ _; omega))) (pd_int (i := 0)) (rd_ixLd (by rw [List.length_append]; simp)) (fun _ _ => rfl)) (shO1 _ rfl) (fun _ => rfl)) rd_neStr (nomark _)) (fun h => ?_) fun h => ?_
    · exfalso
      have h := h
      have h2 : true = !decide (shO (unlikeL sz (sort3 rows) (sort3 far)) = shO (((unlL sz rows far).map some ++ [none]).getD 0 default)) := h
      rw [F.un] at h2; simp at h2
    refine bifR (k1 := 0) (k2 := 0) (k3 := 0 + 0 + (0 + 0 + (0))) (tcmp (fun _ _ => op_ne) (preprO rfl rfl U3.repr (pcalR3 (x := sz) (y := sort3 far) (z := sort3 rows) (g := fun a : List Int × List R3 × List R3 => unlikeL a.1 a.2.1 a.2.2) C_un (show (9 : Nat) ≤ 9 by decide) rfl (pd_name (i := 4) rfl rfl (.inl rfl)) (pd_name (i := 5) rfl rfl (.inl rfl)) (pd_name (i := 0) rfl rfl (.inl rfl)) ⟨F.ofL, F.ofF, F.pre', F.pre⟩ (fun _ => rfl) (fun _ => rfl) (fun _ => rfl)) (shO1 _ F.un') (fun _ => rfl)) (preprO rfl rfl U3.repr (pix ixLG (TDF.td (pcat (poptL (pd_name (i := 9) rfl rfl (.inl rfl))) (TDF.td (plst (c := cOpt (cTup cInt)) (xs := [none]) (.cons pnoneO .nil (fun _ => rfl)) (by simp))) (by rw [List.length_map]; unfold DL.LB; show _ + 1 ≤ _; omega))) (pd_int (i := 0)) (rd_ixLd (by rw [List.length_append]; simp)) (fun _ _ => rfl)) (shO1 _ rfl) (fun _ => rfl)) rd_neStr (nomark _)) (fun h => ?_) fun h => ?_
    · exfalso
      have h := h
      have h2 : true = !decide (shO (unlikeL sz (sort3 far) (sort3 rows)) = shO (((unlL sz rows far).map some ++ [none]).getD 0 default)) := h
      rw [F.un'] at h2; simp at h2
    refine bifR (k1 := 0) (k2 := 0) (k3 := 0 + 0 + (0)) (tcmp (fun _ _ => op_ne) (preprD (eT2 eBool eBool) rfl rfl U3.repr (pcalR2 (x := sort3 far) (y := sort3 rows) (g := fun a : List R3 × List R3 => (canF a.1 a.2, canF a.2 a.1)) C_ord (show (2 : Nat) ≤ 9 by decide) rfl (pd_name (i := 4) rfl rfl (.inl rfl)) (pd_name (i := 5) rfl rfl (.inl rfl)) trivial (fun _ => rfl) (fun _ => rfl) (fun _ => rfl)) (by decide) (shw_b2 _) ref_T2 (fun _ => rfl)) (preprD (eT2 eBool eBool) rfl rfl U3.repr (pt2 (pix ixLG (pd_name (i := 10) rfl rfl (.inl rfl)) (pd_int (i := 1)) (rd_ixLd (show (0 : Int) ≤ 1 ∧ (1 : Int) < 2 by decide)) (fun _ _ => rfl)) (pix ixLG (pd_name (i := 10) rfl rfl (.inl rfl)) (pd_int (i := 0)) (rd_ixLd (show (0 : Int) ≤ 0 ∧ (0 : Int) < 2 by decide)) (fun _ _ => rfl)) (fun _ => rfl) (fun _ => rfl)) (by decide) (shw_b2 _) ref_T2 (fun _ => rfl)) rd_neStr (nomark _)) (fun h => ?_) fun h => ?_
    · exfalso
      have h := h
      simp at h
    have plW : sz.length < 8 → Pl (sz ++ [2]) := fun hb => ⟨by rw [List.length_append]; show 1 ≤ sz.length + 1 ∧ sz.length + 1 ≤ 8; omega, fun n hn => by
      rcases List.mem_append.mp hn with z | z
      · exact hsz.2 n z
      · rw [List.mem_singleton.mp z]; decide⟩
    refine bifR (k1 := 0) (k2 := 0) (k3 := 0) (pdt_w (tand (tcmp (fun _ _ => op_lt) (plen rfl U.len (TD.seqL (pd_name (i := 1) rfl rfl (.inl rfl))) (fun _ => rfl)) (pd_int (i := 8)) rd_B0 (nomark _)) fun hc => (have hb : sz.length < 8 := (by have := of_decide_eq_true hc; omega); pdw_and1 (tcmp (fun _ _ => op_ne) (preprO rfl rfl U3.repr (pcal3 (g := fun a : List Int × List R3 × List R3 => unlikeL a.1 a.2.1 a.2.2) C_un.c (show (9 : Nat) ≤ 9 by decide) rfl (pmkBk IB TB (show (3 + 1 : Nat) ≤ 9 by decide) rfl (TD.seqL (TDF.td (pcat (pd_name (i := 1) rfl rfl (.inl rfl)) (TDF.td (plst (c := cInt) (xs := [2]) (.cons pd_int .nil (fun _ => rfl)) (by simp))) (by unfold DL.LB; show _ + 1 ≤ _; omega)))) (plW hb) (fun _ => rfl) (fun _ => rfl)) (pd_name (i := 4) rfl rfl (.inl rfl)) (pd_name (i := 5) rfl rfl (.inl rfl)) ⟨(F.ofW hb).1, (F.ofW hb).2, F.pre, F.pre'⟩ (fun _ => rfl) (fun _ => rfl) (fun _ => rfl) (fun _ => rfl)) (shO2 _ F.unw) (fun _ => rfl)) (preprO rfl rfl U3.repr (pix ixLG (pd_name (i := 11) rfl rfl (.inl rfl)) (pd_int (i := 0)) (rd_ixLd (by unfold wideL; rw [List.length_append]; simp)) (fun _ _ => rfl)) (shO2 _ rfl) (fun _ => rfl)) rd_neStr (nomark _))))) (fun h => ?_) fun h => ?_
    · exfalso
      have h2 : true = (decide ((sz.length : Int) < 8) && !decide (shO (unlikeL (sz ++ [2]) (sort3 rows) (sort3 far)) = shO ((wideL sz rows far).getD 0 default))) := h
      rw [F.unw] at h2; simp at h2
    exact phs_nil ⟨trivial, rfl⟩
  · intro xs Γ1 exs e
    subst e
    refine HS.le (k := 0 + (0 + 0 + 0)) ?_ (Nat.zero_le _)
    refine bset (k := 0) (k2 := 0 + 0 + 0) 13 (pmkCh I T (show (5 + 1 : Nat) ≤ 9 by decide) rfl (TDF.td (pdf_nil (c := cI3))) (z := []) rows_nil (fun _ => rfl) (fun _ => rfl)) trivial rfl (.inl rfl) (fun env he => by cases env; cases he; rfl) (.inl rfl) ?_
    intro x0 e0
    obtain rfl : x0 = [] := e0.trans sort3_nil
    refine HS.ctx (Γ' := [.d (cBk CB) sz, .d (cList cInt) sz, .d (cList cI3) rows, .d (cList cI3) far, .d (cCh C) (sort3 rows), .d (cCh C) (sort3 far), .d (cList (cTup cInt)) (lookL sz rows far), .d (cList (cOpt (cTup cInt))) ((lookL sz rows far).map (behL rows far)), .d (cList (cOpt (cTup cInt))) ((lookL sz rows far).map (behL far rows)), .d (cList (cTup cInt)) (unlL sz rows far), .d (cList cBool) [canF (sort3 rows) (sort3 far), canF (sort3 far) (sort3 rows)], .d (cList (cOpt (cTup cInt))) (wideL sz rows far), .un, .d (cCh C) [], .un, .un, .un]) rfl ?_
    have un0 : unlikeL sz (sort3 rows) [] = none := by unfold unlikeL; rw [if_pos F.mn]
    have sh3 : Shw (.list [(eT2 eBool eBool).D (true, true), .bool true, .none]) sizeLine := by
      have e1 : (PyData.list [(eT2 eBool eBool).D (true, true), .bool true, .none]).shown.length ≤ sizeLine := by decide +kernel
      exact ⟨rfl, rfl, e1⟩
    refine bifR (k1 := 0) (k2 := 0) (k3 := 0) (tcmp (fun _ _ => op_ne) (preprA (t := .list [(eT2 eBool eBool).D (true, true), .bool true, .none]) (x := ((true, true), true, (none : Option (List Int)))) (dp_L3 (EqC.at (eT2 eBool eBool) (true, true)) (EqC.at eBool true) (EqC.at (eOptT eInt) none)) rfl rfl U3.repr ((plst3H (pcal2 (g := fun a : List R3 × List R3 => (canF a.1 a.2, canF a.2 a.1)) C_ord.c (show (2 : Nat) ≤ 9 by decide) rfl (pd_name (i := 4) rfl rfl (.inl rfl)) (pd_name (i := 13) rfl rfl (.inl rfl)) trivial (fun _ => rfl) (fun _ => rfl) (fun _ => rfl)) (pcal2 (g := fun a : List R3 × List R3 => commL a.1 a.2) C_comm.c (show (8 : Nat) ≤ 9 by decide) rfl (pd_name (i := 4) rfl rfl (.inl rfl)) (pd_name (i := 13) rfl rfl (.inl rfl)) ⟨F.pn, F.pn'⟩ (fun _ => rfl) (fun _ => rfl) (fun _ => rfl)) (pcal3 (g := fun a : List Int × List R3 × List R3 => unlikeL a.1 a.2.1 a.2.2) C_un.c (show (9 : Nat) ≤ 9 by decide) rfl (pd_name (i := 0) rfl rfl (.inl rfl)) (pd_name (i := 4) rfl rfl (.inl rfl)) (pd_name (i := 13) rfl rfl (.inl rfl)) ⟨F.ofF, F.ofN, F.pn, F.pn'⟩ (fun _ => rfl) (fun _ => rfl) (fun _ => rfl) (fun _ => rfl)) (fun _ => rfl) (fun _ => rfl) (fun _ => rfl)).imp fun z e => ?_) (by decide) sh3 ref_L3 (fun _ => rfl)) (preprA (t := .list [(eT2 eBool eBool).D (true, true), .bool true, .none]) (x := ((true, true), true, (none : Option (List Int)))) (dp_L3 (EqC.at (eT2 eBool eBool) (true, true)) (EqC.at eBool true) (EqC.at (eOptT eInt) none)) rfl rfl U3.repr (plst3H (pt2 (c1 := cBool) (c2 := cBool) (x := true) (y := true) (pd_bool (i := true)) (pd_bool (i := true)) (fun _ => rfl) (fun _ => rfl)) (pd_bool (i := true)) pnoneO (fun _ => rfl) (fun _ => rfl) (fun _ => rfl)) (by decide) sh3 ref_L3 (fun _ => rfl)) rd_neStr (nomark _)) (fun h => ?_) fun h => ?_
    · rw [e]
      show ((canF (sort3 rows) [], canF [] (sort3 rows)), commL (sort3 rows) [], unlikeL sz (sort3 rows) []) = _
      rw [F.cn.1, F.cn.2, F.mn, un0]
    · exfalso
      simp at h
    · refine bret (pcmp (fun _ _ => op_eq) (prepr rfl U3.repr (pcalR2 (x := sort3 far) (y := sort3 rows) (g := fun a : List R3 × List R3 => commL a.1 a.2) C_comm (show (8 : Nat) ≤ 9 by decide) rfl (pd_name (i := 4) rfl rfl (.inl rfl)) (pd_name (i := 5) rfl rfl (.inl rfl)) ⟨F.pre', F.pre⟩ (fun _ => rfl) (fun _ => rfl) (fun _ => rfl)) (fun _ => rfl)) (prepr rfl U3.repr (pcmp (op_eqDG rfl) (pd_name (i := 9) rfl rfl (.inl rfl)) (TDF.td (pdf_nil (c := cTup cInt))) (rd_eqD (eList (eTup eInt)) (by decide)) (nomark _)) (fun _ => rfl)) rd_eqStr (nomark _)) fun x h => ?_
      rw [h]
      have : commL (sort3 far) (sort3 rows) = decide (unlL sz rows far = []) := F.comm'
      show decide (bStr (commL (sort3 far) (sort3 rows)) = bStr (decide (unlL sz rows far = []))) = true
      rw [this]
      exact decide_eq_true rfl
end
end K07

set_option Elab.async false
set_option linter.all false
set_option maxRecDepth 100000
set_option maxHeartbeats 4000000
namespace K07
open PySem PySem.Spec L2 DL
/-! ### the plain law: texts in their order -/
theorem lt_nn : ltL [] [] = false := rfl
theorem lt_nc (y : Int) (ys : List Int) : ltL [] (y :: ys) = true := rfl
theorem lt_cn (x : Int) (xs : List Int) : ltL (x :: xs) [] = false := rfl
theorem lt_cc (x y : Int) (xs ys : List Int) : ltL (x :: xs) (y :: ys) = if x = y then ltL xs ys else decide (x < y) := rfl
theorem lt_tr : ∀ {a m t : List Int}, ltL a m = false → ltL t a = false → ltL t m = false
  | [], [], [], _, _ => rfl
  | [], [], _ :: _, _, _ => rfl
  | [], _ :: _, _, h, _ => by rw [lt_nc] at h; exact absurd h (by decide)
  | _ :: _, _, [], _, h => by rw [lt_nc] at h; exact absurd h (by decide)
  | _ :: _, [], _ :: _, _, _ => rfl
  | x :: a, y :: m, z :: t, h1, h2 => by
    rw [lt_cc] at h1 h2 ⊢
    by_cases e1 : x = y
    · subst e1
      rw [if_pos rfl] at h1
      by_cases e2 : z = x
      · subst e2; rw [if_pos rfl] at h2 ⊢; exact lt_tr h1 h2
      · rw [if_neg e2] at h2 ⊢; exact h2
    · rw [if_neg e1] at h1
      have h1' : ¬ x < y := by simpa using h1
      by_cases e2 : z = x
      · subst e2; rw [if_neg e1]; exact h1
      · rw [if_neg e2] at h2
        have h2' : ¬ z < x := by simpa using h2
        rw [if_neg (by omega)]
        exact decide_eq_false (by omega)
theorem lt_ir : ∀ a : List Int, ltL a a = false
  | [] => rfl
  | x :: a => by rw [lt_cc, if_pos rfl]; exact lt_ir a
theorem lt_map {g h : Int → Int} : ∀ l : List Int, (∀ x ∈ l, g x ≤ h x) → ltL (l.map h) (l.map g) = false
  | [], _ => rfl
  | x :: l, H => by
    rw [List.map_cons, List.map_cons, lt_cc]
    have := H x List.mem_cons_self
    by_cases e : h x = g x
    · rw [if_pos e]; exact lt_map l fun y hy => H y (List.mem_cons_of_mem _ hy)
    · rw [if_neg e]; exact decide_eq_false (by omega)
theorem lt_snoc (c : Int) : ∀ {a b : List Int}, a.length = b.length → ltL (a ++ [c]) (b ++ [c]) = ltL a b
  | [], [], _ => by show ltL [c] [c] = _; rw [lt_ir, lt_ir]
  | x :: a, y :: b, h => by
    rw [List.cons_append, List.cons_append, lt_cc, lt_cc, lt_snoc c (by simpa using h)]
/-- all the texts, by their first part -/
def textsC : List (List Int) → List (List Int)
  | [] => [[]]
  | ws :: ps => ws.flatMap fun x => (textsC ps).map (x :: ·)
theorem foldl_texts : ∀ (ps found : List (List Int)), ps.foldl (fun found ws => stepL ws found) found = found.flatMap fun row => (textsC ps).map (row ++ ·)
  | [], found => by
    induction found with
    | nil => rfl
    | cons f fs ih =>
      rw [List.flatMap_cons, ← ih]
      simp [textsC]
  | ws :: ps, found => by
    rw [List.foldl_cons, foldl_texts ps]
    unfold stepL
    rw [List.flatMap_assoc]
    congr 1; funext row
    show List.flatMap _ (List.map _ ws) = List.map _ (List.flatMap _ ws)
    rw [List.flatMap_map, List.map_flatMap]
    congr 1; funext x
    rw [List.map_map]
    congr 1; funext r
    simp
theorem textsP_C (ps : List (List Int)) : textsP ps = textsC ps := by
  unfold textsP
  rw [foldl_texts]
  simp
theorem mem_textsC {ws : List Int} {ps : List (List Int)} {t : List Int} : t ∈ textsC (ws :: ps) ↔ ∃ x r, t = x :: r ∧ x ∈ ws ∧ r ∈ textsC ps := by
  show t ∈ ws.flatMap _ ↔ _
  rw [List.mem_flatMap]
  constructor
  · rintro ⟨x, hx, h⟩
    obtain ⟨r, hr, e⟩ := List.mem_map.mp h
    exact ⟨x, r, e.symm, hx, hr⟩
  · rintro ⟨x, r, e, hx, hr⟩
    exact ⟨x, hx, List.mem_map.mpr ⟨r, hr, e.symm⟩⟩
theorem texts_up : ∀ {ps : List (List Int)}, (∀ ws ∈ ps, ws.Pairwise (· < ·)) → (textsC ps).Pairwise fun a b => ltL a b = true
  | [], _ => List.pairwise_singleton _ _
  | ws :: ps, h => by
    have ih := texts_up fun x hx => h x (List.mem_cons_of_mem _ hx)
    show (ws.flatMap _).Pairwise _
    rw [List.pairwise_flatMap]
    refine ⟨fun x _ => ?_, (h ws List.mem_cons_self).imp ?_⟩
    · rw [List.pairwise_map]
      exact ih.imp fun {a b} q => by rw [lt_cc, if_pos rfl]; exact q
    · intro x y lt a ha b hb
      obtain ⟨r, _, rfl⟩ := List.mem_map.mp ha
      obtain ⟨s, _, rfl⟩ := List.mem_map.mp hb
      rw [lt_cc, if_neg (by omega)]
      exact decide_eq_true lt
theorem map_in {f : Int → List Int} {g : Int → Int} : ∀ l : List Int, (∀ x ∈ l, g x ∈ f x) → l.map g ∈ textsC (l.map f)
  | [], _ => List.mem_singleton.mpr rfl
  | x :: l, h => mem_textsC.mpr ⟨g x, l.map g, rfl, h x List.mem_cons_self, map_in l fun y hy => h y (List.mem_cons_of_mem _ hy)⟩
theorem in_parts : ∀ {ps : List (List Int)} {t : List Int}, t ∈ textsC ps → ∀ x ∈ t, ∃ ws ∈ ps, x ∈ ws
  | [], t, h, x, hx => by rw [List.mem_singleton.mp h] at hx; cases hx
  | ws :: ps, t, h, x, hx => by
    obtain ⟨y, r, rfl, hy, hr⟩ := mem_textsC.mp h
    rcases List.mem_cons.mp hx with e | hx
    · exact ⟨ws, List.mem_cons_self, by rw [e]; exact hy⟩
    · obtain ⟨vs, h1, h2⟩ := in_parts hr x hx
      exact ⟨vs, List.mem_cons_of_mem _ h1, h2⟩
/-- the first of those that are picked -/
theorem first_of {l : List (List Int)} {q : List Int → Bool} {m : List Int} (hu : l.Pairwise fun a b => ltL a b = true) (hm : m ∈ l) (hq : q m = true) (hl : ∀ t ∈ l, q t = true → ltL t m = false) : ∃ rest, l.filter q = m :: rest := by
  have hf : m ∈ l.filter q := List.mem_filter.mpr ⟨hm, hq⟩
  have hp : (l.filter q).Pairwise fun a b => ltL a b = true := hu.filter _
  cases e : l.filter q with
  | nil => rw [e] at hf; cases hf
  | cons x r =>
    rw [e] at hf hp
    rcases List.mem_cons.mp hf with e2 | h2
    · exact ⟨r, by rw [e2]⟩
    · have h3 := (List.pairwise_cons.mp hp).1 m h2
      have h4 := List.mem_filter.mp (show x ∈ l.filter q by rw [e]; exact List.mem_cons_self)
      rw [hl x h4.1 h4.2] at h3
      exact absurd h3 (by decide)
/-! the least of texts -/
theorem minL_le (x : List Int) : ∀ xs : List (List Int), ∀ a ∈ x :: xs, ltL a (minL x xs) = false := fun xs => by
  unfold minL
  induction xs generalizing x with
  | nil => intro a ha; rw [List.mem_singleton.mp ha]; exact lt_ir x
  | cons y ys ih =>
    intro a ha
    rw [List.foldl_cons]
    have h1 : ltL x (if ltL y x = true then y else x) = false ∧ ltL y (if ltL y x = true then y else x) = false := by
      cases e : ltL y x with
      | true =>
        rw [if_pos rfl]
        refine ⟨?_, lt_ir y⟩
        cases e2 : ltL x y with
        | false => rfl
        | true => exact absurd e (by rw [lt_as e2]; decide)
      | false => rw [if_neg (by decide)]; exact ⟨lt_ir x, e⟩
    have h2 := ih (if ltL y x = true then y else x) _ List.mem_cons_self
    rcases List.mem_cons.mp ha with e | ha
    · rw [e]; exact lt_tr h2 h1.1
    · rcases List.mem_cons.mp ha with e | ha
      · rw [e]; exact lt_tr h2 h1.2
      · exact ih _ a (List.mem_cons_of_mem _ ha)
where lt_as : ∀ {a b : List Int}, ltL a b = true → ltL b a = false
  | [], [], _ => rfl
  | [], _ :: _, _ => rfl
  | _ :: _, [], h => by rw [lt_cn] at h; exact absurd h (by decide)
  | x :: a, y :: b, h => by
    rw [lt_cc] at h ⊢
    by_cases e : x = y
    · subst e; rw [if_pos rfl] at h ⊢; exact lt_as h
    · rw [if_neg e] at h
      rw [if_neg (fun q => e q.symm)]
      have : x < y := by simpa using h
      exact decide_eq_false (by omega)
theorem minL_snoc (c : Int) {n : Nat} (x : List Int) : ∀ xs : List (List Int), (∀ a ∈ x :: xs, a.length = n) → minL (x ++ [c]) (xs.map (· ++ [c])) = minL x xs ++ [c] := fun xs => by
  unfold minL
  induction xs generalizing x with
  | nil => intro _; rfl
  | cons y ys ih =>
    intro h
    rw [List.map_cons, List.foldl_cons, List.foldl_cons, lt_snoc c (by rw [h y (by simp), h x (by simp)])]
    have e : (if ltL y x = true then y ++ [c] else x ++ [c]) = (if ltL y x = true then y else x) ++ [c] := by cases ltL y x <;> rfl
    rw [e]
    refine ih _ fun a ha => ?_
    rcases List.mem_cons.mp ha with e | ha
    · rw [e]
      cases ltL y x
      · exact h x (by simp)
      · exact h y (by simp)
    · exact h a (by simp [ha])
/-! ### how many -/
theorem szP_cons (ws : List Int) (ps : List (List Int)) : szP (ws :: ps) = ws.length * szP ps := by
  unfold szP
  have : ∀ (l : List (List Int)) (n m : Nat), l.foldl (fun n ws => n * ws.length) (n * m) = n * l.foldl (fun n ws => n * ws.length) m := by
    intro l
    induction l with
    | nil => intro _ _; rfl
    | cons w l ih => intro n m; rw [List.foldl_cons, List.foldl_cons, Nat.mul_assoc, ih]
  rw [List.foldl_cons, Nat.one_mul]
  have h := this ps ws.length 1
  rw [Nat.mul_one] at h; exact h
theorem szP_le {f : Int → List Int} {s : Int → Bool} {b : Nat} (hb : 1 ≤ b) : ∀ l : List Int, (∀ x ∈ l, (f x).length ≤ if s x = true then b else 1) → szP (l.map f) ≤ b ^ (l.filter s).length
  | [], _ => by show 1 ≤ _; exact Nat.pow_pos hb
  | x :: l, h => by
    have ih := szP_le hb l fun y hy => h y (List.mem_cons_of_mem _ hy)
    have h0 := h x List.mem_cons_self
    rw [List.map_cons, szP_cons]
    cases e : s x with
    | true =>
      rw [e, if_pos rfl] at h0
      rw [List.filter_cons_of_pos (by exact e), List.length_cons, Nat.pow_succ, Nat.mul_comm (b ^ _)]
      exact Nat.mul_le_mul h0 ih
    | false =>
      rw [e, if_neg (by decide)] at h0
      rw [List.filter_cons_of_neg (by rw [e]; decide)]
      exact Nat.le_trans (Nat.mul_le_mul h0 ih) (by rw [Nat.one_mul]; exact Nat.le_refl _)
theorem rng_all (sz : List Int) : (rangeL 0 sz.length).map (atT sz) = sz := by
  refine List.ext_getElem? fun i => ?_
  rw [List.getElem?_map]
  unfold rangeL
  rw [List.getElem?_map]
  by_cases h : i < sz.length
  · rw [List.getElem?_eq_getElem (l := List.range sz.length) (i := i) (by simpa using h), List.getElem_range, List.getElem?_eq_getElem h]
    show some (sz.getD _ default) = some sz[i]
    rw [show ((0 : Int) + (i : Int)).toNat = i by omega, List.getD_eq_getElem?_getD, List.getElem?_eq_getElem h]; rfl
  · rw [List.getElem?_eq_none (by rw [List.length_range]; omega), List.getElem?_eq_none (by omega)]; rfl
end K07

set_option Elab.async false
set_option linter.all false
set_option maxRecDepth 100000
set_option maxHeartbeats 4000000
namespace K07
open PySem PySem.Spec L2 DL
/-! ### the plain law: one behind the other -/
theorem cl_ss (f g : Int × Int) : Cl (some f) (some g) ↔ g.1 ≠ f.2 := by
  obtain ⟨o, m⟩ := f
  obtain ⟨o2, n⟩ := g
  constructor
  · rintro ⟨_, _, _, _, e1, e2, ne⟩; cases e1; cases e2; exact ne
  · intro ne; exact ⟨_, _, _, _, rfl, rfl, ne⟩
theorem canF_iff {y z : List R3} (hy : Rows y) (hz : Rows z) : canF y z = true ↔ ∀ p, ¬ Cl (look y p) (look z p) := by
  rw [← wrong_nil hy hz]
  unfold canF wrongD
  rw [List.map_eq_nil_iff, List.filter_eq_nil_iff, List.all_map, List.all_eq_true]
  constructor
  · intro h r hr
    have := h r hr
    simpa using this
  · intro h r hr
    have := h r hr
    simpa using this
theorem miss_nil {rs : List R3} (h : Rows rs) {word : List Int} : missL rs word = [] ↔ ∀ p v, look rs p = some v → atT word p = v.1 := by
  unfold missL
  rw [List.filter_eq_nil_iff]
  constructor
  · intro h1 p v e
    have := h1 _ (look_mem e)
    simpa using this
  · intro h1 r hr
    have := h1 r.1 r.2 (mem_look h.2.1 hr)
    simp at this ⊢; exact this
theorem at_set {word : List Int} {p q : Int} {v : Int} (hp : 0 ≤ p) (hq : 0 ≤ q ∧ q < (word.length : Int)) : atT (word.set q.toNat v) p = if q = p then v else atT word p := by
  unfold atT
  rw [List.getD_eq_getElem?_getD, List.getD_eq_getElem?_getD]
  by_cases e : q = p
  · subst e
    rw [if_pos rfl, List.getElem?_set_self (by omega)]; rfl
  · rw [if_neg e, List.getElem?_set_ne (by omega)]
theorem at_done : ∀ (rs : List R3) (word : List Int), (∀ r ∈ rs, 0 ≤ r.1 ∧ r.1 < (word.length : Int)) → (rs.map (·.1)).Nodup → ∀ p, 0 ≤ p → atT (doneL rs word) p = match look rs p with
    | some v => v.2
    | none => atT word p
  | [], word, _, _, p, _ => rfl
  | r :: rs, word, h, nd, p, hp => by
    rw [List.map_cons, List.nodup_cons] at nd
    have hr := h r List.mem_cons_self
    have ih := at_done rs (word.set r.1.toNat r.2.2) (fun q hq => by rw [List.length_set]; exact h q (List.mem_cons_of_mem _ hq)) nd.2 p hp
    show atT (doneL rs (word.set r.1.toNat r.2.2)) p = _
    rw [ih, look_cons]
    by_cases e : r.1 = p
    · have : look rs p = none := look_none.mpr (by rw [← e]; exact nd.1)
      rw [this, if_pos e]
      dsimp only
      rw [at_set hp hr, if_pos e]
    · rw [if_neg e]
      cases look rs p with
      | none => dsimp only; rw [at_set hp hr, if_neg e]
      | some v => rfl
theorem ext_at {a b : List Int} (hl : a.length = b.length) (h : ∀ p : Int, 0 ≤ p → p < (a.length : Int) → atT a p = atT b p) : a = b := by
  refine List.ext_getElem hl fun i h1 h2 => ?_
  have := h (i : Int) (by omega) (by omega)
  unfold atT at this
  rw [Int.toNat_natCast, List.getD_eq_getElem?_getD, List.getD_eq_getElem?_getD, List.getElem?_eq_getElem h1, List.getElem?_eq_getElem h2] at this
  exact this
/-! two that are in order, for one book -/
theorem Of.look {ns : List Int} {rs : List R3} (h : Of ns rs) {p : Int} {v : Int × Int} (e : look rs p = some v) : (0 ≤ p ∧ p < (ns.length : Int)) ∧ (0 ≤ v.1 ∧ v.1 < atT ns p) ∧ (0 ≤ v.2 ∧ v.2 < atT ns p) := h.at_ _ (look_mem e)
theorem Of.perm {ns : List Int} {a b : List R3} (h : Of ns a) (p : b.Perm a) : Of ns b := ⟨fun r hr => h.at_ r (p.mem_iff.mp hr), (p.map _).nodup_iff.mpr h.nd⟩
theorem Of.sort {ns : List Int} {a : List R3} (h : Of ns a) : Of ns (sort3 a) := h.perm (sort3_perm a)
theorem Of.inW {ns : List Int} {rs : List R3} (h : Of ns rs) {w : List Int} (hw : w.length = ns.length) : ∀ r ∈ rs, 0 ≤ r.1 ∧ r.1 < (w.length : Int) := fun r hr => by rw [hw]; exact (h.at_ r hr).1
abbrev TT (y z : List R3) : List R3 := sort3 (rowsD y z)
section
variable {ns : List Int} {y z : List R3} (hp : Pl ns) (hy : Of ns y) (hz : Of ns z)
include hp hy hz
theorem rowsT : Rows (TT y z) := (rows_rowsD (hy.rows hp) (hz.rows hp)).sort
theorem lookT (p : Int) : look (TT y z) p = comp (look y p) (look z p) := by
  rw [look_sort (rows_rowsD (hy.rows hp) (hz.rows hp)), look_rowsD hy.nd hz.nd]
theorem ofT : Of ns (TT y z) := ⟨fun r hr => by
  have e := mem_look (rowsT hp hy hz).2.1 hr
  rw [lookT hp hy hz] at e
  cases e1 : look y r.1 with
  | none => rw [e1] at e; exact hz.look e
  | some v =>
    have h1 := hy.look e1
    obtain ⟨v1, v2⟩ := v
    cases e2 : look z r.1 with
    | none =>
      rw [e1, e2] at e
      have e' : r.2 = (v1, v2) := (Option.some.inj e).symm
      rw [e']; exact h1
    | some u =>
      have h2 := hz.look e2
      rw [e1, e2] at e
      obtain ⟨u1, u2⟩ := u
      have e' : r.2 = (v1, u2) := (Option.some.inj e).symm
      rw [e']
      exact ⟨h1.1, h1.2.1, h2.2.2⟩, (rowsT hp hy hz).2.1⟩
variable {w : List Int} (hw : w.length = ns.length)
include hw
theorem at_F {p : Int} (h0 : 0 ≤ p) : atT (doneL y w) p = match look y p with
    | some v => v.2
    | none => atT w p := at_done y w (hy.inW hw) hy.nd p h0
theorem fit_both (hn : ∀ p, ¬ Cl (look y p) (look z p)) : (missL y w = [] ∧ missL z (doneL y w) = []) ↔ missL (TT y z) w = [] := by
  rw [miss_nil (hy.rows hp), miss_nil (hz.rows hp), miss_nil (rowsT hp hy hz)]
  constructor
  · rintro ⟨h1, h2⟩ p v e
    rw [lookT hp hy hz] at e
    cases e1 : look y p with
    | none =>
      rw [e1] at e
      have e' : look z p = some v := e
      have := h2 p v e'
      rw [at_F hp hy hz hw (hz.look e').1.1, e1] at this; exact this
    | some f =>
      have := h1 p f e1
      rw [e1] at e
      cases e2 : look z p with
      | none => rw [e2] at e; cases e; exact this
      | some l => rw [e2] at e; cases e; exact this
  · intro h
    have h1 : ∀ p v, look y p = some v → atT w p = v.1 := fun p v e => by
      cases e2 : look z p with
      | none => exact h p v (by rw [lookT hp hy hz, e, e2]; rfl)
      | some l => exact h p (v.1, l.2) (by rw [lookT hp hy hz, e, e2]; rfl)
    refine ⟨h1, fun p v e => ?_⟩
    rw [at_F hp hy hz hw (hz.look e).1.1]
    cases e1 : look y p with
    | none => exact h p v (by rw [lookT hp hy hz, e1, e]; rfl)
    | some f =>
      have := hn p
      rw [e1, e, cl_ss] at this
      exact (Classical.not_not.mp this).symm
theorem done_both : doneL (TT y z) w = doneL z (doneL y w) := by
  have lF : (doneL y w).length = ns.length := by rw [doneL_len, hw]
  refine ext_at (by rw [doneL_len, doneL_len, doneL_len]) fun p h0 _ => ?_
  rw [at_done _ w ((ofT hp hy hz).inW hw) (ofT hp hy hz).nd p h0, at_done z _ (hz.inW lF) hz.nd p h0, at_F hp hy hz hw h0, lookT hp hy hz]
  cases look y p with
  | none => cases look z p <;> rfl
  | some f => cases look z p <;> rfl
theorem beh_some {r : List Int} : behL y z w = some r ↔ canF y z = true ∧ missL (TT y z) w = [] ∧ r = doneL (TT y z) w := by
  have key : (missL y w = [] ∧ missL z (doneL y w) = []) ↔ canF y z = true ∧ missL (TT y z) w = [] := by
    constructor
    · intro h
      have hc : ∀ p, ¬ Cl (look y p) (look z p) := fun p ⟨o, m, o2, n, e1, e2, ne⟩ => by
        have := (miss_nil (hz.rows hp)).mp h.2 p _ e2
        rw [at_F hp hy hz hw (hy.look e1).1.1, e1] at this
        exact ne this.symm
      exact ⟨(canF_iff (hy.rows hp) (hz.rows hp)).mpr hc, (fit_both hp hy hz hw hc).mp h⟩
    · rintro ⟨hc, h⟩
      exact (fit_both hp hy hz hw ((canF_iff (hy.rows hp) (hz.rows hp)).mp hc)).mpr h
  unfold behL
  by_cases h1 : missL y w = []
  · rw [decide_eq_true h1, if_neg (by decide)]
    by_cases h2 : missL z (doneL y w) = []
    · rw [decide_eq_true h2, if_pos rfl, ← done_both hp hy hz hw]
      have := key.mp ⟨h1, h2⟩
      constructor
      · intro e; exact ⟨this.1, this.2, (Option.some.inj e).symm⟩
      · intro e; rw [e.2.2]
    · rw [decide_eq_false h2, if_neg (by decide)]
      constructor
      · intro e; cases e
      · intro e; exact absurd (key.mpr ⟨e.1, e.2.1⟩).2 h2
  · rw [decide_eq_false h1, if_pos (by decide)]
    constructor
    · intro e; cases e
    · intro e; exact absurd (key.mpr ⟨e.1, e.2.1⟩).1 h1
end
theorem beh_sort {ns : List Int} {F L : List R3} (hp : Pl ns) (hF : Of ns F) (hL : Of ns L) {w : List Int} (hw : w.length = ns.length) : behL F L w = behL (sort3 F) (sort3 L) w := by
  have lk : ∀ p, look (sort3 F) p = look F p := look_sort (hF.rows hp)
  have ll : ∀ p, look (sort3 L) p = look L p := look_sort (hL.rows hp)
  have eT : TT (sort3 F) (sort3 L) = TT F L := by
    refine sort3_ext (rows_rowsD (hF.sort.rows hp) (hL.sort.rows hp)) (rows_rowsD (hF.rows hp) (hL.rows hp)) fun p => ?_
    rw [look_rowsD hF.sort.nd hL.sort.nd, look_rowsD hF.nd hL.nd, lk, ll]
  have eC : canF (sort3 F) (sort3 L) = true ↔ canF F L = true := by
    rw [canF_iff (hF.sort.rows hp) (hL.sort.rows hp), canF_iff (hF.rows hp) (hL.rows hp)]
    constructor <;> intro h p <;> have := h p
    · rw [lk, ll] at this; exact this
    · rw [lk, ll]; exact this
  refine Option.ext fun r => ?_
  rw [beh_some hp hF hL hw, beh_some hp hF.sort hL.sort hw, eT, eC]
/-! the least text that fits -/
theorem dOld_look {y : List R3} (nd : (y.map (·.1)).Nodup) (p : Int) : valD (dOld y) p = (look y p).map fun v => v.1 := by
  have base : ∀ (y : List R3) (p : Int), valD (y.map fun x => (x.1, x.2.1)) p = (look y p).map fun v => v.1 := by
    intro y p
    induction y with
    | nil => rfl
    | cons r y ih =>
      rw [List.map_cons, look_cons]
      unfold valD at ih ⊢
      rw [List.find?_cons]
      by_cases e : r.1 = p
      · rw [if_pos e, show decide ((r.1, r.2.1).1 = p) = true from decide_eq_true e]; rfl
      · rw [if_neg e, show decide ((r.1, r.2.1).1 = p) = false from decide_eq_false e]; exact ih
  unfold dOld
  rw [valD_dicOf, ← List.map_reverse, base]
  rw [look_perm (a := y.reverse) (b := y) ((y.reverse_perm.map _).nodup_iff.mpr nd) y.reverse_perm p]
def lfG (y : List R3) (p : Int) : Int := ((look y p).map fun v => v.1).getD 0
theorem lfL_eq {y : List R3} (nd : (y.map (·.1)).Nodup) (pl : List Int) : lfL pl y = (rangeL 0 pl.length).map (lfG y) := by
  unfold lfL lfG
  exact List.map_congr_left fun p _ => by rw [dOld_look nd]
theorem lfL_len (pl : List Int) (y : List R3) : (lfL pl y).length = pl.length := by unfold lfL; rw [List.length_map, rangeL_len]
theorem at_rng {g : Int → Int} {n : Nat} {p : Int} (h : 0 ≤ p ∧ p < (n : Int)) : atT ((rangeL 0 n).map g) p = g p := by
  show ((rangeL 0 n).map g).getD _ _ = _
  rw [List.getD_eq_getElem?_getD, List.getElem?_map]
  have : (rangeL 0 n)[p.toNat]? = some p := by
    have hl : p.toNat < (rangeL 0 n).length := by rw [rangeL_len]; omega
    rw [List.getElem?_eq_getElem hl]
    have := rangeL_get (List.getElem?_eq_getElem hl)
    rw [this]
    congr 1; omega
  rw [this]; rfl
theorem lf_fits {ns : List Int} {y : List R3} (hp : Pl ns) (h : Of ns y) : missL y (lfL ns y) = [] := (miss_nil (h.rows hp)).mpr fun p v e => by
  rw [lfL_eq h.nd, at_rng (h.look e).1]
  unfold lfG; rw [e]; rfl
theorem lf_le {ns : List Int} {y : List R3} (hp : Pl ns) (h : Of ns y) {t : List Int} (ht : t.length = ns.length) (h0 : ∀ x ∈ t, 0 ≤ x) (hf : missL y t = []) : ltL t (lfL ns y) = false := by
  have e : t = (rangeL 0 ns.length).map (atT t) := by rw [← ht]; exact (rng_all t).symm
  rw [lfL_eq h.nd]
  conv => lhs; arg 1; rw [e]
  refine lt_map _ fun p hp' => ?_
  have hr := rng_mem.mp hp'
  unfold lfG
  cases e2 : look y p with
  | none => exact h0 _ (atT_mem (by omega))
  | some v => exact Int.le_of_eq ((miss_nil (h.rows hp)).mp hf p v e2).symm
end K07

set_option Elab.async false
set_option linter.all false
set_option maxRecDepth 100000
set_option maxHeartbeats 4000000
namespace K07
open PySem PySem.Spec L2 DL
/-! ### the plain law: the texts that are looked at -/
def partF (sz : List Int) (rs : List R3) (p : Int) : List Int := if decide (countL sz (rangeL 0 sz.length) ≤ 81) = true then rangeL 0 (atT sz p).toNat else partL rs sz p
theorem parts_eq (sz : List Int) (rs : List R3) : partsL sz rs = (rangeL 0 sz.length).map (partF sz rs) := by
  unfold partsL partF
  cases e : decide (countL sz (rangeL 0 sz.length) ≤ 81) with
  | true =>
    rw [if_pos rfl]
    conv => lhs; rw [← rng_all sz]
    rw [List.map_map]
    exact List.map_congr_left fun p _ => by rw [if_pos rfl]; rfl
  | false => rw [if_neg (by decide)]; exact List.map_congr_left fun p _ => by rw [if_neg (by decide)]
theorem rng_up (n : Nat) : (rangeL 0 n).Pairwise (· < ·) := by
  unfold rangeL
  rw [List.pairwise_map]
  exact List.pairwise_lt_range.imp fun h => by omega
theorem mem_olds {rs : List R3} {p x : Int} : x ∈ oldsL rs p ↔ ∃ r ∈ rs, r.1 = p ∧ r.2.1 = x := by
  unfold oldsL
  rw [List.mem_map]
  constructor
  · rintro ⟨r, hr, e⟩
    obtain ⟨h1, h2⟩ := List.mem_filter.mp hr
    exact ⟨r, h1, of_decide_eq_true h2, e⟩
  · rintro ⟨r, hr, e, e2⟩
    exact ⟨r, List.mem_filter.mpr ⟨hr, decide_eq_true e⟩, e2⟩
section
variable {sz : List Int} {F L : List R3} (hp : Pl sz) (hF : Of sz F) (hL : Of sz L)
include hp hF hL
theorem both_at : ∀ r ∈ F ++ L, (0 ≤ r.1 ∧ r.1 < (sz.length : Int)) ∧ (0 ≤ r.2.1 ∧ r.2.1 < atT sz r.1) := fun r hr => by
  rcases List.mem_append.mp hr with h | h
  · exact ⟨(hF.at_ r h).1, (hF.at_ r h).2.1⟩
  · exact ⟨(hL.at_ r h).1, (hL.at_ r h).2.1⟩
theorem part_up (p : Int) : (partF sz (F ++ L) p).Pairwise (· < ·) := by
  unfold partF
  split
  · exact rng_up _
  · exact asc_up _
theorem part_in {p : Int} (h : 0 ≤ p ∧ p < (sz.length : Int)) : ∀ x ∈ partF sz (F ++ L) p, 0 ≤ x ∧ x < atT sz p := fun x hx => by
  have hs := sz_at hp h
  unfold partF at hx
  split at hx
  · have := rng_mem.mp hx; omega
  · unfold partL at hx
    rcases List.mem_append.mp (mem_asc.mp hx) with hx | hx
    · obtain ⟨r, hr, e1, e2⟩ := mem_olds.mp hx
      have := both_at hp hF hL r hr
      rw [e1, e2] at this; exact this.2
    · unfold spareL at hx
      split at hx
      · rw [List.mem_singleton.mp hx]; omega
      · cases e : fewL (F ++ L) with
        | true =>
          rw [e] at hx
          have hx : x ∈ [0, atT sz p - 1] := by simpa using hx
          rcases List.mem_cons.mp hx with e2 | e2
          · rw [e2]; omega
          · rw [List.mem_singleton.mp e2]; omega
        | false => rw [e] at hx; simp at hx
theorem part_old {p x : Int} (h : 0 ≤ p ∧ p < (sz.length : Int)) (hx : x ∈ oldsL (F ++ L) p) : x ∈ partF sz (F ++ L) p := by
  unfold partF
  split
  · obtain ⟨r, hr, e1, e2⟩ := mem_olds.mp hx
    have := both_at hp hF hL r hr
    rw [e1, e2] at this
    exact rng_mem.mpr (by omega)
  · exact mem_asc.mpr (List.mem_append_left _ hx)
theorem part_zero {p : Int} (h : 0 ≤ p ∧ p < (sz.length : Int)) (hx : oldsL (F ++ L) p = []) : (0 : Int) ∈ partF sz (F ++ L) p := by
  have hs := sz_at hp h
  unfold partF
  split
  · exact rng_mem.mpr (by omega)
  · refine mem_asc.mpr (List.mem_append_right _ ?_)
    unfold spareL
    rw [decide_eq_true hx, if_pos rfl]
    exact List.mem_singleton.mpr rfl
/-- what a text that fits may be is looked at -/
theorem lf_in {y : List R3} (hy : Of sz y) (h1 : ∀ p v, look y p = some v → v.1 ∈ oldsL (F ++ L) p) (h2 : ∀ p, look y p = none → oldsL (F ++ L) p = []) : lfL sz y ∈ lookL sz F L := by
  unfold lookL
  rw [textsP_C, parts_eq, lfL_eq hy.nd]
  refine map_in _ fun p hp' => ?_
  have hr := rng_mem.mp hp'
  unfold lfG
  cases e : look y p with
  | none => exact part_zero hp hF hL hr (h2 p e)
  | some v => exact part_old hp hF hL hr (h1 p v e)
theorem look_up : (lookL sz F L).Pairwise fun a b => ltL a b = true := by
  unfold lookL
  rw [textsP_C, parts_eq]
  refine texts_up fun ws h => ?_
  obtain ⟨p, _, rfl⟩ := List.mem_map.mp h
  exact part_up hp hF hL p
theorem look_len : ∀ t ∈ lookL sz F L, t.length = sz.length := fun t ht => by
  have := textsP_row _ t ht
  rw [this, parts_eq, List.length_map, rangeL_len]
theorem look_small : ∀ t ∈ lookL sz F L, ∀ x ∈ t, 0 ≤ x ∧ x < 6 := fun t ht x hx => by
  unfold lookL at ht
  rw [textsP_C] at ht
  obtain ⟨ws, h1, h2⟩ := in_parts ht x hx
  rw [parts_eq] at h1
  obtain ⟨p, hp', rfl⟩ := List.mem_map.mp h1
  have hr := rng_mem.mp hp'
  have a := part_in hp hF hL (by omega) x h2
  have b := sz_at hp (p := p) (by omega)
  omega
theorem one_at {rs : List R3} (h : (rs.map (·.1)).Nodup) (p : Int) : (rs.filter fun r => decide (r.1 = p)).length ≤ 1 := by
  have nd : ((rs.filter fun r => decide (r.1 = p)).map (·.1)).Nodup := (List.Sublist.map _ List.filter_sublist).nodup h
  cases e : rs.filter fun r => decide (r.1 = p) with
  | nil => exact Nat.zero_le _
  | cons a l =>
    cases l with
    | nil => exact Nat.le_refl _
    | cons b l =>
      rw [e] at nd
      have ha : a ∈ rs.filter fun r => decide (r.1 = p) := by rw [e]; simp
      have hb : b ∈ rs.filter fun r => decide (r.1 = p) := by rw [e]; simp
      have ea := of_decide_eq_true (List.mem_filter.mp ha).2
      have eb := of_decide_eq_true (List.mem_filter.mp hb).2
      rw [List.map_cons, List.map_cons, List.nodup_cons] at nd
      exact absurd (by rw [ea, eb]; exact List.mem_cons_self) nd.1
theorem olds_len (p : Int) : (oldsL (F ++ L) p).length ≤ 2 := by
  unfold oldsL
  rw [List.length_map, List.filter_append, List.length_append]
  have a := one_at hp hF hL hF.nd p
  have b := one_at hp hF hL hL.nd p
  omega
def touched (F L : List R3) (p : Int) : Bool := decide (p ∈ asc ((F ++ L).map fun r => r.1))
theorem olds_nil {p : Int} (h : touched F L p = false) : oldsL (F ++ L) p = [] := by
  unfold oldsL
  rw [List.map_eq_nil_iff, List.filter_eq_nil_iff]
  intro r hr e
  have e' := of_decide_eq_true e
  have : p ∈ asc ((F ++ L).map fun r => r.1) := mem_asc.mpr (List.mem_map.mpr ⟨r, hr, e'⟩)
  unfold touched at h
  rw [decide_eq_true this] at h
  exact absurd h (by decide)
theorem olds_ne {p : Int} (h : touched F L p = true) : oldsL (F ++ L) p ≠ [] := fun e => by
  have h' := of_decide_eq_true h
  obtain ⟨r, hr, e2⟩ := List.mem_map.mp (mem_asc.mp h')
  have : r.2.1 ∈ oldsL (F ++ L) p := mem_olds.mpr ⟨r, hr, e2, rfl⟩
  rw [e] at this; cases this
theorem partL_len (p : Int) : (partL (F ++ L) sz p).length ≤ if touched F L p = true then (if fewL (F ++ L) = true then 4 else 2) else 1 := by
  unfold partL
  refine Nat.le_trans (asc_len _) ?_
  rw [List.length_append]
  have h1 := olds_len hp hF hL p
  cases e : touched F L p with
  | false =>
    rw [olds_nil hp hF hL e, if_neg (by decide)]
    unfold spareL
    rw [decide_eq_true (olds_nil hp hF hL e), if_pos rfl]
    exact Nat.le_refl _
  | true =>
    rw [if_pos rfl]
    unfold spareL
    rw [decide_eq_false (olds_ne hp hF hL e), if_neg (by decide)]
    cases fewL (F ++ L) with
    | true => rw [if_pos rfl, if_pos rfl]; simp; omega
    | false => rw [if_neg (by decide), if_neg (by decide)]; simp; omega
theorem count_touched (n : Nat) : ((rangeL 0 n).filter (touched F L)).length ≤ (asc ((F ++ L).map fun r => r.1)).length ∧ ((rangeL 0 n).filter (touched F L)).length ≤ n := by
  refine ⟨card_ext.le_of ((List.filter_sublist).nodup (rng_nd n)) fun k hk => of_decide_eq_true (List.mem_filter.mp hk).2, ?_⟩
  have := List.length_filter_le (touched F L) (rangeL 0 n)
  rw [rangeL_len] at this; exact this
theorem cnt_go : ∀ (l : List Int) (c : Int), (∀ p ∈ l, 0 ≤ atT sz p) → l.foldl (fun c p => c * atT sz p) c = c * ((szP (l.map fun p => rangeL 0 (atT sz p).toNat) : Nat) : Int)
  | [], c, _ => by show c = c * ((1 : Nat) : Int); omega
  | p :: l, c, h => by
    have hp' := h p List.mem_cons_self
    rw [List.foldl_cons, cnt_go l _ fun q hq => h q (List.mem_cons_of_mem _ hq), List.map_cons, szP_cons, rangeL_len, Int.natCast_mul, Int.mul_assoc]
    congr 2
    omega
theorem parts_ok : PtOk (partsL sz (F ++ L)) := by
  refine ⟨?_, ?_, ?_⟩
  · rw [parts_eq, List.length_map, rangeL_len]; exact hp.1.2
  · intro ws h
    rw [parts_eq] at h
    obtain ⟨p, hp', rfl⟩ := List.mem_map.mp h
    have hr := rng_mem.mp hp'
    have hs := sz_at hp (p := p) (by omega)
    refine List.length_pos_iff.mpr fun e => ?_
    by_cases ho : oldsL (F ++ L) p = []
    · have := part_zero hp hF hL (by omega) ho
      rw [e] at this; cases this
    · obtain ⟨x, r, e2⟩ := List.exists_cons_of_ne_nil ho
      have := part_old hp hF hL (p := p) (x := x) (by omega) (by rw [e2]; exact List.mem_cons_self)
      rw [e] at this; cases this
  · unfold partsL
    cases e : decide (countL sz (rangeL 0 sz.length) ≤ 81) with
    | true =>
      rw [if_pos rfl]
      have h1 := of_decide_eq_true e
      unfold countL at h1
      rw [cnt_go hp hF hL _ 1 fun p hp' => by
        have hr := rng_mem.mp hp'
        have := sz_at hp (p := p) (by omega)
        omega] at h1
      have e2 : sz.map (fun s => rangeL 0 s.toNat) = (rangeL 0 sz.length).map fun p => rangeL 0 (atT sz p).toNat := by
        conv => lhs; rw [← rng_all sz]
        rw [List.map_map]; rfl
      rw [e2]
      omega
    | false =>
      rw [if_neg (by decide)]
      have hc := count_touched hp hF hL sz.length
      have h8 := hp.1.2
      have h1 := szP_le (f := partL (F ++ L) sz) (s := touched F L) (b := if fewL (F ++ L) = true then 4 else 2) (by cases fewL (F ++ L) <;> decide) (rangeL 0 sz.length) fun p _ => partL_len hp hF hL p
      refine Nat.le_trans h1 ?_
      cases e2 : fewL (F ++ L) with
      | true =>
        rw [if_pos rfl]
        have h3 : (asc ((F ++ L).map fun r => r.1)).length < 5 := by
          have := of_decide_eq_true e2
          omega
        exact Nat.le_trans (Nat.pow_le_pow_right (by decide) (Nat.le_trans hc.1 (Nat.le_of_lt_succ h3))) (by decide)
      | false =>
        rw [if_neg (by decide)]
        exact Nat.le_trans (Nat.pow_le_pow_right (by decide) (Nat.le_trans hc.2 h8)) (by decide)
end
end K07

set_option Elab.async false
set_option linter.all false
set_option maxRecDepth 100000
set_option maxHeartbeats 4000000
namespace K07
open PySem PySem.Spec L2 DL
/-! ### the plain law: what has to be known of the pair -/
theorem commL_comm (y z : List R3) : commL y z = commL z y := by
  unfold commL
  cases canF y z <;> cases canF z y <;> simp [eq_comm]
theorem commL_true {y z : List R3} : commL y z = true ↔ (canF y z = true ∧ canF z y = true ∧ TT y z = TT z y) ∨ (canF y z = false ∧ canF z y = false) := by
  unfold commL
  cases canF y z <;> cases canF z y <;> simp
theorem mem_cand {sz : List Int} {y z : List R3} {a : List Int} : a ∈ candL sz y z ↔ (canF y z = true ∧ a = lfL sz (TT y z)) ∨ (canF z y = true ∧ a = lfL sz (TT z y)) := by
  unfold candL
  rw [List.mem_map]
  constructor
  · rintro ⟨pr, h, e⟩
    obtain ⟨h1, h2⟩ := List.mem_filter.mp h
    rcases List.mem_cons.mp h1 with e1 | h1
    · subst e1; exact .inl ⟨h2, e.symm⟩
    · have e1 := List.mem_singleton.mp h1
      subst e1; exact .inr ⟨h2, e.symm⟩
  · rintro (⟨h, e⟩ | ⟨h, e⟩)
    · exact ⟨(y, z), List.mem_filter.mpr ⟨by simp, h⟩, e.symm⟩
    · exact ⟨(z, y), List.mem_filter.mpr ⟨by simp, h⟩, e.symm⟩
section
variable {sz : List Int} (hp : Pl sz)
include hp
theorem same_all {A B : List R3} (hA : Of sz A) (hB : Of sz B) (hc : canF A B = true) (e : behL A B (lfL sz (TT A B)) = behL B A (lfL sz (TT A B))) : canF B A = true ∧ TT A B = TT B A := by
  have ll := lfL_len sz (TT A B)
  have hT := ofT hp hA hB
  have hU := ofT hp hB hA
  have h1 := (beh_some hp hA hB ll).mpr ⟨hc, lf_fits hp hT, rfl⟩
  rw [e] at h1
  obtain ⟨c2, m2, d2⟩ := (beh_some hp hB hA ll).mp h1
  refine ⟨c2, ?_⟩
  refine sort3_ext (rows_rowsD (hA.rows hp) (hB.rows hp)) (rows_rowsD (hB.rows hp) (hA.rows hp)) fun p => ?_
  rw [look_rowsD hA.nd hB.nd, look_rowsD hB.nd hA.nd]
  cases e1 : look A p with
  | none => cases e2 : look B p with
    | none => rfl
    | some v => obtain ⟨v1, v2⟩ := v; rfl
  | some u =>
    obtain ⟨o, m⟩ := u
    cases e2 : look B p with
    | none => rfl
    | some v =>
      obtain ⟨o2, n⟩ := v
      have t1 : look (TT A B) p = some (o, n) := by rw [lookT hp hA hB, e1, e2]; rfl
      have t2 : look (TT B A) p = some (o2, m) := by rw [lookT hp hB hA, e1, e2]; rfl
      have a1 := (miss_nil (rowsT hp hA hB)).mp (lf_fits hp hT) p _ t1
      have a2 := (miss_nil (rowsT hp hB hA)).mp m2 p _ t2
      have h0 := (hT.look t1).1.1
      have b1 := at_done _ (lfL sz (TT A B)) (hT.inW ll) hT.nd p h0
      have b2 := at_done _ (lfL sz (TT A B)) (hU.inW ll) hU.nd p h0
      rw [t1] at b1
      rw [t2] at b2
      have b3 : n = m := by rw [← show atT (doneL (TT A B) (lfL sz (TT A B))) p = n from b1, d2]; exact b2
      have a3 : o = o2 := by rw [← show atT (lfL sz (TT A B)) p = o from a1]; exact a2
      show some (o, n) = some (o2, m)
      rw [a3, b3]
/-- olds of the rows are looked at -/
def Olds (F L A : List R3) : Prop := ∀ p v, look A p = some v → v.1 ∈ oldsL (F ++ L) p
def None2 (F L A B : List R3) : Prop := ∀ p, look A p = none → look B p = none → oldsL (F ++ L) p = []
theorem cand_in {F L A B : List R3} (hF : Of sz F) (hL : Of sz L) (hA : Of sz A) (hB : Of sz B) (oA : Olds F L A) (oB : Olds F L B) (n2 : None2 F L A B) : lfL sz (TT A B) ∈ lookL sz F L := by
  refine lf_in hp hF hL (ofT hp hA hB) (fun p v e => ?_) fun p e => ?_
  · rw [lookT hp hA hB] at e
    cases e1 : look A p with
    | none => rw [e1] at e; exact oB p v e
    | some u =>
      obtain ⟨o, m⟩ := u
      cases e2 : look B p with
      | none => rw [e1, e2] at e; cases e; exact oA p _ e1
      | some w => obtain ⟨o2, n⟩ := w; rw [e1, e2] at e; cases e; exact oA p (o, m) e1
  · rw [lookT hp hA hB] at e
    cases e1 : look A p with
    | none => rw [e1] at e; exact n2 p e1 e
    | some u => obtain ⟨o, m⟩ := u; rw [e1] at e; cases e2 : look B p with
      | none => rw [e2] at e; cases e
      | some w => obtain ⟨o2, n⟩ := w; rw [e2] at e; cases e
theorem first_unl {F L A B : List R3} (hF : Of sz F) (hL : Of sz L) (hA : Of sz A) (hB : Of sz B) (oA : Olds F L A) (oB : Olds F L B) (n2 : None2 F L A B)
    (hq : ∀ t ∈ lookL sz F L, (behL F L t = behL L F t ↔ behL A B t = behL B A t)) (hc : commL A B = false) {x : List Int} {xs : List (List Int)} (e : candL sz A B = x :: xs) : ∃ rest, unlL sz F L = minL x xs :: rest := by
  have n2' : None2 F L B A := fun p a b => n2 p b a
  have i1 := cand_in hp hF hL hA hB oA oB n2
  have i2 := cand_in hp hF hL hB hA oB oA n2'
  have hm : minL x xs ∈ candL sz A B := by rw [e]; exact minL_mem x xs
  have hle : ∀ a ∈ candL sz A B, ltL a (minL x xs) = false := by rw [e]; exact minL_le x xs
  refine first_of (look_up hp hF hL) ?_ ?_ fun t ht hqt => ?_
  · rcases mem_cand.mp hm with ⟨_, e⟩ | ⟨_, e⟩ <;> rw [e]
    · exact i1
    · exact i2
  · have no : ¬ behL F L (minL x xs) = behL L F (minL x xs) := fun q => by
      have hin : minL x xs ∈ lookL sz F L := by
        rcases mem_cand.mp hm with ⟨_, e⟩ | ⟨_, e⟩ <;> rw [e]
        · exact i1
        · exact i2
      have q := (hq _ hin).mp q
      have : commL A B = true := by
        rcases mem_cand.mp hm with ⟨c, e⟩ | ⟨c, e⟩
        · rw [e] at q
          obtain ⟨c2, e2⟩ := same_all hp hA hB c q
          exact commL_true.mpr (.inl ⟨c, c2, e2⟩)
        · rw [e] at q
          obtain ⟨c2, e2⟩ := same_all hp hB hA c q.symm
          exact commL_true.mpr (.inl ⟨c2, c, e2.symm⟩)
      rw [hc] at this; exact absurd this (by decide)
    rw [decide_eq_false no]; rfl
  · have hl := look_len hp hF hL t ht
    have h0 : ∀ x ∈ t, 0 ≤ x := fun x hx => (look_small hp hF hL t ht x hx).1
    have no : ¬ behL A B t = behL B A t := fun q => by
      have := (hq t ht).mpr q
      rw [decide_eq_true this] at hqt
      exact absurd hqt (by decide)
    cases e1 : behL A B t with
    | some r =>
      obtain ⟨c, m, _⟩ := (beh_some hp hA hB hl).mp e1
      exact lt_tr (hle _ (mem_cand.mpr (.inl ⟨c, rfl⟩))) (lf_le hp (ofT hp hA hB) hl h0 m)
    | none =>
      cases e2 : behL B A t with
      | some r =>
        obtain ⟨c, m, _⟩ := (beh_some hp hB hA hl).mp e2
        exact lt_tr (hle _ (mem_cand.mpr (.inr ⟨c, rfl⟩))) (lf_le hp (ofT hp hB hA) hl h0 m)
      | none => rw [e1, e2] at no; exact absurd rfl no
end
section
variable {sz : List Int} {F L : List R3} (hp : Pl sz) (hF : Of sz F) (hL : Of sz L)
include hp hF hL
theorem olds_F : Olds F L (sort3 F) := fun p v e => by
  rw [look_sort (hF.rows hp)] at e
  exact mem_olds.mpr ⟨(p, v), List.mem_append_left _ (look_mem e), rfl, rfl⟩
theorem olds_L : Olds F L (sort3 L) := fun p v e => by
  rw [look_sort (hL.rows hp)] at e
  exact mem_olds.mpr ⟨(p, v), List.mem_append_right _ (look_mem e), rfl, rfl⟩
theorem none_2 : None2 F L (sort3 F) (sort3 L) := fun p e1 e2 => by
  rw [look_sort (hF.rows hp)] at e1
  rw [look_sort (hL.rows hp)] at e2
  have h1 := look_none.mp e1
  have h2 := look_none.mp e2
  refine List.eq_nil_iff_forall_not_mem.mpr fun x hx => ?_
  obtain ⟨r, hr, e, _⟩ := mem_olds.mp hx
  rcases List.mem_append.mp hr with h | h
  · exact h1 (List.mem_map.mpr ⟨r, h, e⟩)
  · exact h2 (List.mem_map.mpr ⟨r, h, e⟩)
theorem beh_1 {t : List Int} (ht : t ∈ lookL sz F L) : behL F L t = behL (sort3 F) (sort3 L) t := beh_sort hp hF hL (look_len hp hF hL t ht)
theorem beh_2 {t : List Int} (ht : t ∈ lookL sz F L) : behL L F t = behL (sort3 L) (sort3 F) t := beh_sort hp hL hF (look_len hp hF hL t ht)
theorem unl_nil (hc : commL (sort3 F) (sort3 L) = true) : unlL sz F L = [] := by
  unfold unlL
  rw [List.filter_eq_nil_iff]
  intro t ht
  have hl := look_len hp hF hL t ht
  have : behL F L t = behL L F t := by
    rw [beh_1 hp hF hL ht, beh_2 hp hF hL ht]
    refine Option.ext fun r => ?_
    rw [beh_some hp hF.sort hL.sort hl, beh_some hp hL.sort hF.sort hl]
    rcases commL_true.mp hc with ⟨c1, c2, e⟩ | ⟨c1, c2⟩
    · rw [c1, c2, e]
    · rw [c1, c2]; simp
  rw [decide_eq_true this]; decide
theorem unl_one : ∀ {x xs}, commL (sort3 F) (sort3 L) = false → candL sz (sort3 F) (sort3 L) = x :: xs → ∃ rest, unlL sz F L = minL x xs :: rest := fun hc e =>
  first_unl hp hF hL hF.sort hL.sort (olds_F hp hF hL) (olds_L hp hF hL) (none_2 hp hF hL) (fun t ht => by rw [beh_1 hp hF hL ht, beh_2 hp hF hL ht]) hc e
theorem unl_two : ∀ {x xs}, commL (sort3 L) (sort3 F) = false → candL sz (sort3 L) (sort3 F) = x :: xs → ∃ rest, unlL sz F L = minL x xs :: rest := fun hc e =>
  first_unl hp hF hL hL.sort hF.sort (olds_L hp hF hL) (olds_F hp hF hL) (fun p a b => none_2 hp hF hL p b a) (fun t ht => by rw [beh_1 hp hF hL ht, beh_2 hp hF hL ht]; exact eq_comm) hc e
theorem can_1 : canF (sort3 F) (sort3 L) = !decide (((lookL sz F L).map (behL F L)).filter (fun o => o.isSome) = []) := by
  cases e : canF (sort3 F) (sort3 L) with
  | true =>
    have hi := cand_in hp hF hL hF.sort hL.sort (olds_F hp hF hL) (olds_L hp hF hL) (none_2 hp hF hL)
    have hb := (beh_some hp hF.sort hL.sort (lfL_len sz (TT (sort3 F) (sort3 L)))).mpr ⟨e, lf_fits hp (ofT hp hF.sort hL.sort), rfl⟩
    rw [← beh_1 hp hF hL hi] at hb
    rw [decide_eq_false fun q => ?_]; rfl
    rw [List.filter_eq_nil_iff] at q
    exact q _ (List.mem_map.mpr ⟨_, hi, hb⟩) rfl
  | false =>
    rw [decide_eq_true]; rfl
    rw [List.filter_eq_nil_iff]
    intro o ho q
    obtain ⟨t, ht, rfl⟩ := List.mem_map.mp ho
    obtain ⟨r, hr⟩ := Option.isSome_iff_exists.mp q
    rw [beh_1 hp hF hL ht] at hr
    have := ((beh_some hp hF.sort hL.sort (look_len hp hF hL t ht)).mp hr).1
    rw [e] at this; exact absurd this (by decide)
theorem can_2 : canF (sort3 L) (sort3 F) = !decide (((lookL sz F L).map (behL L F)).filter (fun o => o.isSome) = []) := by
  cases e : canF (sort3 L) (sort3 F) with
  | true =>
    have hi := cand_in hp hF hL hL.sort hF.sort (olds_L hp hF hL) (olds_F hp hF hL) (fun p a b => none_2 hp hF hL p b a)
    have hb := (beh_some hp hL.sort hF.sort (lfL_len sz (TT (sort3 L) (sort3 F)))).mpr ⟨e, lf_fits hp (ofT hp hL.sort hF.sort), rfl⟩
    rw [← beh_2 hp hF hL hi] at hb
    rw [decide_eq_false fun q => ?_]; rfl
    rw [List.filter_eq_nil_iff] at q
    exact q _ (List.mem_map.mpr ⟨_, hi, hb⟩) rfl
  | false =>
    rw [decide_eq_true]; rfl
    rw [List.filter_eq_nil_iff]
    intro o ho q
    obtain ⟨t, ht, rfl⟩ := List.mem_map.mp ho
    obtain ⟨r, hr⟩ := Option.isSome_iff_exists.mp q
    rw [beh_2 hp hF hL ht] at hr
    have := ((beh_some hp hL.sort hF.sort (look_len hp hF hL t ht)).mp hr).1
    rw [e] at this; exact absurd this (by decide)
theorem comm_1 : commL (sort3 F) (sort3 L) = decide (unlL sz F L = []) := by
  cases e : commL (sort3 F) (sort3 L) with
  | true => rw [decide_eq_true (unl_nil hp hF hL e)]
  | false =>
    obtain ⟨x, xs, ec⟩ := cand_ne (pl := sz) e
    obtain ⟨rest, er⟩ := unl_one hp hF hL e ec
    rw [er]; rfl
theorem un_1 : unlikeL sz (sort3 F) (sort3 L) = ((unlL sz F L).map some ++ [none]).getD 0 default := by
  cases e : commL (sort3 F) (sort3 L) with
  | true => rw [unl_nil hp hF hL e]; unfold unlikeL; rw [if_pos e]; rfl
  | false =>
    obtain ⟨x, xs, ec⟩ := cand_ne (pl := sz) e
    obtain ⟨rest, er⟩ := unl_one hp hF hL e ec
    rw [er, unlike_some e ec]; rfl
theorem un_2 : unlikeL sz (sort3 L) (sort3 F) = ((unlL sz F L).map some ++ [none]).getD 0 default := by
  cases e : commL (sort3 L) (sort3 F) with
  | true => rw [unl_nil hp hF hL (by rw [commL_comm]; exact e)]; unfold unlikeL; rw [if_pos e]; rfl
  | false =>
    obtain ⟨x, xs, ec⟩ := cand_ne (pl := sz) e
    obtain ⟨rest, er⟩ := unl_two hp hF hL e ec
    rw [er, unlike_some e ec]; rfl
theorem lf_wide {y : List R3} (hy : Of sz y) : lfL (sz ++ [2]) y = lfL sz y ++ [0] := by
  rw [lfL_eq hy.nd, lfL_eq hy.nd, List.length_append]
  show (rangeL 0 (sz.length + 1)).map _ = _
  unfold rangeL
  rw [List.range_succ, List.map_append, List.map_append, List.map_singleton, List.map_singleton]
  congr 2
  unfold lfG
  cases e : look y (0 + (sz.length : Int)) with
  | none => rfl
  | some v => have := (hy.look e).1; omega
theorem un_w : unlikeL (sz ++ [2]) (sort3 F) (sort3 L) = (wideL sz F L).getD 0 default := by
  cases e : commL (sort3 F) (sort3 L) with
  | true => unfold wideL; rw [unl_nil hp hF hL e]; unfold unlikeL; rw [if_pos e]; rfl
  | false =>
    obtain ⟨x, xs, ec⟩ := cand_ne (pl := sz) e
    obtain ⟨rest, er⟩ := unl_one hp hF hL e ec
    have hw : candL (sz ++ [2]) (sort3 F) (sort3 L) = (x ++ [0]) :: xs.map (· ++ [0]) := by
      have : candL (sz ++ [2]) (sort3 F) (sort3 L) = (candL sz (sort3 F) (sort3 L)).map (· ++ [0]) := by
        unfold candL
        rw [List.map_map]
        refine List.map_congr_left fun pr hpr => ?_
        have h1 := (List.mem_filter.mp hpr).1
        rcases List.mem_cons.mp h1 with e1 | h1
        · subst e1; exact lf_wide hp hF hL (ofT hp hF.sort hL.sort)
        · have e1 := List.mem_singleton.mp h1
          subst e1; exact lf_wide hp hF hL (ofT hp hL.sort hF.sort)
      rw [this, ec]; rfl
    rw [unlike_some e hw]
    unfold wideL
    rw [er, minL_snoc 0 (n := sz.length) x xs fun a ha => ?_]; rfl
    rw [← ec] at ha
    rcases mem_cand.mp ha with ⟨_, e⟩ | ⟨_, e⟩ <;> rw [e] <;> exact lfL_len _ _
theorem can_pre : CanPre (sort3 F, sort3 L) := fun h => ⟨(wrong_nil (hF.sort.rows hp) (hL.sort.rows hp)).mpr ((canF_iff (hF.sort.rows hp) (hL.sort.rows hp)).mp h), rows_rowsD (hF.sort.rows hp) (hL.sort.rows hp)⟩
omit hL in
theorem ofB_1 : OfB sz (sort3 F) := ⟨fun r hr => (hF.sort.at_ r hr).1.1, hp.1.2, by
  unfold isofL
  rw [List.all_eq_true]
  intro r hr
  have := hF.sort.at_ r hr
  simp only [Bool.and_eq_true, decide_eq_true_eq]
  exact ⟨this.1.2, by omega⟩⟩
omit hL in
theorem ofB_w (h8 : sz.length < 8) : OfB (sz ++ [2]) (sort3 F) := ⟨fun r hr => (hF.sort.at_ r hr).1.1, by rw [List.length_append]; exact h8, by
  unfold isofL
  rw [List.all_eq_true]
  intro r hr
  have := hF.sort.at_ r hr
  have e : atT (sz ++ [2]) r.1 = atT sz r.1 := by
    unfold atT
    rw [List.getD_eq_getElem?_getD, List.getD_eq_getElem?_getD, List.getElem?_append_left (by omega)]
  simp only [Bool.and_eq_true, decide_eq_true_eq]
  rw [e, List.length_append]
  refine ⟨by have := this.1.2; simp; omega, by omega⟩⟩
omit hL in
theorem can_n1 : canF (sort3 F) [] = true := rfl
omit hp hF hL in
theorem can_n2 (y : List R3) : canF [] y = true := by
  unfold canF
  rw [List.all_map, List.all_eq_true]
  intro r _
  have : valD (dNew []) r.1 = none := rfl
  simp [this]
theorem facts : Facts sz F L := {
  ok := parts_ok hp hF hL
  ln := by unfold lookL; rw [textsP_len]; exact (parts_ok hp hF hL).2.2
  len := look_len hp hF hL
  small := look_small hp hF hL
  can := can_1 hp hF hL
  can' := can_2 hp hF hL
  comm := comm_1 hp hF hL
  comm' := by rw [commL_comm]; exact comm_1 hp hF hL
  un := un_1 hp hF hL
  un' := un_2 hp hF hL
  unw := un_w hp hF hL
  pre := can_pre hp hF hL
  pre' := can_pre hp hL hF
  ofF := ofB_1 hp hF
  ofL := ofB_1 hp hL
  ofW := fun h8 => ⟨ofB_w hp hF h8, ofB_w hp hL h8⟩
  ofN := ⟨fun _ h => (nomatch h), hp.1.2, rfl⟩
  pn := fun _ => ⟨rfl, rows_rowsD (y := sort3 F) (z := []) (hF.sort.rows hp) rows_nil⟩
  pn' := fun h => ⟨(wrong_nil rows_nil (hF.sort.rows hp)).mpr ((canF_iff rows_nil (hF.sort.rows hp)).mp h), rows_rowsD rows_nil (hF.sort.rows hp)⟩
  cn := ⟨can_n1 hp hF, can_n2 (sort3 F)⟩
  mn := commL_true.mpr (.inl ⟨rfl, can_n2 _, sort3_ext (rows_rowsD (hF.sort.rows hp) rows_nil) (rows_rowsD rows_nil (hF.sort.rows hp)) fun p => by
    rw [look_rowsD (z := []) hF.sort.nd List.nodup_nil, look_rowsD (y := []) List.nodup_nil hF.sort.nd, look_nil]
    cases look (sort3 F) p with
    | none => rfl
    | some v => obtain ⟨a, b⟩ := v; rfl⟩) }
end
end K07

set_option Elab.async false
set_option linter.all false
set_option maxRecDepth 100000
set_option maxHeartbeats 4000000
namespace DL
open PySem PySem.Spec L2
/-! ### isinstance of a caught error that has attributes -/
def rIsD (K : PySem.W.Frag) (a : Addr) (cls : Value) (d : Option Addr) : List V → Hp → VK → Prop := fun xs H Q => ∃ (D : Addr) (c : V) (cv : Value) (b : Bool), cls = .ref D ∧ xs = [.ref a, c] ∧ (∀ u, RelV c u → u = cv) ∧ ExcC K D ∧ PySem.W.kitOne K (.ref D) cv = some b ∧ (∃ (dd : Addr) (fs : List (Str × V)), d = some dd ∧ H dd = some (.xd fs)) ∧ Q (.bl b) H
theorem call_isD {X : Cx} {a : Addr} {cls : Value} {d : Option Addr} {oe : Obj} {pn : List (Addr × Obj)} (hz : Zc cls d oe) (hf : ∃ vs, oe.data = .fields vs) : CallR (X.suite a ((a, oe) :: pn)) (.builtin "isinstance") (rIsD X.K a cls d) := by
  intro pins s σ H xs us Q I r h
  obtain ⟨D, c, cv, b, ec, rfl, hcv, C, e, ⟨dd, fs, ed, ea⟩, q⟩ := h
  subst ec
  subst ed
  cases r with
  | cons rx rr =>
    cases rr with
    | cons rt rr =>
      cases rr
      cases rx
      have ec := hcv _ rt
      subst ec
      obtain ⟨hget, _⟩ := I.pin (a, oe) (List.mem_append.mpr (.inl List.mem_cons_self))
      obtain ⟨vs, hv⟩ := hf
      obtain ⟨mA, hns, hr⟩ := (show ObjOk X.prog X.w H s.heap dd (.xd fs) from I.hok dd _ ea)
      obtain ⟨od, ho, hl⟩ := lookIn_ns hns
      have J : PySem.W.InstAt s.heap a oe D (some od) := ⟨hget, hz.1, by unfold PySem.W.notCls; rw [hv] <;> rfl, by rw [hz.2]; exact ho⟩
      have hcl : (PySem.W.clsIn X.K D).isSome = true := by
        obtain ⟨cd, hc, _⟩ := PySem.W.any_some C.hd
        rw [hc]; rfl
      exact PySem.W.kia_one (PySem.W.kitx_exc (ox := oe) (od := some od) hcl C.hg C.hk C.hs C.ha C.hn C.ht C.hm) I.kIn J e (fun z => nomatch z) fun tk => ⟨.bl b, H, I.kept (t' := tk) fun _ _ z => z, rfl, q⟩
end DL

set_option Elab.async false
set_option linter.all false
set_option maxRecDepth 100000
set_option maxHeartbeats 4000000
namespace DL
open PySem PySem.Spec L2
/-! ## Rules that carry what has to hold
W: what has to hold so that a value comes out for which Q is known. -/
abbrev W (α : Type) := (α → Prop) → Prop
abbrev wLet {α : Type} (x : α) (k : α → Prop) : Prop := k x
abbrev wIte {α : Type} (c : Bool) (a b : W α) : W α := fun Q => if c = true then a Q else b Q
abbrev wTake (m : Int) : W Int := fun Q => (0 < m ∧ m < 1073741824) ∧ ∀ i, 0 ≤ i ∧ i < m → Q i
/-- [f x for x in xs if q x] -/
def wLc {α β : Type} (q : α → W Bool) (f : α → W β) : List α → W (List β)
  | [], Q => Q []
  | x :: r, Q => q x fun b => if b = true then f x fun y => wLc q f r fun ys => Q (y :: ys) else wLc q f r Q
/-- [f x for x in xs] -/
def wMap {α β : Type} (f : α → W β) : List α → W (List β)
  | [], Q => Q []
  | x :: r, Q => f x fun y => wMap f r fun ys => Q (y :: ys)
/-- for x in xs: ..; s what it changes -/
def wFor {α σ ρ : Type} (b : α → σ → (σ → Prop) → (σ → Prop) → (σ → Prop) → (ρ → Prop) → Prop) : List α → σ → (σ → Prop) → (ρ → Prop) → Prop
  | [], s, N, _ => N s
  | x :: r, s, N, R => b x s (fun s' => wFor b r s' N R) N (fun s' => wFor b r s' N R) R
section
variable {Γ Γ1 Γ2 Γ3 : Ctxt} {k k1 k2 k3 kk kt ke kn kf : Nat} {A α β γ δ ρ : Type} {c : Cod α} {c' : Cod β} {cr : Cod ρ} {c1 : Cod α} {c2 : Cod β} {c3 : Cod γ} {c4 : Cod δ} {P P1 : α → Prop} {P3 : γ → Prop} {te ta tb to ti tk tv : TE} {tt tu : TT} {t u : TS} {p : Po ρ} {tx : TA} {wi : TI} {g : TG}
/-! ### the second may hang on the first -/
theorem td_opD {r : R2} {P2 : α → β → Prop} (ha : TD ta Γ k1 c1 P1) (hb : ∀ x, P1 x → TD tb Γ k2 c2 (P2 x)) (hr : ∀ x y, P1 x → P2 x y → RD r c1 x c2 y c3 P3) : TD (tOp r ta tb) Γ (k1 + k2) c3 P3 := fun O n σ Hf H hn S Q q =>
  ha O n σ Hf H (by omega) S _ fun v Hf1 H1 x p1 r1 f1 S1 => hb x p1 O (n + k1) σ Hf1 H1 (by omega) S1 _ fun u Hf2 H2 y p2 r2 f2 S2 =>
    hr x y p1 p2 Hf2 H2 v u S2.ex (c1.mono f2.ex r1) r2 Q fun z Hf3 H3 w p3 r3 f3 e3 =>
      q w Hf3 H3 z p3 r3 ((f1.trans f2 fun _ h => .inl h).trans f3 fun _ h => h.elim) (by rw [← Nat.add_assoc]; exact S2.grow0 f3 e3)
theorem ta_consD {B : α → Ctxt → Prop} (h : TD te Γ k1 c P) (hr : ∀ x, P x → TDA tx Γ k2 (B x)) : TDA (tCons te tx) Γ (k1 + k2) (fun as => ∃ x r, P x ∧ B x r ∧ as = .d c x :: r) := fun O n σ Hf H hn S Q q =>
  h O n σ Hf H (by omega) S _ fun v Hf1 H1 x p r f1 S1 => hr x p O (n + k1) σ Hf1 H1 (by omega) S1 _ fun vs Hf2 H2 as b o hb f2 S2 =>
    q (v :: vs) Hf2 H2 (.d c x :: as) ⟨x, as, p, b, rfl⟩ ⟨c.mono f2.ex r, o⟩ (fun a h => by
      rcases List.mem_cons.mp h with e | e
      · cases e
      · exact hb a e) (f1.trans f2 fun _ h => .inl h) (by rw [← Nat.add_assoc]; exact S2)
theorem RD.imp {r : R2} {x : α} {y : β} {P P' : γ → Prop} (h : RD r c1 x c2 y c3 P) (hp : ∀ z, P z → P' z) : RD r c1 x c2 y c3 P' := fun Hf H v u e r1 r2 Q q => h Hf H v u e r1 r2 Q fun z Hf' H' w p => q z Hf' H' w (hp z p)
theorem RU1.imp {r : V → Hp → VK → Prop} {x : α} {P P' : γ → Prop} (h : RU1 r c1 x c3 P) (hp : ∀ z, P z → P' z) : RU1 r c1 x c3 P' := fun Hf H v e r1 Q q => h Hf H v e r1 Q fun z Hf' H' w p => q z Hf' H' w (hp z p)
theorem RC1.imp {r : List V → Hp → VK → Prop} {x : α} {P P' : γ → Prop} (h : RC1 r c1 x c3 P) (hp : ∀ z, P z → P' z) : RC1 r c1 x c3 P' := fun Hf H v e r1 Q q => h Hf H v e r1 Q fun z Hf' H' w p => q z Hf' H' w (hp z p)
theorem RC1F.imp {r : List V → Hp → VK → Prop} {x : α} {P P' : List γ → Prop} (h : RC1F r c1 x c3 P) (hp : ∀ z, P z → P' z) : RC1F r c1 x c3 P' := fun Hf H v e r1 Q q => h Hf H v e r1 Q fun a vs zs p => q a vs zs (hp zs p)
/-- args of a tuple of two, three, four -/
theorem td_t2A {B : Ctxt → Prop} {R : α × β → Prop} (h : TDA tx Γ k B) (hi : ∀ as, B as → ∃ z : α × β, as = [.d c1 z.1, .d c2 z.2] ∧ R z) : TD (tTup tx) Γ k (cT2 c1 c2) R := fun O n σ Hf H hn S Q q =>
  h O n σ Hf H hn S _ fun vs Hf1 H1 as b o _ f1 S1 => by
    obtain ⟨z, e, r⟩ := hi as b
    subst e
    match vs, o with
    | [v, u], o =>
      obtain ⟨o1, o2, _⟩ := o
      exact ⟨by show 2 ≤ sizeLine; decide, fun p hp => q _ (upd Hf1 p (.tup [v, u])) _ z r ⟨p, v, u, rfl, upd_same, c1.mono (Ex.new (S1.ex.back hp)) o1, c2.mono (Ex.new (S1.ex.back hp)) o2⟩ (f1.trans (Fr.new (M := Bx Γ) S1.ex hp) fun _ z => .inl z) (S1.new hp)⟩
theorem td_t3A {B : Ctxt → Prop} {R : α × β × γ → Prop} (h : TDA tx Γ k B) (hi : ∀ as, B as → ∃ z : α × β × γ, as = [.d c1 z.1, .d c2 z.2.1, .d c3 z.2.2] ∧ R z) : TD (tTup tx) Γ k (cT3 c1 c2 c3) R := fun O n σ Hf H hn S Q q =>
  h O n σ Hf H hn S _ fun vs Hf1 H1 as b o _ f1 S1 => by
    obtain ⟨z, e, r⟩ := hi as b
    subst e
    match vs, o with
    | [v, u, w], o =>
      obtain ⟨o1, o2, o3, _⟩ := o
      exact ⟨by show 3 ≤ sizeLine; decide, fun p hp => q _ (upd Hf1 p (.tup [v, u, w])) _ z r ⟨p, v, u, w, rfl, upd_same, c1.mono (Ex.new (S1.ex.back hp)) o1, c2.mono (Ex.new (S1.ex.back hp)) o2, c3.mono (Ex.new (S1.ex.back hp)) o3⟩ (f1.trans (Fr.new (M := Bx Γ) S1.ex hp) fun _ z => .inl z) (S1.new hp)⟩
theorem td_L2A {B : Ctxt → Prop} {R : α × β → Prop} (h : TDA tx Γ k B) (hi : ∀ as, B as → ∃ z : α × β, as = [.d c1 z.1, .d c2 z.2] ∧ R z) : TD (tLst tx) Γ k (cL2 c1 c2) R := fun O n σ Hf H hn S Q q =>
  h O n σ Hf H hn S _ fun vs Hf1 H1 as b o _ f1 S1 => by
    obtain ⟨z, e, r⟩ := hi as b
    subst e
    match vs, o with
    | [v, u], o =>
      obtain ⟨o1, o2, _⟩ := o
      exact ⟨by show 2 ≤ sizeLine; decide, fun p hp => q _ (upd Hf1 p (.lst [v, u])) _ z r ⟨p, v, u, rfl, upd_same, c1.mono (Ex.new (S1.ex.back hp)) o1, c2.mono (Ex.new (S1.ex.back hp)) o2⟩ (f1.trans (Fr.new (M := Bx Γ) S1.ex hp) fun _ z => .inl z) (S1.new hp)⟩
theorem td_L3A {B : Ctxt → Prop} {R : α × β × γ → Prop} (h : TDA tx Γ k B) (hi : ∀ as, B as → ∃ z : α × β × γ, as = [.d c1 z.1, .d c2 z.2.1, .d c3 z.2.2] ∧ R z) : TD (tLst tx) Γ k (cL3 c1 c2 c3) R := fun O n σ Hf H hn S Q q =>
  h O n σ Hf H hn S _ fun vs Hf1 H1 as b o _ f1 S1 => by
    obtain ⟨z, e, r⟩ := hi as b
    subst e
    match vs, o with
    | [v, u, w], o =>
      obtain ⟨o1, o2, o3, _⟩ := o
      exact ⟨by show 3 ≤ sizeLine; decide, fun p hp => q _ (upd Hf1 p (.lst [v, u, w])) _ z r ⟨p, v, u, w, rfl, upd_same, c1.mono (Ex.new (S1.ex.back hp)) o1, c2.mono (Ex.new (S1.ex.back hp)) o2, c3.mono (Ex.new (S1.ex.back hp)) o3⟩ (f1.trans (Fr.new (M := Bx Γ) S1.ex hp) fun _ z => .inl z) (S1.new hp)⟩
end
section
variable {S : Stc} {X : Cx} {Γ Γ1 Γ2 Γ3 : Ctxt} {k k1 k2 k3 kk kt ke kn kf lv : Nat} {A α β γ δ ρ τ ω : Type} {c : Cod α} {c' : Cod β} {cr : Cod ρ} {c1 : Cod α} {c2 : Cod β} {c3 : Cod γ} {c4 : Cod δ} {e a b dd o : Expr} {es : List Expr} {pos pos' pn apos : Pos} {K : PySem.W.Frag}
def PW {α : Type} (S : Stc) (Γ : Ctxt) (k : Nat) (e : Expr) (c : Cod α) (w : W α) : Prop := ∀ Q, w Q → PD S Γ k e c Q
def PWF {α : Type} (S : Stc) (Γ : Ctxt) (k : Nat) (e : Expr) (c : Cod α) (w : W (List α)) : Prop := ∀ Q, w Q → PDF S Γ k e c Q
def PWT (S : Stc) (Γ : Ctxt) (k : Nat) (e : Expr) (w : W Bool) : Prop := ∀ Q, w Q → PDT S Γ k e Q
def PWW (S : Stc) (Γ : Ctxt) (k : Nat) (e : Expr) (w : W Bool) : Prop := ∀ Q, w Q → PDW S Γ k e Q
def PWI {α : Type} (S : Stc) (Γ : Ctxt) (k : Nat) (tg e : Expr) (c : Cod α) (w : W (List α)) : Prop := ∀ Q, w Q → PDI S Γ k tg e c Q
def PWA {τ : Type} (S : Stc) (Γ : Ctxt) (k : Nat) (es : List Expr) (mk : τ → Ctxt) (w : W τ) : Prop := ∀ Q, w Q → PDA S Γ k es (fun as => ∃ t, as = mk t ∧ Q t)
def PWL {α : Type} (S : Stc) (Γ : Ctxt) (k : Nat) (es : List Expr) (c : Cod α) (w : W (List α)) : Prop := ∀ Q, w Q → PDA S Γ k es (fun as => ∃ xs : List α, as = xs.map (fun x => .d c x) ∧ Q xs)
/-- operations on values -/
def RW (r : R2) (c1 : Cod α) (x : α) (c2 : Cod β) (y : β) (c : Cod γ) (w : W γ) : Prop := ∀ Q, w Q → RD r c1 x c2 y c Q
def RWU (r : V → Hp → VK → Prop) (c1 : Cod α) (x : α) (c : Cod γ) (w : W γ) : Prop := ∀ Q, w Q → RU1 r c1 x c Q
def RWC (r : List V → Hp → VK → Prop) (c1 : Cod α) (x : α) (c : Cod γ) (w : W γ) : Prop := ∀ Q, w Q → RC1 r c1 x c Q
def RWF (r : List V → Hp → VK → Prop) (c1 : Cod α) (x : α) (c : Cod γ) (w : W (List γ)) : Prop := ∀ Q, w Q → RC1F r c1 x c Q
theorem rw0 {r : R2} {x : α} {y : β} {z : γ} (h : RD r c1 x c2 y c3 (· = z)) : RW r c1 x c2 y c3 (fun Q => Q z) := fun Q q => h.imp fun u e => e ▸ q
theorem rwc {r : R2} {x : α} {y : β} {z : γ} {C : Prop} (h : C → RD r c1 x c2 y c3 (· = z)) : RW r c1 x c2 y c3 (fun Q => C ∧ Q z) := fun Q q => (h q.1).imp fun u e => e ▸ q.2
theorem ru0 {r : V → Hp → VK → Prop} {x : α} {z : γ} (h : RU1 r c1 x c3 (· = z)) : RWU r c1 x c3 (fun Q => Q z) := fun Q q => h.imp fun u e => e ▸ q
theorem rc0 {r : List V → Hp → VK → Prop} {x : α} {z : γ} (h : RC1 r c1 x c3 (· = z)) : RWC r c1 x c3 (fun Q => Q z) := fun Q q => h.imp fun u e => e ▸ q
theorem rcc {r : List V → Hp → VK → Prop} {x : α} {z : γ} {C : Prop} (h : C → RC1 r c1 x c3 (· = z)) : RWC r c1 x c3 (fun Q => C ∧ Q z) := fun Q q => (h q.1).imp fun u e => e ▸ q.2
theorem rf0 {r : List V → Hp → VK → Prop} {x : α} {z : List γ} (h : RC1F r c1 x c3 (· = z)) : RWF r c1 x c3 (fun Q => Q z) := fun Q q => h.imp fun u e => e ▸ q
theorem rfc {r : List V → Hp → VK → Prop} {x : α} {z : List γ} {C : Prop} (h : C → RC1F r c1 x c3 (· = z)) : RWF r c1 x c3 (fun Q => C ∧ Q z) := fun Q q => (h q.1).imp fun u e => e ▸ q.2
/-! ### pieces -/
theorem xof {x : α} (h : PD S Γ k e c (· = x)) : PW S Γ k e c (fun Q => Q x) := fun Q q => h.imp fun u e => e ▸ q
theorem xofF {x : List α} (h : PDF S Γ k e c (· = x)) : PWF S Γ k e c (fun Q => Q x) := fun Q q => h.imp fun u e => e ▸ q
theorem xofT {x : Bool} (h : PDT S Γ k e (· = x)) : PWT S Γ k e (fun Q => Q x) := fun Q q => h.imp fun u e => e ▸ q
theorem xofI {tg : Expr} {x : List α} (h : PDI S Γ k tg e c (· = x)) : PWI S Γ k tg e c (fun Q => Q x) := fun Q q O n σ Hf H hn s R r => h O n σ Hf H hn s R fun J Hf' H' xs e => r J Hf' H' xs (e ▸ q)
theorem PW.pd {x : α} (h : PW S Γ k e c (fun Q => Q x)) : PD S Γ k e c (· = x) := h _ rfl
theorem PWT.pdt {x : Bool} (h : PWT S Γ k e (fun Q => Q x)) : PDT S Γ k e (· = x) := h _ rfl
theorem PWF.pdf {x : List α} (h : PWF S Γ k e c (fun Q => Q x)) : PDF S Γ k e c (· = x) := h _ rfl
theorem PWF.d {w : W (List α)} (h : PWF S Γ k e c w) : PW S Γ k e (cList c) w := fun Q q => (h Q q).td
theorem xname {i : Nat} {x : Str} {y : α} (hΓ : Γ[i]? = some (.d c y)) (hN : S.N[i]? = some x) (hv : Vis S.sc x) (hd : (x == ("__debug__" : Str)) = false := by decide) (hcd : (x == ("__classdict__" : Str)) = false := by decide) : PW S Γ 0 (.Name x pos) c (fun Q => Q y) := xof (pd_name hΓ hN hv hd hcd)
theorem xint {i : Int} {j : Nat} : PW S Γ 0 (.Constant (.int i) j pos) cInt (fun Q => Q i) := xof pd_int
theorem xbool {i : Bool} {j : Nat} : PW S Γ 0 (.Constant (.bool i) j pos) cBool (fun Q => Q i) := xof pd_bool
theorem xstr {i : Str} {j : Nat} : PW S Γ 0 (.Constant (.str i) j pos) cStr (fun Q => Q i) := xof pd_str
theorem xnone {j : Nat} : PW S Γ 0 (.Constant .none j pos) cNon (fun Q => Q ()) := xof pd_none
theorem xconv {w : W α} {f : α → β} (h : PW S Γ k e c w) (hp : ∀ H v x, c.rep H v x → c2.rep H v (f x)) : PW S Γ k e c2 (fun Q => w fun x => Q (f x)) := fun Q q => TD.conv (h _ q) fun H v x p r => ⟨f x, p, hp H v x r⟩
theorem xsome {w : W α} (h : PW S Γ k e c w) : PW S Γ k e (cOpt c) (fun Q => w fun x => Q (some x)) := xconv h fun _ _ _ r => r
theorem xnoneO {j : Nat} : PW S Γ 0 (.Constant .none j pos) (cOpt c) (fun Q => Q none) := xof pnoneO
theorem xseqL {w : W (List α)} (h : PW S Γ k e (cList c) w) : PW S Γ k e (cSeq c) w := xconv (f := id) h fun _ _ _ r => .inl r
theorem xseqT {w : W (List α)} (h : PW S Γ k e (cTup c) w) : PW S Γ k e (cSeq c) w := xconv (f := id) h fun _ _ _ r => .inr r
/-! ### operators -/
theorem xbin {op : Operator} {r : R2} {wa : W α} {wb : W β} {t : α → β → W γ} (ho : ∀ X, Good S X → OpR X (binaryOp op) r) (ha : PW S Γ k1 a c1 wa) (hb : PW S Γ k2 b c2 wb) (hr : ∀ x y, RW r c1 x c2 y c3 (t x y)) : PW S Γ (k1 + k2) (.BinOp a op b pos) c3 (fun Q => wa fun x => wb fun y => t x y Q) :=
  fun Q q => pd_of (fun X G => pe_op (ho X G) (tE_ok G) (tE_ok G)) (td_opD (ha _ q) (fun x p => hb _ p) fun x y _ p => hr x y Q p)
theorem xcmp {op : CmpOp} {r : R2} {wa : W α} {wb : W β} {t : α → β → W Bool} (ho : ∀ X, Good S X → OpR X (compareOp op) r) (ha : PW S Γ k1 a c1 wa) (hb : PW S Γ k2 b c2 wb) (hr : ∀ x y, RW r c1 x c2 y cBool (t x y)) (hm : behindInMarks op b = false) : PW S Γ (k1 + k2) (.Compare a [op] [b] pos) cBool (fun Q => wa fun x => wb fun y => t x y Q) :=
  fun Q q => pd_of (fun X G => pe_cmpR (ho X G) (tE_ok G) (tE_ok G) hm) (td_opD (ha _ q) (fun x p => hb _ p) fun x y _ p => hr x y Q p)
theorem tcmpW {op : CmpOp} {r : R2} {wa : W α} {wb : W β} {t : α → β → W Bool} (ho : ∀ X, Good S X → OpR X (compareOp op) r) (ha : PW S Γ k1 a c1 wa) (hb : PW S Γ k2 b c2 wb) (hr : ∀ x y, RW r c1 x c2 y cBool (t x y)) (hm : behindInMarks op b = false) : PWT S Γ (k1 + k2) (.Compare a [op] [b] pos) (fun Q => wa fun x => wb fun y => t x y Q) :=
  fun Q q => pdt_of (fun X G => pt_cmpR (ho X G) (tE_ok G) (tE_ok G) hm) (tt_test (td_opD (ha _ q) (fun x p => hb _ p) fun x y _ p => hr x y Q p))
theorem xun {op : UnaryOp} {r : V → Hp → VK → Prop} {wa : W α} {t : α → W γ} (ho : ∀ X, Good S X → UnR X (unaryOp op) r) (ha : PW S Γ k a c1 wa) (hr : ∀ x, RWU r c1 x c3 (t x)) : PW S Γ k (.UnaryOp op a pos) c3 (fun Q => wa fun x => t x Q) := fun Q q => pd_un ho (ha _ q) fun x p => hr x Q p
theorem xchain {op op' : CmpOp} {g g' : Int → Int → Bool} {i j l : Int} (ho : ∀ X : Cx, OpR X (compareOp op) (rI0 fun i j => .bl (g i j))) (ho' : ∀ X : Cx, OpR X (compareOp op') (rI0 fun i j => .bl (g' i j))) (ha : PW S Γ 0 a cInt (fun Q => Q i)) (hb : PW S Γ 0 b cInt (fun Q => Q j)) (hd : PW S Γ 0 dd cInt (fun Q => Q l)) (hm : lastMarks [op, op'] [b, dd] = false) :
    PW S Γ 0 (.Compare a [op, op'] [b, dd] pos) cBool (fun Q => Q (g i j && g' j l)) := xof (pchain ho ho' ha.pd hb.pd hd.pd hm)
theorem tchainW {op op' : CmpOp} {g g' : Int → Int → Bool} {i j l : Int} (ho : ∀ X : Cx, OpR X (compareOp op) (rI0 fun i j => .bl (g i j))) (ho' : ∀ X : Cx, OpR X (compareOp op') (rI0 fun i j => .bl (g' i j))) (ha : PW S Γ 0 a cInt (fun Q => Q i)) (hb : PW S Γ 0 b cInt (fun Q => Q j)) (hd : PW S Γ 0 dd cInt (fun Q => Q l)) (hm : lastMarks [op, op'] [b, dd] = false) :
    PWT S Γ 0 (.Compare a [op, op'] [b, dd] pos) (fun Q => Q (g i j && g' j l)) := xofT (tchain ho ho' ha.pd hb.pd hd.pd hm)
/-! ### tests -/
theorem tval {w : W Bool} (h : PW S Γ k e cBool w) (he : ∀ (env : Env) whole, isTrue e env whole = (do let v ← whole; standAt e.pos; holding [v] (truthy v))) : PWT S Γ k e w := fun Q q => pdt_val (h Q q) he
theorem tnotW {w : W Bool} (h : PWT S Γ k a w) : PWT S Γ k (.UnaryOp .Not a pos) (fun Q => w fun x => Q (!x)) := fun Q q => pdt_of (fun X G => pt_not (tT_ok G)) (TDT.imp (tt_not (h _ q)) fun r z => by rwa [Bool.not_not] at z)
theorem twW {w : W Bool} (h : PWW S Γ k e w) : PWT S Γ k e w := fun Q q => pdt_w (h Q q)
theorem wand1 {w : W Bool} (h : PWT S Γ k a w) : PWW S Γ k (.BoolOp .And [a] pos) w := fun Q q => pdw_and1 (h Q q)
theorem wor1 {w : W Bool} (h : PWT S Γ k a w) : PWW S Γ k (.BoolOp .Or [a] pos) w := fun Q q => pdw_or1 (h Q q)
theorem wandW {wa wb : W Bool} (h1 : PWT S Γ k1 a wa) (h2 : PWW S Γ k2 (.BoolOp .And (b :: es) pos) wb) : PWW S Γ (k1 + k2) (.BoolOp .And (a :: b :: es) pos) (fun Q => wa fun x => if x = true then wb Q else Q false) :=
  fun Q q => TDT.imp (pdw_andG (A1 := fun x => if x = true then wb Q else Q false) (B1 := Q) (h1 _ q) fun p => h2 Q (by rwa [if_pos rfl] at p)) fun r h => by
    rcases h with ⟨rfl, p⟩ | ⟨_, p⟩
    · rwa [if_neg Bool.false_ne_true] at p
    · exact p
theorem worW {wa wb : W Bool} (h1 : PWT S Γ k1 a wa) (h2 : PWW S Γ k2 (.BoolOp .Or (b :: es) pos) wb) : PWW S Γ (k1 + k2) (.BoolOp .Or (a :: b :: es) pos) (fun Q => wa fun x => if x = true then Q true else wb Q) :=
  fun Q q => TDT.imp (pdw_orG (A1 := fun x => if x = true then Q true else wb Q) (B1 := Q) (h1 _ q) fun p => h2 Q (by rwa [if_neg Bool.false_ne_true] at p)) fun r h => by
    rcases h with ⟨rfl, p⟩ | ⟨_, p⟩
    · rwa [if_pos rfl] at p
    · exact p
/-- the pure ones -/
theorem wandP {x y : Bool} (h1 : PWT S Γ 0 a (fun Q => Q x)) (h2 : PWW S Γ 0 (.BoolOp .And (b :: es) pos) (fun Q => Q y)) : PWW S Γ 0 (.BoolOp .And (a :: b :: es) pos) (fun Q => Q (x && y)) := fun Q q => TDT.imp (tand h1.pdt fun _ => h2 _ rfl) fun r e => e ▸ q
theorem worP {x y : Bool} (h1 : PWT S Γ 0 a (fun Q => Q x)) (h2 : PWW S Γ 0 (.BoolOp .Or (b :: es) pos) (fun Q => Q y)) : PWW S Γ 0 (.BoolOp .Or (a :: b :: es) pos) (fun Q => Q (x || y)) := fun Q q => TDT.imp (tor h1.pdt fun _ => h2 _ rfl) fun r e => e ▸ q
theorem xandP {x y : Bool} (h1 : PW S Γ 0 a cBool (fun Q => Q x)) (h2 : PW S Γ 0 (.BoolOp .And (b :: es) pos) cBool (fun Q => Q y)) : PW S Γ 0 (.BoolOp .And (a :: b :: es) pos) cBool (fun Q => Q (x && y)) := xof (pand h1.pd fun _ => h2.pd)
theorem xorP {x y : Bool} (h1 : PW S Γ 0 a cBool (fun Q => Q x)) (h2 : PW S Γ 0 (.BoolOp .Or (b :: es) pos) cBool (fun Q => Q y)) : PW S Γ 0 (.BoolOp .Or (a :: b :: es) pos) cBool (fun Q => Q (x || y)) := xof (por h1.pd fun _ => h2.pd)
theorem xone {op : BoolOp} {w : W α} (h : PW S Γ k a c w) : PW S Γ k (.BoolOp op [a] pos) c w := fun Q q => pd_one (h Q q)
theorem xandW {wa wb : W Bool} (h1 : PW S Γ k1 a cBool wa) (h2 : PW S Γ k2 (.BoolOp .And (b :: es) pos) cBool wb) : PW S Γ (k1 + k2) (.BoolOp .And (a :: b :: es) pos) cBool (fun Q => wa fun x => if x = true then wb Q else Q false) :=
  fun Q q => TD.imp (pd_andG (A1 := fun x => if x = true then wb Q else Q false) (B1 := Q) (h1 _ q) fun p => h2 Q (by rwa [if_pos rfl] at p)) fun r h => by
    rcases h with ⟨rfl, p⟩ | ⟨_, p⟩
    · rwa [if_neg Bool.false_ne_true] at p
    · exact p
theorem xorW {wa wb : W Bool} (h1 : PW S Γ k1 a cBool wa) (h2 : PW S Γ k2 (.BoolOp .Or (b :: es) pos) cBool wb) : PW S Γ (k1 + k2) (.BoolOp .Or (a :: b :: es) pos) cBool (fun Q => wa fun x => if x = true then Q true else wb Q) :=
  fun Q q => TD.imp (pd_orG (A1 := fun x => if x = true then Q true else wb Q) (B1 := Q) (h1 _ q) fun p => h2 Q (by rwa [if_neg Bool.false_ne_true] at p)) fun r h => by
    rcases h with ⟨rfl, p⟩ | ⟨_, p⟩
    · rwa [if_pos rfl] at p
    · exact p
theorem xnot {w : W Bool} (h : PW S Γ k a cBool w) : PW S Γ k (.UnaryOp .Not a pos) cBool (fun Q => w fun x => Q (!x)) := fun Q q => pd_of (fun X G => pe_not (tE_ok G)) (TD.imp (td_notV (h _ q)) fun r z => by rwa [Bool.not_not] at z)
theorem xif {wd : W Bool} {wa wb : W α} (h : PWT S Γ k1 dd wd) (ha : PW S Γ k2 a c wa) (hb : PW S Γ k3 b c wb) : PW S Γ (k1 + max k2 k3) (.IfExp dd a b pos) c (fun Q => wd fun x => if x = true then wa Q else wb Q) :=
  fun Q q => pd_if (b' := fun x => if x = true then wa Q else wb Q) (h _ q) (fun p => ha Q (by rwa [if_pos rfl] at p)) fun p => hb Q (by rwa [if_neg Bool.false_ne_true] at p)
theorem xifP {t : Bool} {x y : α} (h : PWT S Γ 0 dd (fun Q => Q t)) (ha : PW S Γ 0 a c (fun Q => Q x)) (hb : PW S Γ 0 b c (fun Q => Q y)) : PW S Γ 0 (.IfExp dd a b pos) c (fun Q => Q (if t = true then x else y)) := xof (pif h.pdt (fun _ => ha.pd) fun _ => hb.pd)
/-! ### arguments, displays -/
theorem aN : PWA S Γ 0 [] (fun _ : Unit => []) (fun Q => Q ()) := fun Q q => pda_nil.imp fun as e => ⟨(), e, q⟩
theorem aC {mk : τ → Ctxt} {w : W α} {wt : W τ} (h : PW S Γ k1 e c w) (hr : PWA S Γ k2 es mk wt) (hs : ∀ env : Env, starEach (e :: es) env = (false, eval e env) :: starEach es env) : PWA S Γ (k1 + k2) (e :: es) (fun t : α × τ => .d c t.1 :: mk t.2) (fun Q => w fun x => wt fun t => Q (x, t)) :=
  fun Q q => TDA.imp (pda_of (fun X G => pa_cons (tE_ok G) (tA_ok G) (hs _)) (ta_consD (h _ q) fun x p => hr _ p)) fun as ⟨x, r, _, ⟨t, e, qt⟩, h3⟩ => ⟨(x, t), by rw [h3, e], qt⟩
theorem aB {mk : τ → Ctxt} {wt : W τ} {i : Nat} {x : Str} {z : Addr} (hΓ : Γ[i]? = some (.bx z)) (hN : S.N[i]? = some x) (hv : Vis S.sc x) (hr : PWA S Γ k2 es mk wt) (hd : (x == ("__debug__" : Str)) = false := by decide) (hcd : (x == ("__classdict__" : Str)) = false := by decide) : PWA S Γ k2 (.Name x pos :: es) (fun t => .bx z :: mk t) wt :=
  fun Q q => (pda_box hΓ hN hv (hr Q q) hd hcd).imp fun as ⟨r, ⟨t, e, qt⟩, h3⟩ => ⟨t, by rw [h3, e], qt⟩
theorem lN : PWL S Γ 0 [] c (fun Q => Q []) := fun Q q => pda_nil.imp fun as e => ⟨[], e, q⟩
theorem lC {w : W α} {wt : W (List α)} (h : PW S Γ k1 e c w) (hr : PWL S Γ k2 es c wt) (hs : ∀ env : Env, starEach (e :: es) env = (false, eval e env) :: starEach es env) : PWL S Γ (k1 + k2) (e :: es) c (fun Q => w fun x => wt fun t => Q (x :: t)) :=
  fun Q q => TDA.imp (pda_of (fun X G => pa_cons (tE_ok G) (tA_ok G) (hs _)) (ta_consD (h _ q) fun x p => hr _ p)) fun as ⟨x, r, _, ⟨t, e, qt⟩, h3⟩ => ⟨x :: t, by rw [h3, e]; rfl, qt⟩
theorem xlst {w : W (List α)} (h : PWL S Γ k es c w) : PWF S Γ k (.List es pos) c (fun Q => w fun xs => xs.length ≤ 1000 ∧ Q xs) := fun Q q => pdf_lst (h _ q) fun as ⟨xs, e, l, r⟩ => ⟨xs, e, l, r⟩
theorem xtup {kx : Nat} {w : W (List α)} (h : PWL S Γ k es c w) : PW S Γ k (.Tuple es kx pos) (cTup c) (fun Q => w fun xs => xs.length ≤ 1000 ∧ Q xs) := fun Q q => pd_tupl (h _ q) fun as ⟨xs, e, l, r⟩ => ⟨xs, e, l, r⟩
/-- the pure ones: no bound is asked for -/
inductive PLs {α : Type} (S : Stc) (Γ : Ctxt) (c : Cod α) : List Expr → List α → Prop
  | nil : PLs S Γ c [] []
  | cons {e : Expr} {es : List Expr} {x : α} {xs : List α} : PW S Γ 0 e c (fun Q => Q x) → PLs S Γ c es xs → (∀ env : Env, starEach (e :: es) env = (false, eval e env) :: starEach es env) → PLs S Γ c (e :: es) (x :: xs)
theorem PLs.pdl {xs : List α} (h : PLs S Γ c es xs) : PDL S Γ c es xs := by
  induction h with
  | nil => exact .nil
  | cons h1 _ h3 ih => exact .cons h1.pd ih h3
theorem xlstP {xs : List α} (h : PLs S Γ c es xs) (hl : xs.length ≤ 1000) : PWF S Γ 0 (.List es pos) c (fun Q => Q xs) := xofF (plst h.pdl hl)
theorem xtupP {kx : Nat} {xs : List α} (h : PLs S Γ c es xs) (hl : xs.length ≤ 1000) : PW S Γ 0 (.Tuple es kx pos) (cTup c) (fun Q => Q xs) := xof (ptup h.pdl hl)
theorem xt2 {kx : Nat} {w : W (α × β × Unit)} (h : PWA S Γ k es (fun t : α × β × Unit => [.d c1 t.1, .d c2 t.2.1]) w) : PW S Γ k (.Tuple es kx pos) (cT2 c1 c2) (fun Q => w fun t => Q (t.1, t.2.1)) := fun Q q => pd_of (fun X G => pe_tup (tA_ok G)) (td_t2A (h _ q) fun as ⟨t, e, r⟩ => ⟨(t.1, t.2.1), e, r⟩)
theorem xt3 {kx : Nat} {w : W (α × β × γ × Unit)} (h : PWA S Γ k es (fun t : α × β × γ × Unit => [.d c1 t.1, .d c2 t.2.1, .d c3 t.2.2.1]) w) : PW S Γ k (.Tuple es kx pos) (cT3 c1 c2 c3) (fun Q => w fun t => Q (t.1, t.2.1, t.2.2.1)) := fun Q q => pd_of (fun X G => pe_tup (tA_ok G)) (td_t3A (h _ q) fun as ⟨t, e, r⟩ => ⟨(t.1, t.2.1, t.2.2.1), e, r⟩)
theorem xL2 {w : W (α × β × Unit)} (h : PWA S Γ k es (fun t : α × β × Unit => [.d c1 t.1, .d c2 t.2.1]) w) : PW S Γ k (.List es pos) (cL2 c1 c2) (fun Q => w fun t => Q (t.1, t.2.1)) := fun Q q => pd_of (fun X G => pe_lst (tA_ok G)) (td_L2A (h _ q) fun as ⟨t, e, r⟩ => ⟨(t.1, t.2.1), e, r⟩)
theorem xL3 {w : W (α × β × γ × Unit)} (h : PWA S Γ k es (fun t : α × β × γ × Unit => [.d c1 t.1, .d c2 t.2.1, .d c3 t.2.2.1]) w) : PW S Γ k (.List es pos) (cL3 c1 c2 c3) (fun Q => w fun t => Q (t.1, t.2.1, t.2.2.1)) := fun Q q => pd_of (fun X G => pe_lst (tA_ok G)) (td_L3A (h _ q) fun as ⟨t, e, r⟩ => ⟨(t.1, t.2.1, t.2.2.1), e, r⟩)
/-! ### calls -/
/-- ps: the arguments, with at most one box; kf: how many draws at most; m: what has to hold -/
abbrev spW (ps : Addr → τ → Ctxt) (kf : Nat) (m : τ → W ρ) (cr : Cod ρ) : Sp := spD (A := τ × (ρ → Prop)) (fun b a => ps b a.1) (fun _ => kf) (fun a => m a.1 a.2) cr (fun a x => a.2 x)
abbrev spWF {α : Type} (ps : Addr → τ → Ctxt) (kf : Nat) (m : τ → W (List α)) (c : Cod α) : Sp := spF (A := τ × (List α → Prop)) (fun b a => ps b a.1) (fun _ => kf) (fun a => m a.1 a.2) c (fun a x => a.2 x)
theorem xcal {ps : Addr → τ → Ctxt} {m : τ → W ρ} {wt : W τ} {x : Str} {ns : List Str} (z : Addr) (F : Cal S.prog S.w S.K S.mg S.base x ns lv (spW ps kf m cr)) (hl : lv ≤ S.lv) (hg : S.sc.names.lookup x = some .globalImplicit) (ha : PWA S Γ k1 (e :: es) (ps z) wt)
    (he : ∀ env : Env, starEach (e :: es) env = (false, eval e env) :: starEach es env) (hpl : ∀ env : Env, (backTo pos (starEach es env)).any (·.1) = false) (hdb : (x == ("__debug__" : Str)) = false := by decide) : PW S Γ (k1 + kf) (.Call (.Name x pn) (e :: es) [] pos) cr (fun Q => wt fun t => m t Q) :=
  fun Q q => pcalX F hl hg (ha _ q) (fun as ⟨t, e, r⟩ => ⟨(t, Q), z, e, r, Nat.le_refl _, fun _ h => h⟩) he hpl hdb
theorem xcalF {ps : Addr → τ → Ctxt} {m : τ → W (List α)} {wt : W τ} {x : Str} {ns : List Str} (z : Addr) (F : Cal S.prog S.w S.K S.mg S.base x ns lv (spWF ps kf m c)) (hl : lv ≤ S.lv) (hg : S.sc.names.lookup x = some .globalImplicit) (ha : PWA S Γ k1 (e :: es) (ps z) wt)
    (he : ∀ env : Env, starEach (e :: es) env = (false, eval e env) :: starEach es env) (hpl : ∀ env : Env, (backTo pos (starEach es env)).any (·.1) = false) (hdb : (x == ("__debug__" : Str)) = false := by decide) : PWF S Γ (k1 + kf) (.Call (.Name x pn) (e :: es) [] pos) c (fun Q => wt fun t => m t Q) :=
  fun Q q => pcalF F hl hg (ha _ q) (fun as ⟨t, e, r⟩ => ⟨(t, Q), z, e, r, Nat.le_refl _, fun _ h => h⟩) he hpl hdb
/-- the fresh result as data -/
theorem Cal.datW {ps : Addr → τ → Ctxt} {m : τ → W (List α)} {P : Program} {w : World} {mg : Str → Option Value} {base : Heap} {x : Str} {ns : List Str} (F : Cal P w K mg base x ns lv (spWF ps kf m c)) : Cal P w K mg base x ns lv (spW ps kf m (cList c)) := F.dat
variable {C : Addr} {F : Hp → List (Str × V) → ω → Prop} {hm : ∀ {H H' fs y}, Ex H H' → F H fs y → F H' fs y} {m : Str}
theorem xmet0 {ps : Addr → ω × Unit → Ctxt} {mt : ω × Unit → W ρ} {wo : W ω} {ns : List Str} {pl : Env → Sem Bool} (M : MCal S.prog S.w S.K S.mg S.base C m ns lv (spW ps kf mt cr)) (hC : Cls S.K C) (hl : lv ≤ S.lv) (ho : PW S Γ k o (cIns C F hm) wo) (hno : ∀ H fs y0, F H fs y0 → fs.lookup m = none) (hps : ∀ y, [.d (cIns C F hm) y] = ps 0 (y, ())) (ht : MTree0 o m apos pos pl) :
    PW S Γ (k + 0 + kf) (.Call (.Attribute o m apos) [] [] pos) cr (fun Q => wo fun y => mt (y, ()) Q) := fun Q q => by
  obtain ⟨f, fd, Fn, Mt, hb⟩ := M.ex
  exact pd_of (fun X G => pe_meth0 (pl := pl X.env) (tE_ok G) (by rw [G.K]; exact hC) (by rw [G.K]; exact Mt) (fnG Fn G) (G.room.mono hl) (by rw [G.K]; exact hb) .nil pass0 (ht _))
    (td_meth (k := k) (k1 := 0) (k2 := kf) (ho _ q) hno ta_nil fun y' as h1 h2 => ⟨((y', ()), Q), 0, by subst h2; exact hps y', h1, Nat.le_refl _, fun x hx => hx⟩)
theorem td_methD {ps : Addr → A → Ctxt} {kf : A → Nat} {pre : A → Prop} {PR : A → ρ → Prop} {te : TE} {tx : TA} {B : ω → Ctxt → Prop} {P' : ρ → Prop} {Py : ω → Prop} {E : XK} (ho : TD te Γ k (cIns C F hm) Py) (hl : ∀ H fs y0, F H fs y0 → fs.lookup m = none) (h : ∀ y, Py y → TDA tx Γ k1 (B y)) (hc : ∀ y as, Py y → B y as → ∃ a b, .d (cIns C F hm) y :: as = ps b a ∧ pre a ∧ kf a ≤ k2 ∧ ∀ x, PR a x → P' x) :
    TD (tMeth C m (spD ps kf pre cr PR) [] E te tx) Γ (k + k1 + k2) cr P' := fun O n σ Hf H hn S Q q => by
  refine ho O n σ Hf H (by omega) S _ fun v Hf0 H0 y py ry f0 s0 => ?_
  obtain ⟨a, dx, fs, e1, e2, e3⟩ := id ry
  refine ⟨a, dx, fs, e1, s0.ex _ _ e2, hl _ _ _ e3, ?_⟩
  refine h y py O (n + k) σ Hf0 H0 (by omega) s0 _ fun vs Hf1 H1 as b o hb f s => ?_
  obtain ⟨a', bb, e, pa, hk, hp⟩ := hc y as py b
  have hb' : ∀ z, Sl.bx z ∈ ps bb a' → Bx Γ z := fun z hz => by
    rw [← e] at hz
    rcases List.mem_cons.mp hz with w | w
    · cases w
    · exact hb z w
  refine ⟨a', bb, n + k + k1, Hf1, pa, by omega, s.ex, by rw [← e, List.append_nil]; exact ⟨(cIns C F hm).mono f.ex ry, o⟩, fun z hz => ?_, fun v' Hf' H' x px r f2 ex bx => ?_⟩
  · obtain ⟨i, hi⟩ := hb' z hz
    exact (s.at_ i _ hi).2
  · obtain ⟨F', S2⟩ := s.called hb' f2 ex bx
    exact q v' Hf' H' x (hp x px) r ((f0.trans f fun _ z => .inl z).trans F' fun _ z => .inl z) (S2.le (by omega))
theorem tdf_methD {ps : Addr → A → Ctxt} {kf : A → Nat} {pre : A → Prop} {PR : A → List α → Prop} {te : TE} {tx : TA} {B : ω → Ctxt → Prop} {P' : List α → Prop} {Py : ω → Prop} {E : XK} (ho : TD te Γ k (cIns C F hm) Py) (hl : ∀ H fs y0, F H fs y0 → fs.lookup m = none) (h : ∀ y, Py y → TDA tx Γ k1 (B y)) (hc : ∀ y as, Py y → B y as → ∃ a b, .d (cIns C F hm) y :: as = ps b a ∧ pre a ∧ kf a ≤ k2 ∧ ∀ x, PR a x → P' x) :
    TDF (tMeth C m (spF ps kf pre c PR) [] E te tx) Γ (k + k1 + k2) c P' := fun O n σ Hf H hn S Q q => by
  refine ho O n σ Hf H (by omega) S _ fun v Hf0 H0 y py ry f0 s0 => ?_
  obtain ⟨a, dx, fs, e1, e2, e3⟩ := id ry
  refine ⟨a, dx, fs, e1, s0.ex _ _ e2, hl _ _ _ e3, ?_⟩
  refine h y py O (n + k) σ Hf0 H0 (by omega) s0 _ fun vs Hf1 H1 as b o hb f s => ?_
  obtain ⟨a', bb, e, pa, hk, hp⟩ := hc y as py b
  have hb' : ∀ z, Sl.bx z ∈ ps bb a' → Bx Γ z := fun z hz => by
    rw [← e] at hz
    rcases List.mem_cons.mp hz with w | w
    · cases w
    · exact hb z w
  refine ⟨a', bb, n + k + k1, Hf1, pa, by omega, s.ex, by rw [← e, List.append_nil]; exact ⟨(cIns C F hm).mono f.ex ry, o⟩, fun z hz => ?_, fun r ws Hf' H' xs px e1 e2 e3 e4 e5 f2 ex bx => ?_⟩
  · obtain ⟨i, hi⟩ := hb' z hz
    exact (s.at_ i _ hi).2
  · obtain ⟨F', S2⟩ := s.called hb' f2 ex bx
    exact q r ws Hf' H' xs (hp xs px) e1 e2 (f0.dom r (f.dom r e3)) e4 e5 ((f0.trans f fun _ z => .inl z).trans F' fun _ z => .inl z) (S2.le (by omega))
theorem xmet0F {ps : Addr → ω × Unit → Ctxt} {mt : ω × Unit → W (List α)} {wo : W ω} {ns : List Str} {pl : Env → Sem Bool} (M : MCal S.prog S.w S.K S.mg S.base C m ns lv (spWF ps kf mt c)) (hC : Cls S.K C) (hl : lv ≤ S.lv) (ho : PW S Γ k o (cIns C F hm) wo) (hno : ∀ H fs y0, F H fs y0 → fs.lookup m = none) (hps : ∀ y, [.d (cIns C F hm) y] = ps 0 (y, ())) (ht : MTree0 o m apos pos pl) :
    PWF S Γ (k + 0 + kf) (.Call (.Attribute o m apos) [] [] pos) c (fun Q => wo fun y => mt (y, ()) Q) := fun Q q => by
  obtain ⟨f, fd, Fn, Mt, hb⟩ := M.ex
  exact pdf_of (fun X G => pe_meth0 (pl := pl X.env) (tE_ok G) (by rw [G.K]; exact hC) (by rw [G.K]; exact Mt) (fnG Fn G) (G.room.mono hl) (by rw [G.K]; exact hb) .nil pass0 (ht _))
    (tdf_methD (k := k) (k1 := 0) (k2 := kf) (ho _ q) hno (fun _ _ => ta_nil) fun y' as h1 h2 => ⟨((y', ()), Q), 0, by subst h2; exact hps y', h1, Nat.le_refl _, fun x hx => hx⟩)
theorem xmet {ps : Addr → ω × τ → Ctxt} {mk : τ → Ctxt} {mt : ω × τ → W ρ} {wo : W ω} {wt : W τ} {ns : List Str} {pl : Env → Sem Bool} (z : Addr) (M : MCal S.prog S.w S.K S.mg S.base C m ns lv (spW ps kf mt cr)) (hC : Cls S.K C) (hl : lv ≤ S.lv) (ho : PW S Γ k o (cIns C F hm) wo) (ha : PWA S Γ k1 (e :: es) mk wt) (hno : ∀ H fs y0, F H fs y0 → fs.lookup m = none) (hps : ∀ y t, .d (cIns C F hm) y :: mk t = ps z (y, t))
    (hs : ∀ env : Env, starEach (e :: es) env = (false, eval e env) :: starEach es env) (hpl : ∀ env : Env, (backTo pos (starEach es env)).any (·.1) = false) (ht : MTree o m apos pos (e :: es) [] pl) : PW S Γ (k + k1 + kf) (.Call (.Attribute o m apos) (e :: es) [] pos) cr (fun Q => wo fun y => wt fun t => mt (y, t) Q) := fun Q q => by
  obtain ⟨f, fd, Fn, Mt, hb⟩ := M.ex
  exact pd_of (fun X G => pe_meth (pl := pl X.env) (tE_ok G) (by rw [G.K]; exact hC) (by rw [G.K]; exact Mt) (fnG Fn G) (G.room.mono hl) (by rw [G.K]; exact hb) .nil pass0 (tA_ok G) (hs _) (hpl _) (ht _))
    (td_methD (k := k) (k1 := k1) (k2 := kf) (ho _ q) hno (fun y p => ha _ p) fun y' as h1 h2 => by
      obtain ⟨t, e, r⟩ := h2
      exact ⟨((y', t), Q), z, by rw [e]; exact hps y' t, r, Nat.le_refl _, fun x hx => hx⟩)
theorem xmetF {ps : Addr → ω × τ → Ctxt} {mk : τ → Ctxt} {mt : ω × τ → W (List α)} {wo : W ω} {wt : W τ} {ns : List Str} {pl : Env → Sem Bool} (z : Addr) (M : MCal S.prog S.w S.K S.mg S.base C m ns lv (spWF ps kf mt c)) (hC : Cls S.K C) (hl : lv ≤ S.lv) (ho : PW S Γ k o (cIns C F hm) wo) (ha : PWA S Γ k1 (e :: es) mk wt) (hno : ∀ H fs y0, F H fs y0 → fs.lookup m = none) (hps : ∀ y t, .d (cIns C F hm) y :: mk t = ps z (y, t))
    (hs : ∀ env : Env, starEach (e :: es) env = (false, eval e env) :: starEach es env) (hpl : ∀ env : Env, (backTo pos (starEach es env)).any (·.1) = false) (ht : MTree o m apos pos (e :: es) [] pl) : PWF S Γ (k + k1 + kf) (.Call (.Attribute o m apos) (e :: es) [] pos) c (fun Q => wo fun y => wt fun t => mt (y, t) Q) := fun Q q => by
  obtain ⟨f, fd, Fn, Mt, hb⟩ := M.ex
  exact pdf_of (fun X G => pe_meth (pl := pl X.env) (tE_ok G) (by rw [G.K]; exact hC) (by rw [G.K]; exact Mt) (fnG Fn G) (G.room.mono hl) (by rw [G.K]; exact hb) .nil pass0 (tA_ok G) (hs _) (hpl _) (ht _))
    (tdf_methD (k := k) (k1 := k1) (k2 := kf) (ho _ q) hno (fun y p => ha _ p) fun y' as h1 h2 => by
      obtain ⟨t, e, r⟩ := h2
      exact ⟨((y', t), Q), z, by rw [e]; exact hps y' t, r, Nat.le_refl _, fun x hx => hx⟩)
/-- the making of an instance -/
abbrev spIW {τ : Type} (C : Addr) (ps : τ → Ctxt) (m : τ → W ω) (F : Hp → List (Str × V) → ω → Prop) : Sp := spI (A := τ × (ω → Prop)) C (fun a => ps a.1) (fun a => m a.1 a.2) F (fun a x => a.2 x)
theorem xmake {ps : τ → Ctxt} {mt : τ → W ω} {wt : W τ} {x : Str} {ns : List Str} (I : ICal S.prog S.w S.K S.mg S.base C ns lv (spIW C ps mt F)) (hl : lv + 1 ≤ S.lv) (hg : S.sc.names.lookup x = some .globalImplicit) (hmg : S.mg x = some (.ref C)) (hnb : ∀ t, NoB (ps t)) (ha : PWA S Γ k (e :: es) ps wt)
    (hs : ∀ env : Env, starEach (e :: es) env = (false, eval e env) :: starEach es env) (hpl : ∀ env : Env, (backTo pos (starEach es env)).any (·.1) = false) (hdb : (x == ("__debug__" : Str)) = false := by decide) : PW S Γ k (.Call (.Name x pn) (e :: es) [] pos) (cIns C F hm) (fun Q => wt fun t => mt t Q) := fun Q q => by
  obtain ⟨f, fd, Fn, Mk1, hb⟩ := I.ex
  exact pd_of (fun X G => pe_make (by rw [G.K]; exact Mk1) (fnG Fn G) (G.room.mono hl) (glb G hg) (by rw [G.mg]; exact hmg) (by rw [G.K]; exact hb) .nil pass0 (tA_ok G) hdb (hs _) (hpl _))
    (td_make (ha _ q) fun as ⟨t, e, r⟩ => ⟨by rw [e]; exact hnb t, (t, Q), e, r, fun _ h => h⟩)
/-! ### builtins of one -/
theorem xb1 {r : List V → Hp → VK → Prop} {x : Str} {id : String} {w : W α} {t : α → W γ} (hc : ∀ X, Good S X → CallR X (.builtin id) r) (hg : S.sc.names.lookup x = some .globalImplicit) (hmg : S.mg x = none) (hv : bootBuiltins x = some (.builtin id)) (h : PW S Γ k e c1 w) (hr : ∀ x, RWC r c1 x c3 (t x))
    (he : ∀ env : Env, starEach [e] env = (false, eval e env) :: starEach [] env) (hn : x ≠ "__name__" := by decide) (hdb : (x == ("__debug__" : Str)) = false := by decide) : PW S Γ k (.Call (.Name x pn) [e] [] pos) c3 (fun Q => w fun x => t x Q) := fun Q q => pd_b1 hc hg hmg hv (h _ q) (fun x p => hr x Q p) he hn hdb
theorem xy1 {r : List V → Hp → VK → Prop} {x : Str} {T : String} {w : W α} {t : α → W γ} (hc : ∀ X, Good S X → CallR X (.type T) r) (hg : S.sc.names.lookup x = some .globalImplicit) (hmg : S.mg x = none) (hv : bootBuiltins x = some (.type T)) (h : PW S Γ k e c1 w) (hr : ∀ x, RWC r c1 x c3 (t x))
    (he : ∀ env : Env, starEach [e] env = (false, eval e env) :: starEach [] env) (hn : x ≠ "__name__" := by decide) (hdb : (x == ("__debug__" : Str)) = false := by decide) : PW S Γ k (.Call (.Name x pn) [e] [] pos) c3 (fun Q => w fun x => t x Q) := fun Q q => pd_y1 hc hg hmg hv (h _ q) (fun x p => hr x Q p) he hn hdb
theorem xfb1 {r : List V → Hp → VK → Prop} {x : Str} {id : String} {w : W α} {t : α → W (List γ)} (hc : ∀ X, Good S X → CallR X (.builtin id) r) (hg : S.sc.names.lookup x = some .globalImplicit) (hmg : S.mg x = none) (hv : bootBuiltins x = some (.builtin id)) (h : PW S Γ k e c1 w) (hr : ∀ x, RWF r c1 x c3 (t x))
    (he : ∀ env : Env, starEach [e] env = (false, eval e env) :: starEach [] env) (hn : x ≠ "__name__" := by decide) (hdb : (x == ("__debug__" : Str)) = false := by decide) : PWF S Γ k (.Call (.Name x pn) [e] [] pos) c3 (fun Q => w fun x => t x Q) := fun Q q => pdf_b1 hc hg hmg hv (h _ q) (fun x p => hr x Q p) he hn hdb
theorem xfy1 {r : List V → Hp → VK → Prop} {x : Str} {T : String} {w : W α} {t : α → W (List γ)} (hc : ∀ X, Good S X → CallR X (.type T) r) (hg : S.sc.names.lookup x = some .globalImplicit) (hmg : S.mg x = none) (hv : bootBuiltins x = some (.type T)) (h : PW S Γ k e c1 w) (hr : ∀ x, RWF r c1 x c3 (t x))
    (he : ∀ env : Env, starEach [e] env = (false, eval e env) :: starEach [] env) (hn : x ≠ "__name__" := by decide) (hdb : (x == ("__debug__" : Str)) = false := by decide) : PWF S Γ k (.Call (.Name x pn) [e] [] pos) c3 (fun Q => w fun x => t x Q) := fun Q q => pdf_y1 hc hg hmg hv (h _ q) (fun x p => hr x Q p) he hn hdb
/-! ### items -/
/-- where an index leads -/
def ixOk (n : Nat) (i : Int) : Prop := -(n : Int) ≤ i ∧ i < (n : Int)
def ixAt {α : Type} [Inhabited α] (xs : List α) (i : Int) : α := xs.getD (if i < 0 then i + xs.length else i).toNat default
theorem atI_ix {α : Type} [Inhabited α] {xs : List α} {i : Int} (h : ixOk xs.length i) : atI xs i = some (ixAt xs i) := by
  obtain ⟨h1, h2⟩ := h
  have key : ixN xs.length i = some (if i < 0 then i + xs.length else i).toNat := by
    unfold ixN
    by_cases hi : i < 0
    · rw [if_pos hi, if_neg (by omega), if_pos h1]
    · rw [if_neg hi, if_pos (by omega), if_pos h2]
  unfold ixAt atI
  rw [key]
  show xs[_]? = _
  have : (if i < 0 then i + (xs.length : Int) else i).toNat < xs.length := by split <;> omega
  rw [List.getD_eq_getElem?_getD, List.getElem?_eq_getElem this]; rfl
theorem ixL {α : Type} [Inhabited α] {c : Cod α} {xs : List α} {i : Int} : RW (rIxL K) (cList c) xs cInt i c (fun Q => ixOk xs.length i ∧ Q (ixAt xs i)) := fun Q q => rd_ixL ⟨_, atI_ix q.1, q.2⟩
theorem ixT {α : Type} [Inhabited α] {c : Cod α} {xs : List α} {i : Int} : RW (rIxT K) (cTup c) xs cInt i c (fun Q => ixOk xs.length i ∧ Q (ixAt xs i)) := fun Q q => rd_ixT ⟨_, atI_ix q.1, q.2⟩
theorem xix {r : R2} {wa : W α} {wb : W β} {t : α → β → W γ} (hr : ∀ X, Good S X → IxR X r) (ha : PW S Γ k1 a c1 wa) (hb : PW S Γ k2 b c2 wb) (hrd : ∀ x y, RW r c1 x c2 y c3 (t x y)) (hs : PlainIx b) : PW S Γ (k1 + k2) (.Subscript a b pos) c3 (fun Q => wa fun x => wb fun y => t x y Q) :=
  fun Q q => pd_of (fun X G => pe_ix (hr X G) (tE_ok G) (tE_ok G) hs) (td_opD (ha _ q) (fun x p => hb _ p) fun x y _ p => hrd x y Q p)
/-- an item of a tuple, a list of unlike things -/
theorem xixP {r : R2} {i : Int} {f : α → γ} {wa : W α} (hr : ∀ X, Good S X → IxR X r) (hrd : ∀ x, RD r c1 x cInt i c3 (· = f x)) (ha : PW S Γ k a c1 wa) (hb : PW S Γ 0 b cInt (fun Q => Q i)) (hs : PlainIx b) : PW S Γ (k + 0) (.Subscript a b pos) c3 (fun Q => wa fun x => Q (f x)) :=
  fun Q q => pd_of (fun X G => pe_ix (hr X G) (tE_ok G) (tE_ok G) hs) (td_opD (P2 := fun x y => y = i ∧ Q (f x)) (ha _ q) (fun x p => hb _ ⟨rfl, p⟩) fun x y _ p => by
    obtain ⟨rfl, p⟩ := p
    exact (hrd x).imp fun z e => e ▸ p)
end
end DL

set_option Elab.async false
set_option linter.all false
set_option maxRecDepth 100000
set_option maxHeartbeats 4000000
namespace DL
open PySem PySem.Spec L2
section
variable {S : Stc} {X : Cx} {Γ Γ0 Γ1 Γ2 Γ3 : Ctxt} {k k1 k2 k3 kk kt ke kn kf kr lv : Nat} {A α β γ δ ρ τ ω σ υ : Type} {c : Cod α} {c' : Cod β} {cr : Cod ρ} {c1 : Cod α} {c2 : Cod β} {c3 : Cod γ} {c4 : Cod δ} {e a b dd o : Expr} {es : List Expr} {pos pos' pn apos : Pos} {K : PySem.W.Frag}
/-! ### what is walked -/
theorem iL {tg : Expr} {w : W (List α)} (h : PW S Γ k e (cList c) w) : PWI S Γ k tg e c w := fun Q q => pdi_list (h Q q)
theorem iT {tg : Expr} {w : W (List α)} (h : PW S Γ k e (cTup c) w) : PWI S Γ k tg e c w := fun Q q => pdi_tup (h Q q)
theorem iS {tg : Expr} {w : W (List α)} (h : PW S Γ k e (cSeq c) w) : PWI S Γ k tg e c w := fun Q q => pdi_seq (h Q q)
abbrev rng (i : Int) : List Int := rangeL 0 i.toNat
abbrev rng2 (i j : Int) : List Int := rangeL i (j - i).toNat
abbrev rngOk (i : Int) : Prop := -4611686018427387904 ≤ i ∧ i ≤ 1000000
abbrev rng2Ok (i j : Int) : Prop := -1000000000 ≤ i ∧ i ≤ 1000000000 ∧ -1000000000 ≤ j ∧ j ≤ 1000000000 ∧ j - i ≤ 1000000
theorem iR1 {tg : Expr} {w : W Int} (hg : S.sc.names.lookup ("range" : Str) = some .globalImplicit) (hm : S.mg "range" = none) (h : PW S Γ k a cInt w) (hs : ∀ env : Env, starEach [a] env = [(false, eval a env)]) : PWI S Γ k tg (.Call (.Name "range" pn) [a] [] pos) cInt (fun Q => w fun i => rngOk i ∧ Q (rng i)) :=
  fun Q q => pdi_range1 hg hm (TDA.imp (pda_cons (h _ q) pda_nil hs) fun as h => h) (fun as h => by
    obtain ⟨x, r, ⟨p1, p2⟩, rfl, rfl⟩ := h
    exact ⟨x, rfl, p1.1, p1.2, p2⟩) hs
theorem iR2 {tg : Expr} {wa wb : W Int} (hg : S.sc.names.lookup ("range" : Str) = some .globalImplicit) (hm : S.mg "range" = none) (ha : PW S Γ k1 a cInt wa) (hb : PW S Γ k2 b cInt wb) (hs : ∀ env : Env, starEach [a, b] env = [(false, eval a env), (false, eval b env)]) (hs2 : ∀ env : Env, starEach [b] env = [(false, eval b env)]) : PWI S Γ (k1 + (k2 + 0)) tg (.Call (.Name "range" pn) [a, b] [] pos) cInt (fun Q => wa fun i => wb fun j => rng2Ok i j ∧ Q (rng2 i j)) :=
  fun Q q => pdi_range2 hg hm (pda_of (fun X G => pa_cons (tE_ok G) (tA_ok G) ((hs _).trans (by rw [hs2]))) (ta_consD (ha _ q) fun x p => pda_cons (hb _ p) pda_nil hs2)) (fun as h => by
    obtain ⟨x, r, _, ⟨y, r2, ⟨p1, p2⟩, rfl, rfl⟩, rfl⟩ := h
    exact ⟨x, y, rfl, p1.1, p1.2.1, p1.2.2.1, p1.2.2.2.1, p1.2.2.2.2, p2⟩) hs hs2
/-! ### comprehensions -/
theorem tsN : PWT S Γ 0 e (fun Q => Q true) → True := fun _ => trivial
/-- the tests of a clause -/
def PWC (S : Stc) (Γ : Ctxt) (k : Nat) (es : List Expr) (w : W Bool) : Prop := ∀ Q, w Q → TDT (tTs S es) Γ k Q
theorem c1W {w : W Bool} (h : PWT S Γ k e w) : PWC S Γ k [e] w := fun Q q => tts_one (h Q q)
theorem split_eq {pre post rest : List α} {x : α} {xs : List α} (h : xs = pre ++ x :: post) (h2 : xs = pre ++ rest) : rest = x :: post := by
  rw [h] at h2
  exact (List.append_cancel_left h2).symm
theorem tlcW {elt tg iter : Expr} {ifs : List Expr} {scope : Scope} {q : α → W Bool} {f : α → W β} {w : W (List α)} {bd : Nat} (own : List (Str × Nat)) (hw : PWI S Γ k tg iter c w) (nv : NoBxs Γ (own.map (·.2))) (hbd : bd * (kt + ke) ≤ kn)
    (hs : ∀ x, ∃ Γ1 is, PDG (S.blk scope) tg c x (wipeC Γ (own.map (·.2))) Γ1 is ∧ (∀ i ∈ is, i ∈ own.map (·.2)) ∧ PWC (S.blk scope) Γ1 kt ifs (q x) ∧ PW (S.blk scope) Γ1 ke elt c' (f x)) (Q : List β → Prop) (h : w fun xs => xs.length ≤ bd ∧ wLc q f xs Q) :
    TDF (lcRd S tg iter ifs elt scope own) Γ (k + kn) c' Q :=
  (tdf_lc (X := fun xs => xs.length ≤ bd ∧ wLc q f xs Q) (kt := kt) (ke := ke) (kn := kn) (fun xs pre ys => ∃ rest, xs = pre ++ rest ∧ wLc q f rest fun zs => Q (ys ++ zs)) (hw _ h) (noBxs_mem nv) (fun xs hx => ⟨xs, rfl, hx.2⟩) (fun xs hx => Nat.le_trans (Nat.mul_le_mul_right _ hx.1) hbd) fun xs hx pre x post ys hxs ⟨rest, e1, h1⟩ => by
    obtain rfl := split_eq hxs e1
    obtain ⟨Γ1, is, g1, g2, g3, g4⟩ := hs x
    refine ⟨Γ1, is, _, g1, g2, g3 _ h1, fun p => ?_, fun p => ?_⟩
    · rw [if_pos rfl] at p
      exact (g4 _ p).imp fun y py => ⟨post, by rw [hxs]; simp, by
        have : (fun zs => Q (ys ++ [y] ++ zs)) = fun zs => Q (ys ++ (y :: zs)) := by funext zs; rw [List.append_assoc]; rfl
        rw [this]; exact py⟩
    · rw [if_neg Bool.false_ne_true] at p
      exact ⟨post, by rw [hxs]; simp, p⟩).imp fun ys ⟨xs, hx, rest, e, h⟩ => by
    have : rest = [] := by
      have e2 := congrArg List.length e
      rw [List.length_append] at e2
      exact List.length_eq_zero_iff.mp (by omega)
    subst this
    have h : Q (ys ++ []) := h
    rwa [List.append_nil] at h
theorem tmapW {elt tg iter : Expr} {scope : Scope} {f : α → W β} {w : W (List α)} {bd : Nat} (own : List (Str × Nat)) (hw : PWI S Γ k tg iter c w) (nv : NoBxs Γ (own.map (·.2))) (hbd : bd * ke ≤ kn)
    (hs : ∀ x, ∃ Γ1 is, PDG (S.blk scope) tg c x (wipeC Γ (own.map (·.2))) Γ1 is ∧ (∀ i ∈ is, i ∈ own.map (·.2)) ∧ PW (S.blk scope) Γ1 ke elt c' (f x)) (Q : List β → Prop) (h : w fun xs => xs.length ≤ bd ∧ wMap f xs Q) :
    TDF (lcRd S tg iter [] elt scope own) Γ (k + kn) c' Q :=
  (tdf_lc (X := fun xs => xs.length ≤ bd ∧ wMap f xs Q) (kt := 0) (ke := ke) (kn := kn) (fun xs pre ys => ∃ rest, xs = pre ++ rest ∧ wMap f rest fun zs => Q (ys ++ zs)) (hw _ h) (noBxs_mem nv) (fun xs hx => ⟨xs, rfl, hx.2⟩) (fun xs hx => Nat.le_trans (Nat.mul_le_mul_right _ hx.1) (by rw [Nat.zero_add]; exact hbd)) fun xs hx pre x post ys hxs ⟨rest, e1, h1⟩ => by
    obtain rfl := split_eq hxs e1
    obtain ⟨Γ1, is, g1, g2, g4⟩ := hs x
    refine ⟨Γ1, is, (· = true), g1, g2, tts_nil, fun p => ?_, fun p => by cases p⟩
    exact (g4 _ h1).imp fun y py => ⟨post, by rw [hxs]; simp, by
        have : (fun zs => Q (ys ++ [y] ++ zs)) = fun zs => Q (ys ++ (y :: zs)) := by funext zs; rw [List.append_assoc]; rfl
        rw [this]; exact py⟩).imp fun ys ⟨xs, hx, rest, e, h⟩ => by
    have : rest = [] := by
      have e2 := congrArg List.length e
      rw [List.length_append] at e2
      exact List.length_eq_zero_iff.mp (by omega)
    subst this
    have h : Q (ys ++ []) := h
    rwa [List.append_nil] at h
/-- nothing is drawn: no bound -/
theorem tlc0 {elt tg iter : Expr} {ifs : List Expr} {scope : Scope} {q : α → W Bool} {f : α → W β} {w : W (List α)} (own : List (Str × Nat)) (hw : PWI S Γ k tg iter c w) (nv : NoBxs Γ (own.map (·.2)))
    (hs : ∀ x, ∃ Γ1 is, PDG (S.blk scope) tg c x (wipeC Γ (own.map (·.2))) Γ1 is ∧ (∀ i ∈ is, i ∈ own.map (·.2)) ∧ PWC (S.blk scope) Γ1 0 ifs (q x) ∧ PW (S.blk scope) Γ1 0 elt c' (f x)) (Q : List β → Prop) (h : w fun xs => wLc q f xs Q) :
    TDF (lcRd S tg iter ifs elt scope own) Γ k c' Q :=
  (TDF.le (tdf_lc (X := fun xs => wLc q f xs Q) (kt := 0) (ke := 0) (kn := 0) (fun xs pre ys => ∃ rest, xs = pre ++ rest ∧ wLc q f rest fun zs => Q (ys ++ zs)) (hw _ h) (noBxs_mem nv) (fun xs hx => ⟨xs, rfl, hx⟩) (fun xs hx => Nat.le_of_eq (Nat.mul_zero _)) fun xs hx pre x post ys hxs ⟨rest, e1, h1⟩ => by
    obtain rfl := split_eq hxs e1
    obtain ⟨Γ1, is, g1, g2, g3, g4⟩ := hs x
    refine ⟨Γ1, is, _, g1, g2, g3 _ h1, fun p => ?_, fun p => ?_⟩
    · rw [if_pos rfl] at p
      exact (g4 _ p).imp fun y py => ⟨post, by rw [hxs]; simp, by
        have : (fun zs => Q (ys ++ [y] ++ zs)) = fun zs => Q (ys ++ (y :: zs)) := by funext zs; rw [List.append_assoc]; rfl
        rw [this]; exact py⟩
    · rw [if_neg Bool.false_ne_true] at p
      exact ⟨post, by rw [hxs]; simp, p⟩) (Nat.le_refl (k + 0))).imp fun ys ⟨xs, hx, rest, e, h⟩ => by
    have : rest = [] := by
      have e2 := congrArg List.length e
      rw [List.length_append] at e2
      exact List.length_eq_zero_iff.mp (by omega)
    subst this
    have h : Q (ys ++ []) := h
    rwa [List.append_nil] at h
theorem tmap0 {elt tg iter : Expr} {scope : Scope} {f : α → W β} {w : W (List α)} (own : List (Str × Nat)) (hw : PWI S Γ k tg iter c w) (nv : NoBxs Γ (own.map (·.2)))
    (hs : ∀ x, ∃ Γ1 is, PDG (S.blk scope) tg c x (wipeC Γ (own.map (·.2))) Γ1 is ∧ (∀ i ∈ is, i ∈ own.map (·.2)) ∧ PW (S.blk scope) Γ1 0 elt c' (f x)) (Q : List β → Prop) (h : w fun xs => wMap f xs Q) :
    TDF (lcRd S tg iter [] elt scope own) Γ k c' Q :=
  (TDF.le (tdf_lc (X := fun xs => wMap f xs Q) (kt := 0) (ke := 0) (kn := 0) (fun xs pre ys => ∃ rest, xs = pre ++ rest ∧ wMap f rest fun zs => Q (ys ++ zs)) (hw _ h) (noBxs_mem nv) (fun xs hx => ⟨xs, rfl, hx⟩) (fun xs hx => Nat.le_of_eq (Nat.mul_zero _)) fun xs hx pre x post ys hxs ⟨rest, e1, h1⟩ => by
    obtain rfl := split_eq hxs e1
    obtain ⟨Γ1, is, g1, g2, g4⟩ := hs x
    refine ⟨Γ1, is, (· = true), g1, g2, tts_nil, fun p => ?_, fun p => by cases p⟩
    exact (g4 _ h1).imp fun y py => ⟨post, by rw [hxs]; simp, by
        have : (fun zs => Q (ys ++ [y] ++ zs)) = fun zs => Q (ys ++ (y :: zs)) := by funext zs; rw [List.append_assoc]; rfl
        rw [this]; exact py⟩) (Nat.le_refl (k + 0))).imp fun ys ⟨xs, hx, rest, e, h⟩ => by
    have : rest = [] := by
      have e2 := congrArg List.length e
      rw [List.length_append] at e2
      exact List.length_eq_zero_iff.mp (by omega)
    subst this
    have h : Q (ys ++ []) := h
    rwa [List.append_nil] at h
/-- the pure ones -/
theorem wLc_pure {α β : Type} {q : α → Bool} {f : α → β} : ∀ (xs : List α) (Q : List β → Prop), wLc (fun x R => R (q x)) (fun x R => R (f x)) xs Q = Q ((xs.filter q).map f)
  | [], _ => rfl
  | x :: r, Q => by
    show (if q x = true then wLc _ _ r (fun ys => Q (f x :: ys)) else wLc _ _ r Q) = _
    by_cases h : q x = true
    · rw [if_pos h, wLc_pure r, List.filter_cons_of_pos h]; rfl
    · rw [if_neg h, wLc_pure r, List.filter_cons_of_neg h]
theorem wMap_pure {α β : Type} {f : α → β} : ∀ (xs : List α) (Q : List β → Prop), wMap (fun x R => R (f x)) xs Q = Q (xs.map f)
  | [], _ => rfl
  | x :: r, Q => by
    show wMap _ r (fun ys => Q (f x :: ys)) = _
    rw [wMap_pure r]; rfl
theorem tfmP {elt tg iter : Expr} {ifs : List Expr} {scope : Scope} {q : α → Bool} {f : α → β} {w : W (List α)} (own : List (Str × Nat)) (hw : PWI S Γ k tg iter c w) (nv : NoBxs Γ (own.map (·.2)))
    (hs : ∀ x, ∃ Γ1 is, PDG (S.blk scope) tg c x (wipeC Γ (own.map (·.2))) Γ1 is ∧ (∀ i ∈ is, i ∈ own.map (·.2)) ∧ PWC (S.blk scope) Γ1 0 ifs (fun Q => Q (q x)) ∧ PW (S.blk scope) Γ1 0 elt c' (fun Q => Q (f x))) (Q : List β → Prop) (h : w fun xs => Q ((xs.filter q).map f)) :
    TDF (lcRd S tg iter ifs elt scope own) Γ k c' Q := tlc0 (q := fun x R => R (q x)) (f := fun x R => R (f x)) own hw nv hs Q (by
      have : (fun xs => wLc (fun x (R : Bool → Prop) => R (q x)) (fun x (R : β → Prop) => R (f x)) xs Q) = fun xs => Q ((xs.filter q).map f) := by funext xs; exact wLc_pure xs Q
      rw [this]; exact h)
theorem tmapP {elt tg iter : Expr} {scope : Scope} {f : α → β} {w : W (List α)} (own : List (Str × Nat)) (hw : PWI S Γ k tg iter c w) (nv : NoBxs Γ (own.map (·.2)))
    (hs : ∀ x, ∃ Γ1 is, PDG (S.blk scope) tg c x (wipeC Γ (own.map (·.2))) Γ1 is ∧ (∀ i ∈ is, i ∈ own.map (·.2)) ∧ PW (S.blk scope) Γ1 0 elt c' (fun Q => Q (f x))) (Q : List β → Prop) (h : w fun xs => Q (xs.map f)) :
    TDF (lcRd S tg iter [] elt scope own) Γ k c' Q := tmap0 (f := fun x R => R (f x)) own hw nv hs Q (by
      have : (fun xs => wMap (fun x (R : β → Prop) => R (f x)) xs Q) = fun xs => Q (xs.map f) := by funext xs; exact wMap_pure xs Q
      rw [this]; exact h)
/-- a read comprehension, and one as a value -/
def LW {β : Type} (S : Stc) (Γ : Ctxt) (k : Nat) (tg iter : Expr) (ifs : List Expr) (elt : Expr) (scope : Scope) (own : List (Str × Nat)) (c : Cod β) (w : W (List β)) : Prop := ∀ Q, w Q → TDF (lcRd S tg iter ifs elt scope own) Γ k c Q
theorem xlc {elt tg iter : Expr} {ifs : List Expr} {scope : Scope} {own : List (Str × Nat)} {w : W (List β)} (h : LW S Γ k tg iter ifs elt scope own c' w) (ok : blkC S.N S.sc scope own = true) (hfs : ∀ (env : Env) x, foldedSetIterable iter env x = pure x) : PWF S Γ k (.ListComp elt [⟨tg, iter, ifs, 0⟩] scope pos) c' w := fun Q q => pdf_lc ok hfs (h Q q)
theorem lcW {elt tg iter : Expr} {ifs : List Expr} {scope : Scope} {q : α → W Bool} {f : α → W β} {w : W (List α)} (bd : Nat) (own : List (Str × Nat)) (hw : PWI S Γ k tg iter c w) (nv : NoBxs Γ (own.map (·.2)))
    (hs : ∀ x, ∃ Γ1 is, PDG (S.blk scope) tg c x (wipeC Γ (own.map (·.2))) Γ1 is ∧ (∀ i ∈ is, i ∈ own.map (·.2)) ∧ PWC (S.blk scope) Γ1 kt ifs (q x) ∧ PW (S.blk scope) Γ1 ke elt c' (f x)) : LW S Γ (k + bd * (kt + ke)) tg iter ifs elt scope own c' (fun Q => w fun xs => xs.length ≤ bd ∧ wLc q f xs Q) := fun Q h => tlcW own hw nv (Nat.le_refl _) hs Q h
theorem mapW {elt tg iter : Expr} {scope : Scope} {f : α → W β} {w : W (List α)} (bd : Nat) (own : List (Str × Nat)) (hw : PWI S Γ k tg iter c w) (nv : NoBxs Γ (own.map (·.2)))
    (hs : ∀ x, ∃ Γ1 is, PDG (S.blk scope) tg c x (wipeC Γ (own.map (·.2))) Γ1 is ∧ (∀ i ∈ is, i ∈ own.map (·.2)) ∧ PW (S.blk scope) Γ1 ke elt c' (f x)) : LW S Γ (k + bd * ke) tg iter [] elt scope own c' (fun Q => w fun xs => xs.length ≤ bd ∧ wMap f xs Q) := fun Q h => tmapW own hw nv (Nat.le_refl _) hs Q h
theorem lc0 {elt tg iter : Expr} {ifs : List Expr} {scope : Scope} {q : α → W Bool} {f : α → W β} {w : W (List α)} (own : List (Str × Nat)) (hw : PWI S Γ k tg iter c w) (nv : NoBxs Γ (own.map (·.2)))
    (hs : ∀ x, ∃ Γ1 is, PDG (S.blk scope) tg c x (wipeC Γ (own.map (·.2))) Γ1 is ∧ (∀ i ∈ is, i ∈ own.map (·.2)) ∧ PWC (S.blk scope) Γ1 0 ifs (q x) ∧ PW (S.blk scope) Γ1 0 elt c' (f x)) : LW S Γ k tg iter ifs elt scope own c' (fun Q => w fun xs => wLc q f xs Q) := fun Q h => tlc0 own hw nv hs Q h
theorem map0 {elt tg iter : Expr} {scope : Scope} {f : α → W β} {w : W (List α)} (own : List (Str × Nat)) (hw : PWI S Γ k tg iter c w) (nv : NoBxs Γ (own.map (·.2)))
    (hs : ∀ x, ∃ Γ1 is, PDG (S.blk scope) tg c x (wipeC Γ (own.map (·.2))) Γ1 is ∧ (∀ i ∈ is, i ∈ own.map (·.2)) ∧ PW (S.blk scope) Γ1 0 elt c' (f x)) : LW S Γ k tg iter [] elt scope own c' (fun Q => w fun xs => wMap f xs Q) := fun Q h => tmap0 own hw nv hs Q h
theorem fmP {elt tg iter : Expr} {ifs : List Expr} {scope : Scope} {q : α → Bool} {f : α → β} {w : W (List α)} (own : List (Str × Nat)) (hw : PWI S Γ k tg iter c w) (nv : NoBxs Γ (own.map (·.2)))
    (hs : ∀ x, ∃ Γ1 is, PDG (S.blk scope) tg c x (wipeC Γ (own.map (·.2))) Γ1 is ∧ (∀ i ∈ is, i ∈ own.map (·.2)) ∧ PWC (S.blk scope) Γ1 0 ifs (fun Q => Q (q x)) ∧ PW (S.blk scope) Γ1 0 elt c' (fun Q => Q (f x))) : LW S Γ k tg iter ifs elt scope own c' (fun Q => w fun xs => Q ((xs.filter q).map f)) := fun Q h => tfmP own hw nv hs Q h
/-- [x for x in xs if q x] -/
theorem fiP {elt tg iter : Expr} {ifs : List Expr} {scope : Scope} {q : α → Bool} {w : W (List α)} (own : List (Str × Nat)) (hw : PWI S Γ k tg iter c w) (nv : NoBxs Γ (own.map (·.2)))
    (hs : ∀ x, ∃ Γ1 is, PDG (S.blk scope) tg c x (wipeC Γ (own.map (·.2))) Γ1 is ∧ (∀ i ∈ is, i ∈ own.map (·.2)) ∧ PWC (S.blk scope) Γ1 0 ifs (fun Q => Q (q x)) ∧ PW (S.blk scope) Γ1 0 elt c (fun Q => Q x)) : LW S Γ k tg iter ifs elt scope own c (fun Q => w fun xs => Q (xs.filter q)) := fun Q h => tfmP (f := fun x => x) own hw nv hs Q (by
      have : (fun xs : List α => Q ((xs.filter q).map fun x => x)) = fun xs => Q (xs.filter q) := by funext xs; rw [List.map_id']
      rw [this]; exact h)
theorem maP {elt tg iter : Expr} {scope : Scope} {f : α → β} {w : W (List α)} (own : List (Str × Nat)) (hw : PWI S Γ k tg iter c w) (nv : NoBxs Γ (own.map (·.2)))
    (hs : ∀ x, ∃ Γ1 is, PDG (S.blk scope) tg c x (wipeC Γ (own.map (·.2))) Γ1 is ∧ (∀ i ∈ is, i ∈ own.map (·.2)) ∧ PW (S.blk scope) Γ1 0 elt c' (fun Q => Q (f x))) : LW S Γ k tg iter [] elt scope own c' (fun Q => w fun xs => Q (xs.map f)) := fun Q h => tmapP own hw nv hs Q h
/-! ### a list of one's own, looked at -/
theorem vN {i : Nat} {xs : List α} {w : W β} (h : Γ[i]? = some (.l c xs)) (fl : NL c') (ht : PW S (Γ.set i (.d (cList c) xs)) k e c' w) : PW S Γ k e c' w := fun Q q => td_viewN h fl (ht Q q)
theorem vNF {i : Nat} {xs : List α} {w : W (List β)} (h : Γ[i]? = some (.l c xs)) (fl : NL c') (ht : PWF S (Γ.set i (.d (cList c) xs)) k e c' w) : PWF S Γ k e c' w := fun Q q => tdf_viewN h fl (ht Q q)
theorem vT {i : Nat} {xs : List α} {w : W Bool} (h : Γ[i]? = some (.l c xs)) (ht : PWT S (Γ.set i (.d (cList c) xs)) k e w) : PWT S Γ k e w := fun Q q => tt_view h (ht Q q)
end
end DL

set_option Elab.async false
set_option linter.all false
set_option maxRecDepth 100000
set_option maxHeartbeats 4000000
namespace DL
open PySem PySem.Spec L2
/-! ## Statements -/
/-- while t: b -/
def wWhile {σ ρ : Type} (t : σ → W Bool) (b : σ → (σ → Prop) → (σ → Prop) → (σ → Prop) → (ρ → Prop) → Prop) : Nat → σ → (σ → Prop) → (ρ → Prop) → Prop
  | 0, _, _, _ => False
  | n + 1, s, N, R => t s fun x => if x = true then b s (fun s' => wWhile t b n s' N R) N (fun s' => wWhile t b n s' N R) R else N s
/-- what is known of a value that is returned -/
abbrev Rl (ρ : Type) := Org → Ctxt → Hp → Hp → V → ρ → Prop
def rD {ρ : Type} (c : Cod ρ) : Rl ρ := fun _ _ Hf' _ v x => c.rep Hf' v x
/-- a new list that nobody else has -/
def rF {α : Type} (c : Cod α) : Rl (List α) := fun O Γ' Hf' H' v xs => ∃ a vs, v = .ref a ∧ H' a = some (.lst vs) ∧ Hf' a = none ∧ (O.M a ∨ O.H a = none) ∧ ¬ Bx Γ' a ∧ Paired (c.rep Hf') vs xs ∧ vs.length ≤ LB
def HSR {ρ : Type} (ts : TS) (Γ : Ctxt) (k : Nat) (rel : Rl ρ) (N B C : Ctxt → Prop) (R : ρ → Prop) : Prop :=
  ∀ (O : Org) (n : Nat) (σ : Stt) (Hf H : Hp), n + k ≤ LIM → Sat O Hf H σ Γ n → ∀ D : Ends,
    (∀ σ' Hf' H' Γ', N Γ' → Fin O Γ Hf Hf' H' σ' Γ' (n + k) → D.nx σ' H') → (∀ σ' Hf' H' Γ', B Γ' → Fin O Γ Hf Hf' H' σ' Γ' (n + k) → D.bk σ' H') →
    (∀ σ' Hf' H' Γ', C Γ' → Fin O Γ Hf Hf' H' σ' Γ' (n + k) → D.ct σ' H') → (∀ v σ' Hf' H' Γ' x, R x → rel O Γ' Hf' H' v x → Fin O Γ Hf Hf' H' σ' Γ' (n + k) → D.rt v H') → ts D σ H
abbrev noP (ρ : Type) (N : Ctxt → Prop) (c : Cod ρ) : Po ρ := { N := N, bk := fun _ => False, ct := fun _ => False, c := c, R := fun _ => False }
section
variable {O : Org} {Hf H Hf' H' : Hp} {σ' : Stt} {Γ Γ' : Ctxt} {k k1 k2 k3 kt kb kn m : Nat} {ρ τ α : Type} {t u : TS} {tt : TT} {te : TE} {rel : Rl ρ} {N N1 N' B B' C C' : Ctxt → Prop} {R : ρ → Prop} {c : Cod α} {P : α → Prop}
theorem HSR.le (h : HSR t Γ k rel N B C R) (l : k ≤ k2) : HSR t Γ k2 rel N B C R := fun O n σ Hf H hn S D q1 q2 q3 q4 =>
  h O n σ Hf H (by omega) S D (fun _ _ _ _ a f => q1 _ _ _ _ a (f.le (by omega))) (fun _ _ _ _ a f => q2 _ _ _ _ a (f.le (by omega))) (fun _ _ _ _ a f => q3 _ _ _ _ a (f.le (by omega))) fun _ _ _ _ _ _ a r f => q4 _ _ _ _ _ _ a r (f.le (by omega))
/-- a statement that only leads on -/
theorem hsr_of {c0 : Cod τ} (h : HS t Γ k (noP τ N c0)) : HSR t Γ k rel N B C R := fun O n σ Hf H hn S D q1 q2 q3 q4 =>
  h O n σ Hf H hn S D q1 (fun _ _ _ _ z _ => z.elim) (fun _ _ _ _ z _ => z.elim) fun _ _ _ _ _ _ z _ _ => z.elim
theorem hsr_break (h : B Γ) : HSR tBreak Γ 0 rel N B C R := fun O n σ Hf H _ S D _ q2 _ _ => q2 σ Hf H Γ h ⟨S, .refl, Ex.rfl'⟩
theorem hsr_cont (h : C Γ) : HSR tCont Γ 0 rel N B C R := fun O n σ Hf H _ S D _ _ q3 _ => q3 σ Hf H Γ h ⟨S, .refl, Ex.rfl'⟩
theorem hsr_next (h : N Γ) : HSR tNext Γ 0 rel N B C R := fun O n σ Hf H _ S D q1 _ _ _ => q1 σ Hf H Γ h ⟨S, .refl, Ex.rfl'⟩
theorem hsr_seq (h1 : HSR t Γ k1 rel N1 B C R) (h2 : ∀ Γ1, N1 Γ1 → HSR u Γ1 k2 rel N B C R) : HSR (tSeq t u) Γ (k1 + k2) rel N B C R := fun O n σ Hf H hn S D q1 q2 q3 q4 =>
  h1 O n σ Hf H (by omega) S { D with nx := u D } (fun σ1 Hf1 H1 Γ1 a f => h2 Γ1 a O (n + k1) σ1 Hf1 H1 (by omega) f.sat D
      (fun _ _ _ _ b g => q1 _ _ _ _ b ⟨by rw [← Nat.add_assoc]; exact g.sat, f.bx.trans g.bx, f.ex.trans g.ex⟩) (fun _ _ _ _ b g => q2 _ _ _ _ b ⟨by rw [← Nat.add_assoc]; exact g.sat, f.bx.trans g.bx, f.ex.trans g.ex⟩)
      (fun _ _ _ _ b g => q3 _ _ _ _ b ⟨by rw [← Nat.add_assoc]; exact g.sat, f.bx.trans g.bx, f.ex.trans g.ex⟩) fun _ _ _ _ _ _ b r g => q4 _ _ _ _ _ _ b r ⟨by rw [← Nat.add_assoc]; exact g.sat, f.bx.trans g.bx, f.ex.trans g.ex⟩)
    (fun _ _ _ _ a f => q2 _ _ _ _ a (f.le (by omega))) (fun _ _ _ _ a f => q3 _ _ _ _ a (f.le (by omega))) fun _ _ _ _ _ _ a r f => q4 _ _ _ _ _ _ a r (f.le (by omega))
theorem hsr_if {b : Bool → Prop} (ht : TDT tt Γ k1 b) (ha : b true → HSR t Γ k2 rel N B C R) (hb : b false → HSR u Γ k3 rel N B C R) : HSR (tIfS tt t u) Γ (k1 + max k2 k3) rel N B C R := fun O n σ Hf H hn S D q1 q2 q3 q4 =>
  ht O n σ Hf H (by omega) S _ fun d Hf1 H1 pd f1 S1 => by
    cases d with
    | true =>
      rw [if_pos rfl]
      exact (ha pd).le (Nat.le_max_left k2 k3) O (n + k1) σ Hf1 H1 (by omega) S1 D (fun _ _ _ _ a f => q1 _ _ _ _ a ⟨by rw [← Nat.add_assoc]; exact f.sat, f.bx, f1.ex.trans f.ex⟩) (fun _ _ _ _ a f => q2 _ _ _ _ a ⟨by rw [← Nat.add_assoc]; exact f.sat, f.bx, f1.ex.trans f.ex⟩)
        (fun _ _ _ _ a f => q3 _ _ _ _ a ⟨by rw [← Nat.add_assoc]; exact f.sat, f.bx, f1.ex.trans f.ex⟩) fun _ _ _ _ _ _ a r f => q4 _ _ _ _ _ _ a r ⟨by rw [← Nat.add_assoc]; exact f.sat, f.bx, f1.ex.trans f.ex⟩
    | false =>
      rw [if_neg Bool.false_ne_true]
      exact (hb pd).le (Nat.le_max_right k2 k3) O (n + k1) σ Hf1 H1 (by omega) S1 D (fun _ _ _ _ a f => q1 _ _ _ _ a ⟨by rw [← Nat.add_assoc]; exact f.sat, f.bx, f1.ex.trans f.ex⟩) (fun _ _ _ _ a f => q2 _ _ _ _ a ⟨by rw [← Nat.add_assoc]; exact f.sat, f.bx, f1.ex.trans f.ex⟩)
        (fun _ _ _ _ a f => q3 _ _ _ _ a ⟨by rw [← Nat.add_assoc]; exact f.sat, f.bx, f1.ex.trans f.ex⟩) fun _ _ _ _ _ _ a r f => q4 _ _ _ _ _ _ a r ⟨by rw [← Nat.add_assoc]; exact f.sat, f.bx, f1.ex.trans f.ex⟩
theorem hsr_ret {cr : Cod ρ} (h : TD te Γ k cr R) : HSR (tRet te) Γ k (rD cr) N B C R := fun O n σ Hf H hn S D _ _ _ q4 =>
  h O n σ Hf H hn S _ fun v Hf' H' x px r f s => q4 v σ Hf' H' Γ x px r ⟨s, .refl, f.ex⟩
theorem hsr_retF {R : List α → Prop} (h : TDF te Γ k c R) : HSR (tRet te) Γ k (rF c) N B C R := fun O n σ Hf H hn S D _ _ _ q4 =>
  h O n σ Hf H hn S _ fun a vs Hf' H' xs px h1 h2 h3 h4 h5 f s => q4 (.ref a) σ Hf' H' Γ xs px ⟨a, vs, rfl, h1, h2, .inr (S.fr.dom a h3), (fun ⟨i, hi⟩ => by
    obtain ⟨_, _, g, b, m, c, e, _⟩ := S.at_ i _ hi
    rw [h3] at e; cases e), h4, h5⟩ ⟨s, .refl, f.ex⟩
theorem hsr_retO {i : Nat} {xs : List α} {R : List α → Prop} (h : Γ[i]? = some (.l c xs)) (hr : R xs) : HSR (tRet (tVar i)) Γ 0 (rF c) N B C R := fun O n σ Hf H hn S D _ _ _ q4 => by
  obtain ⟨a, vs, h1, h2, h3, h4, h5⟩ := S.at_ i _ h
  exact ⟨.ref a, h1, q4 (.ref a) σ Hf H Γ xs hr ⟨a, vs, rfl, h2, h3, S.mine a ⟨i, _, h, rfl, h1⟩, S.lNe h h1, h4, h5⟩ ⟨S, .refl, Ex.rfl'⟩⟩
theorem hsr_freeze {i : Nat} {xs : List α} (h : Γ[i]? = some (.l c xs)) (nb : NoBx Γ i) (hs : HSR t (Γ.set i (.d (cList c) xs)) k rel N B C R) : HSR t Γ k rel N B C R := fun O n σ Hf H hn S D q1 q2 q3 q4 => by
  obtain ⟨a, vs, h1, h2, h3, _, _, rp, S'⟩ := S.freeze h
  have bk := bxKeep_set (s := .d (cList c) xs) nb
  exact hs O n σ _ H hn S' D (fun _ _ _ _ a f => q1 _ _ _ _ a ⟨f.sat, bk.trans f.bx, (Ex.new h3).trans f.ex⟩) (fun _ _ _ _ a f => q2 _ _ _ _ a ⟨f.sat, bk.trans f.bx, (Ex.new h3).trans f.ex⟩)
    (fun _ _ _ _ a f => q3 _ _ _ _ a ⟨f.sat, bk.trans f.bx, (Ex.new h3).trans f.ex⟩) fun _ _ _ _ _ _ a r f => q4 _ _ _ _ _ _ a r ⟨f.sat, bk.trans f.bx, (Ex.new h3).trans f.ex⟩
theorem wipeC_out {i : Nat} : ∀ {vs : List Nat}, i ∉ vs → (wipeC Γ vs)[i]? = Γ[i]?
  | [], _ => rfl
  | v :: vs, h => by
    unfold wipeC
    rw [List.getElem?_set_ne (fun e => h (by rw [e]; exact List.mem_cons_self))]
    exact wipeC_out fun z => h (List.mem_cons_of_mem _ z)
theorem Fin.forget2 (f : Fin O Γ Hf Hf' H' σ' Γ' m) (vs : List Nat) (nb : NoBxs Γ vs) : Fin O Γ Hf Hf' H' σ' (wipeC Γ' vs) m := ⟨f.sat.forget vs, fun i a h => by
  have h1 := f.bx i a h
  by_cases hi : i ∈ vs
  · have := noBxs_mem nb i hi
    unfold NoBx at this; rw [h] at this; exact this.elim
  · rw [wipeC_out hi]; exact h1, f.ex⟩
theorem HSR.forgetN (vs : List Nat) (nb : NoBxs Γ vs) (h : HSR t Γ k rel N B C R) (hp : ∀ G, N G → N' (wipeC G vs)) : HSR t Γ k rel N' B C R := fun O n σ Hf H hn S D q1 q2 q3 q4 =>
  h O n σ Hf H hn S D (fun σ' Hf' H' Γ' a f => q1 σ' Hf' H' _ (hp Γ' a) (f.forget2 vs nb)) q2 q3 q4
theorem HSR.forgetL (vs : List Nat) (nb : NoBxs Γ vs) (h : HSR t Γ k rel N B C R) (hb : ∀ G, B G → B' (wipeC G vs)) (hc : ∀ G, C G → C' (wipeC G vs)) : HSR t Γ k rel N B' C' R := fun O n σ Hf H hn S D q1 q2 q3 q4 =>
  h O n σ Hf H hn S D q1 (fun σ' Hf' H' Γ' a f => q2 σ' Hf' H' _ (hb Γ' a) (f.forget2 vs nb)) (fun σ' Hf' H' Γ' a f => q3 σ' Hf' H' _ (hc Γ' a) (f.forget2 vs nb)) q4
theorem hsr_for {wi : TI} {g : TG} {kk : Nat} {X : List α → Prop} (I : List α → List α → Ctxt → Prop) (hw : TW wi Γ k c X) (h0 : ∀ xs, X xs → I xs [] Γ) (hk : ∀ xs, X xs → xs.length * kk ≤ kn)
    (hs : ∀ xs, X xs → ∀ pre x post Γ1, xs = pre ++ x :: post → I xs pre Γ1 → ∃ Γ2 is, GD g c x Γ1 Γ2 is ∧ HSR t Γ2 kk rel (I xs (pre ++ [x])) N (I xs (pre ++ [x])) R)
    (hd : ∀ xs Γ1, X xs → I xs xs Γ1 → N Γ1) : HSR (tFor wi g t) Γ (k + kn) rel N B C R := fun O n σ Hf H hn S D q1 q2 q3 q4 =>
  hw O n σ Hf H (by omega) S _ fun J Hf1 H1 xs px W lb f1 S1 => by
    have hk' := hk xs px
    have kle : ∀ i, i ≤ xs.length → i * kk ≤ kn := fun i hi => Nat.le_trans (Nat.mul_le_mul_right kk hi) hk'
    refine ⟨fun i m σ' H' => m = xs.length - i ∧ i ≤ xs.length ∧ ∃ Γ1 Hfi, I xs (xs.take i) Γ1 ∧ Fin O Γ Hf1 Hfi H' σ' Γ1 (n + k + i * kk),
      ⟨xs.length, by simp, Nat.zero_le _, Γ, Hf1, by rw [List.take_zero]; exact h0 xs px, by rw [Nat.zero_mul]; exact S1, .refl, Ex.rfl'⟩, ?_⟩
    rintro i m σ' H' ⟨rfl, hi, Γ1, Hfi, hI, F⟩
    have hki := kle i hi
    by_cases hlt : i < xs.length
    · have hx : xs[i]? = some xs[i] := List.getElem?_eq_getElem hlt
      have hki1 := kle (i + 1) hlt
      rw [Nat.succ_mul] at hki1
      refine .inr ⟨W.go Hfi H' i F.ex F.sat.ex hlt, fun σ2 H2 => ∃ Γ2 Hf2, I xs (xs.take (i + 1)) Γ2 ∧ Fin O Γ Hf1 Hf2 H2 σ2 Γ2 (n + k + (i + 1) * kk), fun σ2 H2 ⟨Γ2, Hf2, a, b⟩ => ⟨xs.length - (i + 1), by omega, rfl, hlt, Γ2, Hf2, a, b⟩, fun v H2 hy => ?_⟩
      obtain ⟨Hf2, rx, fy, ey⟩ := W.yld Hfi H' i v H2 _ F.ex F.sat.ex hy hx
      have S2 : Sat O Hf2 H2 σ' Γ1 (n + k + i * kk) := F.sat.grow0 fy ey
      obtain ⟨Γ2, is, gd, hb⟩ := hs xs px (xs.take i) xs[i] (xs.drop (i + 1)) Γ1 (split_at hx) hI
      have en : n + k + i * kk + kk = n + k + (i + 1) * kk := by rw [Nat.succ_mul]; omega
      refine gd.2.2 O _ σ' Hf2 H2 v rx S2 _ fun σ3 S3 _ => ?_
      have up : ∀ {σ4 : Stt} {Hf4 H4 : Hp} {Γ4 : Ctxt}, Fin O Γ2 Hf2 Hf4 H4 σ4 Γ4 (n + k + i * kk + kk) → Fin O Γ Hf1 Hf4 H4 σ4 Γ4 (n + k + (i + 1) * kk) := fun {σ4 Hf4 H4 Γ4} f => ⟨by rw [← en]; exact f.sat, (F.bx.trans gd.1).trans f.bx, (F.ex.trans fy.ex).trans f.ex⟩
      have up2 : ∀ {σ4 : Stt} {Hf4 H4 : Hp} {Γ4 : Ctxt}, Fin O Γ2 Hf2 Hf4 H4 σ4 Γ4 (n + k + i * kk + kk) → Fin O Γ Hf Hf4 H4 σ4 Γ4 (n + (k + kn)) := fun {σ4 Hf4 H4 Γ4} f => ⟨(up f).sat.le (by rw [Nat.succ_mul]; omega), (up f).bx, f1.ex.trans (up f).ex⟩
      refine hb O _ σ3 Hf2 H2 (by omega) S3 _ (fun σ4 Hf4 H4 Γ4 a f => ⟨Γ4, Hf4, by rw [take_snoc hx]; exact a, up f⟩) (fun σ4 Hf4 H4 Γ4 a f => q1 σ4 Hf4 H4 Γ4 a (up2 f)) (fun σ4 Hf4 H4 Γ4 a f => ⟨Γ4, Hf4, by rw [take_snoc hx]; exact a, up f⟩) (fun v4 σ4 Hf4 H4 Γ4 y a r f => q4 v4 σ4 Hf4 H4 Γ4 y a r (up2 f))
    · have e : i = xs.length := by omega
      subst e
      rw [List.take_length] at hI
      exact .inl ⟨W.stop Hfi H' F.ex F.sat.ex, q1 σ' Hfi H' Γ1 (hd xs Γ1 px hI) ⟨F.sat.le (by omega), F.bx, f1.ex.trans F.ex⟩⟩
/-- while, by what has to hold -/
theorem hsr_while {Γl : τ → Ctxt} {wt : τ → W Bool} {wb : τ → (τ → Prop) → (τ → Prop) → (τ → Prop) → (ρ → Prop) → Prop} {Nt : τ → Prop} (n0 : Nat) (s0 : τ) (hk : n0 * (kt + kb) ≤ kn)
    (ht : ∀ s Q, wt s Q → TDT tt (Γl s) kt Q) (hb : ∀ s (N B C : τ → Prop) (R : ρ → Prop), wb s N B C R → HSR t (Γl s) kb rel (fun G => ∃ s, N s ∧ G = Γl s) (fun G => ∃ s, B s ∧ G = Γl s) (fun G => ∃ s, C s ∧ G = Γl s) R)
    (h : wWhile wt wb n0 s0 Nt R) (hN : ∀ s, Nt s → N (Γl s)) : HSR (tWhile tt t) (Γl s0) kn rel N B C R := fun O n σ Hf H hn S D q1 q2 q3 q4 => by
  refine ⟨fun m σ' H' => m ≤ n0 ∧ ∃ s Hf', wWhile wt wb m s Nt R ∧ Fin O (Γl s0) Hf Hf' H' σ' (Γl s) (n + (n0 - m) * (kt + kb)), ⟨n0, Nat.le_refl _, s0, Hf, h, by rw [Nat.sub_self, Nat.zero_mul]; exact S, .refl, Ex.rfl'⟩, ?_⟩
  rintro m σ1 H1 ⟨hm, s, Hf1, hw, F⟩
  cases m with
  | zero => exact hw.elim
  | succ m =>
    have e1 : (n0 - (m + 1)) * (kt + kb) + (kt + kb) = (n0 - m) * (kt + kb) := by rw [← Nat.succ_mul]; congr 1; omega
    have e2 : (n0 - m) * (kt + kb) ≤ n0 * (kt + kb) := Nat.mul_le_mul_right _ (by omega)
    refine ht s _ hw O _ σ1 Hf1 H1 (by omega) F.sat _ fun b Hf2 H2 pb f2 S2 => ?_
    cases b with
    | true =>
      rw [if_pos rfl] at pb ⊢
      refine ⟨fun σ' H' => m ≤ n0 ∧ ∃ s Hf', wWhile wt wb m s Nt R ∧ Fin O (Γl s0) Hf Hf' H' σ' (Γl s) (n + (n0 - m) * (kt + kb)), fun σ' H' z => ⟨m, Nat.lt_succ_self _, z⟩, ?_⟩
      have up : ∀ {σ4 : Stt} {Hf4 H4 : Hp} {Γ4 : Ctxt}, Fin O (Γl s) Hf2 Hf4 H4 σ4 Γ4 (n + (n0 - (m + 1)) * (kt + kb) + kt + kb) → Fin O (Γl s0) Hf Hf4 H4 σ4 Γ4 (n + (n0 - m) * (kt + kb)) := fun {σ4 Hf4 H4 Γ4} f => ⟨f.sat.le (by omega), F.bx.trans f.bx, (F.ex.trans f2.ex).trans f.ex⟩
      refine hb s _ _ _ _ pb O _ σ1 Hf2 H2 (by omega) S2 _ (fun σ4 Hf4 H4 Γ4 a f => ?_) (fun σ4 Hf4 H4 Γ4 a f => ?_) (fun σ4 Hf4 H4 Γ4 a f => ?_) (fun v4 σ4 Hf4 H4 Γ4 y a r f => q4 v4 σ4 Hf4 H4 Γ4 y a r ((up f).le (by omega)))
      · obtain ⟨s', a, e⟩ := a; subst e
        exact ⟨by omega, s', Hf4, a, up f⟩
      · obtain ⟨s', a, e⟩ := a; subst e
        exact q1 σ4 Hf4 H4 _ (hN s' a) ((up f).le (by omega))
      · obtain ⟨s', a, e⟩ := a; subst e
        exact ⟨by omega, s', Hf4, a, up f⟩
    | false =>
      rw [if_neg Bool.false_ne_true] at pb ⊢
      exact q1 σ1 Hf2 H2 _ (hN s pb) ⟨S2.le (by omega), F.bx, F.ex.trans f2.ex⟩
end
/-- where a block may end: the names at vs are forgotten then -/
structure En (σ : Type) where
  vs : List Nat
  g : σ → Ctxt
def En.at {σ : Type} (n : En σ) (N : σ → Prop) : Ctxt → Prop := fun G => ∃ s, N s ∧ wipeC G n.vs = n.g s
def En.th {σ : Type} (n : En σ) (N : σ → Prop) : Ctxt → Prop := fun G => ∃ s, N s ∧ G = n.g s
abbrev WS (σ τ ρ : Type) := (σ → Prop) → (τ → Prop) → (τ → Prop) → (ρ → Prop) → Prop
def PB {σ τ ρ : Type} (S : Stc) (Γ : Ctxt) (k : Nat) (sts : List Stmt) (rel : Rl ρ) (n : En σ) (l : En τ) (w : WS σ τ ρ) : Prop := ∀ N B C R, w N B C R → HSR (tSs S sts) Γ k rel (n.at N) (l.at B) (l.at C) R
abbrev noEn : En Empty := ⟨[], fun z => nomatch z⟩
section
variable {S : Stc} {X : Cx} {Γ Γ0 Γ1 Γ2 Γ3 : Ctxt} {k k1 k2 k3 kk kt ke kn kf kr lv : Nat} {A α β γ δ ρ τ ω σ υ : Type} {c : Cod α} {c' : Cod β} {cr : Cod ρ} {rel : Rl ρ} {c1 : Cod α} {c2 : Cod β} {c3 : Cod γ} {c4 : Cod δ} {e a b dd o : Expr} {es : List Expr} {pos pos' pn apos : Pos} {K : PySem.W.Frag} {n : En σ} {l : En τ} {st : Stmt} {sts sts2 rest : List Stmt} {w : W α} {N N1 B C : Ctxt → Prop} {R : ρ → Prop}
theorem hsr_ss {ts : TS} (ht : ∀ X, Good S X → PSs X sts ts) (h : HSR ts Γ k rel N B C R) : HSR (tSs S sts) Γ k rel N B C R := fun O n σ Hf H hn s D q1 q2 q3 q4 => ⟨ts, ht, h O n σ Hf H hn s D q1 q2 q3 q4⟩
theorem hsr_cons {ts : TS} (ht : ∀ X, Good S X → PS X st ts) (h1 : HSR ts Γ k1 rel N1 B C R) (h2 : ∀ Γ1, N1 Γ1 → HSR (tSs S rest) Γ1 k2 rel N B C R) : HSR (tSs S (st :: rest)) Γ (k1 + k2) rel N B C R := hsr_ss (fun X G => pss_cons (ht X G) (tSs_ok G)) (hsr_seq h1 h2)
/-- a statement that only leads on, ahead -/
theorem hsr_front {c0 : Cod υ} (h1 : PHs S Γ k1 [st] (noP υ N1 c0)) (h2 : ∀ Γ1, N1 Γ1 → HSR (tSs S rest) Γ1 k2 rel N B C R) : HSR (tSs S (st :: rest)) Γ (k1 + k2) rel N B C R := hsr_ss (fun X G => pss_app (l1 := [st]) (tSs_ok G) (tSs_ok G)) (hsr_seq (hsr_of h1) h2)
theorem hsr_frontS {c0 : Cod υ} (h1 : PH S Γ k1 st (noP υ N1 c0)) (h2 : ∀ Γ1, N1 Γ1 → HSR (tSs S rest) Γ1 k2 rel N B C R) : HSR (tSs S (st :: rest)) Γ (k1 + k2) rel N B C R := hsr_cons (fun X G => tS1_ok G) (hsr_of h1) h2
theorem PB.le {ws : WS σ τ ρ} (h : PB S Γ k sts rel n l ws) (hk : k ≤ k2) : PB S Γ k2 sts rel n l ws := fun N B C R q => (h N B C R q).le hk
theorem vb_ctx {Γ' : Ctxt} {ws : WS σ τ ρ} (e : Γ = Γ') (h : PB S Γ' k sts rel n l ws) : PB S Γ k sts rel n l ws := by subst e; exact h
theorem vb_nil (s : σ) (h : wipeC Γ n.vs = n.g s) : PB S Γ 0 [] rel n l (fun N _ _ _ => N s) := fun N B C R q => hsr_ss (fun X G => pss_nil) (hsr_next ⟨s, q, h⟩)
theorem vb_ret {w : W ρ} (h : PW S Γ k e cr w) : PB S Γ k (.Return (some e) pos :: rest) (rD cr) n l (fun _ _ _ R => w R) := fun N B C R q =>
  hsr_cons (k2 := 0) (N1 := fun _ => False) (fun X G => ps_ret (tE_ok G)) (hsr_ret (h R q)) fun _ z => z.elim
theorem vb_retF {w : W (List α)} (h : PWF S Γ k e c w) : PB S Γ k (.Return (some e) pos :: rest) (rF c) n l (fun _ _ _ R => w R) := fun N B C R q =>
  hsr_cons (k2 := 0) (N1 := fun _ => False) (fun X G => ps_ret (tE_ok G)) (hsr_retF (h R q)) fun _ z => z.elim
theorem vb_retO (i : Nat) {x : Str} {xs : List α} (hΓ : Γ[i]? = some (.l c xs)) (hN : S.N[i]? = some x) (hv : Vis S.sc x) (hd : (x == ("__debug__" : Str)) = false := by decide) (hcd : (x == ("__classdict__" : Str)) = false := by decide) : PB S Γ 0 (.Return (some (.Name x pos')) pos :: rest) (rF c) n l (fun _ _ _ R => R xs) := fun N B C R q =>
  hsr_cons (k2 := 0) (N1 := fun _ => False) (fun X G => ps_ret (pe_slot G hN hv hd hcd)) (hsr_retO hΓ q) fun _ z => z.elim
theorem vb_break (s : τ) (h : wipeC Γ l.vs = l.g s) : PB S Γ 0 (.Break pos :: rest) rel n l (fun _ B _ _ => B s) := fun N B C R q =>
  hsr_cons (k2 := 0) (N1 := fun _ => False) (fun X G => ps_break) (hsr_break ⟨s, q, h⟩) fun _ z => z.elim
theorem vb_cont (s : τ) (h : wipeC Γ l.vs = l.g s) : PB S Γ 0 (.Continue pos :: rest) rel n l (fun _ _ C _ => C s) := fun N B C R q =>
  hsr_cons (k2 := 0) (N1 := fun _ => False) (fun X G => ps_continue) (hsr_cont ⟨s, q, h⟩) fun _ z => z.elim
theorem vb_raise {x1 x2 : Option Expr} : PB S Γ 0 (.Raise x1 x2 pos :: rest) rel n l (fun _ _ _ _ => False) := fun _ _ _ _ q => q.elim
theorem vb_pass {ws : WS σ τ ρ} (h : PB S Γ k rest rel n l ws) : PB S Γ (0 + k) (.Pass pos :: rest) rel n l ws := fun N B C R q => hsr_cons (N1 := fun G => G = Γ) (fun X G => ps_pass) (hsr_next rfl) fun _ z => by subst z; exact h N B C R q
theorem vb_freeze (i : Nat) {xs : List α} {ws : WS σ τ ρ} (h : Γ[i]? = some (.l c xs)) (nb : NoBx Γ i) (hs : PB S (Γ.set i (.d (cList c) xs)) k sts rel n l ws) : PB S Γ k sts rel n l ws := fun N B C R q => hsr_freeze h nb (hs N B C R q)
/-- x = e -/
theorem vb_set (i : Nat) {nm : Str} {wr : α → WS σ τ ρ} (h : PW S Γ k e c w) (nb : NoBx Γ i) (hi : S.N[i]? = some nm) (hx : Loc S.sc nm) (hs : ∀ env : Env, env.scope = S.sc → swapsWith e (some (.Name nm pos')) pos.line env = pure false) (hf : S.fn nm = true ∨ S.sc.names.lookup nm = some .local) (hr : ∀ x, PB S (Γ.set i (.d c x)) k2 rest rel n l (wr x)) :
    PB S Γ (k + k2) (.Assign [.Name nm pos'] e pos :: rest) rel n l (fun N B C R => w fun x => wr x N B C R) := fun N B C R q =>
  hsr_frontS (c0 := cNon) (N1 := fun G => ∃ x, wr x N B C R ∧ G = Γ.set i (.d c x)) (ph_set (h _ q) nb (fun x p => ⟨x, p, rfl⟩) hi hx hs hf) fun G ⟨x, p, e⟩ => by subst e; exact hr x N B C R p
theorem vb_setL (i : Nat) {nm : Str} {w : W (List α)} {wr : List α → WS σ τ ρ} (h : PWF S Γ k e c w) (nb : NoBx Γ i) (hi : S.N[i]? = some nm) (hx : Loc S.sc nm) (hs : ∀ env : Env, env.scope = S.sc → swapsWith e (some (.Name nm pos')) pos.line env = pure false) (hf : S.fn nm = true ∨ S.sc.names.lookup nm = some .local) (hr : ∀ x, PB S (Γ.set i (.l c x)) k2 rest rel n l (wr x)) :
    PB S Γ (k + k2) (.Assign [.Name nm pos'] e pos :: rest) rel n l (fun N B C R => w fun x => wr x N B C R) := fun N B C R q =>
  hsr_frontS (c0 := cNon) (N1 := fun G => ∃ x, wr x N B C R ∧ G = Γ.set i (.l c x)) (ph_setL (h _ q) nb (fun x p => ⟨x, p, rfl⟩) hi hx hs hf) fun G ⟨x, p, e⟩ => by subst e; exact hr x N B C R p
/-- x = [.. for ..], x a plain local -/
theorem vb_setLc (i : Nat) {nm : Str} {py : Pos} {elt tg iter : Expr} {ifs : List Expr} {scope : Scope} (own : List (Str × Nat)) {w : W (List β)} {wr : List β → WS σ τ ρ} (h : LW S Γ k tg iter ifs elt scope own c' w) (nb : NoBx Γ i) (hi : S.N[i]? = some nm) (hyl : S.sc.names.lookup nm = some .local) (hl : (py.line == pos.line) = true) (hk : S.sc.kind = .function)
    (ha : (scope.names.any fun (n, k) => n == nm && (k == .local || k == .cell)) = false) (ok : blkC S.N S.sc scope own = true) (hfs : ∀ (env : Env) x, foldedSetIterable iter env x = pure x) (hr : ∀ x, PB S (Γ.set i (.d (cList c') x)) k2 rest rel n l (wr x)) :
    PB S Γ (k + k2) (.Assign [.Name nm py] (.ListComp elt [⟨tg, iter, ifs, 0⟩] scope pos) pos' :: rest) rel n l (fun N B C R => w fun x => wr x N B C R) := fun N B C R q =>
  hsr_frontS (c0 := cNon) (N1 := fun G => ∃ x, wr x N B C R ∧ G = Γ.set i (.d (cList c') x)) (ph_setLc (h _ q) nb (fun x p => ⟨x, p, rfl⟩) hi hyl hl hk ha ok hfs) fun G ⟨x, p, e⟩ => by subst e; exact hr x N B C R p
theorem vb_setLcO (i : Nat) {nm : Str} {py : Pos} {elt tg iter : Expr} {ifs : List Expr} {scope : Scope} (own : List (Str × Nat)) {w : W (List β)} {wr : List β → WS σ τ ρ} (h : LW S Γ k tg iter ifs elt scope own c' w) (nb : NoBx Γ i) (hi : S.N[i]? = some nm) (hyl : S.sc.names.lookup nm = some .local) (hl : (py.line == pos.line) = true) (hk : S.sc.kind = .function)
    (ha : (scope.names.any fun (n, k) => n == nm && (k == .local || k == .cell)) = false) (ok : blkC S.N S.sc scope own = true) (hfs : ∀ (env : Env) x, foldedSetIterable iter env x = pure x) (hr : ∀ x, PB S (Γ.set i (.l c' x)) k2 rest rel n l (wr x)) :
    PB S Γ (k + k2) (.Assign [.Name nm py] (.ListComp elt [⟨tg, iter, ifs, 0⟩] scope pos) pos' :: rest) rel n l (fun N B C R => w fun x => wr x N B C R) := fun N B C R q =>
  hsr_frontS (c0 := cNon) (N1 := fun G => ∃ x, wr x N B C R ∧ G = Γ.set i (.l c' x)) (ph_setLcL own (h _ q) nb (fun y py => ⟨y, py, rfl⟩) hi hyl hl hk ha ok hfs) fun G ⟨x, p, e⟩ => by subst e; exact hr x N B C R p
/-- e, for nothing -/
theorem vb_drop {wr : α → WS σ τ ρ} (h : PW S Γ k e c w) (hs : ∀ env : Env, env.scope = S.sc → swapsWith e none pos.line env = pure false) (hr : ∀ x, PB S Γ k2 rest rel n l (wr x)) : PB S Γ (k + k2) (.Expr e pos :: rest) rel n l (fun N B C R => w fun x => wr x N B C R) := fun N B C R q =>
  hsr_cons (N1 := fun G => ∃ x, wr x N B C R ∧ G = Γ) (fun X G => ps_expr (tE_ok G) (hs _ G.sc)) (fun O m σ Hf H hn s D q1 _ _ _ => h _ q O m σ Hf H hn s _ fun v Hf' H' x px r f s' => q1 _ Hf' H' _ ⟨x, px, rfl⟩ ⟨s', .refl, f.ex⟩) fun G ⟨x, p, e⟩ => by subst e; exact hr x N B C R p
/-- if e: .. else: ..; rest -/
theorem vb_if {wd : W Bool} {w1 w2 : WS υ τ ρ} {wr : υ → WS σ τ ρ} (m : En υ) (ht : PWT S Γ k1 e wd) (nb : NoBxs Γ m.vs) (h1 : PB S Γ k2 sts rel m l w1) (h2 : PB S Γ k3 sts2 rel m l w2) (hr : ∀ s, PB S (m.g s) kr rest rel n l (wr s)) :
    PB S Γ (k1 + max k2 k3 + kr) (.If e sts sts2 pos :: rest) rel n l (fun N B C R => wd fun b => if b = true then w1 (fun s => wr s N B C R) B C R else w2 (fun s => wr s N B C R) B C R) := fun N B C R q =>
  hsr_cons (N1 := m.th fun s => wr s N B C R) (fun X G => ps_if (tT_ok G) (tSs_ok G) (tSs_ok G)) (hsr_if (b := fun b => if b = true then w1 (fun s => wr s N B C R) B C R else w2 (fun s => wr s N B C R) B C R) (ht _ q)
    (fun p => HSR.forgetN m.vs nb (h1 _ B C R (by rwa [if_pos rfl] at p)) fun G ⟨s, a, e⟩ => ⟨s, a, e⟩)
    (fun p => HSR.forgetN m.vs nb (h2 _ B C R (by rwa [if_neg Bool.false_ne_true] at p)) fun G ⟨s, a, e⟩ => ⟨s, a, e⟩))
    fun G ⟨s, p, e⟩ => by subst e; exact hr s N B C R p
/-- if e: .., that does not lead on; rest -/
theorem vb_ifR {wd : W Bool} {w1 : WS Empty τ ρ} {wr : WS σ τ ρ} (ht : PWT S Γ k1 e wd) (h1 : PB S Γ k2 sts rel noEn l w1) (hr : PB S Γ kr rest rel n l wr) :
    PB S Γ (k1 + max k2 0 + kr) (.If e sts [] pos :: rest) rel n l (fun N B C R => wd fun b => if b = true then w1 (fun z => nomatch z) B C R else wr N B C R) := fun N B C R q =>
  hsr_cons (N1 := fun G => wr N B C R ∧ G = Γ) (fun X G => ps_if (tT_ok G) (tSs_ok G) pss_nil) (hsr_if (k3 := 0) (b := fun b => if b = true then w1 (fun z => nomatch z) B C R else wr N B C R) (ht _ q)
    (fun p => HSR.forgetN [] trivial (h1 _ B C R (by rwa [if_pos rfl] at p)) fun G h => by obtain ⟨s, _, _⟩ := h; exact nomatch s)
    fun p => hsr_next ⟨by rwa [if_neg Bool.false_ne_true] at p, rfl⟩) fun G ⟨p, e⟩ => by subst e; exact hr N B C R p
/-- for -/
theorem vb_forW {tg iter : Expr} {w : W (List α)} {wb : α → υ → WS υ υ ρ} {wr : υ → WS σ τ ρ} (m : En υ) {Bd : List α → Prop} (s0 : υ) (hΓ : Γ = m.g s0) (hw : PWI S Γ k tg iter c w) (hk : ∀ xs, Bd xs → xs.length * kk ≤ kn)
    (hs : ∀ s x, ∃ Γ2 is, PDG S tg c x (m.g s) Γ2 is ∧ NoBxs Γ2 m.vs ∧ PB S Γ2 kk sts rel m m (wb x s)) (hfs : ∀ (env : Env) x, foldedSetIterable iter env x = pure x) (hr : ∀ s, PB S (m.g s) kr rest rel n l (wr s)) :
    PB S Γ (k + kn + kr) (.For tg iter sts [] pos :: rest) rel n l (fun N B C R => w fun xs => Bd xs ∧ wFor wb xs s0 (fun s => wr s N B C R) R) := fun N B C R q => by
  refine hsr_cons (N1 := m.th fun s => wr s N B C R) (fun X G => ps_for (by rw [G.nox]; exact PassesOwn.never) G.calm (tI_ok G) (tGt_ok G) (tSs_ok G) (hfs _)) (hsr_for (X := fun xs => Bd xs ∧ wFor wb xs s0 (fun s => wr s N B C R) R) (kk := kk) (kn := kn) (fun xs pre G => ∃ rst s, xs = pre ++ rst ∧ wFor wb rst s (fun s => wr s N B C R) R ∧ G = m.g s) (hw _ q) (fun xs hx => ⟨xs, s0, rfl, hx.2, hΓ⟩) (fun xs hx => hk xs hx.1) (fun xs hx pre x post Γ1 hxs ⟨rst, s, e1, h1, e2⟩ => ?_) (fun xs Γ1 hx ⟨rst, s, e1, h1, e2⟩ => ?_)) fun G ⟨s, p, e⟩ => by subst e; exact hr s N B C R p
  · obtain rfl := split_eq hxs e1
    subst e2
    obtain ⟨Γ2, is, g, nb, h⟩ := hs s x
    refine ⟨Γ2, is, g, ?_⟩
    have h2 := h (fun s' => wFor wb post s' (fun s => wr s N B C R) R) (fun s => wr s N B C R) (fun s' => wFor wb post s' (fun s => wr s N B C R) R) R h1
    exact HSR.forgetL m.vs nb (HSR.forgetN (N' := fun G => ∃ rst s, xs = pre ++ [x] ++ rst ∧ wFor wb rst s (fun s => wr s N B C R) R ∧ G = m.g s) m.vs nb h2 fun G ⟨s, a, e⟩ => ⟨post, s, by rw [hxs]; simp, a, e⟩) (fun G ⟨s, a, e⟩ => ⟨s, a, e⟩) fun G ⟨s, a, e⟩ => ⟨post, s, by rw [hxs]; simp, a, e⟩
  · have : rst = [] := by
      have e2 := congrArg List.length e1
      rw [List.length_append] at e2
      exact List.length_eq_zero_iff.mp (by omega)
    subst this
    exact ⟨s, h1, e2⟩
theorem vb_for {tg iter : Expr} {w : W (List α)} {wb : α → υ → WS υ υ ρ} {wr : υ → WS σ τ ρ} (m : En υ) (s0 : υ) (hΓ : Γ = m.g s0) (hw : PWI S Γ k tg iter c w)
    (hs : ∀ s x, ∃ Γ2 is, PDG S tg c x (m.g s) Γ2 is ∧ NoBxs Γ2 m.vs ∧ PB S Γ2 0 sts rel m m (wb x s)) (hfs : ∀ (env : Env) x, foldedSetIterable iter env x = pure x) (hr : ∀ s, PB S (m.g s) kr rest rel n l (wr s)) :
    PB S Γ (k + 0 + kr) (.For tg iter sts [] pos :: rest) rel n l (fun N B C R => w fun xs => wFor wb xs s0 (fun s => wr s N B C R) R) := fun N B C R q =>
  vb_forW m (Bd := fun _ => True) s0 hΓ (w := fun Q => w Q) hw (fun _ _ => Nat.le_of_eq (Nat.mul_zero _)) hs hfs hr N B C R (by
    have : (fun xs => True ∧ wFor wb xs s0 (fun s => wr s N B C R) R) = fun xs => wFor wb xs s0 (fun s => wr s N B C R) R := by funext xs; exact propext ⟨fun h => h.2, fun h => ⟨trivial, h⟩⟩
    show w (fun xs => True ∧ wFor wb xs s0 (fun s => wr s N B C R) R)
    rw [this]; exact q)
/-- .. with draws, at most bd turns -/
theorem vb_forD (bd : Nat) {tg iter : Expr} {w : W (List α)} {wb : α → υ → WS υ υ ρ} {wr : υ → WS σ τ ρ} (m : En υ) (s0 : υ) (hΓ : Γ = m.g s0) (hw : PWI S Γ k tg iter c w)
    (hs : ∀ s x, ∃ Γ2 is, PDG S tg c x (m.g s) Γ2 is ∧ NoBxs Γ2 m.vs ∧ PB S Γ2 kk sts rel m m (wb x s)) (hfs : ∀ (env : Env) x, foldedSetIterable iter env x = pure x) (hr : ∀ s, PB S (m.g s) kr rest rel n l (wr s)) :
    PB S Γ (k + bd * kk + kr) (.For tg iter sts [] pos :: rest) rel n l (fun N B C R => w fun xs => xs.length ≤ bd ∧ wFor wb xs s0 (fun s => wr s N B C R) R) :=
  vb_forW m (Bd := fun xs => xs.length ≤ bd) s0 hΓ hw (fun _ h => Nat.mul_le_mul_right _ h) hs hfs hr
/-- while -/
theorem vb_whileW {w : υ → W Bool} {wb : υ → WS υ υ ρ} {wr : υ → WS σ τ ρ} (m : En υ) {Bd : Nat → Prop} (s0 : υ) (hΓ : Γ = m.g s0) (hk : ∀ n, Bd n → n * (kt + kk) ≤ kn) (ht : ∀ s, PWT S (m.g s) kt e (w s)) (hs : ∀ s, NoBxs (m.g s) m.vs ∧ PB S (m.g s) kk sts rel m m (wb s)) (hr : ∀ s, PB S (m.g s) kr rest rel n l (wr s)) :
    PB S Γ (kn + kr) (.While e sts [] pos :: rest) rel n l (fun N B C R => ∃ n0, Bd n0 ∧ wWhile w wb n0 s0 (fun s => wr s N B C R) R) := fun N B C R ⟨n0, hb, q⟩ => by
  subst hΓ
  refine hsr_cons (N1 := m.th fun s => wr s N B C R) (fun X G => ps_while (by rw [G.nox]; exact PassesOwn.never) (tT_ok G) (tSs_ok G)) (hsr_while (Γl := m.g) n0 s0 (hk n0 hb) (fun s Q h => ht s Q h) (fun s N' B' C' R' h => ?_) q fun s h => ⟨s, h, rfl⟩) fun G ⟨s, p, e⟩ => by subst e; exact hr s N B C R p
  obtain ⟨nb, hb⟩ := hs s
  exact HSR.forgetL m.vs nb (HSR.forgetN m.vs nb (hb N' B' C' R' h) fun G ⟨s, a, e⟩ => ⟨s, a, e⟩) (fun G ⟨s, a, e⟩ => ⟨s, a, e⟩) fun G ⟨s, a, e⟩ => ⟨s, a, e⟩
theorem vb_while {w : υ → W Bool} {wb : υ → WS υ υ ρ} {wr : υ → WS σ τ ρ} (m : En υ) (s0 : υ) (hΓ : Γ = m.g s0) (ht : ∀ s, PWT S (m.g s) 0 e (w s)) (hs : ∀ s, NoBxs (m.g s) m.vs ∧ PB S (m.g s) 0 sts rel m m (wb s)) (hr : ∀ s, PB S (m.g s) kr rest rel n l (wr s)) :
    PB S Γ (0 + kr) (.While e sts [] pos :: rest) rel n l (fun N B C R => ∃ n0, wWhile w wb n0 s0 (fun s => wr s N B C R) R) := fun N B C R ⟨n0, q⟩ =>
  vb_whileW m (Bd := fun _ => True) s0 hΓ (fun n _ => Nat.le_of_eq (Nat.mul_zero _)) ht hs hr N B C R ⟨n0, trivial, q⟩
theorem vb_whileD (bd : Nat) {w : υ → W Bool} {wb : υ → WS υ υ ρ} {wr : υ → WS σ τ ρ} (m : En υ) (s0 : υ) (hΓ : Γ = m.g s0) (ht : ∀ s, PWT S (m.g s) kt e (w s)) (hs : ∀ s, NoBxs (m.g s) m.vs ∧ PB S (m.g s) kk sts rel m m (wb s)) (hr : ∀ s, PB S (m.g s) kr rest rel n l (wr s)) :
    PB S Γ (bd * (kt + kk) + kr) (.While e sts [] pos :: rest) rel n l (fun N B C R => ∃ n0, n0 ≤ bd ∧ wWhile w wb n0 s0 (fun s => wr s N B C R) R) :=
  vb_whileW m (Bd := fun n => n ≤ bd) s0 hΓ (fun n h => Nat.mul_le_mul_right _ h) ht hs hr
end
end DL

set_option Elab.async false
set_option linter.all false
set_option maxRecDepth 100000
set_option maxHeartbeats 4000000
namespace DL
open PySem PySem.Spec L2
/-! ## Statements, seen from one start (what an error leaves is told of that start) -/
def HSO {ρ : Type} (O : Org) (ts : TS) (Γ : Ctxt) (k : Nat) (rel : Rl ρ) (N B C : Ctxt → Prop) (R : ρ → Prop) : Prop :=
  ∀ (n : Nat) (σ : Stt) (Hf H : Hp), n + k ≤ LIM → Sat O Hf H σ Γ n → ∀ D : Ends,
    (∀ σ' Hf' H' Γ', N Γ' → Fin O Γ Hf Hf' H' σ' Γ' (n + k) → D.nx σ' H') → (∀ σ' Hf' H' Γ', B Γ' → Fin O Γ Hf Hf' H' σ' Γ' (n + k) → D.bk σ' H') →
    (∀ σ' Hf' H' Γ', C Γ' → Fin O Γ Hf Hf' H' σ' Γ' (n + k) → D.ct σ' H') → (∀ v σ' Hf' H' Γ' x, R x → rel O Γ' Hf' H' v x → Fin O Γ Hf Hf' H' σ' Γ' (n + k) → D.rt v H') → ts D σ H
/-- the promise of an error's __init__: its one attribute -/
def spErr (CN : Addr) (fld : Str) : Sp := fun vs H Q _ => ∃ (a : Addr) (w : V), vs = [.ref a, w] ∧ H a = some (exo a CN none) ∧ ∀ dx, H dx = none → dx ≠ a → Q .non (upd (upd H dx (exd dx [(fld, w)])) a (exo a CN (some dx)))
section
variable {O : Org} {Γ : Ctxt} {k k1 k2 k3 kk kn : Nat} {ρ α : Type} {t u : TS} {tt : TT} {te : TE} {rel : Rl ρ} {N N1 B C : Ctxt → Prop} {R : ρ → Prop} {c : Cod α} {P : α → Prop}
theorem HSO.le (h : HSO O t Γ k rel N B C R) (l : k ≤ k2) : HSO O t Γ k2 rel N B C R := fun n σ Hf H hn S D q1 q2 q3 q4 =>
  h n σ Hf H (by omega) S D (fun _ _ _ _ a f => q1 _ _ _ _ a (f.le (by omega))) (fun _ _ _ _ a f => q2 _ _ _ _ a (f.le (by omega))) (fun _ _ _ _ a f => q3 _ _ _ _ a (f.le (by omega))) fun _ _ _ _ _ _ a r f => q4 _ _ _ _ _ _ a r (f.le (by omega))
theorem hso_of (h : HSR t Γ k rel N B C R) : HSO O t Γ k rel N B C R := h O
theorem hso_seq (h1 : HSO O t Γ k1 rel N1 B C R) (h2 : ∀ Γ1, N1 Γ1 → HSO O u Γ1 k2 rel N B C R) : HSO O (tSeq t u) Γ (k1 + k2) rel N B C R := fun n σ Hf H hn S D q1 q2 q3 q4 =>
  h1 n σ Hf H (by omega) S { D with nx := u D } (fun σ1 Hf1 H1 Γ1 a f => h2 Γ1 a (n + k1) σ1 Hf1 H1 (by omega) f.sat D
      (fun _ _ _ _ b g => q1 _ _ _ _ b ⟨by rw [← Nat.add_assoc]; exact g.sat, f.bx.trans g.bx, f.ex.trans g.ex⟩) (fun _ _ _ _ b g => q2 _ _ _ _ b ⟨by rw [← Nat.add_assoc]; exact g.sat, f.bx.trans g.bx, f.ex.trans g.ex⟩)
      (fun _ _ _ _ b g => q3 _ _ _ _ b ⟨by rw [← Nat.add_assoc]; exact g.sat, f.bx.trans g.bx, f.ex.trans g.ex⟩) fun _ _ _ _ _ _ b r g => q4 _ _ _ _ _ _ b r ⟨by rw [← Nat.add_assoc]; exact g.sat, f.bx.trans g.bx, f.ex.trans g.ex⟩)
    (fun _ _ _ _ a f => q2 _ _ _ _ a (f.le (by omega))) (fun _ _ _ _ a f => q3 _ _ _ _ a (f.le (by omega))) fun _ _ _ _ _ _ a r f => q4 _ _ _ _ _ _ a r (f.le (by omega))
theorem hso_if {b : Bool → Prop} (ht : TDT tt Γ k1 b) (ha : b true → HSO O t Γ k2 rel N B C R) (hb : b false → HSO O u Γ k3 rel N B C R) : HSO O (tIfS tt t u) Γ (k1 + max k2 k3) rel N B C R := fun n σ Hf H hn S D q1 q2 q3 q4 =>
  ht O n σ Hf H (by omega) S _ fun d Hf1 H1 pd f1 S1 => by
    cases d with
    | true =>
      rw [if_pos rfl]
      exact (ha pd).le (Nat.le_max_left k2 k3) (n + k1) σ Hf1 H1 (by omega) S1 D (fun _ _ _ _ a f => q1 _ _ _ _ a ⟨by rw [← Nat.add_assoc]; exact f.sat, f.bx, f1.ex.trans f.ex⟩) (fun _ _ _ _ a f => q2 _ _ _ _ a ⟨by rw [← Nat.add_assoc]; exact f.sat, f.bx, f1.ex.trans f.ex⟩)
        (fun _ _ _ _ a f => q3 _ _ _ _ a ⟨by rw [← Nat.add_assoc]; exact f.sat, f.bx, f1.ex.trans f.ex⟩) fun _ _ _ _ _ _ a r f => q4 _ _ _ _ _ _ a r ⟨by rw [← Nat.add_assoc]; exact f.sat, f.bx, f1.ex.trans f.ex⟩
    | false =>
      rw [if_neg Bool.false_ne_true]
      exact (hb pd).le (Nat.le_max_right k2 k3) (n + k1) σ Hf1 H1 (by omega) S1 D (fun _ _ _ _ a f => q1 _ _ _ _ a ⟨by rw [← Nat.add_assoc]; exact f.sat, f.bx, f1.ex.trans f.ex⟩) (fun _ _ _ _ a f => q2 _ _ _ _ a ⟨by rw [← Nat.add_assoc]; exact f.sat, f.bx, f1.ex.trans f.ex⟩)
        (fun _ _ _ _ a f => q3 _ _ _ _ a ⟨by rw [← Nat.add_assoc]; exact f.sat, f.bx, f1.ex.trans f.ex⟩) fun _ _ _ _ _ _ a r f => q4 _ _ _ _ _ _ a r ⟨by rw [← Nat.add_assoc]; exact f.sat, f.bx, f1.ex.trans f.ex⟩
theorem hso_for {wi : TI} {g : TG} {kk : Nat} {X : List α → Prop} (I : List α → List α → Ctxt → Prop) (hw : TW wi Γ k c X) (h0 : ∀ xs, X xs → I xs [] Γ) (hk : ∀ xs, X xs → xs.length * kk ≤ kn)
    (hs : ∀ xs, X xs → ∀ pre x post Γ1, xs = pre ++ x :: post → I xs pre Γ1 → ∃ Γ2 is, GD g c x Γ1 Γ2 is ∧ HSO O t Γ2 kk rel (I xs (pre ++ [x])) N (I xs (pre ++ [x])) R)
    (hd : ∀ xs Γ1, X xs → I xs xs Γ1 → N Γ1) : HSO O (tFor wi g t) Γ (k + kn) rel N B C R := fun n σ Hf H hn S D q1 q2 q3 q4 =>
  hw O n σ Hf H (by omega) S _ fun J Hf1 H1 xs px W lb f1 S1 => by
    have hk' := hk xs px
    have kle : ∀ i, i ≤ xs.length → i * kk ≤ kn := fun i hi => Nat.le_trans (Nat.mul_le_mul_right kk hi) hk'
    refine ⟨fun i m σ' H' => m = xs.length - i ∧ i ≤ xs.length ∧ ∃ Γ1 Hfi, I xs (xs.take i) Γ1 ∧ Fin O Γ Hf1 Hfi H' σ' Γ1 (n + k + i * kk),
      ⟨xs.length, by simp, Nat.zero_le _, Γ, Hf1, by rw [List.take_zero]; exact h0 xs px, by rw [Nat.zero_mul]; exact S1, .refl, Ex.rfl'⟩, ?_⟩
    rintro i m σ' H' ⟨rfl, hi, Γ1, Hfi, hI, F⟩
    have hki := kle i hi
    by_cases hlt : i < xs.length
    · have hx : xs[i]? = some xs[i] := List.getElem?_eq_getElem hlt
      have hki1 := kle (i + 1) hlt
      rw [Nat.succ_mul] at hki1
      refine .inr ⟨W.go Hfi H' i F.ex F.sat.ex hlt, fun σ2 H2 => ∃ Γ2 Hf2, I xs (xs.take (i + 1)) Γ2 ∧ Fin O Γ Hf1 Hf2 H2 σ2 Γ2 (n + k + (i + 1) * kk), fun σ2 H2 ⟨Γ2, Hf2, a, b⟩ => ⟨xs.length - (i + 1), by omega, rfl, hlt, Γ2, Hf2, a, b⟩, fun v H2 hy => ?_⟩
      obtain ⟨Hf2, rx, fy, ey⟩ := W.yld Hfi H' i v H2 _ F.ex F.sat.ex hy hx
      have S2 : Sat O Hf2 H2 σ' Γ1 (n + k + i * kk) := F.sat.grow0 fy ey
      obtain ⟨Γ2, is, gd, hb⟩ := hs xs px (xs.take i) xs[i] (xs.drop (i + 1)) Γ1 (split_at hx) hI
      have en : n + k + i * kk + kk = n + k + (i + 1) * kk := by rw [Nat.succ_mul]; omega
      refine gd.2.2 O _ σ' Hf2 H2 v rx S2 _ fun σ3 S3 _ => ?_
      have up : ∀ {σ4 : Stt} {Hf4 H4 : Hp} {Γ4 : Ctxt}, Fin O Γ2 Hf2 Hf4 H4 σ4 Γ4 (n + k + i * kk + kk) → Fin O Γ Hf1 Hf4 H4 σ4 Γ4 (n + k + (i + 1) * kk) := fun {σ4 Hf4 H4 Γ4} f => ⟨by rw [← en]; exact f.sat, (F.bx.trans gd.1).trans f.bx, (F.ex.trans fy.ex).trans f.ex⟩
      have up2 : ∀ {σ4 : Stt} {Hf4 H4 : Hp} {Γ4 : Ctxt}, Fin O Γ2 Hf2 Hf4 H4 σ4 Γ4 (n + k + i * kk + kk) → Fin O Γ Hf Hf4 H4 σ4 Γ4 (n + (k + kn)) := fun {σ4 Hf4 H4 Γ4} f => ⟨(up f).sat.le (by rw [Nat.succ_mul]; omega), (up f).bx, f1.ex.trans (up f).ex⟩
      refine hb _ σ3 Hf2 H2 (by omega) S3 _ (fun σ4 Hf4 H4 Γ4 a f => ⟨Γ4, Hf4, by rw [take_snoc hx]; exact a, up f⟩) (fun σ4 Hf4 H4 Γ4 a f => q1 σ4 Hf4 H4 Γ4 a (up2 f)) (fun σ4 Hf4 H4 Γ4 a f => ⟨Γ4, Hf4, by rw [take_snoc hx]; exact a, up f⟩) (fun v4 σ4 Hf4 H4 Γ4 y a r f => q4 v4 σ4 Hf4 H4 Γ4 y a r (up2 f))
    · have e : i = xs.length := by omega
      subst e
      rw [List.take_length] at hI
      exact .inl ⟨W.stop Hfi H' F.ex F.sat.ex, q1 σ' Hfi H' Γ1 (hd xs Γ1 px hI) ⟨F.sat.le (by omega), F.bx, f1.ex.trans F.ex⟩⟩
/-- raise E(x) -/
theorem hso_raise {CN : Addr} {fld : Str} {W : WX} (h : TD te Γ k c P) (q : ∀ (n : Nat) (σ : Stt) (Hf' H' : Hp) (d : Addr) (v : V) (x : α), P x → Sat O Hf' H' σ Γ n → c.rep Hf' v x → H' d = some (.xd [(fld, v)]) → Hf' d = none → O.H d = none → W (.ref CN) (some d) σ H') :
    HSO O (fun _ σ H => tMkO CN (spErr CN fld) [] (tCons te tNil) σ H fun cls d H' => W cls d σ H') Γ k rel N B C R := fun n σ Hf H hn S D _ _ _ _ =>
  h O n σ Hf H hn S _ fun v Hf1 H1 x px rx f1 S1 => by
    refine ⟨by show 1 ≤ 1000; decide, fun a ha => ⟨a, v, rfl, upd_same, fun dx hdx ne => ⟨rfl, dx, [(fld, v)], upd_same, by rw [upd_ne ne, upd_same], ?_, ?_⟩⟩⟩
    · rw [upd_ne ne] at hdx; exact hdx
    · rw [upd_ne ne] at hdx
      have hf : Hf1 dx = none := S1.ex.back hdx
      have old : ∀ {z : Addr} {o : HO}, H1 z = some o → (upd (del (upd (upd (upd H1 a (exo a CN none)) dx (exd dx [(fld, v)])) a (exo a CN (some dx))) a) dx (.xd [(fld, v)])) z = some o := fun {z o} k => by
        have xa : z ≠ a := ne_of_none k ha
        have xd : z ≠ dx := ne_of_none k hdx
        rw [upd_ne xd, del_ne xa, upd_ne xa, upd_ne xd, upd_ne xa]; exact k
      refine q (n + k) σ Hf1 _ dx v x px (S1.grow0 ⟨Ex.rfl', fun z o hz _ => old hz, fun z o hz _ e => e, fun z hz => ?_⟩ fun z o hz => old (S1.ex z o hz)) rx upd_same hf (S1.fr.dom dx hdx)
      cases e : H1 z with
      | none => rfl
      | some o => rw [old e] at hz; cases hz
end
end DL

set_option Elab.async false
set_option linter.all false
set_option maxRecDepth 100000
set_option maxHeartbeats 4000000
namespace DL
open PySem PySem.Spec L2 PySem.SeqAt
/-! ## things that are known by where they stand -/
/-- the list at a -/
def pAt {α : Type} (c : Cod α) (a : Addr) (xs : List α) : OP := ⟨fun Hf b o => b = a ∧ ∃ vs, o = .lst vs ∧ Paired (c.rep Hf) vs xs ∧ vs.length ≤ LB, fun e ⟨h1, vs, h2, h3, h4⟩ => ⟨h1, vs, h2, paired_mono h3 (fun _ _ q => c.mono e q), h4⟩⟩
/-- data that are this value -/
def cAt {α : Type} (c : Cod α) (u : V) : Cod α := ⟨fun H v x => v = u ∧ c.rep H v x, fun e h => ⟨h.1, c.mono e h.2⟩⟩
section
variable {O : Org} {Hf H : Hp} {σ : Stt} {Γ : Ctxt} {n i : Nat} {α β : Type} {c : Cod α} {d : Cod β} {x : α} {y : β} {xs : List α}
theorem Sat.reslot (S : Sat O Hf H σ Γ n) {s s' : Sl} (h : Γ[i]? = some s) (ho : s'.own = s.own) (ok : SlOk Hf H n σ[i]? s') : Sat O Hf H σ (Γ.set i s') n where
  len := by rw [List.length_set]; exact S.len
  ex := S.ex
  at_ := fun j t ht => by
    rcases sget ht with ⟨z, z2⟩ | ⟨_, ht⟩
    · subst z z2; exact ok
    · exact S.at_ j t ht
  sep := fun j l sj sl a ne hj hl o1 o2 e => by
    rcases sget hj with ⟨z, z2⟩ | ⟨nj, hj'⟩
    · rcases sget hl with ⟨w, w2⟩ | ⟨nl, hl'⟩
      · exact absurd (z.trans w.symm) ne
      · subst z z2; rw [ho] at o1; exact S.sep _ l s sl a ne h hl' o1 o2 e
    · rcases sget hl with ⟨w, w2⟩ | ⟨nl, hl'⟩
      · subst w w2; rw [ho] at o2; exact S.sep j _ sj s a ne hj' h o1 o2 e
      · exact S.sep j l sj sl a ne hj' hl' o1 o2 e
  fr := S.fr
  mine := fun a ⟨j, t, ht, o, e⟩ => by
    rcases sget ht with ⟨z, z2⟩ | ⟨_, ht⟩
    · subst z z2; rw [ho] at o; exact S.mine a ⟨_, s, h, o, e⟩
    · exact S.mine a ⟨j, t, ht, o, e⟩
theorem slotAs (S : Sat O Hf H σ Γ n) (h : Γ[i]? = some (.d c x)) (hr : ∀ v, σ[i]? = some (some v) → c.rep Hf v x → d.rep Hf v y) : Sat O Hf H σ (Γ.set i (.d d y)) n := by
  obtain ⟨v, e, r⟩ := S.at_ i _ h
  exact S.reslot h rfl ⟨v, e, hr v e r⟩
theorem Sat.toR (S : Sat O Hf H σ Γ n) (h : Γ[i]? = some (.l c xs)) {a : Addr} (e : σ[i]? = some (some (.ref a))) : Sat O Hf H σ (Γ.set i (.r (pAt c a xs))) n := by
  obtain ⟨b, vs, h1, h2, h3, h4, h5⟩ := S.at_ i _ h
  rw [e] at h1
  injection h1 with h1; injection h1 with h1; injection h1 with h1
  subst h1
  exact S.reslot h rfl ⟨a, _, e, h2, h3, rfl, vs, rfl, h4, h5⟩
theorem Sat.unR (S : Sat O Hf H σ Γ n) {a : Addr} (h : Γ[i]? = some (.r (pAt c a xs))) : σ[i]? = some (some (.ref a)) ∧ Sat O Hf H σ (Γ.set i (.l c xs)) n := by
  obtain ⟨b, o, h1, h2, h3, h4, vs, h5, h6, h7⟩ := S.at_ i _ h
  subst h4 h5
  exact ⟨h1, S.reslot h rfl ⟨b, vs, h1, h2, h3, h6, h7⟩⟩
/-- a list is one of values -/
theorem Sat.toV (S : Sat O Hf H σ Γ n) (h : Γ[i]? = some (.l c xs)) : ∃ vs, vs.length = xs.length ∧ Sat O Hf H σ (Γ.set i (.l cV vs)) n := by
  obtain ⟨b, vs, h1, h2, h3, h4, h5⟩ := S.at_ i _ h
  have : ∀ {vs : List V} {xs : List α}, Paired (c.rep Hf) vs xs → Paired (cV.rep Hf) vs vs := by
    intro vs xs h
    induction h with
    | nil => exact .nil
    | cons _ _ ih => exact .cons rfl ih
  exact ⟨vs, paired_len h4, S.reslot h rfl ⟨b, vs, h1, h2, h3, this h4, h5⟩⟩
theorem get_set_self {s : Sl} (h : Γ[i]? = some s) (t : Sl) : (Γ.set i t)[i]? = some t := List.getElem?_set_self (List.getElem?_eq_some_iff.mp h).1
theorem set_set_self {s : Sl} (h : Γ[i]? = some s) (t : Sl) : (Γ.set i t).set i s = Γ := by
  rw [List.set_set]
  refine List.ext_getElem? fun j => ?_
  by_cases hj : i = j
  · subst hj; rw [get_set_self h, h]
  · rw [List.getElem?_set_ne hj]
theorem noBx_of {s : Sl} (h : Γ[i]? = some s) (hs : ∀ a, s ≠ .bx a) : NoBx Γ i := by
  unfold NoBx; rw [h]
  cases s with
  | bx a => exact absurd rfl (hs a)
  | un => trivial
  | d c x => trivial
  | l c x => trivial
  | r p => trivial
end
section
variable {Γ : Ctxt} {k i : Nat} {ρ α β : Type} {c : Cod α} {d : Cod β} {x : α} {y : β} {xs : List α} {t : TS} {te : TE} {tt : TT} {p : Po ρ}
/-- seen with another slot at i -/
theorem hs_re {s : Sl} (s' : Org → Hp → Hp → Stt → Sl → Prop) (h : Γ[i]? = some s) (hs : ∀ a, s ≠ .bx a) (r : ∀ O n σ Hf H, Sat O Hf H σ Γ n → ∃ z, (∀ a, z ≠ .bx a) ∧ Sat O Hf H σ (Γ.set i z) n ∧ HS t (Γ.set i z) k p) : HS t Γ k p := fun O n σ Hf H hn S D q1 q2 q3 q4 => by
  obtain ⟨z, hz, S', g⟩ := r O n σ Hf H S
  have bk : BxKeep Γ (Γ.set i z) := bxKeep_set (noBx_of h hs)
  exact g O n σ Hf H hn S' D (fun _ _ _ _ a f => q1 _ _ _ _ a ⟨f.sat, bk.trans f.bx, f.ex⟩) (fun _ _ _ _ a f => q2 _ _ _ _ a ⟨f.sat, bk.trans f.bx, f.ex⟩) (fun _ _ _ _ a f => q3 _ _ _ _ a ⟨f.sat, bk.trans f.bx, f.ex⟩) fun _ _ _ _ _ _ a r f => q4 _ _ _ _ _ _ a r ⟨f.sat, bk.trans f.bx, f.ex⟩
/-- a list of one's own by its place -/
theorem hs_name (h : Γ[i]? = some (.l c xs)) (g : ∀ a vs, vs.length = xs.length → HS t (Γ.set i (.r (pAt cV a vs))) k p) : HS t Γ k p :=
  hs_re (fun _ _ _ _ _ => True) h (fun _ z => nomatch z) fun O n σ Hf H S => by
    obtain ⟨vs, hl, S1⟩ := S.toV h
    obtain ⟨a, _, e, _⟩ := S.at_ i _ h
    have S2 := S1.toR (get_set_self h _) e
    rw [List.set_set] at S2
    exact ⟨.r (pAt cV a vs), (fun _ z => nomatch z), S2, g a vs hl⟩
/-- data by their value -/
theorem hs_nameD (h : Γ[i]? = some (.d c x)) (g : ∀ u, (∃ Hf, c.rep Hf u x) → HS t (Γ.set i (.d (cAt c u) x)) k p) : HS t Γ k p :=
  hs_re (fun _ _ _ _ _ => True) h (fun _ z => nomatch z) fun O n σ Hf H S => by
    obtain ⟨u, e, r⟩ := S.at_ i _ h
    exact ⟨.d (cAt c u) x, (fun _ z => nomatch z), S.reslot (s' := .d (cAt c u) x) h rfl ⟨u, e, rfl, r⟩, g u ⟨Hf, r⟩⟩
theorem hs_slot (h : Γ[i]? = some (.d c x)) (hr : ∀ Hf v, c.rep Hf v x → d.rep Hf v y) (g : HS t (Γ.set i (.d d y)) k p) : HS t Γ k p :=
  hs_re (fun _ _ _ _ _ => True) h (fun _ z => nomatch z) fun O n σ Hf H S => ⟨.d d y, (fun _ z => nomatch z), slotAs S h fun v _ r => hr _ v r, g⟩
theorem td_at {u : V} {P : α → Prop} (h : TD te Γ k (cAt c u) P) : TD te Γ k c P := h.conv fun _ _ x p r => ⟨x, p, r.2⟩
theorem td_val {u : V} {P : α → Prop} (h : TD te Γ k (cAt c u) P) : TD te Γ k cV (· = u) := h.conv fun _ _ _ _ r => ⟨u, rfl, r.1⟩
theorem td_varR {a : Addr} (h : Γ[i]? = some (.r (pAt c a xs))) : TD (tVar i) Γ 0 cV (· = .ref a) := fun O n σ Hf H _ S Q q => by
  obtain ⟨e, _⟩ := S.unR h
  exact ⟨.ref a, e, q (.ref a) Hf H (.ref a) rfl rfl Fr.refl S⟩
/-- while it is looked at it stays -/
theorem tdf_viewR {a : Addr} (h : Γ[i]? = some (.r (pAt c a xs))) {d : Cod β} (fl : NL d) {P : List β → Prop} (ht : TDF te (Γ.set i (.d (cAt (cList c) (.ref a)) xs)) k d P) : TDF te Γ k d P := fun O n σ Hf H hn S Q q => by
  obtain ⟨e, S0⟩ := S.unR h
  have g := get_set_self h (.l c xs)
  refine S0.viewN (m := n + k) g (Q := fun H => te σ H Q) fun Hf1 S1 back => ?_
  have e1 : (Γ.set i (.l c xs)).set i (.d (cList c) xs) = Γ.set i (.d (cList c) xs) := List.set_set _
  rw [e1] at S1 back
  have S1' := slotAs (d := cAt (cList c) (.ref a)) (y := xs) S1 (get_set_self h _) fun v ev r => ⟨by rw [e] at ev; exact (Option.some.inj (Option.some.inj ev)).symm, r⟩
  rw [List.set_set] at S1'
  refine ht O n σ Hf1 H hn S1' Q fun b vs Hf' H' ys py e1 e2 e3 e4 e5 f s => ?_
  have s' := slotAs (d := cList c) (y := xs) s (get_set_self h _) fun v _ r => r.2
  rw [List.set_set] at s'
  have bx : ∀ z, Bx (Γ.set i (.d (cAt (cList c) (.ref a)) xs)) z → Bx (Γ.set i (.d (cList c) xs)) z := fun z ⟨j, hj⟩ => by
    rcases sget hj with ⟨_, w⟩ | ⟨nj, hj⟩
    · cases w
    · exact ⟨j, by rw [List.getElem?_set_ne (Ne.symm nj)]; exact hj⟩
  obtain ⟨Hf2, nl, nn, F, S2⟩ := back Hf' H' (f.mono fun z hz => .inl (bx z hz)) s'
  have S3 := S2.toR g e
  rw [List.set_set] at S3
  have eΓ : Γ.set i (.r (pAt c a xs)) = Γ := by
    refine List.ext_getElem? fun j => ?_
    by_cases hj : i = j
    · subst hj; rw [get_set_self h, h]
    · rw [List.getElem?_set_ne hj]
  rw [eΓ] at S3
  refine q b vs Hf2 H' ys py e1 (nn b e2) e3 (paired_mono e4 fun _ _ r => fl _ _ _ _ nl r) e5 (F.mono fun z ⟨j, hj⟩ => .inl ?_) S3
  rcases sget hj with ⟨_, w⟩ | ⟨nj, hj⟩
  · cases w
  · exact ⟨j, hj⟩
theorem tt_viewR {a : Addr} (h : Γ[i]? = some (.r (pAt c a xs))) {P : Bool → Prop} (ht : TDT tt (Γ.set i (.d (cAt (cList c) (.ref a)) xs)) k P) : TDT tt Γ k P := fun O n σ Hf H hn S Q q => by
  obtain ⟨e, S0⟩ := S.unR h
  have g := get_set_self h (.l c xs)
  refine S0.viewN (m := n + k) g (Q := fun H => tt σ H Q) fun Hf1 S1 back => ?_
  have e1 : (Γ.set i (.l c xs)).set i (.d (cList c) xs) = Γ.set i (.d (cList c) xs) := List.set_set _
  rw [e1] at S1 back
  have S1' := slotAs (d := cAt (cList c) (.ref a)) (y := xs) S1 (get_set_self h _) fun v ev r => ⟨by rw [e] at ev; exact (Option.some.inj (Option.some.inj ev)).symm, r⟩
  rw [List.set_set] at S1'
  refine ht O n σ Hf1 H hn S1' Q fun b Hf' H' py f s => ?_
  have s' := slotAs (d := cList c) (y := xs) s (get_set_self h _) fun v _ r => r.2
  rw [List.set_set] at s'
  have bx : ∀ z, Bx (Γ.set i (.d (cAt (cList c) (.ref a)) xs)) z → Bx (Γ.set i (.d (cList c) xs)) z := fun z ⟨j, hj⟩ => by
    rcases sget hj with ⟨_, w⟩ | ⟨nj, hj⟩
    · cases w
    · exact ⟨j, by rw [List.getElem?_set_ne (Ne.symm nj)]; exact hj⟩
  obtain ⟨Hf2, nl, nn, F, S2⟩ := back Hf' H' (f.mono fun z hz => .inl (bx z hz)) s'
  have S3 := S2.toR g e
  rw [List.set_set] at S3
  have eΓ : Γ.set i (.r (pAt c a xs)) = Γ := by
    refine List.ext_getElem? fun j => ?_
    by_cases hj : i = j
    · subst hj; rw [get_set_self h, h]
    · rw [List.getElem?_set_ne hj]
  rw [eΓ] at S3
  refine q b Hf2 H' py (F.mono fun z ⟨j, hj⟩ => .inl ?_) S3
  rcases sget hj with ⟨_, w⟩ | ⟨nj, hj⟩
  · cases w
  · exact ⟨j, hj⟩
theorem hs_appendR {K : PySem.W.Frag} {a : Addr} {P : α → Prop} (h : Γ[i]? = some (.r (pAt c a xs))) (he : TD te Γ k c P) (lb : xs.length + 1 ≤ LB) (hp : ∀ y, P y → p.N (Γ.set i (.r (pAt c a (xs ++ [y]))))) :
    HS (tDrop (tBM K "list" rAppend (tVar i) (tCons te tNil))) Γ k p := fun O n σ Hf H hn S D q1 _ _ _ => by
  obtain ⟨b, o, h1, h2, h3, h4, vs, h5, h6, h7⟩ := S.at_ i _ h
  subst h4 h5
  refine ⟨.ref b, h1, .inl ⟨rfl, vs, SqL.of h2⟩, ?_⟩
  refine he O n σ Hf H hn S _ fun v Hf' H' y py ry f s => ?_
  obtain ⟨b', o', w1, w2, w3, w4, vs', w5, w6, w7⟩ := s.at_ i _ h
  subst w4 w5
  have hl := paired_len w6
  refine ⟨b', vs', v, rfl, rfl, w2, lb_lt w7, ?_⟩
  exact q1 σ Hf' _ _ (hp y py) ⟨s.wrR h w1 ⟨rfl, _, rfl, Paired.snoc w6 ry, by rw [List.length_append, List.length_singleton]; omega⟩, bxKeep_set (noBx_of h fun _ z => nomatch z), f.ex⟩
end
section
variable {S : Stc} {Γ : Ctxt} {k k1 k2 k3 : Nat} {α : Type} {c : Cod α} {P : List α → Prop} {te ta tb : TE} {tt : TT} {d a b : Expr} {pos : Pos}
theorem ph_appendR {ρ α : Type} {c : Cod α} {P : α → Prop} {p : Po ρ} {e : Expr} {pos' pos : Pos} {i : Nat} {x : Str} {xs : List α} {p1 p2 : Pos} {a : Addr} (hΓ : Γ[i]? = some (.r (pAt c a xs))) (he : PD S Γ k e c P) (lb : xs.length + 1 ≤ LB) (hp : ∀ y, P y → p.N (Γ.set i (.r (pAt c a (xs ++ [y]))))) (hN : S.N[i]? = some x) (hv : Vis S.sc x)
    (hfew : ∀ env : Env, ((backTo p2 (starEach [e] env)).all (fun x => !x.1) && (backToKw p2 (keywordEach [] env)).all (fun x => x.1.isSome) && decide ([e].length + ([] : List Keyword).length + (if ([] : List Keyword).isEmpty then 0 else 1) < 30)) = true)
    (hline : (p1.endLine == p2.line) = true) (hs : ∀ env : Env, starEach [e] env = (false, eval e env) :: starEach [] env) (hsw : ∀ env : Env, swapsWith (.Call (.Attribute (.Name x pos') "append" p1) [e] [] p2) none pos.line env = pure false) (hd : (x == ("__debug__" : Str)) = false := by decide) (hcd : (x == ("__classdict__" : Str)) = false := by decide) :
    PH S Γ k (.Expr (.Call (.Attribute (.Name x pos') "append" p1) [e] [] p2) pos) p :=
  ph_of (ts := tDrop (tBM S.K "list" rAppend (tVar i) (tCons (tE S e) tNil))) (fun X G => by
    rw [← G.K]
    exact ps_expr (pe_bm PySem.F.plainAttrs_list PySem.F.slot_list_append PySem.F.type_list_append mt_append (pe_slot G hN hv hd hcd) (pa_cons (tE_ok G) pa_nil (hs _)) rfl (hfew _) hline (hs _) rfl) (hsw _)) (hs_appendR hΓ he lb hp)
theorem pd_nameR {α : Type} {c : Cod α} {i : Nat} {x : Str} {xs : List α} {a : Addr} {pos : Pos} (hΓ : Γ[i]? = some (.r (pAt c a xs))) (hN : S.N[i]? = some x) (hv : Vis S.sc x) (hd : (x == ("__debug__" : Str)) = false := by decide) (hcd : (x == ("__classdict__" : Str)) = false := by decide) : PD S Γ 0 (.Name x pos) cV (· = .ref a) :=
  pd_of (fun X G => pe_slot G hN hv hd hcd) (td_varR hΓ)
theorem TDF.le' (h : TDF te Γ k c P) (l : k ≤ k2) : TDF te Γ k2 c P := fun O n σ Hf H hn S Q q => h O n σ Hf H (by omega) S Q fun a vs Hf' H' xs p1 e1 e2 e3 e4 e5 f s => q a vs Hf' H' xs p1 e1 e2 e3 e4 e5 f (s.le (by omega))
theorem tdf_if {q : Bool → Prop} (ht : TDT tt Γ k1 q) (ha : q true → TDF ta Γ k2 c P) (hb : q false → TDF tb Γ k3 c P) : TDF (tIf tt ta tb) Γ (k1 + max k2 k3) c P := fun O n σ Hf H hn S Q g =>
  ht O n σ Hf H (by omega) S _ fun d Hf1 H1 pd f1 S1 => by
    cases d with
    | true =>
      rw [if_pos rfl]
      exact ((ha pd).le' (Nat.le_max_left k2 k3)) O (n + k1) σ Hf1 H1 (by omega) S1 Q fun a vs Hf' H' xs p1 e1 e2 e3 e4 e5 f s => g a vs Hf' H' xs p1 e1 e2 (f1.dom a e3) e4 e5 (f1.trans f fun _ z => .inl z) (by rw [← Nat.add_assoc]; exact s)
    | false =>
      rw [if_neg Bool.false_ne_true]
      exact ((hb pd).le' (Nat.le_max_right k2 k3)) O (n + k1) σ Hf1 H1 (by omega) S1 Q fun a vs Hf' H' xs p1 e1 e2 e3 e4 e5 f s => g a vs Hf' H' xs p1 e1 e2 (f1.dom a e3) e4 e5 (f1.trans f fun _ z => .inl z) (by rw [← Nat.add_assoc]; exact s)
theorem pdf_if {q : Bool → Prop} (h : PDT S Γ k1 d q) (ha : q true → PDF S Γ k2 a c P) (hb : q false → PDF S Γ k3 b c P) : PDF S Γ (k1 + max k2 k3) (.IfExp d a b pos) c P :=
  pdf_of (fun X G => pe_ifExp (tT_ok G) (tE_ok G) (tE_ok G)) (tdf_if h ha hb)
end
/-! ## lists of the same values are alike -/
def okV : V → Prop
  | .byt _ => False
  | .flt _ => False
  | _ => True
theorem same_at {A : Around} {s : Shared} : ∀ {v : V} {u u' : Value}, okV v → RelV v u → RelV v u' → EqAt A s u u' true
  | .non, _, _, _, h, h' => by cases h; cases h'; exact EqAt.same _
  | .bl b, _, _, _, h, h' => by cases h; cases h'; exact EqAt.same _
  | .int i, _, _, _, h, h' => by
    obtain ⟨t, rfl⟩ := h
    obtain ⟨t', rfl⟩ := h'
    have := EqAt.int_int (A := A) (s := s) i t i t'
    rw [beq_self_eq_true] at this; exact this
  | .str x, _, _, _, h, h' => by
    obtain ⟨t, rfl⟩ := h
    obtain ⟨t', rfl⟩ := h'
    have := EqAt.str_str (A := A) (s := s) x t x t'
    rw [beq_self_eq_true] at this; exact this
  | .ref a, _, _, _, h, h' => by cases h; cases h'; exact EqAt.same _
  | .ty n, _, _, _, h, h' => by cases h; cases h'; exact EqAt.same _
def rSame (r : Bool) : R2 := fun x y H Q => ∃ (a b : Addr) (vs : List V), x = .ref a ∧ y = .ref b ∧ H a = some (.lst vs) ∧ H b = some (.lst vs) ∧ (∀ v ∈ vs, okV v) ∧ Q (.bl r) H
section
variable {X : Cx}
theorem same_all {A : Around} {s : Shared} {vs : List V} {us ws : List Value} (h : Vals vs us) (h' : Vals vs ws) (ok : ∀ v ∈ vs, okV v) : us.toArray.size = ws.toArray.size ∧ ∀ j (h1 : j < us.toArray.size) (h2 : j < ws.toArray.size), EqAt A s us.toArray[j] ws.toArray[j] true := by
  have l1 := h.length
  have l2 := h'.length
  refine ⟨by simp; omega, fun j h1 h2 => ?_⟩
  have hj : j < vs.length := by simp at h1; omega
  have g : vs[j]? = some vs[j] := List.getElem?_eq_getElem hj
  obtain ⟨u, e1, r1⟩ := h.get g
  obtain ⟨u', e2, r2⟩ := h'.get g
  have f1 : us.toArray[j] = u := by
    have := (List.getElem?_eq_some_iff.mp e1).2
    simpa using this
  have f2 : ws.toArray[j] = u' := by
    have := (List.getElem?_eq_some_iff.mp e2).2
    simpa using this
  rw [f1, f2]
  exact same_at (ok _ (List.getElem_mem hj)) r1 r2
theorem op_neSame (hu : X.A.units < cLine) : OpR X (compareOp .NotEq) (rSame false) := by
  intro pins s σ H x y v u Q I rx ry h
  obtain ⟨a, b, vs, rfl, rfl, ha, hb, ok, q⟩ := h
  obtain rfl : v = Value.ref a := rx
  obtain rfl : u = Value.ref b := ry
  obtain ⟨i1, r1, p1, _⟩ := I.list (SqL.of ha)
  obtain ⟨i2, r2, p2, _⟩ := I.list (SqL.of hb)
  obtain ⟨hsz, he⟩ := same_all (A := X.A.in1) (s := s) r1 r2 ok
  refine RcNeAt.lists (e := fun _ => true) p1.isList p2.isList hsz hu he X.prog X.w _ _ ?_
  have : (List.range i1.toArray.size).all (fun _ => true) = true := by simp
  rw [this]
  exact ⟨.bl false, H, I, rfl, q⟩
theorem op_eqSame (hu : X.A.units < cLine) : OpR X (compareOp .Eq) (rSame true) := by
  intro pins s σ H x y v u Q I rx ry h
  obtain ⟨a, b, vs, rfl, rfl, ha, hb, ok, q⟩ := h
  obtain rfl : v = Value.ref a := rx
  obtain rfl : u = Value.ref b := ry
  obtain ⟨i1, r1, p1, _⟩ := I.list (SqL.of ha)
  obtain ⟨i2, r2, p2, _⟩ := I.list (SqL.of hb)
  obtain ⟨hsz, he⟩ := same_all (A := X.A.in1) (s := s) r1 r2 ok
  refine RcAt.lists (e := fun _ => true) p1.isList p2.isList hsz hu he X.prog X.w _ _ ?_
  have : (List.range i1.toArray.size).all (fun _ => true) = true := by simp
  rw [this]
  exact ⟨.bl true, H, I, rfl, q⟩
theorem neSameG {S : Stc} : ∀ X, Good S X → OpR X (compareOp .NotEq) (rSame false) := fun X G => op_neSame (by have := G.room.un; omega)
theorem eqSameG {S : Stc} : ∀ X, Good S X → OpR X (compareOp .Eq) (rSame true) := fun X G => op_eqSame (by have := G.room.un; omega)
theorem paired_self {Hf : Hp} : ∀ {vs xs : List V}, Paired (cV.rep Hf) vs xs → vs = xs
  | _, _, .nil => rfl
  | _, _, .cons r t => by
    rw [paired_self t]
    have : _ = _ := r
    rw [this]
theorem rd_same {r : Bool} {vs : List V} (ok : ∀ v ∈ vs, okV v) : RD (rSame r) (cList cV) vs (cList cV) vs cBool (· = r) := fun Hf H v u e ⟨a, us, h1, h2, h3, _⟩ ⟨b, ws, g1, g2, g3, _⟩ Q q => by
  have e1 := paired_self h3
  have e2 := paired_self g3
  subst e1
  subst e2
  exact ⟨a, b, _, h1, g1, e _ _ h2, e _ _ g2, ok, q r Hf H (.bl r) rfl rfl Fr.refl e⟩
end
end DL

set_option Elab.async false
set_option linter.all false
set_option maxRecDepth 100000
set_option maxHeartbeats 4000000
namespace K07
open PySem PySem.Spec L2 DL
/-! ### the error InvalidChange -/
abbrev sIC : Stmt := inClass (top 7) 0
structure TIc (K : PySem.W.Frag) (mg : Str → Option Value) (CN B fI : Addr) (fdI : FuncData) : Prop where
  base : BaseI K mg "BillError" B
  T : OexC K CN
  E : ExcC K CN
  mgN : mg "InvalidChange" = some (.ref CN)
  iC : PySem.W.findIn K (.ref CN) "__init__" = some (some (.ref fI))
  tI : PySem.W.typeIn K (.ref fI) = some (.type "function")
  F : Fun K "__init__" "InvalidChange.__init__" sIC fI fdI
  noP : PySem.W.findIn K (.ref CN) "given" = some none
  xf : XfC K CN
  exm : PySem.W.exmOne K (.ref CN) (.ref CN) = some true
  isB : PySem.W.kitOne K (.ref CN) (.ref B) = some true
theorem ok_ic {P : Program} {w : World} {K : PySem.W.Frag} {mg : Str → Option Value} {base : Heap} {CN B fI : Addr} {fdI : FuncData} (T : TIc K mg CN B fI fdI) : FnOk P w K mg base CX0 1 fI fdI ["self", "given"] (spErr CN "given") := by
  refine T.F.ok (N := ["self", "given"]) ⟨rfl, rfl, rfl, by decide +kernel, rfl, by decide +kernel, by decide +kernel⟩ (fun vs H Q E h => ?_) (fun cdv A outer s H vs Q E hr h => ?_)
  · obtain ⟨a, w, rfl, _⟩ := h
    rfl
  · obtain ⟨a, w, rfl, ha, q⟩ := h
    refine ⟨_, pss_cons (ps_expr (pe_oinit (by rfl) T.base (pa_cons (pv 0) (pa_cons pe_str pa_nil)) (by decide) rfl rfl rfl) rfl) (pss_one (ps_ost (pv 0) (pv 1) rfl)), ?_⟩
    refine ⟨.ref a, rfl, a, CN, _, rfl, by simp, T.T, ha, ?_⟩
    refine ⟨w, rfl, .ref a, rfl, a, CN, rfl, T.T, T.noP, .inl ⟨ha, fun dx hd ne => q dx hd ne⟩⟩
/-! ### what is given as a change: one of the book, or not -/
def BadV (K : PySem.W.Frag) (C : Addr) (sz : List Int) (H : Hp) (v : V) : Prop :=
  (∃ (α : Type) (c : Cod α) (x : α) (t : Value), c.rep H v x ∧ TyC K c x t ∧ PySem.W.kitOne K t (.ref C) = some false) ∨ ∃ y, (cCh C).rep H v y ∧ (∀ r ∈ y, 0 ≤ r.1) ∧ sz.length ≤ 8 ∧ isofL y sz = false
def ArgOk (K : PySem.W.Frag) (C : Addr) (sz : List Int) (H : Hp) (v : V) : Bool → Prop
  | true => ∃ y, (cCh C).rep H v y ∧ OfB sz y
  | false => BadV K C sz H v
theorem ArgOk.mono {K : PySem.W.Frag} {C : Addr} {sz : List Int} {H H' : Hp} {v : V} (e : Ex H H') : ∀ {g : Bool}, ArgOk K C sz H v g → ArgOk K C sz H' v g
  | true, ⟨y, h1, h2⟩ => ⟨y, (cCh C).mono e h1, h2⟩
  | false, .inl ⟨α, c, x, t, h1, h2⟩ => .inl ⟨α, c, x, t, c.mono e h1, h2⟩
  | false, .inr ⟨y, h1, h2⟩ => .inr ⟨y, (cCh C).mono e h1, h2⟩
def cArg (K : PySem.W.Frag) (C : Addr) (sz : List Int) : Cod (Bool × V) := ⟨fun H v x => v = x.2 ∧ ArgOk K C sz H v x.1, fun e h => ⟨h.1, h.2.mono e⟩⟩
theorem td_cod {te : TE} {Γ : Ctxt} {k : Nat} {α : Type} {c d : Cod α} {P : α → Prop} (h : TD te Γ k c P) (hr : ∀ H v x, c.rep H v x → d.rep H v x) : TD te Γ k d P := fun O n σ Hf H hn S Q q => h O n σ Hf H hn S Q fun v Hf' H' x px r => q v Hf' H' x px (hr _ _ _ r)
def spUnX (K : PySem.W.Frag) (C CB CN : Addr) : Sp := fun vs H _ E => ∃ (sz : List Int) (g1 g2 : Bool) (v0 v1 v2 : V) (Hf : Hp), vs = [v0, v1, v2] ∧ Ex Hf H ∧ (cBk CB).rep Hf v0 sz ∧ ArgOk K C sz Hf v1 g1 ∧ ArgOk K C sz Hf v2 g2 ∧ (g1 && g2) = false ∧
  ∀ (d : Addr) (Hf' H' : Hp), H d = none → H' d = some (.xd [(("given" : Str), if g1 = true then v2 else v1)]) → Hf' d = none → Fr (fun _ => False) Hf H Hf' H' → Ex Hf' H' → E (.ref CN) (some d) H'
section
variable {P : Program} {w : World} {K : PySem.W.Frag} {mg : Str → Option Value} {base : Heap} {C CB CN B fI : Addr} {fdI : FuncData}
variable (U : Bt mg)
include U
theorem ok_unX {f : Addr} {fd : FuncData} (Fu : Fun K "unlike_at" "unlike_at" sUn f fd) (T : TCh K mg C) (TB : TBk K mg CB) (TN : TIc K mg CN B fI fdI) (M : MBoth P w K mg base C "is_of" "book" 3 (P_isof C CB)) : FnOk P w K mg base (L2.CX P w) 9 f fd ["book", "one", "other"] (spUnX K C CB CN) := by
  refine Fu.okX scUn (fun vs H Q E h => ?_) (fun cdv Ar outer s H vs Q E hr h => ?_)
  · obtain ⟨sz, g1, g2, v0, v1, v2, Hf, rfl, _⟩ := h
    rfl
  · obtain ⟨sz, g1, g2, v0, v1, v2, Hf, rfl, ex, r0, r1, r2, hg, q⟩ := h
    have G := cxGX (CX := L2.CX P w) (P := P) (w := w) (K := K) (mg := mg) (base := base) (qual := "unlike_at") (st := sUn) (f := f) (cdv := cdv) (A := Ar) (outer := outer) (s := s) (H := H) (E := E) (lv := 8) hr scUn.nd
    refine ⟨_, pss_cons (ps_for (passes_of rfl) rfl (pi_tup (PE.nox (tE_ok G))) (pg_name (i := 3) scUn.nd rfl (.inl rfl)) (pss_one (ps_if (PT.nox (tT_ok G)) (pss_one (ps_raise rfl (takes_of rfl rfl rfl rfl) (pmk_oex TN.T TN.iC TN.tI (ok_ic TN) (hr.mono (by decide)) (TN.F.binds (fun _ _ _ _ _ _ us hl => match us, hl with | [_, _], _ => rfl)) .nil pass0 (by rfl) TN.mgN (pa_cons (PE.nox (tE_ok G)) pa_nil)))) pss_nil))) (PSs.nox (tSs_ok G)), ?_⟩
    have S0 : Sat ⟨fun z' => Sl.bx z' ∈ ([.d (cBk CB) sz, .d (cArg K C sz) (g1, v1), .d (cArg K C sz) (g2, v2)] : Ctxt), Hf, H⟩ Hf H (start nUn [v0, v1, v2]) (entry nUn [.d (cBk CB) sz, .d (cArg K C sz) (g1, v1), .d (cArg K C sz) (g2, v2)]) 0 := sat_entry (show (3 : Nat) ≤ 7 by decide) ⟨r0, ⟨rfl, r1⟩, ⟨rfl, r2⟩, trivial⟩ trivial ex fun z hz => by simp at hz
    have e1 : ((start nUn [v0, v1, v2]) : Stt)[1]? = some (some v1) := rfl
    have e2 : ((start nUn [v0, v1, v2]) : Stt)[2]? = some (some v2) := rfl
    refine hso_seq (N1 := fun _ => False) (rel := rD cNon) (N := fun _ => False) (B := fun _ => False) (C := fun _ => False) (R := fun _ => False) (k1 := 0 + 0) (k2 := 0)
      (hso_for (c := cArg K C sz) (kk := 0) (kn := 0) (X := (· = [(g1, v1), (g2, v2)])) (fun _ pre Γ => (∀ g ∈ pre, g.1 = true) ∧ ∃ x, Γ = [.d (cBk CB) sz, .d (cArg K C sz) (g1, v1), .d (cArg K C sz) (g2, v2), x, .un, .un, .un] ∧ (x = .un ∨ ∃ (α : Type) (c : Cod α) (y : α), x = .d c y))
        (tw_tup (ptup (S := ⟨nUn, defScope sUn, K, mg, P, w, base, 8, fun _ => true, false⟩) (c := cArg K C sz) (xs := [(g1, v1), (g2, v2)]) (.cons (pd_name (i := 1) rfl rfl (.inl rfl)) (.cons (pd_name (i := 2) rfl rfl (.inl rfl)) .nil (fun _ => rfl)) (fun _ => rfl)) (by simp))) ?h0 ?hk ?hs ?hd) (fun _ z => z.elim) 0 _ Hf H (Nat.zero_le _) S0 _ (fun _ _ _ _ z _ => z.elim) (fun _ _ _ _ z _ => z.elim) (fun _ _ _ _ z _ => z.elim) fun _ _ _ _ _ _ z _ _ => z.elim
    case h0 => exact fun xs _ => ⟨fun _ h => (nomatch h), .un, rfl, .inl rfl⟩
    case hk => intro xs e; subst e; exact Nat.zero_le _
    case hd =>
      rintro xs Γ1 rfl ⟨h, _⟩
      rw [show g1 = true from h (g1, v1) (by simp), show g2 = true from h (g2, v2) (by simp)] at hg
      exact absurd hg (by decide)
    case hs =>
      rintro xs rfl pre x post Γ1 hx ⟨hpre, s3, rfl, h3⟩
      have nb : NoBx [.d (cBk CB) sz, .d (cArg K C sz) (g1, v1), .d (cArg K C sz) (g2, v2), s3, .un, .un, .un] 3 := by
        rcases h3 with rfl | ⟨_, _, _, rfl⟩ <;> trivial
      refine ⟨_, _, gd_name nb, ?_⟩
      show HSO _ _ [.d (cBk CB) sz, .d (cArg K C sz) (g1, v1), .d (cArg K C sz) (g2, v2), .d (cArg K C sz) x, .un, .un, .un] 0 _ _ _ _ _
      intro n σ Hf1 H1 hn S D q1 q2 q3 q4
      have back : ∀ {γ : Sl} {σ' : Stt} {Hf' H' : Hp} {Γ' : Ctxt} {m : Nat}, Fin ⟨fun z' => Sl.bx z' ∈ ([.d (cBk CB) sz, .d (cArg K C sz) (g1, v1), .d (cArg K C sz) (g2, v2)] : Ctxt), Hf, H⟩ [.d (cBk CB) sz, .d (cArg K C sz) (g1, v1), .d (cArg K C sz) (g2, v2), γ, .un, .un, .un] Hf1 Hf' H' σ' Γ' m →
          Fin ⟨fun z' => Sl.bx z' ∈ ([.d (cBk CB) sz, .d (cArg K C sz) (g1, v1), .d (cArg K C sz) (g2, v2)] : Ctxt), Hf, H⟩ [.d (cBk CB) sz, .d (cArg K C sz) (g1, v1), .d (cArg K C sz) (g2, v2), .d (cArg K C sz) x, .un, .un, .un] Hf1 Hf' H' σ' Γ' m := fun {γ σ' Hf' H' Γ' m} f => ⟨f.sat, fun i a hi => by
        match i, hi with
        | 0, hi => cases hi
        | 1, hi => cases hi
        | 2, hi => cases hi
        | 3, hi => cases hi
        | 4, hi => cases hi
        | 5, hi => cases hi
        | 6, hi => cases hi
        | i + 7, hi => simp at hi, f.ex⟩
      obtain ⟨v3, ev, eu, rv⟩ := S.at_ 3 _ rfl
      obtain ⟨g, u⟩ := x
      obtain rfl : v3 = u := eu
      have uniq : ∀ {v}, σ[3]? = some (some v) → v = v3 := fun {v} e => by rw [ev] at e; exact (Option.some.inj (Option.some.inj e)).symm
      cases g with
      | true =>
        obtain ⟨y, ry, hy⟩ := rv
        have S' : Sat _ Hf1 H1 σ [.d (cBk CB) sz, .d (cArg K C sz) (g1, v1), .d (cArg K C sz) (g2, v2), .d (cCh C) y, .un, .un, .un] n := slotAs S (i := 3) (d := cCh C) (y := y) rfl fun v e _ => by rw [uniq e]; exact ry
        refine (hso_if (k1 := 0) (k2 := 0) (k3 := 0) (pdt_w (tor (pdt_not (pdt_val (pisi rfl U.isinstance (pd_name (i := 3) rfl rfl (.inl rfl)) (nmOwn rfl T.k.mgC) (.own _) (ty_ins T.k.own) T.k.isC (fun _ => rfl)) (fun _ _ => rfl))) fun _ => (pdw_or1 (pdt_not (pdt_val (pm1 M.p T.k.cl (show (3 : Nat) ≤ 8 by decide) (pd_name (i := 3) rfl rfl (.inl rfl)) (pd_name (i := 0) rfl rfl (.inr (.inl rfl))) (hno_Ch (by decide +kernel)) ⟨hy.1, hy.2.1⟩ (fun _ => rfl) (fun _ => rfl) (fun _ => rfl)) (fun _ _ => rfl)))))) (fun h => ?_) fun _ => hso_of (hsr_next ?_)).le (by decide) n σ Hf1 H1 hn S' D (fun _ _ _ _ a f => q1 _ _ _ _ a (back f)) (fun _ _ _ _ a f => q2 _ _ _ _ a (back f)) (fun _ _ _ _ a f => q3 _ _ _ _ a (back f)) (fun _ _ _ _ _ _ a r f => q4 _ _ _ _ _ _ a r (back f))
        · exfalso
          have h5 : true = (!true || !isofL y sz) := h
          rw [hy.2.2] at h5
          exact absurd h5 (by decide)
        · refine ⟨fun g hg => ?_, .d (cCh C) y, rfl, .inr ⟨_, _, _, rfl⟩⟩
          rcases List.mem_append.mp hg with h | h
          · exact hpre g h
          · rw [List.mem_singleton.mp h]
      | false =>
        -- the one that is told of
        have ew : v3 = if g1 = true then v2 else v1 := by
          cases pre with
          | nil =>
            have e := (List.cons.inj hx).1
            obtain ⟨e1, e2⟩ := Prod.mk.inj e
            rw [← e2, e1]; rfl
          | cons a pre =>
            have e := (List.cons.inj hx)
            have ha := hpre a List.mem_cons_self
            rw [← e.1] at ha
            have hb : [(g2, v2)] = pre ++ (false, v3) :: post := e.2
            cases pre with
            | nil =>
              have e := (List.cons.inj hb).1
              rw [show g1 = true from ha, if_pos rfl]; exact (Prod.mk.inj e).2.symm
            | cons b pre => have := congrArg List.length hb; simp at this
        have tell : ∀ {α : Type} {c : Cod α} {x : α} {Γ2 : Ctxt} (n : Nat) (σ : Stt) (Hf' H' : Hp) (d : Addr) (v : V) (x' : α), x' = x → Sat ⟨fun z' => Sl.bx z' ∈ ([.d (cBk CB) sz, .d (cArg K C sz) (g1, v1), .d (cArg K C sz) (g2, v2)] : Ctxt), Hf, H⟩ Hf' H' σ Γ2 n → (cAt c v3).rep Hf' v x' → H' d = some (.xd [(("given" : Str), v)]) → Hf' d = none → H d = none → E (.ref CN) (some d) H' := fun {α c x Γ2} n σ Hf' H' d v x' _ S2 r hd hf h0 => by
          obtain ⟨rfl, _⟩ := r
          rw [ew] at hd
          exact q d Hf' H' h0 hd hf (S2.fr.mono fun z hz => by simp at hz) S2.ex
        rcases rv with ⟨α, c, x', t, hc, ht, hk⟩ | ⟨y, ry, h0, h8, hi⟩
        · have S' : Sat _ Hf1 H1 σ [.d (cBk CB) sz, .d (cArg K C sz) (g1, v1), .d (cArg K C sz) (g2, v2), .d (cAt c v3) x', .un, .un, .un] n := slotAs S (i := 3) (d := cAt c v3) (y := x') rfl fun v e _ => by rw [uniq e]; exact ⟨rfl, hc⟩
          refine (hso_if (k1 := 0) (k2 := 0) (k3 := 0) (pdt_w (tor (x := !false) (y := false) (pdt_not (pdt_val (pisi (ty := t) rfl U.isinstance (pd_name (i := 3) (c := cAt c v3) (y := x') rfl rfl (.inl rfl)) (nmOwn rfl T.k.mgC) (.own _) (fun H v h => ht H v h.2) hk (fun _ => rfl)) (fun _ _ => rfl))) fun h => absurd h (by decide))) (fun _ => hso_raise (c := cAt c v3) (P := (· = x')) (pd_name (S := ⟨nUn, defScope sUn, K, mg, P, w, base, 8, fun _ => true, false⟩) (i := 3) rfl rfl (.inl rfl)) (fun n σ Hf' H' d v x'' => tell n σ Hf' H' d v x'')) fun h => ?_).le (by decide) n σ Hf1 H1 hn S' D (fun _ _ _ _ a f => q1 _ _ _ _ a (back f)) (fun _ _ _ _ a f => q2 _ _ _ _ a (back f)) (fun _ _ _ _ a f => q3 _ _ _ _ a (back f)) (fun _ _ _ _ _ _ a r f => q4 _ _ _ _ _ _ a r (back f))
          exact absurd (show false = true from h) (by decide)
        · have S' : Sat _ Hf1 H1 σ [.d (cBk CB) sz, .d (cArg K C sz) (g1, v1), .d (cArg K C sz) (g2, v2), .d (cAt (cCh C) v3) y, .un, .un, .un] n := slotAs S (i := 3) (d := cAt (cCh C) v3) (y := y) rfl fun v e _ => by rw [uniq e]; exact ⟨rfl, ry⟩
          refine (hso_if (k1 := 0) (k2 := 0) (k3 := 0) (pdt_w (tor (pdt_not (pdt_val (pisi (c := cCh C) (x := y) rfl U.isinstance (td_cod (pd_name (i := 3) (c := cAt (cCh C) v3) (y := y) rfl rfl (.inl rfl)) fun _ _ _ h => h.2) (nmOwn rfl T.k.mgC) (.own _) (ty_ins T.k.own) T.k.isC (fun _ => rfl)) (fun _ _ => rfl))) fun _ => (pdw_or1 (pdt_not (pdt_val (pm1 M.p T.k.cl (show (3 : Nat) ≤ 8 by decide) (td_cod (pd_name (i := 3) (c := cAt (cCh C) v3) (y := y) rfl rfl (.inl rfl)) fun _ _ _ h => h.2) (pd_name (i := 0) rfl rfl (.inr (.inl rfl))) (hno_Ch (by decide +kernel)) ⟨h0, h8⟩ (fun _ => rfl) (fun _ => rfl) (fun _ => rfl)) (fun _ _ => rfl)))))) (fun _ => hso_raise (c := cAt (cCh C) v3) (P := (· = y)) (pd_name (S := ⟨nUn, defScope sUn, K, mg, P, w, base, 8, fun _ => true, false⟩) (i := 3) rfl rfl (.inl rfl)) (fun n σ Hf' H' d v x'' => tell n σ Hf' H' d v x'')) fun h => ?_).le (by decide) n σ Hf1 H1 hn S' D (fun _ _ _ _ a f => q1 _ _ _ _ a (back f)) (fun _ _ _ _ a f => q2 _ _ _ _ a (back f)) (fun _ _ _ _ a f => q3 _ _ _ _ a (back f)) (fun _ _ _ _ _ _ a r f => q4 _ _ _ _ _ _ a r (back f))
          exfalso
          have h5 : false = (!true || !isofL y sz) := h
          rw [hi] at h5
          exact absurd h5 (by decide)
end
end K07

set_option Elab.async false
set_option linter.all false
set_option maxRecDepth 100000
set_option maxHeartbeats 4000000
namespace K07
open PySem PySem.Spec L2 DL
/-! ### what is refused -/
structure CalX (P : Program) (w : World) (K : PySem.W.Frag) (mg : Str → Option Value) (base : Heap) (x : Str) (pn : List Str) (lv : Nat) (sp : Sp) : Prop where
  ex : ∃ f fd, FnOk P w K mg base (L2.CX P w) lv f fd pn sp ∧ mg x = some (.ref f) ∧ PySem.W.keepIn K (.ref f) = true ∧ Binds K fd pn []
abbrev sRf : Stmt := top 52
abbrev nRf : List Str := ["shelf", "first", "last", "e"]
theorem scRf : FnScope nRf ["shelf", "first", "last"] (defScope sRf) := ⟨rfl, rfl, rfl, by decide +kernel, rfl, by decide +kernel, by decide +kernel⟩
def spRefX (K : PySem.W.Frag) (C CB : Addr) : Sp := fun vs H Q _ => ∃ (sz : List Int) (g1 g2 : Bool) (v0 v1 v2 : V) (Hf : Hp), vs = [v0, v1, v2] ∧ Ex Hf H ∧ (cBk CB).rep Hf v0 sz ∧ ArgOk K C sz Hf v1 g1 ∧ ArgOk K C sz Hf v2 g2 ∧ (g1 && g2) = false ∧
  ∀ (l : Addr) (Hf' H' : Hp), H l = none → H' l = some (.lst [.bl true, if g1 = true then v2 else v1]) → Hf' l = none → Fr (fun _ => False) Hf H Hf' H' → Ex Hf' H' → Q (.ref l) H'
section
variable {P : Program} {w : World} {K : PySem.W.Frag} {mg : Str → Option Value} {base : Heap} {C CB CN B fI : Addr} {fdI : FuncData}
variable (U : Bt mg)
include U
theorem x_un (D : Def K mg "unlike_at" sUn) (T : TCh K mg C) (TB : TBk K mg CB) (TN : TIc K mg CN B fI fdI) (M : MBoth P w K mg base C "is_of" "book" 3 (P_isof C CB)) : CalX P w K mg base "unlike_at" ["book", "one", "other"] 9 (spUnX K C CB CN) := by
  obtain ⟨f, fd, Fu, hm⟩ := D.ex
  exact ⟨f, fd, ok_unX U Fu T TB TN M, hm, Fu.kp, Fu.binds (fun _ _ _ _ _ _ us hl => match us, hl with | [_, _, _], _ => rfl)⟩
theorem c_refX (D : Def K mg "_law_refused" sRf) (T : TCh K mg C) (TN : TIc K mg CN B fI fdI) (F : CalX P w K mg base "unlike_at" ["book", "one", "other"] 9 (spUnX K C CB CN)) : Cal P w K mg base "_law_refused" ["shelf", "first", "last"] 10 (spRefX K C CB) := by
  obtain ⟨g, fdg, OT, hmg, hkg, hbg⟩ := F.ex
  refine cal_of D (fun _ _ _ _ _ _ us hl => match us, hl with | [_, _, _], _ => rfl) fun f fd Fu => ?_
  refine Fu.ok scRf (fun vs H Q E h => ?_) (fun cdv Ar outer s H vs Q E hr h => ?_)
  · obtain ⟨sz, g1, g2, v0, v1, v2, Hf, rfl, _⟩ := h
    rfl
  · obtain ⟨sz, g1, g2, v0, v1, v2, Hf, rfl, ex, r0, r1, r2, hg, q⟩ := h
    refine ⟨_, pss_cons (ps_try_as (i := 3) rfl rfl scRf.nd rfl rfl ⟨rfl, by decide, .inl TN.mgN⟩ takes0
      (fun W pn xe tk _ => pss_one (ps_expr (pe_callS OT hr rfl hmg hkg hbg (fun σ => passAt tk σ) (pa_cons (pv 0) (pa_cons (pv 1) (pa_cons (pv 2) pa_nil)))) rfl))
      (fun a oe cls d pn hz hf => pss_one (ps_ret (pe_lst (pa_cons (pe_callB (call_isD hz hf) rfl U.isinstance (by decide +kernel) (pa_cons (pv 3) (pa_cons (show PE _ _ (tC (V.ref B)) from pe_glob rfl TN.base.mgB rfl (by decide)) pa_nil))) (pa_cons (pe_xf TN.xf TN.noP hz hf (pv 3)) pa_nil)))))) (pss_one (ps_ret pe_non)), ?_⟩
    refine ⟨v0, rfl, v1, rfl, v2, rfl, ?_⟩
    refine ⟨sz, g1, g2, v0, v1, v2, Hf, rfl, ex, r0, r1, r2, hg, fun d Hf' H' hd h1 h3 F e' => ?_⟩
    refine ⟨true, TN.exm, fun _ a ha => ?_, fun z => nomatch z⟩
    refine ⟨.ref a, rfl, CN, .ref B, .ref B, true, rfl, rfl, fun u hu => hu, TN.E, TN.isB, ⟨d, _, rfl, h1⟩, ?_⟩
    refine ⟨.ref a, rfl, rfl, rfl, d, _, (if g1 = true then v2 else v1), rfl, h1, rfl, by show 2 ≤ sizeLine; decide, fun p hp => ?_⟩
    refine q p Hf' _ (F.dom p hp) upd_same (e'.back hp) ⟨F.ex, fun x o hx hn => ?_, F.fz, fun x hx => ?_⟩ (e'.trans (Ex.new hp))
    · have k := F.keep x o hx hn
      rw [upd_ne (ne_of_none k hp)]; exact k
    · by_cases xp : x = p
      · subst xp; exact F.dom x hp
      · rw [upd_ne xp] at hx; exact F.dom x hx
/-- where nothing is refused -/
abbrev P_ref0 (C CB : Addr) : Sp := spP (fun (a : List Int × List R3 × List R3) => [.d (cBk CB) a.1, .d (cCh C) a.2.1, .d (cCh C) a.2.2]) (fun a => OfB a.1 a.2.1 ∧ OfB a.1 a.2.2 ∧ CanPre (a.2.1, a.2.2) ∧ CanPre (a.2.2, a.2.1)) cNon (fun _ => ())
omit U in
theorem c_ref0 (D : Def K mg "_law_refused" sRf) (C_un : Cal P w K mg base "unlike_at" ["book", "one", "other"] 9 (P_unlike C CB)) : Cal P w K mg base "_law_refused" ["shelf", "first", "last"] 10 (P_ref0 C CB) := by
  refine cal_D (N := nRf) D (fun _ _ _ _ _ _ us hl => match us, hl with | [_, _, _], _ => rfl) scRf (fun _ _ => rfl) (by decide) (fun _ _ => trivial) fun b a hp => ?_
  refine HS.ctx (Γ' := [.d (cBk CB) a.1, .d (cCh C) a.2.1, .d (cCh C) a.2.2, .un]) rfl ?_
  refine phs_cons (k1 := 0) (k2 := 0) (N1 := fun Γ => Γ = [.d (cBk CB) a.1, .d (cCh C) a.2.1, .d (cCh C) a.2.2, .un]) (ph_try_thru (bdrop (k := 0) (k2 := 0) (pcal3 C_un (show (9 : Nat) ≤ 9 by decide) rfl (pd_name (i := 0) rfl rfl (.inl rfl)) (pd_name (i := 1) rfl rfl (.inl rfl)) (pd_name (i := 2) rfl rfl (.inl rfl)) hp (fun _ => rfl) (fun _ => rfl) (fun _ => rfl) (fun _ => rfl)) (fun _ _ => rfl) (phs_nil rfl))) fun Γ1 e => ?_
  subst e
  exact bret pd_none fun x _ => rfl
end
end K07

set_option Elab.async false
set_option linter.all false
set_option maxRecDepth 100000
set_option maxHeartbeats 4000000
namespace K07
open PySem PySem.Spec L2 DL
/-! ### odd things -/
inductive Odd
  | non | seven | str | lst | tup | dic | tru | szs | ch (y : List R3)
instance : Inhabited Odd := ⟨.non⟩
def OddRep (C : Addr) (sz : List Int) (H : Hp) (v : V) : Odd → Prop
  | .non => v = .non
  | .seven => v = .int 7
  | .str => v = .str "0:0>1"
  | .lst => (cList cI3).rep H v [(0, 0, 1)]
  | .tup => cI3.rep H v (0, 0, 1)
  | .dic => ∃ a, v = .ref a ∧ H a = some (.dK [])
  | .tru => v = .bl true
  | .szs => (cList cInt).rep H v sz
  | .ch y => (cCh C).rep H v y
theorem OddRep.mono {C : Addr} {sz : List Int} {H H' : Hp} {v : V} (e : Ex H H') : ∀ {o : Odd}, OddRep C sz H v o → OddRep C sz H' v o
  | .non, h => h
  | .seven, h => h
  | .str, h => h
  | .lst, h => (cList cI3).mono e h
  | .tup, h => cI3.mono e h
  | .dic, ⟨a, h1, h2⟩ => ⟨a, h1, e _ _ h2⟩
  | .tru, h => h
  | .szs, h => (cList cInt).mono e h
  | .ch y, h => (cCh C).mono e h
def cOdd (C : Addr) (sz : List Int) : Cod Odd := ⟨fun H v o => OddRep C sz H v o, fun e h => h.mono e⟩
/-- an empty dict -/
def cD0 : Cod Unit := ⟨fun H v _ => ∃ a, v = .ref a ∧ H a = some (.dK []), fun e ⟨a, h1, h2⟩ => ⟨a, h1, e _ _ h2⟩⟩
def Odd.isL : Odd → Bool
  | .lst => true
  | .szs => true
  | _ => false
def Odd.ok (sz : List Int) : Odd → Prop
  | .ch y => (∀ r ∈ y, 0 ≤ r.1) ∧ sz.length ≤ 8 ∧ isofL y sz = false
  | _ => True
/-- what the classes of such things are -/
structure TOdd (K : PySem.W.Frag) (C : Addr) : Prop where
  n : PySem.W.kitOne K (.type "NoneType") (.ref C) = some false
  i : PySem.W.kitOne K (.type "int") (.ref C) = some false
  s : PySem.W.kitOne K (.type "str") (.ref C) = some false
  l : PySem.W.kitOne K (.type "list") (.ref C) = some false
  t : PySem.W.kitOne K (.type "tuple") (.ref C) = some false
  d : PySem.W.kitOne K (.type "dict") (.ref C) = some false
  b : PySem.W.kitOne K (.type "bool") (.ref C) = some false
  cl : PySem.W.kitOne K (.ref C) (.type "list") = some false
section
variable {K : PySem.W.Frag} {C : Addr} {sz : List Int}
theorem ty_non {u : Unit} : TyC K cNon u (.type "NoneType") := fun H v h => by obtain rfl := h; exact .base .non
theorem ty_D0 {u : Unit} : TyC K cD0 u (.type "dict") := fun H v ⟨a, h1, h2⟩ => by subst h1; exact .base (.dK h2)
theorem bad_of (T : TOdd K C) {o : Odd} {H : Hp} {v : V} (h : OddRep C sz H v o) (ok : o.ok sz) : BadV K C sz H v := by
  cases o with
  | non => exact .inl ⟨Unit, cNon, (), _, h, ty_non, T.n⟩
  | seven => exact .inl ⟨Int, cInt, 7, _, h, ty_int, T.i⟩
  | str => exact .inl ⟨Str, cStr, _, _, h, ty_str, T.s⟩
  | lst => exact .inl ⟨_, cList cI3, _, _, h, ty_list, T.l⟩
  | tup => exact .inl ⟨_, cI3, _, _, h, ty_t3, T.t⟩
  | dic => exact .inl ⟨Unit, cD0, (), _, h, ty_D0, T.d⟩
  | tru => exact .inl ⟨Bool, cBool, true, _, h, ty_bool, T.b⟩
  | szs => exact .inl ⟨_, cList cInt, _, _, h, ty_list, T.l⟩
  | ch y => exact .inr ⟨y, h, ok⟩
end
section
variable {P : Program} {w : World} {K : PySem.W.Frag} {mg : Str → Option Value} {base : Heap} {C CB : Addr}
/-- what is told where one is refused -/
abbrev P_refX (K : PySem.W.Frag) (C CB : Addr) : Sp := spFP (fun (a : List Int × (Bool × V) × (Bool × V)) => [.d (cBk CB) a.1, .d (cArg K C a.1) a.2.1, .d (cArg K C a.1) a.2.2]) (fun a => (a.2.1.1 && a.2.2.1) = false) cV (fun a => [.bl true, if a.2.1.1 = true then a.2.2.2 else a.2.1.2])
theorem c_refF (F : Cal P w K mg base "_law_refused" ["shelf", "first", "last"] 10 (spRefX K C CB)) : Cal P w K mg base "_law_refused" ["shelf", "first", "last"] 10 (P_refX K C CB) :=
  F.imp fun f fd h => h.imp fun vs H Q E z => by
    obtain ⟨⟨sz, ⟨g1, u1⟩, ⟨g2, u2⟩⟩, b, n, Hf, hg, _, ex, o, _, q⟩ := z
    match vs, o with
    | [v0, v1, v2], ⟨r0, ⟨e1, r1⟩, ⟨e2, r2⟩, _⟩ =>
    have e1 : v1 = u1 := e1
    have e2 : v2 = u2 := e2
    subst e1
    subst e2
    exact ⟨sz, g1, g2, v0, v1, v2, Hf, rfl, ex, r0, r1, r2, hg, fun l Hf' H' h0 h1 h2 F e' => q l _ Hf' H' _ rfl h1 h2 h0 (.cons rfl (.cons rfl .nil)) (by show 2 ≤ LB; decide) (F.mono fun _ z => z.elim) e' fun z hz => by simp at hz⟩
end
end K07

set_option Elab.async false
set_option linter.all false
set_option maxRecDepth 100000
set_option maxHeartbeats 4000000
namespace K07
open PySem PySem.Spec L2 DL
abbrev sRr : Stmt := top 53
abbrev nRr : List Str := ["box", "shelf", "sizes", "rows", "place", "strange", "odd", "row", "good", "turn", "given", "told", "line"]
theorem scRr : FnScope nRr ["box", "shelf", "sizes", "rows"] (defScope sRr) := ⟨rfl, rfl, rfl, by decide +kernel, rfl, by decide +kernel, by decide +kernel⟩
def forBody : Stmt → List Stmt
  | .For _ _ b _ _ => b
  | _ => []
abbrev bRr : List Stmt := forBody ((defBody sRr).getD 6 (.Pass ⟨0, 0, 0, 0⟩))
section
variable {S : Stc} {Γ : Ctxt} {C CB : Addr} {e1 e2 e3 : Expr} {pos pn : Pos} {sz : List Int} {g1 g2 : Bool} {u1 u2 : V}
theorem p_ref (F : Cal S.prog S.w S.K S.mg S.base "_law_refused" ["shelf", "first", "last"] 10 (P_refX S.K C CB)) (hl : 10 ≤ S.lv) (hg : S.sc.names.lookup ("_law_refused" : Str) = some .globalImplicit) (h1 : PD S Γ 0 e1 (cBk CB) (· = sz)) (h2 : PD S Γ 0 e2 (cArg S.K C sz) (· = (g1, u1))) (h3 : PD S Γ 0 e3 (cArg S.K C sz) (· = (g2, u2))) (hgg : (g1 && g2) = false)
    (he : ∀ env : Env, starEach [e1, e2, e3] env = (false, eval e1 env) :: starEach [e2, e3] env) (he2 : ∀ env : Env, starEach [e2, e3] env = (false, eval e2 env) :: starEach [e3] env) (he3 : ∀ env : Env, starEach [e3] env = (false, eval e3 env) :: starEach [] env) (hpl : ∀ env : Env, (backTo pos (starEach [e2, e3] env)).any (·.1) = false) {L : List V} (hL : [.bl true, if g1 = true then u2 else u1] = L) :
    PDF S Γ 0 (.Call (.Name "_law_refused" pn) [e1, e2, e3] [] pos) cV (· = L) :=
  pcalF (k1 := 0) (k2 := 0) F hl hg (pda_more (k1 := 0) (k2 := 0) h1 (pda_more (k1 := 0) (k2 := 0) h2 (pda_one h3 he3) he2) he) (fun as e => ⟨(sz, (g1, u1), (g2, u2)), 0, e, hgg, Nat.le_refl _, fun x e => e.trans hL⟩) he hpl
end
section
variable {P : Program} {w : World} {K : PySem.W.Frag} {mg : Str → Option Value} {base : Heap} {C CB : Addr}
variable (U : Bt mg)
include U
theorem body_data {α : Type} {c : Cod α} {x : α} {t : Value} {sz : List Int} {rows : List R3} {pl tn : Int} {st : List R3} {y : List R3} {ug : V} {b : Addr} (F : Cal P w K mg base "_law_refused" ["shelf", "first", "last"] 10 (P_refX K C CB))
    (ht : TyC K c x t) (hk : PySem.W.kitOne K t (.type "list") = some false) (hb : ∀ Hf v, c.rep Hf v x → BadV K C sz Hf v ∧ okV v) (hy : OfB sz y) (htn : tn = 0 ∨ tn = 1) {po : Po Bool} (hR : po.c = cBool)
    (hN : ∀ u, po.N [.bx b, .d (cBk CB) sz, .d (cList cInt) sz, .d (cList cI3) rows, .d cInt pl, .d (cList cI3) st, .d c x, .un, .d (cAt (cCh C) ug) y, .d cInt tn, .d (cAt c u) x, .l cV [.bl true, u], .un]) :
    PHs ⟨nRr, defScope sRr, K, mg, P, w, base, 10, fun _ => true, false⟩ [.bx b, .d (cBk CB) sz, .d (cList cInt) sz, .d (cList cI3) rows, .d cInt pl, .d (cList cI3) st, .d c x, .un, .d (cAt (cCh C) ug) y, .d cInt tn, .un, .un, .un] 0 bRr po := by
  refine HS.le (k := 0 + (0 + max 0 0 + (0 + 0 + (0 + 0 + 0)))) ?_ (by decide)
  refine bset (k := 0) (P := (· = x)) 10 ((pif (b' := false) (x := x) (y := x) (pdt_val (pisi (ty := t) rfl U.isinstance (pd_name (i := 6) rfl rfl (.inl rfl)) (nmTy rfl U.list (by decide +kernel)) (.ty _) ht hk (fun _ => rfl)) (fun _ _ => rfl)) (fun h => absurd h (by decide)) fun _ => pd_name (i := 6) rfl rfl (.inl rfl)).imp fun z e => e) trivial rfl (.inl rfl) (fun env he => by cases env; cases he; rfl) (.inl rfl) ?_
  intro x0 e0
  subst x0
  refine HS.ctx (Γ' := [.bx b, .d (cBk CB) sz, .d (cList cInt) sz, .d (cList cI3) rows, .d cInt pl, .d (cList cI3) st, .d c x, .un, .d (cAt (cCh C) ug) y, .d cInt tn, .d c x, .un, .un]) rfl ?_
  refine hs_nameD (i := 10) (c := c) (x := x) rfl fun u ⟨Hu, ru⟩ => ?_
  refine HS.ctx (Γ' := [.bx b, .d (cBk CB) sz, .d (cList cInt) sz, .d (cList cI3) rows, .d cInt pl, .d (cList cI3) st, .d c x, .un, .d (cAt (cCh C) ug) y, .d cInt tn, .d (cAt c u) x, .un, .un]) rfl ?_
  refine bsetL (k := 0 + max 0 0) (c := cV) (R := (· = [.bl true, u])) 11 (pdf_if (tcmp (fun _ _ => op_eq) (pd_name (i := 9) rfl rfl (.inl rfl)) (pd_int (i := 0)) rd_eqI (nomark _))
    (fun _ => (p_ref F (show (10 : Nat) ≤ 10 by decide) rfl (pd_name (i := 1) rfl rfl (.inl rfl)) (TD.conv (c2 := cArg K C sz) (P' := (· = (false, u))) (pd_name (i := 10) (c := cAt c u) (y := x) rfl rfl (.inl rfl)) fun H v z e r => ⟨_, rfl, r.1, (hb H v (e ▸ r.2)).1⟩) (TD.conv (c2 := cArg K C sz) (P' := (· = (true, ug))) (pd_name (i := 8) (c := cAt (cCh C) ug) (y := y) rfl rfl (.inl rfl)) fun H v z e r => ⟨_, rfl, r.1, z, r.2, by rw [e]; exact hy⟩) rfl (fun _ => rfl) (fun _ => rfl) (fun _ => rfl) (fun _ => rfl) rfl))
    (fun _ => (p_ref F (show (10 : Nat) ≤ 10 by decide) rfl (pd_name (i := 1) rfl rfl (.inl rfl)) (TD.conv (c2 := cArg K C sz) (P' := (· = (true, ug))) (pd_name (i := 8) (c := cAt (cCh C) ug) (y := y) rfl rfl (.inl rfl)) fun H v z e r => ⟨_, rfl, r.1, z, r.2, by rw [e]; exact hy⟩) (TD.conv (c2 := cArg K C sz) (P' := (· = (false, u))) (pd_name (i := 10) (c := cAt c u) (y := x) rfl rfl (.inl rfl)) fun H v z e r => ⟨_, rfl, r.1, (hb H v (e ▸ r.2)).1⟩) rfl (fun _ => rfl) (fun _ => rfl) (fun _ => rfl) (fun _ => rfl) rfl))) trivial rfl (.inl rfl) (fun env he => by cases env; cases he; rfl) (.inl rfl) ?_
  rintro _ rfl
  refine HS.ctx (Γ' := [.bx b, .d (cBk CB) sz, .d (cList cInt) sz, .d (cList cI3) rows, .d cInt pl, .d (cList cI3) st, .d c x, .un, .d (cAt (cCh C) ug) y, .d cInt tn, .d (cAt c u) x, .l cV [.bl true, u], .un]) rfl ?_
  refine phs_cons (k1 := 0 + max 0 0) (N1 := fun Γ => Γ = [.bx b, .d (cBk CB) sz, .d (cList cInt) sz, .d (cList cI3) rows, .d cInt pl, .d (cList cI3) st, .d c x, .un, .d (cAt (cCh C) ug) y, .d cInt tn, .d (cAt c u) x, .l cV [.bl true, u], .un]) (ph_if (k1 := 0) (k2 := 0) (k3 := 0) (pdt_val (pisi (ty := t) rfl U.isinstance (pd_name (i := 10) (c := cAt c u) (y := x) rfl rfl (.inl rfl)) (nmTy rfl U.list (by decide +kernel)) (.ty _) (fun H v h => ht H v h.2) hk (fun _ => rfl)) (fun _ _ => rfl)) (fun h => absurd (show true = false from h) (by decide)) fun _ => phs_nil rfl) ?_
  rintro _ rfl
  refine bifR (k1 := 0) (k2 := 0) (k3 := 0) (tt_view (i := 11) (c := cV) (xs := [.bl true, u]) rfl (tcmp neSameG (pd_name (i := 11) (c := cList cV) (y := [.bl true, u]) rfl rfl (.inl rfl)) (TDF.td (plst (c := cV) (xs := [.bl true, u]) (.cons (TD.conv (c2 := cV) (P' := (· = .bl true)) (pd_bool (i := true)) fun H v z e r => ⟨_, rfl, by rw [e] at r; exact r⟩) (.cons (td_val (pd_name (i := 10) (c := cAt c u) (y := x) rfl rfl (.inl rfl))) .nil (fun _ => rfl)) (fun _ => rfl)) (by simp))) (rd_same fun v hv => ?_) (nomark _))) (fun h => absurd (show true = false from h) (by decide)) fun _ => phs_nil (hN u)
  rcases List.mem_cons.mp hv with e | hv
  · rw [e]; trivial
  · rw [List.mem_singleton.mp hv]; exact (hb Hu u ru).2
theorem body_list {α : Type} {c : Cod α} {xs : List α} {sz : List Int} {rows : List R3} {pl tn : Int} {st : List R3} {y : List R3} {ug : V} {b : Addr} (F : Cal P w K mg base "_law_refused" ["shelf", "first", "last"] 10 (P_refX K C CB)) (TO : TOdd K C)
    (hl : xs.length < 1000) (hy : OfB sz y) {po : Po Bool} (hR : po.c = cBool)
    (hN : ∀ a vs, po.N [.bx b, .d (cBk CB) sz, .d (cList cInt) sz, .d (cList cI3) rows, .d cInt pl, .d (cList cI3) st, .d (cList c) xs, .un, .d (cAt (cCh C) ug) y, .d cInt tn, .r (pAt cV a vs), .l cV [.bl true, .ref a], .un]) :
    PHs ⟨nRr, defScope sRr, K, mg, P, w, base, 10, fun _ => true, false⟩ [.bx b, .d (cBk CB) sz, .d (cList cInt) sz, .d (cList cI3) rows, .d cInt pl, .d (cList cI3) st, .d (cList c) xs, .un, .d (cAt (cCh C) ug) y, .d cInt tn, .un, .un, .un] 0 bRr po := by
  refine HS.le (k := 0 + max 0 0 + (0 + max 0 0 + (0 + max 0 0 + (0 + 0 + 0)))) ?_ (by decide)
  refine bsetL (k := 0 + max 0 0) (c := c) (R := (· = xs)) 10 (pdf_if (q := (· = true)) (pdt_val (pisi (ty := .type "list") rfl U.isinstance (pd_name (i := 6) (c := cList c) (y := xs) rfl rfl (.inl rfl)) (nmTy (n := "list") rfl U.list (by decide +kernel)) (.ty "list") ty_list (kit_ty (by decide +kernel)) (fun _ => rfl)) (fun _ _ => rfl)) (fun _ => plist rfl U.list (TD.seqL (pd_name (i := 6) rfl rfl (.inl rfl))) (fun _ => rfl)) fun h => absurd (show false = true from h) (by decide)) trivial rfl (.inl rfl) (fun env he => by cases env; cases he; rfl) (.inl rfl) ?_
  intro x0 e0
  subst x0
  refine HS.ctx (Γ' := [.bx b, .d (cBk CB) sz, .d (cList cInt) sz, .d (cList cI3) rows, .d cInt pl, .d (cList cI3) st, .d (cList c) xs, .un, .d (cAt (cCh C) ug) y, .d cInt tn, .l c xs, .un, .un]) rfl ?_
  refine hs_name (i := 10) (c := c) (xs := xs) rfl fun a vs hvl => ?_
  refine HS.ctx (Γ' := [.bx b, .d (cBk CB) sz, .d (cList cInt) sz, .d (cList cI3) rows, .d cInt pl, .d (cList cI3) st, .d (cList c) xs, .un, .d (cAt (cCh C) ug) y, .d cInt tn, .r (pAt cV a vs), .un, .un]) rfl ?_
  refine bsetL (k := 0 + max 0 0) (c := cV) (R := (· = [.bl true, .ref a])) 11 (tdf_viewR (i := 10) (c := cV) (a := a) (xs := vs) rfl (fun _ _ _ _ _ r => r) (pdf_if (tcmp (fun _ _ => op_eq) (pd_name (i := 9) rfl rfl (.inl rfl)) (pd_int (i := 0)) rd_eqI (nomark _))
    (fun _ => (p_ref F (show (10 : Nat) ≤ 10 by decide) rfl (pd_name (i := 1) rfl rfl (.inl rfl)) (TD.conv (c2 := cArg K C sz) (P' := (· = (false, V.ref a))) (pd_name (i := 10) (c := cAt (cList cV) (V.ref a)) (y := vs) rfl rfl (.inl rfl)) fun H v z e r => ⟨_, rfl, r.1, .inl ⟨_, cList cV, z, _, r.2, ty_list, TO.l⟩⟩) (TD.conv (c2 := cArg K C sz) (P' := (· = (true, ug))) (pd_name (i := 8) (c := cAt (cCh C) ug) (y := y) rfl rfl (.inl rfl)) fun H v z e r => ⟨_, rfl, r.1, z, r.2, by rw [e]; exact hy⟩) rfl (fun _ => rfl) (fun _ => rfl) (fun _ => rfl) (fun _ => rfl) rfl))
    (fun _ => (p_ref F (show (10 : Nat) ≤ 10 by decide) rfl (pd_name (i := 1) rfl rfl (.inl rfl)) (TD.conv (c2 := cArg K C sz) (P' := (· = (true, ug))) (pd_name (i := 8) (c := cAt (cCh C) ug) (y := y) rfl rfl (.inl rfl)) fun H v z e r => ⟨_, rfl, r.1, z, r.2, by rw [e]; exact hy⟩) (TD.conv (c2 := cArg K C sz) (P' := (· = (false, V.ref a))) (pd_name (i := 10) (c := cAt (cList cV) (V.ref a)) (y := vs) rfl rfl (.inl rfl)) fun H v z e r => ⟨_, rfl, r.1, .inl ⟨_, cList cV, z, _, r.2, ty_list, TO.l⟩⟩) rfl (fun _ => rfl) (fun _ => rfl) (fun _ => rfl) (fun _ => rfl) rfl)))) trivial rfl (.inl rfl) (fun env he => by cases env; cases he; rfl) (.inl rfl) ?_
  rintro _ rfl
  refine HS.ctx (Γ' := [.bx b, .d (cBk CB) sz, .d (cList cInt) sz, .d (cList cI3) rows, .d cInt pl, .d (cList cI3) st, .d (cList c) xs, .un, .d (cAt (cCh C) ug) y, .d cInt tn, .r (pAt cV a vs), .l cV [.bl true, .ref a], .un]) rfl ?_
  refine phs_cons (k1 := 0 + max 0 0) (N1 := fun Γ => Γ = [.bx b, .d (cBk CB) sz, .d (cList cInt) sz, .d (cList cI3) rows, .d cInt pl, .d (cList cI3) st, .d (cList c) xs, .un, .d (cAt (cCh C) ug) y, .d cInt tn, .r (pAt cV a (vs ++ [.int 0])), .l cV [.bl true, .ref a], .un]) (ph_if (k1 := 0) (k2 := 0) (k3 := 0) (b' := (· = true)) (tt_viewR (i := 10) (c := cV) (a := a) (xs := vs) rfl (pdt_val (pisi (ty := .type "list") rfl U.isinstance (pd_name (i := 10) (c := cAt (cList cV) (.ref a)) (y := vs) rfl rfl (.inl rfl)) (nmTy (n := "list") rfl U.list (by decide +kernel)) (.ty "list") (fun H v h => ty_list H v h.2) (kit_ty (by decide +kernel)) (fun _ => rfl)) (fun _ _ => rfl))) (fun _ => phs_one (ph_appendR (i := 10) (c := cV) (a := a) (xs := vs) (P := (· = .int 0)) rfl (TD.conv (c2 := cV) (P' := (· = .int 0)) (pd_int (i := 0)) fun H v z e r => ⟨_, rfl, by rw [e] at r; exact r⟩) (by rw [hvl]; unfold DL.LB; omega) (fun y e => by rw [e]; rfl) rfl (.inl rfl) (fun _ => rfl) rfl (fun _ => rfl) (fun _ => rfl))) fun h => absurd (show false = true from h) (by decide)) ?_
  rintro _ rfl
  refine bifR (k1 := 0) (k2 := 0) (k3 := 0) (tt_view (i := 11) (c := cV) (xs := [.bl true, .ref a]) rfl (tcmp neSameG (pd_name (i := 11) (c := cList cV) (y := [.bl true, .ref a]) rfl rfl (.inl rfl)) (TDF.td (plst (c := cV) (xs := [.bl true, .ref a]) (.cons (TD.conv (c2 := cV) (P' := (· = .bl true)) (pd_bool (i := true)) fun H v z e r => ⟨_, rfl, by rw [e] at r; exact r⟩) (.cons (pd_nameR (i := 10) (c := cV) (a := a) (xs := vs ++ [.int 0]) rfl rfl (.inl rfl)) .nil (fun _ => rfl)) (fun _ => rfl)) (by simp))) (rd_same fun v hv => ?_) (nomark _))) (fun h => absurd (show true = false from h) (by decide)) fun _ => phs_nil (hN a _)
  rcases List.mem_cons.mp hv with e | hv
  · rw [e]; trivial
  · rw [List.mem_singleton.mp hv]; trivial
end
end K07

set_option Elab.async false
set_option linter.all false
set_option maxRecDepth 100000
set_option maxHeartbeats 4000000
namespace K07
open PySem PySem.Spec L2 DL
/-! ### refusals -/
def Odd.plain : Odd → Prop
  | .ch _ => False
  | _ => True
theorem Odd.plain.ok {o : Odd} (h : o.plain) (sz : List Int) : o.ok sz := by cases o <;> first | trivial | exact h.elim
def oddL : List Odd := [.non, .seven, .str, .lst, .tup, .dic, .tru, .szs]
theorem oddL_plain {i : Nat} (h : i < 8) : (oddL.getD i default).plain := by
  match i, h with
  | 0, _ => trivial
  | 1, _ => trivial
  | 2, _ => trivial
  | 3, _ => trivial
  | 4, _ => trivial
  | 5, _ => trivial
  | 6, _ => trivial
  | 7, _ => trivial
def strL (sz : List Int) (p : Int) : List R3 := ([(p, 0, atT sz p), (p, atT sz p, 0), ((sz.length : Int), 0, 1)] : List R3).filter fun r => decide (r.1 < 8) && decide (max r.2.1 r.2.2 < 6)
theorem str_len (sz : List Int) (p : Int) : (strL sz p).length ≤ 3 := List.length_filter_le _ _
theorem str_row {sz : List Int} (hp : Pl sz) {p : Int} (h : 0 ≤ p ∧ p < (sz.length : Int)) {r : R3} (hr : r ∈ strL sz p) : rowOk r = true ∧ isofL [r] sz = false := by
  have hs := sz_at hp h
  have h8 := hp.1.2
  obtain ⟨h1, h2⟩ := List.mem_filter.mp hr
  rw [Bool.and_eq_true, decide_eq_true_eq, decide_eq_true_eq] at h2
  have key : (0 ≤ r.1 ∧ 0 ≤ r.2.1 ∧ 0 ≤ r.2.2) ∧ ¬ (r.1 < (sz.length : Int) ∧ max r.2.1 r.2.2 < atT sz r.1) := by
    rcases List.mem_cons.mp h1 with e | h1
    · subst e; exact ⟨⟨h.1, by show (0 : Int) ≤ 0; omega, by show 0 ≤ atT sz p; omega⟩, fun q => by have : max 0 (atT sz p) < atT sz p := q.2; omega⟩
    · rcases List.mem_cons.mp h1 with e | h1
      · subst e; exact ⟨⟨h.1, by show 0 ≤ atT sz p; omega, by show (0 : Int) ≤ 0; omega⟩, fun q => by have : max (atT sz p) 0 < atT sz p := q.2; omega⟩
      · rw [List.mem_singleton.mp h1]; exact ⟨⟨by show (0 : Int) ≤ sz.length; omega, by show (0 : Int) ≤ 0; omega, by show (0 : Int) ≤ 1; omega⟩, fun q => by have : (sz.length : Int) < sz.length := q.1; omega⟩
  refine ⟨rowOk_iff.mpr ⟨⟨key.1.1, h2.1⟩, ⟨key.1.2.1, by omega⟩, key.1.2.2, by omega⟩, ?_⟩
  unfold isofL
  rw [List.all_cons]
  cases e : (decide (r.1 < (sz.length : Int)) && decide (max r.2.1 r.2.2 < atT sz r.1)) with
  | false => rfl
  | true =>
    rw [Bool.and_eq_true, decide_eq_true_eq, decide_eq_true_eq] at e
    exact absurd e key.2
/-- the rows with a strange one in place of another -/
def oddRows (rows : List R3) (r : R3) : List R3 := (rows.filter fun l => !decide (l.1 = r.1)) ++ [r]
theorem oddRows_ok {sz : List Int} (hp : Pl sz) {rows : List R3} (ho : Of sz rows) {r : R3} (hr : rowOk r = true) (hi : isofL [r] sz = false) : Rows (oddRows rows r) ∧ Odd.ok sz (.ch (sort3 (oddRows rows r))) := by
  have R1 := ho.rows hp
  have R2 : Rows (oddRows rows r) := by
    refine rows_mk (fun q hq => ?_) ?_
    · rcases List.mem_append.mp hq with h | h
      · exact R1.1 q (List.mem_filter.mp h).1
      · rw [List.mem_singleton.mp h]; exact hr
    · unfold oddRows
      rw [List.map_append, List.nodup_append]
      refine ⟨(List.Sublist.map _ List.filter_sublist).nodup ho.nd, by simp, fun a ha b hb e => ?_⟩
      obtain ⟨q, hq, eq⟩ := List.mem_map.mp ha
      have := (List.mem_filter.mp hq).2
      rw [List.map_singleton, List.mem_singleton] at hb
      rw [← eq] at e
      rw [e, hb] at this
      simp at this
  refine ⟨R2, fun q hq => (rowOk_iff.mp (R2.sort.1 q hq)).1.1, hp.1.2, ?_⟩
  have hm : r ∈ sort3 (oddRows rows r) := (sort3_perm _).mem_iff.mpr (List.mem_append_right _ List.mem_cons_self)
  cases e : isofL (sort3 (oddRows rows r)) sz with
  | false => rfl
  | true =>
    unfold isofL at e hi
    have := List.all_eq_true.mp e r hm
    rw [List.all_cons, this] at hi
    exact absurd hi (by simp)
section
variable {S : Stc} {Γ : Ctxt} {pos : Pos}
theorem pd_D0 (C : Addr) (sz : List Int) : PD S Γ 0 (.Dict [] [] pos) (cOdd C sz) (· = .dic) := pd_of (fun X G => pe_dnewK) fun O n σ Hf H hn s Q q p hp =>
  q (.ref p) (upd Hf p (.dK [])) _ .dic rfl ⟨p, rfl, upd_same⟩ (Fr.new s.ex hp) (s.new hp)
end
section
variable {P : Program} {w : World} {K : PySem.W.Frag} {mg : Str → Option Value} {base : Heap} {C CB : Addr}
variable (U : Bt mg)
include U
abbrev P_refr (CB : Addr) : Sp := spD (fun b (a : List Int × List R3) => [.bx b, .d (cBk CB) a.1, .d (cList cInt) a.1, .d (cList cI3) a.2]) (fun _ => 4) (fun a => Pl a.1 ∧ Of a.1 a.2) cBool (fun _ x => x = true)
theorem c_refr (U3 : Bt3 mg) (D : Def K mg "_law_refusals_right" sRr) (T : TCh K mg C) (TB : TBk K mg CB) (TO : TOdd K C) (I : ICal P w K mg base C ["self", "rows"] 5 (P_init C)) (C_take : Cal P w K mg base "_law_take" ["box", "many"] 1 spTake)
    (F : Cal P w K mg base "_law_refused" ["shelf", "first", "last"] 10 (P_refX K C CB)) (F0 : Cal P w K mg base "_law_refused" ["shelf", "first", "last"] 10 (P_ref0 C CB)) : Cal P w K mg base "_law_refusals_right" ["box", "shelf", "sizes", "rows"] 11 (P_refr CB) := by
  refine cal_D (N := nRr) D (fun _ _ _ _ _ _ us hl => match us, hl with | [_, _, _, _], _ => rfl) scRr (fun _ _ => rfl) (by decide) (fun _ _ => trivial) fun b a hp => ?_
  obtain ⟨sz, rows⟩ := a
  obtain ⟨hsz, hof⟩ := hp
  have hsz : Pl sz := hsz
  have hof : Of sz rows := hof
  have h8 := hsz.1.2
  have h1 := hsz.1.1
  refine HS.ctx (Γ' := [.bx b, .d (cBk CB) sz, .d (cList cInt) sz, .d (cList cI3) rows, .un, .un, .un, .un, .un, .un, .un, .un, .un]) rfl ?_
  refine HS.le (k := 0 + 1 + (0 + (0 + (0 + 1 + (0 + (1 + 0) + max (0 + 1 + (0 + 0)) 0 + (0 + (0 + 0 + 0))))))) ?_ (by decide)
  refine bset (k := 0 + 1) (P := fun x => 0 ≤ x ∧ x < (sz.length : Int)) 4 (ptake C_take (show (1 : Nat) ≤ 10 by decide) rfl (i := 0) rfl rfl (.inl rfl) (plen rfl U.len (TD.seqL (pd_name (i := 2) rfl rfl (.inl rfl))) (fun _ => rfl)) (by omega) (fun _ => rfl) (fun _ => rfl) (fun _ => rfl)) trivial rfl (.inl rfl) (fun env he => by cases env; cases he; rfl) (.inl rfl) ?_
  intro pl hpl
  have hpl : 0 ≤ pl ∧ pl < (sz.length : Int) := hpl
  refine HS.ctx (Γ' := [.bx b, .d (cBk CB) sz, .d (cList cInt) sz, .d (cList cI3) rows, .d cInt pl, .un, .un, .un, .un, .un, .un, .un, .un]) rfl ?_
  refine bset (k := 0) (P := (· = [(pl, 0, atT sz pl), (pl, atT sz pl, 0), ((sz.length : Int), 0, 1)])) 5 (TDF.td (plst (c := cI3) (xs := [(pl, 0, atT sz pl), (pl, atT sz pl, 0), ((sz.length : Int), 0, 1)]) (.cons (pt3 (pd_name (i := 4) rfl rfl (.inl rfl)) (pd_int (i := 0)) (pix ixLG (pd_name (i := 2) rfl rfl (.inl rfl)) (pd_name (i := 4) rfl rfl (.inl rfl)) (rd_ixLd hpl) (fun _ _ => rfl)) (fun _ => rfl) (fun _ => rfl) (fun _ => rfl)) (.cons (pt3 (pd_name (i := 4) rfl rfl (.inl rfl)) (pix ixLG (pd_name (i := 2) rfl rfl (.inl rfl)) (pd_name (i := 4) rfl rfl (.inl rfl)) (rd_ixLd hpl) (fun _ _ => rfl)) (pd_int (i := 0)) (fun _ => rfl) (fun _ => rfl) (fun _ => rfl)) (.cons (pt3 (plen rfl U.len (TD.seqL (pd_name (i := 2) rfl rfl (.inl rfl))) (fun _ => rfl)) (pd_int (i := 0)) (pd_int (i := 1)) (fun _ => rfl) (fun _ => rfl) (fun _ => rfl)) .nil (fun _ => rfl)) (fun _ => rfl)) (fun _ => rfl)) (by simp))) trivial rfl (.inl rfl) (fun env he => by cases env; cases he; rfl) (.inl rfl) ?_
  intro s0 e0
  refine HS.ctx (Γ' := [.bx b, .d (cBk CB) sz, .d (cList cInt) sz, .d (cList cI3) rows, .d cInt pl, .d (cList cI3) s0, .un, .un, .un, .un, .un, .un, .un]) rfl ?_
  refine bsetLc (k := 0) 5 [("row", 7)] (tdf_lcT (f := fun r : R3 => r) (q := fun r : R3 => decide (r.1 < 8) && decide (max r.2.1 r.2.2 < 6)) (pdi_list (pd_name (i := 5) rfl rfl (.inl rfl))) trivial fun x hx => ⟨_, _, (pdg_name (i := 7) trivial rfl (.inl rfl) (.inr rfl)), (fun _ h => h), (tts_one (pdt_w (tand (tcmp (fun _ _ => op_lt) (pix ixTG (pd_name (i := 7) rfl rfl (.inl rfl)) pd_int rd_ix3_0 (fun _ _ => rfl)) (pd_int (i := 8)) rd_B0 (nomark _)) fun _ => pdw_and1 (tcmp (fun _ _ => op_lt) (pmaxT rfl U3.max (ptail3 (pd_name (i := 7) rfl rfl (.inl rfl))) (fun _ => rfl)) (pd_int (i := 6)) rd_B0 (nomark _))))), fun hq => (pd_name (i := 7) rfl rfl (.inl rfl))⟩) trivial rfl rfl rfl rfl rfl (by kernel_rfl) (fun _ _ => rfl) ?_
  intro st est
  have est : st = strL sz pl := by rw [est, e0, List.map_id']; rfl
  refine HS.ctx (Γ' := [.bx b, .d (cBk CB) sz, .d (cList cInt) sz, .d (cList cI3) rows, .d cInt pl, .d (cList cI3) st, .un, .un, .un, .un, .un, .un, .un]) rfl ?_
  refine bset (k := 0 + 1) (P := Odd.plain) 6 (pd_ixR (k1 := 0) (k2 := 1) (P3 := Odd.plain) ixLG (TDF.td (plst (c := cOdd C sz) (xs := oddL) (.cons (TD.conv (c2 := cOdd C sz) (P' := (· = .non)) pd_none fun H v z e r => ⟨_, rfl, r⟩) (.cons (TD.conv (c2 := cOdd C sz) (P' := (· = .seven)) (pd_int (i := 7)) fun H v z e r => ⟨_, rfl, by rw [e] at r; exact r⟩) (.cons (TD.conv (c2 := cOdd C sz) (P' := (· = .str)) pd_str fun H v z e r => ⟨_, rfl, by rw [e] at r; exact r⟩) (.cons (TD.conv (c2 := cOdd C sz) (P' := (· = .lst)) (TDF.td (plst (c := cI3) (xs := [(0, 0, 1)]) (.cons (pt3 (pd_int (i := 0)) (pd_int (i := 0)) (pd_int (i := 1)) (fun _ => rfl) (fun _ => rfl) (fun _ => rfl)) .nil (fun _ => rfl)) (by simp))) fun H v z e r => ⟨_, rfl, by rw [e] at r; exact r⟩) (.cons (TD.conv (c2 := cOdd C sz) (P' := (· = .tup)) (pt3 (pd_int (i := 0)) (pd_int (i := 0)) (pd_int (i := 1)) (fun _ => rfl) (fun _ => rfl) (fun _ => rfl)) fun H v z e r => ⟨_, rfl, by rw [e] at r; exact r⟩) (.cons (pd_D0 C sz) (.cons (TD.conv (c2 := cOdd C sz) (P' := (· = .tru)) (pd_bool (i := true)) fun H v z e r => ⟨_, rfl, by rw [e] at r; exact r⟩) (.cons (TD.conv (c2 := cOdd C sz) (P' := (· = .szs)) (TDF.td (plist rfl U.list (TD.seqL (pd_name (i := 2) rfl rfl (.inl rfl))) (fun _ => rfl))) fun H v z e r => ⟨_, rfl, by rw [e] at r; exact r⟩) .nil (fun _ => rfl)) (fun _ => rfl)) (fun _ => rfl)) (fun _ => rfl)) (fun _ => rfl)) (fun _ => rfl)) (fun _ => rfl)) (fun _ => rfl)) (by decide))) (ptake C_take (show (1 : Nat) ≤ 10 by decide) rfl (i := 0) rfl rfl (.inl rfl) (pd_int (i := 8)) (by decide) (fun _ => rfl) (fun _ => rfl) (fun _ => rfl)) (fun x i hx hi => by
    subst x
    have hi : 0 ≤ i ∧ i < 8 := hi
    exact fun Hf H v u e h1 h2 Q q => rd_ixLd (show 0 ≤ i ∧ i < (oddL.length : Int) from hi) Hf H v u e h1 h2 Q fun z Hf' H' w pz => q z Hf' H' w (by rw [pz]; exact oddL_plain (show i.toNat < 8 by omega))) (fun _ _ => rfl)) trivial rfl (.inl rfl) (fun env he => by cases env; cases he; rfl) (.inl rfl) ?_
  intro od hod
  refine HS.ctx (Γ' := [.bx b, .d (cBk CB) sz, .d (cList cInt) sz, .d (cList cI3) rows, .d cInt pl, .d (cList cI3) st, .d (cOdd C sz) od, .un, .un, .un, .un, .un, .un]) rfl ?_
  refine bifS (k1 := 0 + (1 + 0)) (k2 := 0 + 1 + (0 + 0)) (k3 := 0) (kr := 0 + (0 + 0 + 0)) (N1 := fun Γ => ∃ o : Odd, o.ok sz ∧ Γ = [.bx b, .d (cBk CB) sz, .d (cList cInt) sz, .d (cList cI3) rows, .d cInt pl, .d (cList cI3) st, .d (cOdd C sz) o, .un, .un, .un, .un, .un, .un]) (pdt_w (pdw_andG (k1 := 0) (k2 := 1 + 0) (tcmp (op_neDG rfl) (pd_name (i := 5) rfl rfl (.inl rfl)) (TDF.td (pdf_nil (c := cI3))) (rd_neD (eList (eT3 eInt eInt eInt)) (by decide)) (nomark _)) fun _ => pdw_and1 (tgtR (k1 := 1) (k2 := 0) (ptake C_take (show (1 : Nat) ≤ 10 by decide) rfl (i := 0) rfl rfl (.inl rfl) (pd_int (i := 3)) (by decide) (fun _ => rfl) (fun _ => rfl) (fun _ => rfl)) (pd_int (i := 0)) (nomark _)))) (fun h => ?_) (fun _ => phs_nil ⟨od, hod.ok sz, rfl⟩) ?_
  · have hne : st ≠ [] := by
      rcases h with ⟨e, _⟩ | ⟨e, _⟩
      · exact absurd e (by decide)
      · intro z; rw [z] at e; simp at e
    have hlp : 0 < st.length := List.length_pos_iff.mpr hne
    have hl3 : st.length ≤ 3 := by rw [est]; exact str_len sz pl
    refine bset (k := 0 + 1) (P := fun r => r ∈ st) 7 (pd_ixR (k1 := 0) (k2 := 1) (P3 := fun r => r ∈ st) ixLG (pd_name (i := 5) rfl rfl (.inl rfl)) (ptake C_take (show (1 : Nat) ≤ 10 by decide) rfl (i := 0) rfl rfl (.inl rfl) (plen rfl U.len (TD.seqL (pd_name (i := 5) rfl rfl (.inl rfl))) (fun _ => rfl)) (by omega) (fun _ => rfl) (fun _ => rfl) (fun _ => rfl)) (fun x i hx hi => by
      subst x
      have hi : 0 ≤ i ∧ i < (st.length : Int) := hi
      exact fun Hf H v u e h1 h2 Q q => rd_ixLd hi Hf H v u e h1 h2 Q fun z Hf' H' w pz => q z Hf' H' w (by
        rw [pz, List.getD_eq_getElem?_getD, List.getElem?_eq_getElem (show i.toNat < st.length by omega)]
        exact List.getElem_mem _)) (fun _ _ => rfl)) trivial rfl (.inr rfl) (sw_cell rfl) (.inl rfl) ?_
    intro r hr
    have hr : r ∈ st := hr
    rw [est] at hr
    obtain ⟨hr1, hr2⟩ := str_row hsz hpl hr
    obtain ⟨hR1, hR2⟩ := oddRows_ok hsz hof hr1 hr2
    have hlr := hof.len
    refine HS.ctx (Γ' := [.bx b, .d (cBk CB) sz, .d (cList cInt) sz, .d (cList cI3) rows, .d cInt pl, .d (cList cI3) st, .d (cOdd C sz) od, .d cI3 r, .un, .un, .un, .un, .un]) rfl ?_
    refine bset (k := 0) (c := cOdd C sz) (P := (· = .ch (sort3 (oddRows rows r)))) 6 (TD.conv (c2 := cOdd C sz) (pmkCh I T (show (5 + 1 : Nat) ≤ 10 by decide) rfl (TDF.td (pcat (TDF.td (plcT (f := fun l : R3 => l) (q := fun l : R3 => !decide (l.1 = r.1)) [("line", 12)] (pdi_list (pd_name (i := 3) rfl rfl (.inl rfl))) trivial (by kernel_rfl) (fun _ _ => rfl) fun x hx => ⟨_, _, (pdg_name (i := 12) trivial rfl (.inl rfl) (.inr rfl)), (fun _ h => h), (tts_one (tcmp (fun _ _ => op_ne) (pix ixTG (pd_name (i := 12) rfl rfl (.inl rfl)) pd_int rd_ix3_0 (fun _ _ => rfl)) (pix ixTG (pd_name (i := 7) rfl rfl (.inr (.inl rfl))) pd_int rd_ix3_0 (fun _ _ => rfl)) rd_neI (nomark _))), fun hq => (pd_name (i := 12) rfl rfl (.inl rfl))⟩)) (TDF.td (plst (c := cI3) (xs := [r]) (.cons (pd_name (i := 7) rfl rfl (.inr (.inl rfl))) .nil (fun _ => rfl)) (by simp))) (by
      have := List.length_filter_le (fun l : R3 => !decide (l.1 = r.1)) rows
      rw [List.length_map]; unfold DL.LB; show _ + 1 ≤ _; omega))) (by rw [List.map_id']; exact hR1) (fun _ => rfl) (fun _ => rfl)) fun H v z e r' => ⟨_, rfl, by rw [e, List.map_id'] at r'; exact r'⟩) trivial rfl (.inl rfl) (fun env he => by cases env; cases he; rfl) (.inl rfl) ?_
    rintro _ rfl
    refine HS.drop [7] trivial ?_
    exact phs_nil ⟨_, hR2, rfl⟩
  rintro _ ⟨od, hod, rfl⟩
  refine bset (k := 0) (P := (· = sort3 rows)) 8 (pmkCh I T (show (5 + 1 : Nat) ≤ 10 by decide) rfl (pd_name (i := 3) rfl rfl (.inl rfl)) (hof.rows hsz) (fun _ => rfl) (fun _ => rfl)) trivial rfl (.inl rfl) (fun env he => by cases env; cases he; rfl) (.inl rfl) ?_
  rintro _ rfl
  refine HS.ctx (Γ' := [.bx b, .d (cBk CB) sz, .d (cList cInt) sz, .d (cList cI3) rows, .d cInt pl, .d (cList cI3) st, .d (cOdd C sz) od, .un, .d (cCh C) (sort3 rows), .un, .un, .un, .un]) rfl ?_
  refine hs_nameD (i := 8) (c := cCh C) (x := sort3 rows) rfl fun ug _ => ?_
  refine HS.ctx (Γ' := [.bx b, .d (cBk CB) sz, .d (cList cInt) sz, .d (cList cI3) rows, .d cInt pl, .d (cList cI3) st, .d (cOdd C sz) od, .un, .d (cAt (cCh C) ug) (sort3 rows), .un, .un, .un, .un]) rfl ?_
  have fc := facts hsz hof hof
  have hofB : OfB sz (sort3 rows) := fc.ofF
  refine bfor (k := 0) (kk := 0) (kn := 0) (k2 := 0) [9, 10, 11] (fun _ pre Γ => ∃ s6 : Sl, (∃ (α : Type) (c : Cod α) (x : α), s6 = .d c x ∧ ∀ Hf v, c.rep Hf v x → OddRep C sz Hf v od) ∧ Γ = [.bx b, .d (cBk CB) sz, .d (cList cInt) sz, .d (cList cI3) rows, .d cInt pl, .d (cList cI3) st, s6, .un, .d (cAt (cCh C) ug) (sort3 rows), .un, .un, .un, .un]) (prng1 rfl U.range (pd_int (i := 2)) (by decide) (fun _ => rfl)) ?_ ?_ ?_ (fun _ _ => rfl) ?_
  · intro _ _; exact ⟨_, ⟨_, cOdd C sz, od, rfl, fun _ _ h => h⟩, rfl⟩
  · intro _ _; simp
  · rintro xs exs pre tn post Γ1 hx ⟨s6, ⟨α, c6, x6, rfl, h6⟩, rfl⟩
    subst xs
    have htn : tn = 0 ∨ tn = 1 := by
      have hm : tn ∈ rangeL 0 2 := by
        show tn ∈ rangeL 0 (2 : Int).toNat
        rw [hx]; simp
      have := rng_mem.mp hm
      omega
    refine ⟨_, _, (pdg_name (i := 9) trivial rfl (.inl rfl) (.inl rfl)), ?_⟩
    refine HS.ctx (Γ' := [.bx b, .d (cBk CB) sz, .d (cList cInt) sz, .d (cList cI3) rows, .d cInt pl, .d (cList cI3) st, .d c6 x6, .un, .d (cAt (cCh C) ug) (sort3 rows), .d cInt tn, .un, .un, .un]) rfl ?_
    refine hs_slot (i := 6) (c := c6) (x := x6) (d := cOdd C sz) (y := od) rfl (fun _ _ h => h6 _ _ h) ?_
    refine HS.ctx (Γ' := [.bx b, .d (cBk CB) sz, .d (cList cInt) sz, .d (cList cI3) rows, .d cInt pl, .d (cList cI3) st, .d (cOdd C sz) od, .un, .d (cAt (cCh C) ug) (sort3 rows), .d cInt tn, .un, .un, .un]) rfl ?_
    have endN : ∀ {α : Type} (c : Cod α) (x : α) (s10 : Sl) (L : List V), (∀ Hf v, c.rep Hf v x → OddRep C sz Hf v od) → (∀ a, s10 ≠ .bx a) → NoBxs [.bx b, .d (cBk CB) sz, .d (cList cInt) sz, .d (cList cI3) rows, .d cInt pl, .d (cList cI3) st, .d c x, .un, .d (cAt (cCh C) ug) (sort3 rows), .d cInt tn, s10, .l cV L, .un] [9, 10, 11] ∧ ∃ s6 : Sl, (∃ (α : Type) (c : Cod α) (x : α), s6 = .d c x ∧ ∀ Hf v, c.rep Hf v x → OddRep C sz Hf v od) ∧ wipeC [.bx b, .d (cBk CB) sz, .d (cList cInt) sz, .d (cList cI3) rows, .d cInt pl, .d (cList cI3) st, .d c x, .un, .d (cAt (cCh C) ug) (sort3 rows), .d cInt tn, s10, .l cV L, .un] [9, 10, 11] = [.bx b, .d (cBk CB) sz, .d (cList cInt) sz, .d (cList cI3) rows, .d cInt pl, .d (cList cI3) st, s6, .un, .d (cAt (cCh C) ug) (sort3 rows), .un, .un, .un, .un] := fun c x s10 L h n10 =>
      ⟨by cases s10 with
        | bx a => exact absurd rfl (n10 a)
        | un => trivial
        | d _ _ => trivial
        | l _ _ => trivial
        | r _ => trivial, _, ⟨_, c, x, rfl, h⟩, rfl⟩
    cases od with
    | non =>
      refine hs_slot (i := 6) (c := cOdd C sz) (x := .non) (d := cNon) (y := ()) rfl (fun _ _ h => h) ?_
      refine HS.ctx (Γ' := [.bx b, .d (cBk CB) sz, .d (cList cInt) sz, .d (cList cI3) rows, .d cInt pl, .d (cList cI3) st, .d cNon (), .un, .d (cAt (cCh C) ug) (sort3 rows), .d cInt tn, .un, .un, .un]) rfl ?_
      exact body_data U (c := cNon) (x := ()) F ty_non (kit_ty (by decide +kernel)) (fun Hf v h => ⟨bad_of TO (o := .non) h hod, by (have e : v = _ := h); rw [e]; trivial⟩) hofB htn rfl fun u => endN cNon () (.d (cAt cNon u) ()) _ (fun _ _ h => h) fun _ z => nomatch z
    | seven =>
      refine hs_slot (i := 6) (c := cOdd C sz) (x := .seven) (d := cInt) (y := 7) rfl (fun _ _ h => h) ?_
      refine HS.ctx (Γ' := [.bx b, .d (cBk CB) sz, .d (cList cInt) sz, .d (cList cI3) rows, .d cInt pl, .d (cList cI3) st, .d cInt 7, .un, .d (cAt (cCh C) ug) (sort3 rows), .d cInt tn, .un, .un, .un]) rfl ?_
      exact body_data U (c := cInt) (x := 7) F ty_int (kit_ty (by decide +kernel)) (fun Hf v h => ⟨bad_of TO (o := .seven) h hod, by (have e : v = _ := h); rw [e]; trivial⟩) hofB htn rfl fun u => endN cInt 7 (.d (cAt cInt u) 7) _ (fun _ _ h => h) fun _ z => nomatch z
    | str =>
      refine hs_slot (i := 6) (c := cOdd C sz) (x := .str) (d := cStr) (y := "0:0>1") rfl (fun _ _ h => h) ?_
      refine HS.ctx (Γ' := [.bx b, .d (cBk CB) sz, .d (cList cInt) sz, .d (cList cI3) rows, .d cInt pl, .d (cList cI3) st, .d cStr "0:0>1", .un, .d (cAt (cCh C) ug) (sort3 rows), .d cInt tn, .un, .un, .un]) rfl ?_
      exact body_data U (c := cStr) (x := "0:0>1") F ty_str (kit_ty (by decide +kernel)) (fun Hf v h => ⟨bad_of TO (o := .str) h hod, by (have e : v = _ := h); rw [e]; trivial⟩) hofB htn rfl fun u => endN cStr "0:0>1" (.d (cAt cStr u) "0:0>1") _ (fun _ _ h => h) fun _ z => nomatch z
    | lst =>
      refine hs_slot (i := 6) (c := cOdd C sz) (x := .lst) (d := cList cI3) (y := [(0, 0, 1)]) rfl (fun _ _ h => h) ?_
      refine HS.ctx (Γ' := [.bx b, .d (cBk CB) sz, .d (cList cInt) sz, .d (cList cI3) rows, .d cInt pl, .d (cList cI3) st, .d (cList cI3) [(0, 0, 1)], .un, .d (cAt (cCh C) ug) (sort3 rows), .d cInt tn, .un, .un, .un]) rfl ?_
      exact body_list U (c := cI3) (xs := [(0, 0, 1)]) F TO (by simp) hofB rfl fun a vs => endN (cList cI3) [(0, 0, 1)] (.r (pAt cV a vs)) _ (fun _ _ h => h) fun _ z => nomatch z
    | tup =>
      refine hs_slot (i := 6) (c := cOdd C sz) (x := .tup) (d := cI3) (y := (0, 0, 1)) rfl (fun _ _ h => h) ?_
      refine HS.ctx (Γ' := [.bx b, .d (cBk CB) sz, .d (cList cInt) sz, .d (cList cI3) rows, .d cInt pl, .d (cList cI3) st, .d cI3 (0, 0, 1), .un, .d (cAt (cCh C) ug) (sort3 rows), .d cInt tn, .un, .un, .un]) rfl ?_
      exact body_data U (c := cI3) (x := (0, 0, 1)) F ty_t3 (kit_ty (by decide +kernel)) (fun Hf v h => ⟨bad_of TO (o := .tup) h hod, by (obtain ⟨a, _, _, _, h⟩ := h; rw [h.1]; trivial)⟩) hofB htn rfl fun u => endN cI3 (0, 0, 1) (.d (cAt cI3 u) (0, 0, 1)) _ (fun _ _ h => h) fun _ z => nomatch z
    | dic =>
      refine hs_slot (i := 6) (c := cOdd C sz) (x := .dic) (d := cD0) (y := ()) rfl (fun _ _ h => h) ?_
      refine HS.ctx (Γ' := [.bx b, .d (cBk CB) sz, .d (cList cInt) sz, .d (cList cI3) rows, .d cInt pl, .d (cList cI3) st, .d cD0 (), .un, .d (cAt (cCh C) ug) (sort3 rows), .d cInt tn, .un, .un, .un]) rfl ?_
      exact body_data U (c := cD0) (x := ()) F ty_D0 (kit_ty (by decide +kernel)) (fun Hf v h => ⟨bad_of TO (o := .dic) h hod, by (obtain ⟨a, h⟩ := h; rw [h.1]; trivial)⟩) hofB htn rfl fun u => endN cD0 () (.d (cAt cD0 u) ()) _ (fun _ _ h => h) fun _ z => nomatch z
    | tru =>
      refine hs_slot (i := 6) (c := cOdd C sz) (x := .tru) (d := cBool) (y := true) rfl (fun _ _ h => h) ?_
      refine HS.ctx (Γ' := [.bx b, .d (cBk CB) sz, .d (cList cInt) sz, .d (cList cI3) rows, .d cInt pl, .d (cList cI3) st, .d cBool true, .un, .d (cAt (cCh C) ug) (sort3 rows), .d cInt tn, .un, .un, .un]) rfl ?_
      exact body_data U (c := cBool) (x := true) F ty_bool (kit_ty (by decide +kernel)) (fun Hf v h => ⟨bad_of TO (o := .tru) h hod, by (have e : v = _ := h); rw [e]; trivial⟩) hofB htn rfl fun u => endN cBool true (.d (cAt cBool u) true) _ (fun _ _ h => h) fun _ z => nomatch z
    | szs =>
      refine hs_slot (i := 6) (c := cOdd C sz) (x := .szs) (d := cList cInt) (y := sz) rfl (fun _ _ h => h) ?_
      refine HS.ctx (Γ' := [.bx b, .d (cBk CB) sz, .d (cList cInt) sz, .d (cList cI3) rows, .d cInt pl, .d (cList cI3) st, .d (cList cInt) sz, .un, .d (cAt (cCh C) ug) (sort3 rows), .d cInt tn, .un, .un, .un]) rfl ?_
      exact body_list U (c := cInt) (xs := sz) F TO (by omega) hofB rfl fun a vs => endN (cList cInt) sz (.r (pAt cV a vs)) _ (fun _ _ h => h) fun _ z => nomatch z
    | ch y =>
      refine hs_slot (i := 6) (c := cOdd C sz) (x := (.ch y)) (d := (cCh C)) (y := y) rfl (fun _ _ h => h) ?_
      refine HS.ctx (Γ' := [.bx b, .d (cBk CB) sz, .d (cList cInt) sz, .d (cList cI3) rows, .d cInt pl, .d (cList cI3) st, .d ((cCh C)) y, .un, .d (cAt (cCh C) ug) (sort3 rows), .d cInt tn, .un, .un, .un]) rfl ?_
      exact body_data U (c := (cCh C)) (x := y) F (ty_ins T.k.own) TO.cl (fun Hf v h => ⟨bad_of TO (o := (.ch y)) h hod, by (obtain ⟨a, _, _, h⟩ := h; rw [h.1]; trivial)⟩) hofB htn rfl fun u => endN ((cCh C)) y (.d (cAt ((cCh C)) u) y) _ (fun _ _ h => h) fun _ z => nomatch z
  rintro xs _ _ ⟨s6, ⟨α, c6, x6, rfl, h6⟩, rfl⟩
  refine hs_slot (i := 6) (c := c6) (x := x6) (d := cOdd C sz) (y := od) rfl (fun _ _ h => h6 _ _ h) ?_
  refine HS.ctx (Γ' := [.bx b, .d (cBk CB) sz, .d (cList cInt) sz, .d (cList cI3) rows, .d cInt pl, .d (cList cI3) st, .d (cOdd C sz) od, .un, .d (cAt (cCh C) ug) (sort3 rows), .un, .un, .un, .un]) rfl ?_
  refine hs_nameD (i := 6) (c := cOdd C sz) (x := od) rfl fun uo _ => ?_
  refine HS.ctx (Γ' := [.bx b, .d (cBk CB) sz, .d (cList cInt) sz, .d (cList cI3) rows, .d cInt pl, .d (cList cI3) st, .d (cAt (cOdd C sz) uo) od, .un, .d (cAt (cCh C) ug) (sort3 rows), .un, .un, .un, .un]) rfl ?_
  refine bret (pand (x := true) (y := true) (pcmp eqSameG (TDF.td (p_ref F (show (10 : Nat) ≤ 10 by decide) rfl (pd_name (i := 1) rfl rfl (.inl rfl)) (TD.conv (c2 := cArg K C sz) (P' := (· = (false, V.str "x"))) (pd_str (i := "x")) fun H v z e r => ⟨_, rfl, by rw [e] at r; exact r, .inl ⟨Str, cStr, z, _, r, ty_str, TO.s⟩⟩) (TD.conv (c2 := cArg K C sz) (P' := (· = (false, uo))) (pd_name (i := 6) (c := cAt (cOdd C sz) uo) (y := od) rfl rfl (.inl rfl)) fun H v z e r => ⟨_, rfl, r.1, bad_of TO r.2 (by rw [e]; exact hod)⟩) rfl (fun _ => rfl) (fun _ => rfl) (fun _ => rfl) (fun _ => rfl) (L := [.bl true, .str "x"]) rfl)) (TDF.td (plst (c := cV) (xs := [.bl true, .str "x"]) (.cons (TD.conv (c2 := cV) (P' := (· = .bl true)) (pd_bool (i := true)) fun H v z e r => ⟨_, rfl, by rw [e] at r; exact r⟩) (.cons (TD.conv (c2 := cV) (P' := (· = .str "x")) (pd_str (i := "x")) fun H v z e r => ⟨_, rfl, by rw [e] at r; exact r⟩) .nil (fun _ => rfl)) (fun _ => rfl)) (by simp))) (rd_same fun v hv => ?_) (nomark _)) fun _ => pd_one (pisNO (c := cTup cInt) (o := none) nn_tup (TD.conv (c2 := cOpt (cTup cInt)) (P' := (· = none)) (pcal3 (g := fun _ : List Int × List R3 × List R3 => ()) F0 (show (10 : Nat) ≤ 10 by decide) rfl (pd_name (i := 1) rfl rfl (.inl rfl)) (td_at (pd_name (i := 8) (c := cAt (cCh C) ug) (y := sort3 rows) rfl rfl (.inl rfl))) (pmkCh I T (show (5 + 1 : Nat) ≤ 10 by decide) rfl (TDF.td (pdf_nil (c := cI3))) rows_nil (fun _ => rfl) (fun _ => rfl)) (by rw [sort3_nil]; exact ⟨fc.ofF, fc.ofN, fc.pn, fc.pn'⟩) (fun _ => rfl) (fun _ => rfl) (fun _ => rfl) (fun _ => rfl)) fun H v z e r => ⟨none, rfl, r⟩))) fun z e => e
  rcases List.mem_cons.mp hv with e | hv
  · rw [e]; trivial
  · rw [List.mem_singleton.mp hv]; trivial
end
end K07

set_option Elab.async false
set_option linter.all false
set_option maxRecDepth 100000
set_option maxHeartbeats 4000000
namespace K07
open PySem PySem.Spec L2 DL
/-! ### one turn of the law -/
abbrev sRight : Stmt := top 54
abbrev nRight : List Str := ["box", "sizes", "spots", "shelf", "rows", "far", "more", "first", "last", "third"]
abbrev P_right : Sp := spD (fun b (_ : Unit) => [.bx b]) (fun _ => 136) (fun _ => True) cBool (fun _ x => x = true)
section
variable {P : Program} {w : World} {K : PySem.W.Frag} {mg : Str → Option Value} {base : Heap} {C CB : Addr}
variable (U : Bt mg)
include U
omit U in
theorem c_right (D : Def K mg "_law_right" sRight) (T : TCh K mg C) (TB : TBk K mg CB) (I : ICal P w K mg base C ["self", "rows"] 5 (P_init C)) (IB : ICal P w K mg base CB ["self", "sizes"] 3 (P_initB CB)) (C_world : Cal P w K mg base "_law_world" ["box"] 2 P_world) (C_pair : Cal P w K mg base "_law_pair" ["box", "sizes", "spots"] 3 P_pair) (C_some : Cal P w K mg base "_law_some" ["box", "sizes", "spots"] 2 P_some)
    (C_pr : CalG P w K mg base "_law_pair_right" ["shelf", "sizes", "rows", "far", "first", "last"] 10 (P_pr C CB)) (C_refr : Cal P w K mg base "_law_refusals_right" ["box", "shelf", "sizes", "rows"] 11 (P_refr CB)) : CalG P w K mg base "_law_right" ["box"] 12 P_right := by
  refine cal_DG (N := nRight) D (fun _ _ _ _ _ _ us hl => match us, hl with | [_], _ => rfl) ⟨rfl, rfl, rfl, by decide +kernel, rfl, by decide +kernel, by decide +kernel⟩ (fun _ _ => rfl) (by decide) (fun _ _ => trivial) fun b a hp => ?_
  refine HS.ctx (Γ' := [.bx b, .un, .un, .un, .un, .un, .un, .un, .un, .un]) rfl ?_
  refine HS.le (k := 0 + 30 + (0 + (0 + 70 + (0 + 32 + (0 + 0 + 0 + (0 + 4 + 0 + (0 + 0 + 0))))))) ?_ (by decide)
  refine bunpackP (k := 0 + 30) (c := cL2 (cList cInt) (cList cInt)) (P := fun x => Pl x.1 ∧ Spt x.2 x.1.length) (pcalX (k1 := 0) (k2 := 30) C_world (show (2 : Nat) ≤ 11 by decide) rfl (pda_boxp (k2 := 0) (i := 0) rfl rfl (.inl rfl) pda_nil) (fun as e => ⟨(), b, e, trivial, Nat.le_refl _, fun x hx => hx⟩) (fun _ => rfl) (fun _ => rfl)) (fun x hx => ?_) (fun env he => by cases env; cases he; rfl) (fun env he => by cases env; cases he; rfl) (fun _ => rfl)
  obtain ⟨sz, sp⟩ := x
  obtain ⟨hsz, hsp⟩ := hx
  have hsz : Pl sz := hsz
  have hsp : Spt sp sz.length := hsp
  refine ⟨_, _, pdg_L2 (pdg_name (i := 1) trivial rfl (.inl rfl) (.inl rfl)) (pdg_name (i := 2) trivial rfl (.inl rfl) (.inl rfl)) (fun _ => rfl) (fun _ => rfl) (fun _ => rfl) (fun _ => rfl), ?_⟩
  refine HS.ctx (Γ' := [.bx b, .d (cList cInt) sz, .d (cList cInt) sp, .un, .un, .un, .un, .un, .un, .un]) rfl ?_
  refine bset (k := 0) (P := (· = sz)) 3 (pmkBk IB TB (show (3 + 1 : Nat) ≤ 11 by decide) rfl (TD.seqL (pd_name (i := 1) rfl rfl (.inl rfl))) hsz (fun _ => rfl) (fun _ => rfl)) trivial rfl (.inl rfl) (fun env he => by cases env; cases he; rfl) (.inl rfl) ?_
  intro x0 e0
  subst x0
  refine HS.ctx (Γ' := [.bx b, .d (cList cInt) sz, .d (cList cInt) sp, .d (cBk CB) sz, .un, .un, .un, .un, .un, .un]) rfl ?_
  refine bunpackP (k := 0 + 70) (c := cL2 (cList cI3) (cList cI3)) (P := fun x => Of sz x.1 ∧ Of sz x.2) (pcalX (k1 := 0) (k2 := 70) C_pair (show (3 : Nat) ≤ 11 by decide) rfl (pda_boxp (k2 := 0) (i := 0) rfl rfl (.inl rfl) (pda_more (k1 := 0) (k2 := 0) (pd_name (i := 1) rfl rfl (.inl rfl)) (pda_one (pd_name (i := 2) rfl rfl (.inl rfl)) (fun _ => rfl)) (fun _ => rfl))) (fun as e => ⟨(sz, sp), b, e, ⟨hsz, hsp⟩, Nat.le_refl _, fun x hx => hx⟩) (fun _ => rfl) (fun _ => rfl)) (fun x hx => ?_) (fun env he => by cases env; cases he; rfl) (fun env he => by cases env; cases he; rfl) (fun _ => rfl)
  obtain ⟨rows, far⟩ := x
  obtain ⟨h_rows, h_far⟩ := hx
  have h_rows : Of sz rows := h_rows
  have h_far : Of sz far := h_far
  refine ⟨_, _, pdg_L2 (pdg_name (i := 4) trivial rfl (.inl rfl) (.inl rfl)) (pdg_name (i := 5) trivial rfl (.inl rfl) (.inl rfl)) (fun _ => rfl) (fun _ => rfl) (fun _ => rfl) (fun _ => rfl), ?_⟩
  refine HS.ctx (Γ' := [.bx b, .d (cList cInt) sz, .d (cList cInt) sp, .d (cBk CB) sz, .d (cList cI3) rows, .d (cList cI3) far, .un, .un, .un, .un]) rfl ?_
  refine bset (k := 0 + 32) (P := fun x => Of sz x) 6 (pcalX (k1 := 0) (k2 := 32) C_some (show (2 : Nat) ≤ 11 by decide) rfl (pda_boxp (k2 := 0) (i := 0) rfl rfl (.inl rfl) (pda_more (k1 := 0) (k2 := 0) (pd_name (i := 1) rfl rfl (.inl rfl)) (pda_one (pd_name (i := 2) rfl rfl (.inl rfl)) (fun _ => rfl)) (fun _ => rfl))) (fun as e => ⟨(sz, sp), b, e, ⟨hsz, hsp⟩, Nat.le_refl _, fun x hx => hx⟩) (fun _ => rfl) (fun _ => rfl)) trivial rfl (.inl rfl) (fun env he => by cases env; cases he; rfl) (.inl rfl) ?_
  intro more h_more
  have h_more : Of sz more := h_more
  refine HS.ctx (Γ' := [.bx b, .d (cList cInt) sz, .d (cList cInt) sp, .d (cBk CB) sz, .d (cList cI3) rows, .d (cList cI3) far, .d (cList cI3) more, .un, .un, .un]) rfl ?_
  refine bpar3 (k1 := 0) (k2 := 0) (k3 := 0) 7 8 9 (TD.tx' (pmkCh I T (show (5 + 1 : Nat) ≤ 11 by decide) rfl (pd_name (i := 4) rfl rfl (.inl rfl)) (h_rows.rows hsz) (fun _ => rfl) (fun _ => rfl))) (TD.tx' (pmkCh I T (show (5 + 1 : Nat) ≤ 11 by decide) rfl (pd_name (i := 5) rfl rfl (.inl rfl)) (h_far.rows hsz) (fun _ => rfl) (fun _ => rfl))) (TD.tx' (pmkCh I T (show (5 + 1 : Nat) ≤ 11 by decide) rfl (pd_name (i := 6) rfl rfl (.inl rfl)) (h_more.rows hsz) (fun _ => rfl) (fun _ => rfl))) trivial trivial trivial (by decide) (by decide) (by decide) (fun z => nomatch z) (fun z => nomatch z) (fun z => nomatch z) rfl rfl rfl rfl rfl rfl (fun _ => rfl) (fun _ => rfl) (fun _ => rfl) (fun env he => by cases env; cases he; rfl) (fun env he => by cases env; cases he; rfl) ?_
  refine HS.ctx (Γ' := [.bx b, .d (cList cInt) sz, .d (cList cInt) sp, .d (cBk CB) sz, .d (cList cI3) rows, .d (cList cI3) far, .d (cList cI3) more, .d (cCh C) (sort3 rows), .d (cCh C) (sort3 far), .d (cCh C) (sort3 more)]) rfl ?_
  refine bifR (k1 := 0 + 4) (k2 := 0) (k3 := 0 + 0 + 0) (pdt_w (pdw_or (k1 := 0) (k2 := 4) (x := false) (y := false) (pdt_not (b := true) (pdt_val (pcalG (g := fun _ => true) C_pr rfl (show (10 : Nat) ≤ 11 by decide) rfl (pda_more (k1 := 0) (k2 := 0) (pd_name (i := 3) rfl rfl (.inl rfl)) (pda_more (k1 := 0) (k2 := 0) (pd_name (i := 1) rfl rfl (.inl rfl)) (pda_more (k1 := 0) (k2 := 0) (pd_name (i := 4) rfl rfl (.inl rfl)) (pda_more (k1 := 0) (k2 := 0) (pd_name (i := 5) rfl rfl (.inl rfl)) (pda_more (k1 := 0) (k2 := 0) (pd_name (i := 7) rfl rfl (.inl rfl)) (pda_one (pd_name (i := 8) rfl rfl (.inl rfl)) (fun _ => rfl)) (fun _ => rfl)) (fun _ => rfl)) (fun _ => rfl)) (fun _ => rfl)) (fun _ => rfl)) (sz, rows, far) 0 rfl ⟨hsz, h_rows, h_far, facts hsz h_rows h_far⟩ (fun _ => rfl) (fun _ => rfl)) (fun _ _ => rfl))) fun _ => (pdw_or1 (pdt_not (b := true) (pdt_val (pcalX (P' := (· = true)) (k1 := 0) (k2 := 4) C_refr (show (11 : Nat) ≤ 11 by decide) rfl (pda_boxp (k2 := 0) (i := 0) rfl rfl (.inl rfl) (pda_more (k1 := 0) (k2 := 0) (pd_name (i := 3) rfl rfl (.inl rfl)) (pda_more (k1 := 0) (k2 := 0) (pd_name (i := 1) rfl rfl (.inl rfl)) (pda_one (pd_name (i := 4) rfl rfl (.inl rfl)) (fun _ => rfl)) (fun _ => rfl)) (fun _ => rfl))) (fun as e => ⟨(sz, rows), b, e, ⟨hsz, h_rows⟩, Nat.le_refl _, fun x hx => hx⟩) (fun _ => rfl) (fun _ => rfl)) (fun _ _ => rfl)))))) (fun h => ?_) fun _ => ?_
  · exact absurd h (by decide)
  refine bifR (k1 := 0) (k2 := 0) (k3 := 0) (pdt_not (b := true) (pdt_val (pcalG (g := fun _ => true) C_pr rfl (show (10 : Nat) ≤ 11 by decide) rfl (pda_more (k1 := 0) (k2 := 0) (pd_name (i := 3) rfl rfl (.inl rfl)) (pda_more (k1 := 0) (k2 := 0) (pd_name (i := 1) rfl rfl (.inl rfl)) (pda_more (k1 := 0) (k2 := 0) (pd_name (i := 5) rfl rfl (.inl rfl)) (pda_more (k1 := 0) (k2 := 0) (pd_name (i := 6) rfl rfl (.inl rfl)) (pda_more (k1 := 0) (k2 := 0) (pd_name (i := 8) rfl rfl (.inl rfl)) (pda_one (pd_name (i := 9) rfl rfl (.inl rfl)) (fun _ => rfl)) (fun _ => rfl)) (fun _ => rfl)) (fun _ => rfl)) (fun _ => rfl)) (fun _ => rfl)) (sz, far, more) 0 rfl ⟨hsz, h_far, h_more, facts hsz h_far h_more⟩ (fun _ => rfl) (fun _ => rfl)) (fun _ _ => rfl))) (fun h => ?_) fun _ => ?_
  · exact absurd h (by decide)
  exact bret (pcalG (g := fun _ => true) C_pr rfl (show (10 : Nat) ≤ 11 by decide) rfl (pda_more (k1 := 0) (k2 := 0) (pd_name (i := 3) rfl rfl (.inl rfl)) (pda_more (k1 := 0) (k2 := 0) (pd_name (i := 1) rfl rfl (.inl rfl)) (pda_more (k1 := 0) (k2 := 0) (pd_name (i := 4) rfl rfl (.inl rfl)) (pda_more (k1 := 0) (k2 := 0) (pd_name (i := 6) rfl rfl (.inl rfl)) (pda_more (k1 := 0) (k2 := 0) (pd_name (i := 7) rfl rfl (.inl rfl)) (pda_one (pd_name (i := 9) rfl rfl (.inl rfl)) (fun _ => rfl)) (fun _ => rfl)) (fun _ => rfl)) (fun _ => rfl)) (fun _ => rfl)) (fun _ => rfl)) (sz, rows, more) 0 rfl ⟨hsz, h_rows, h_more, facts hsz h_rows h_more⟩ (fun _ => rfl) (fun _ => rfl)) fun z e => e
end
end K07

set_option Elab.async false
set_option linter.all false
set_option maxRecDepth 100000
set_option maxHeartbeats 4000000
namespace K07
open PySem PySem.Spec L2 DL
structure Bt2 (mg : Str → Option Value) : Prop where
  sum : mg "sum" = none
  abs : mg "abs" = none
  max : mg "max" = none
  min : mg "min" = none
/-- the script -/
def cScrK (K : PySem.W.Frag) : Cod (List Int) := ⟨fun H v xs => ∃ a, v = .ref a ∧ SqL K H a (xs.map V.int), fun e ⟨a, h1, h2⟩ => ⟨a, h1, by
  rcases h2 with h2 | h2
  · exact .inl (e.rd h2)
  · exact .inr h2⟩⟩
def spCellL (K : PySem.W.Frag) : Sp := fun vs H Q _ => ∃ (a : Addr) (ns : List Int) (k : Int), vs = [.ref a, .int k] ∧ SqL K H a (ns.map V.int) ∧ ns.length ≤ 63 ∧ 0 ≤ k ∧ k ≤ 5 ∧ ∀ (i : Int) H', Ex H H' → (∀ b, H' b = none → H b = none) → Q (.int i) H'
def spBoxL : Sp := fun vs H Q _ => ∃ (g : Int), vs = [.int g] ∧ ∀ (b : Addr) (g' : Int) (big : Bool) (m : Int), H b = none → 0 ≤ m → m < 2147483648 → Q (.ref b) (upd H b (.lst [.int g', .bl big, .int m, .int 0]))
section
variable {P : Program} {w : PySem.World} {K : PySem.W.Frag} {mg : Str → Option Value} {base : Heap} {C : Addr}
variable (U : Bt mg) (U2 : Bt2 mg)
include U U2
theorem ok_cell {f : Addr} {fd : FuncData} (F : Fun K "_law_cell" "_law_cell" (top 39) f fd) : FnOk P w K mg base CX0 1 f fd ["script", "k"] (spCellL K) := by
  refine F.ok (N := ["script", "k"]) ⟨rfl, rfl, rfl, by decide +kernel, rfl, by decide +kernel, by decide +kernel⟩ (fun vs H Q E h => ?_) (fun cdv A outer s H vs Q E hr h => ?_)
  · obtain ⟨a, ns, k, rfl, _⟩ := h
    rfl
  · obtain ⟨a, ns, k, rfl, hs, hl, k0, k1, q⟩ := h
    refine ⟨_, pss_one (ps_ret (pe_ifExp (pt_cmpR op_lt (pv 1) (pe_callB call_len_seq rfl U.len PySem.boot_len (pa_cons (pv 0) pa_nil)) (nomark _)) (pe_ix ix_list (pv 0) (pv 1) (fun _ _ => rfl)) (pe_op op_add (pe_op op_mul pe_int (pv 1)) (pe_op op_mod (pe_callTy call_int1 rfl U.int (by decide +kernel) (pa_cons (pe_callB (cr_sum rfl) rfl U2.sum PyProof.Rows.boot_sum (pa_cons (pe_slice sl_list (pv 0) po_none (po_some pe_int)) pa_nil)) pa_nil)) pe_int)))), ?_⟩
    refine ⟨.int k, rfl, .ref a, rfl, a, _, rfl, .inl hs, k, _, rfl, rfl, _, rfl, ?_⟩
    refine ite2 (fun hlt => ?_) fun _ => ?_
    · have hk : 0 ≤ k ∧ k < ((ns.map V.int).length : Int) := ⟨k0, of_decide_eq_true hlt⟩
      have hk2 : k.toNat < ns.length := by rw [List.length_map] at hk; omega
      refine ⟨.ref a, rfl, .int k, rfl, a, _, k, .int ns[k.toNat], rfl, rfl, hs, ?_, q _ H Ex.rfl' fun _ h => h⟩
      unfold atI
      rw [ixN_at hk]
      show (ns.map V.int)[k.toNat]? = _
      rw [List.getElem?_map, List.getElem?_eq_getElem hk2]; rfl
    · refine ⟨.int k, rfl, 7927, k, rfl, rfl, .inl ⟨by decide, by decide⟩, .ref a, rfl, 1, rfl, a, _, rfl, hs, fun p hp => ?_⟩
      have ec : cutV (ns.map V.int) none (some 1) = ((ns.drop (HT.sIx (ns.map V.int).length 0 none)).take (HT.sIx (ns.map V.int).length (ns.map V.int).length (some 1) - HT.sIx (ns.map V.int).length 0 none)).map V.int := by
        unfold cutV; rw [List.map_take, List.map_drop]
      rw [ec]
      refine ⟨p, _, rfl, SqL.of upd_same, ?_⟩
      refine .inl ⟨_, rfl, _, 1000003, rfl, rfl, (show (0 : Int) < 1000003 by decide), _, _, rfl, rfl, q _ _ (Ex.new hp) fun x hx => ?_⟩
      by_cases z : x = p
      · subst z; rw [upd_same] at hx; cases hx
      · rw [upd_ne z] at hx; exact hx
theorem ok_box {f : Addr} {fd : FuncData} (F : Fun K "_law_box" "_law_box" (top 40) f fd) : FnOk P w K mg base CX0 1 f fd ["great"] spBoxL := by
  refine F.ok (N := ["great"]) ⟨rfl, rfl, rfl, by decide +kernel, rfl, by decide +kernel, by decide +kernel⟩ (fun vs H Q E h => ?_) (fun cdv A outer s H vs Q E hr h => ?_)
  · obtain ⟨g, rfl, _⟩ := h
    rfl
  · obtain ⟨g, rfl, q⟩ := h
    refine ⟨_, pss_one (ps_ret (pe_lst (pa_cons (pe_callB call_abs rfl U2.abs PyProof.Rows.boot_abs (pa_cons (pv 0) pa_nil)) (pa_cons (pe_cmpR op_ge (pe_callB call_abs rfl U2.abs PyProof.Rows.boot_abs (pa_cons (pv 0) pa_nil)) (pe_op op_pow pe_int pe_int) (nomark _)) (pa_cons (pe_op op_mod (pe_callTy call_int1 rfl U.int (by decide +kernel) (pa_cons (pe_callB call_abs rfl U2.abs PyProof.Rows.boot_abs (pa_cons (pv 0) pa_nil)) pa_nil)) pe_int) (pa_cons pe_int pa_nil)))))), ?_⟩
    refine ⟨.int g, rfl, g, rfl, .int g, rfl, g, rfl, 10, 18, rfl, rfl, ⟨by decide, by decide, by decide⟩, _, _, rfl, rfl, .int g, rfl, g, rfl, .inl ⟨_, rfl, _, 2147483587, rfl, rfl, (show (0 : Int) < 2147483587 by decide), ?_⟩⟩
    refine ⟨by show 4 ≤ sizeLine; decide, fun p hp => q p _ _ _ hp (Int.emod_nonneg _ (by decide)) (Int.lt_trans (Int.emod_lt_of_pos _ (by decide)) (by decide))⟩
end
end K07

set_option Elab.async false
set_option linter.all false
set_option maxRecDepth 100000
set_option maxHeartbeats 4000000
namespace K07
open PySem PySem.Spec L2 DL
abbrev nLaw : List Str := ["script", "k"]
abbrev sLaw : Stmt := top 55
def spLaw (K : PySem.W.Frag) : Sp := fun vs H Q _ => ∃ (a : Addr) (ns : List Int), vs = [.ref a] ∧ SqL K H a (ns.map V.int) ∧ ns.length ≤ 63 ∧ ∀ H', Q (.bl true) H'
def rMx : List V → Hp → VK → Prop := fun xs H Q => ∃ i j, xs = [.int i, .int j] ∧ Q (.int (if j > i then j else i)) H
def rMn : List V → Hp → VK → Prop := fun xs H Q => ∃ i j, xs = [.int i, .int j] ∧ Q (.int (if j < i then j else i)) H
theorem fr_box {Hf H Hf' H' : Hp} {b : Addr} {o : HO} (hb : H b = none) (f : Fr (fun z => Sl.bx z ∈ ([.bx b] : Ctxt)) Hf (upd H b o) Hf' H') : Fr (fun _ => False) Hf H Hf' H' := by
  have ne : ∀ a u, H a = some u → a ≠ b := fun a u e z => by subst z; rw [hb] at e; cases e
  have nm : ∀ a u, H a = some u → ¬ (Sl.bx a ∈ ([.bx b] : Ctxt)) := fun a u e z => by
    rcases List.mem_cons.mp z with h | h
    · exact ne a u e (Sl.bx.inj h)
    · cases h
  exact ⟨f.ex, fun a u e _ => f.keep a u (by rw [upd_ne (ne a u e)]; exact e) (nm a u e), fun a u e _ z => f.fz a u (by rw [upd_ne (ne a u e)]; exact e) (nm a u e) z, fun a h => by
    have h1 := f.dom a h
    by_cases z : a = b
    · subst z; exact hb
    · rw [upd_ne z] at h1; exact h1⟩
section
variable {P : Program} {w : PySem.World} {K : PySem.W.Frag} {mg : Str → Option Value} {base : Heap}
variable (U : Bt mg) (U2 : Bt2 mg)
include U U2
abbrev Slaw (P : Program) (w : PySem.World) (K : PySem.W.Frag) (mg : Str → Option Value) (base : Heap) : Stc := ⟨nLaw, defScope sLaw, K, mg, P, w, base, 12, fun _ => true, true⟩
omit U U2 in
theorem td_row {Γ : Ctxt} {ns : List Int} {k : Int} {te tk : TE} (h1 : TD te Γ 0 (cScrK K) (· = ns)) (h2 : TD tk Γ 0 cInt (· = k)) (hl : ns.length ≤ 63) (h0 : 0 ≤ k) (h5 : k ≤ 5) (no : NoOwn Γ) :
    TD (tCall P_right [] E0 (tCons (tCall spBoxL [] E0 (tCons (tCall (spCellL K) [] E0 (tCons te (tCons tk tNil))) tNil)) tNil)) Γ 0 cBool (· = true) := fun O n σ Hf H hn s Q q =>
  h1 O n σ Hf H hn s _ fun v1 Hf1 H1 x px r1 f1 s1 => by
    subst px
    refine h2 O n σ Hf1 H1 hn s1 _ fun v2 Hf2 H2 y py r2 f2 s2 => ?_
    subst py
    obtain ⟨a, rfl, hs⟩ := (cScrK K).mono (f2.ex.trans s2.ex) r1
    obtain rfl := r2
    refine ⟨a, x, y, rfl, hs, hl, h0, h5, fun i H3 e3 d3 => ?_⟩
    refine ⟨i, rfl, fun b g' big m hb m0 m1 => ?_⟩
    have hb2 : Hf2 b = none := s2.ex.back (d3 b hb)
    have s3 : Sat O Hf2 H3 σ Γ (n + 0) := s2.heap no e3 d3
    refine ⟨(), b, 0, Hf2, trivial, by decide, s3.ex.trans (Ex.new hb), ⟨rfl, trivial⟩, fun z hz => ?_, fun v Hf4 H4 u pu ru f4 e4 _ => ?_⟩
    · rcases List.mem_cons.mp hz with h | h
      · cases h
        exact ⟨hb2, g', big, m, 0, upd_same, m0, m1, Int.le_refl _, Int.le_refl _⟩
      · cases h
    · have F4 := fr_box hb f4
      have s4 := s3.grow0 F4 e4
      have F3 : Fr (fun _ => False) Hf2 H2 Hf2 H3 := ⟨Ex.rfl', fun c u e _ => e3 c u e, fun _ _ _ _ z => z, d3⟩
      exact q v Hf4 H4 u pu ru (((f1.trans f2 fun _ z => .inl z).trans F3 fun _ z => z.elim).trans F4 fun _ z => z.elim) s4
theorem ok_law {f : Addr} {fd : FuncData} (F : Fun K "law" "law" sLaw f fd) (C_right : CalG P w K mg base "_law_right" ["box"] 12 P_right) (C_box : Cal P w K mg base "_law_box" ["great"] 1 spBoxL) (C_cell : Cal P w K mg base "_law_cell" ["script", "k"] 1 (spCellL K)) :
    FnG P w K mg base 13 f fd ["script"] (spLaw K) := by
  obtain ⟨fr, fdr, Fr', hmr, hkr, hbr⟩ := C_right.ex
  obtain ⟨fb, fdb, Fb, hmb, hkb, hbb⟩ := C_box.ex
  obtain ⟨fc, fdc, Fc, hmc, hkc, hbc⟩ := C_cell.ex
  refine fnG_of (N := nLaw) F ⟨rfl, rfl, rfl, by decide +kernel, rfl, by decide +kernel, by decide +kernel⟩ (fun vs H Q E h => ?_) (fun cdv A outer s H vs Q E hg hr h => ?_)
  · obtain ⟨a, ns, rfl, _⟩ := h; rfl
  · obtain ⟨a, ns, rfl, hs, hl, q⟩ := h
    have hsN : (FnScope nLaw ["script"] (defScope sLaw)) := ⟨rfl, rfl, rfl, by decide +kernel, rfl, by decide +kernel, by decide +kernel⟩
    refine ⟨tSs (Slaw P w K mg base) (defBody sLaw), tSs_ok (cxGG hg hr hsN.nd), ?_⟩
    refine body_ok (A := List Int) (ρ := Bool) (ps := fun _ (a : List Int) => [.d (cScrK K) a]) (kf := fun _ => 0) (PR := fun _ x => x = true) (cr := cBool) (a := ns) (b := 0) (n := 0) (Hf := H) (show 1 ≤ 2 by decide) trivial (by decide) Ex.rfl' ⟨⟨a, rfl, hs⟩, trivial⟩ (fun z hz => by simp at hz) (fun v Hf' H' x px r _ _ _ => ?_) ?_
    · subst px; obtain rfl := r; exact q H'
    have no : ∀ k : Int, NoOwn ([.d (cScrK K) ns, .d cInt k] : Ctxt) := fun k s hs => by
      simp at hs; rcases hs with h | h <;> subst h <;> rfl
    show PHs (Slaw P w K mg base) [.d (cScrK K) ns, .un] 0 (defBody sLaw) _
    refine bfor (k := 0) (kk := 0) (kn := 0) (k2 := 0) [1] (X' := fun xs => ∃ j : Int, 2 ≤ j ∧ j ≤ 5 ∧ xs = rangeL 0 j.toNat) (fun _ pre Γ => Γ = [.d (cScrK K) ns, .un]) (pdi_range1 rfl U.range (pda_cons (k1 := 0) (k2 := 0) (P := fun j : Int => 2 ≤ j ∧ j ≤ 5) (c := cInt) ?_ pda_nil (fun _ => rfl)) (fun as e => ?_) (fun _ => rfl)) ?_ ?_ ?_ (fun _ _ => rfl) ?_
    · refine pd_of (te := tCB rMx (tCons (tE (Slaw P w K mg base) _) (tCons (tCB rMn (tCons (tE (Slaw P w K mg base) _) (tCons (tCB (rLenR K) (tCons (tE (Slaw P w K mg base) _) tNil)) tNil))) tNil))) (fun X G => pe_callB (call_max2 G.calm) (glb G rfl) (by rw [G.mg]; exact U2.max) PyProof.Rows.boot_max (pa_cons (tE_ok G) (pa_cons (pe_callB (call_min2 G.calm) (glb G rfl) (by rw [G.mg]; exact U2.min) PyProof.Rows.boot_min (pa_cons (tE_ok G) (pa_cons (pe_callB (lenG X G) (glb G rfl) (by rw [G.mg]; exact U.len) PySem.boot_len (pa_cons (tE_ok G) pa_nil)) pa_nil))) pa_nil))) ?_
      intro O n σ Hf H hn s Q q
      refine pd_int (S := Slaw P w K mg base) (i := 2) O n σ Hf H hn s _ fun v0 Hf0 H0 x0 px0 r0 f0 s0 => ?_
      refine pd_int (S := Slaw P w K mg base) (i := 4) O n σ Hf0 H0 hn s0 _ fun v1 Hf1 H1 x1 px1 r1 f1 s1 => ?_
      refine pd_name (S := Slaw P w K mg base) (Γ := [.d (cScrK K) ns, .un]) (c := cScrK K) (y := ns) (i := 0) rfl rfl (.inl rfl) (by decide) (by decide) O n σ Hf1 H1 hn s1 _ fun v2 Hf2 H2 x2 px2 r2 f2 s2 => ?_
      subst px0 px1 px2
      obtain rfl := r0
      obtain rfl := r1
      obtain ⟨c, rfl, hc⟩ := (cScrK K).mono s2.ex r2
      refine ⟨c, _, rfl, .inl hc, 4, _, rfl, 2, _, rfl, ?_⟩
      refine q _ Hf2 H2 _ ?_ rfl ((f0.trans f1 fun _ z => .inl z).trans f2 fun _ z => .inl z) s2
      constructor <;> (repeat' split) <;> omega
    · obtain ⟨j, r, ⟨h1, h2⟩, h3, h4⟩ := e
      subst h3 h4
      exact ⟨j, rfl, by omega, by omega, j, h1, h2, rfl⟩
    · intro xs _; rfl
    · intro xs _; simp
    · rintro xs ⟨j, j2, j5, exs⟩ pre x post Γ1 hx e
      subst e
      have hxr : x ∈ rangeL 0 j.toNat := by rw [← exs, hx]; simp
      have hx1 := mem_rangeL.mp hxr
      refine ⟨_, _, pdg_name (i := 1) trivial rfl (.inl rfl) (.inl rfl), ?_⟩
      refine HS.ctx (Γ' := [.d (cScrK K) ns, .d cInt x]) rfl ?_
      refine bifR (b' := (· = false)) (k1 := 0) (k2 := 0) (k3 := 0) (pdt_not (b := true) (pdt_val (pd_of (S := Slaw P w K mg base) (fun X G => pe_callG (fnGG Fr' G) (G.gd rfl) (G.room.mono (show (12 : Nat) ≤ 12 by decide)) (glb G rfl) (by rw [G.mg]; exact hmr) (by rw [G.K]; exact hkr) (by rw [G.K]; exact hbr) (pa_cons (pe_call (fnG Fb G) (G.room.mono (show (1 : Nat) ≤ 12 by decide)) (glb G rfl) (by rw [G.mg]; exact hmb) (by rw [G.K]; exact hkb) (by rw [G.K]; exact hbb) .nil pass0 (pa_cons (pe_call (fnG Fc G) (G.room.mono (show (1 : Nat) ≤ 12 by decide)) (glb G rfl) (by rw [G.mg]; exact hmc) (by rw [G.K]; exact hkc) (by rw [G.K]; exact hbc) .nil pass0 (pa_cons (tE_ok G) (pa_cons (tE_ok G) pa_nil))) pa_nil)) pa_nil)) (td_row (pd_name (S := Slaw P w K mg base) (i := 0) rfl rfl (.inl rfl)) (pd_name (S := Slaw P w K mg base) (i := 1) rfl rfl (.inl rfl)) hl (by omega) (by omega) (no x))) (fun _ _ => rfl))) (fun h => ?_) fun h => ?_
      · exact absurd h (by decide)
      · exact phs_nil ⟨trivial, rfl⟩
    · rintro xs Γ1 _ e
      subst e
      exact bret pd_bool fun _ h => h
end
end K07

set_option Elab.async false
set_option linter.all false
set_option maxRecDepth 100000
namespace K07
open PySem PySem.Spec L2 DL PySem.W

theorem all_mk {l : PySem.W.OpenLaw} {w : World} {K : PySem.W.Frag} {h : Heap} {mg : Str → Option Value} {fa : Addr} (X : K.In h) (Gn : h.Ns mainGlobals mg) (hfa : mg "law" = some (.ref fa))
    {fd0 : Addr} {odd0 and0 : Option Addr} {sld0 : Array (Option Value)} {ocd0 kVd0 dcd0 pmd0 cdd0 ctd0 : Value}
    {fd1 : Addr} {odd1 and1 : Option Addr} {sld1 : Array (Option Value)} {ocd1 kVd1 dcd1 pmd1 cdd1 ctd1 : Value}
    {fd2 : Addr} {odd2 and2 : Option Addr} {sld2 : Array (Option Value)} {ocd2 kVd2 dcd2 pmd2 cdd2 ctd2 : Value}
    {fd3 : Addr} {odd3 and3 : Option Addr} {sld3 : Array (Option Value)} {ocd3 kVd3 dcd3 pmd3 cdd3 ctd3 : Value}
    {fd4 : Addr} {odd4 and4 : Option Addr} {sld4 : Array (Option Value)} {ocd4 kVd4 dcd4 pmd4 cdd4 ctd4 : Value}
    {fd5 : Addr} {odd5 and5 : Option Addr} {sld5 : Array (Option Value)} {ocd5 kVd5 dcd5 pmd5 cdd5 ctd5 : Value}
    {fd6 : Addr} {odd6 and6 : Option Addr} {sld6 : Array (Option Value)} {ocd6 kVd6 dcd6 pmd6 cdd6 ctd6 : Value}
    {fd7 : Addr} {odd7 and7 : Option Addr} {sld7 : Array (Option Value)} {ocd7 kVd7 dcd7 pmd7 cdd7 ctd7 : Value}
    {fd8 : Addr} {odd8 and8 : Option Addr} {sld8 : Array (Option Value)} {ocd8 kVd8 dcd8 pmd8 cdd8 ctd8 : Value}
    {fd9 : Addr} {odd9 and9 : Option Addr} {sld9 : Array (Option Value)} {ocd9 kVd9 dcd9 pmd9 cdd9 ctd9 : Value}
    {fd10 : Addr} {odd10 and10 : Option Addr} {sld10 : Array (Option Value)} {ocd10 kVd10 dcd10 pmd10 cdd10 ctd10 : Value}
    {fd11 : Addr} {odd11 and11 : Option Addr} {sld11 : Array (Option Value)} {ocd11 kVd11 dcd11 pmd11 cdd11 ctd11 : Value}
    {fd12 : Addr} {odd12 and12 : Option Addr} {sld12 : Array (Option Value)} {ocd12 kVd12 dcd12 pmd12 cdd12 ctd12 : Value}
    {fd13 : Addr} {odd13 and13 : Option Addr} {sld13 : Array (Option Value)} {ocd13 kVd13 dcd13 pmd13 cdd13 ctd13 : Value}
    {fd14 : Addr} {odd14 and14 : Option Addr} {sld14 : Array (Option Value)} {ocd14 kVd14 dcd14 pmd14 cdd14 ctd14 : Value}
    {fd15 : Addr} {odd15 and15 : Option Addr} {sld15 : Array (Option Value)} {ocd15 kVd15 dcd15 pmd15 cdd15 ctd15 : Value}
    {fd16 : Addr} {odd16 and16 : Option Addr} {sld16 : Array (Option Value)} {ocd16 kVd16 dcd16 pmd16 cdd16 ctd16 : Value}
    {fd17 : Addr} {odd17 and17 : Option Addr} {sld17 : Array (Option Value)} {ocd17 kVd17 dcd17 pmd17 cdd17 ctd17 : Value}
    {fd18 : Addr} {odd18 and18 : Option Addr} {sld18 : Array (Option Value)} {ocd18 kVd18 dcd18 pmd18 cdd18 ctd18 : Value}
    {fd19 : Addr} {odd19 and19 : Option Addr} {sld19 : Array (Option Value)} {ocd19 kVd19 dcd19 pmd19 cdd19 ctd19 : Value}
    {fd20 : Addr} {odd20 and20 : Option Addr} {sld20 : Array (Option Value)} {ocd20 kVd20 dcd20 pmd20 cdd20 ctd20 : Value}
    {fd21 : Addr} {odd21 and21 : Option Addr} {sld21 : Array (Option Value)} {ocd21 kVd21 dcd21 pmd21 cdd21 ctd21 : Value}
    {fd22 : Addr} {odd22 and22 : Option Addr} {sld22 : Array (Option Value)} {ocd22 kVd22 dcd22 pmd22 cdd22 ctd22 : Value}
    {fd23 : Addr} {odd23 and23 : Option Addr} {sld23 : Array (Option Value)} {ocd23 kVd23 dcd23 pmd23 cdd23 ctd23 : Value}
    {fd24 : Addr} {odd24 and24 : Option Addr} {sld24 : Array (Option Value)} {ocd24 kVd24 dcd24 pmd24 cdd24 ctd24 : Value}
    {fd25 : Addr} {odd25 and25 : Option Addr} {sld25 : Array (Option Value)} {ocd25 kVd25 dcd25 pmd25 cdd25 ctd25 : Value}
    {fd26 : Addr} {odd26 and26 : Option Addr} {sld26 : Array (Option Value)} {ocd26 kVd26 dcd26 pmd26 cdd26 ctd26 : Value}
    {fd27 : Addr} {odd27 and27 : Option Addr} {sld27 : Array (Option Value)} {ocd27 kVd27 dcd27 pmd27 cdd27 ctd27 : Value}
    {C CB CN B : Addr} {nm q : Str} {N0 : Addr} {bs : List Value} {sn : List Str} {sub : List Value} {ab : Bool} {col : Option Bool} {dd : Option Addr} {m0 m1 m2 m3 m5 : Option Value} {tp tw tf : Tok}
    {fm0 : Addr} {odm0 anm0 : Option Addr} {slm0 : Array (Option Value)} {ocm0 kVm0 dcm0 pmm0 cdm0 ctm0 : Value}
    {fm1 : Addr} {odm1 anm1 : Option Addr} {slm1 : Array (Option Value)} {ocm1 kVm1 dcm1 pmm1 cdm1 ctm1 : Value}
    {fm2 : Addr} {odm2 anm2 : Option Addr} {slm2 : Array (Option Value)} {ocm2 kVm2 dcm2 pmm2 cdm2 ctm2 : Value}
    {fm3 : Addr} {odm3 anm3 : Option Addr} {slm3 : Array (Option Value)} {ocm3 kVm3 dcm3 pmm3 cdm3 ctm3 : Value}
    {fb0 : Addr} {odb0 anb0 : Option Addr} {slb0 : Array (Option Value)} {ocb0 kVb0 dcb0 pmb0 cdb0 ctb0 : Value}
    {fb1 : Addr} {odb1 anb1 : Option Addr} {slb1 : Array (Option Value)} {ocb1 kVb1 dcb1 pmb1 cdb1 ctb1 : Value}
    {fnb : Addr} {odnb annb : Option Addr} {slnb : Array (Option Value)} {ocnb kVnb dcnb pmnb cdnb ctnb : Value}
    (ad0 : PySem.W.nsIn K mainGlobals "is_list" = some (some (.ref fd0)))
    (ld0 : K.lookup fd0 = some ⟨ocd0, odd0, .func (PySem.W.fnOf "is_list" "is_list" (defArgs (top 12)) (defBody (top 12)) (defScope (top 12)) .none kVd0 dcd0 pmd0 and0 cdd0 ctd0), sld0⟩)
    (cd0 : PySem.W.codeIn K cdd0 "is_list" = true)
    (kd0 : PySem.W.keepIn K (.ref fd0) = true)
    (ad1 : PySem.W.nsIn K mainGlobals "is_integer" = some (some (.ref fd1)))
    (ld1 : K.lookup fd1 = some ⟨ocd1, odd1, .func (PySem.W.fnOf "is_integer" "is_integer" (defArgs (top 13)) (defBody (top 13)) (defScope (top 13)) .none kVd1 dcd1 pmd1 and1 cdd1 ctd1), sld1⟩)
    (cd1 : PySem.W.codeIn K cdd1 "is_integer" = true)
    (kd1 : PySem.W.keepIn K (.ref fd1) = true)
    (ad2 : PySem.W.nsIn K mainGlobals "is_index" = some (some (.ref fd2)))
    (ld2 : K.lookup fd2 = some ⟨ocd2, odd2, .func (PySem.W.fnOf "is_index" "is_index" (defArgs (top 14)) (defBody (top 14)) (defScope (top 14)) .none kVd2 dcd2 pmd2 and2 cdd2 ctd2), sld2⟩)
    (cd2 : PySem.W.codeIn K cdd2 "is_index" = true)
    (kd2 : PySem.W.keepIn K (.ref fd2) = true)
    (ad3 : PySem.W.nsIn K mainGlobals "are_sizes" = some (some (.ref fd3)))
    (ld3 : K.lookup fd3 = some ⟨ocd3, odd3, .func (PySem.W.fnOf "are_sizes" "are_sizes" (defArgs (top 24)) (defBody (top 24)) (defScope (top 24)) .none kVd3 dcd3 pmd3 and3 cdd3 ctd3), sld3⟩)
    (cd3 : PySem.W.codeIn K cdd3 "are_sizes" = true)
    (kd3 : PySem.W.keepIn K (.ref fd3) = true)
    (ad4 : PySem.W.nsIn K mainGlobals "is_row" = some (some (.ref fd4)))
    (ld4 : K.lookup fd4 = some ⟨ocd4, odd4, .func (PySem.W.fnOf "is_row" "is_row" (defArgs (top 29)) (defBody (top 29)) (defScope (top 29)) .none kVd4 dcd4 pmd4 and4 cdd4 ctd4), sld4⟩)
    (cd4 : PySem.W.codeIn K cdd4 "is_row" = true)
    (kd4 : PySem.W.keepIn K (.ref fd4) = true)
    (ad5 : PySem.W.nsIn K mainGlobals "are_rows" = some (some (.ref fd5)))
    (ld5 : K.lookup fd5 = some ⟨ocd5, odd5, .func (PySem.W.fnOf "are_rows" "are_rows" (defArgs (top 30)) (defBody (top 30)) (defScope (top 30)) .none kVd5 dcd5 pmd5 and5 cdd5 ctd5), sld5⟩)
    (cd5 : PySem.W.codeIn K cdd5 "are_rows" = true)
    (kd5 : PySem.W.keepIn K (.ref fd5) = true)
    (ad6 : PySem.W.nsIn K mainGlobals "can_follow" = some (some (.ref fd6)))
    (ld6 : K.lookup fd6 = some ⟨ocd6, odd6, .func (PySem.W.fnOf "can_follow" "can_follow" (defArgs (top 33)) (defBody (top 33)) (defScope (top 33)) .none kVd6 dcd6 pmd6 and6 cdd6 ctd6), sld6⟩)
    (cd6 : PySem.W.codeIn K cdd6 "can_follow" = true)
    (kd6 : PySem.W.keepIn K (.ref fd6) = true)
    (ad7 : PySem.W.nsIn K mainGlobals "orders" = some (some (.ref fd7)))
    (ld7 : K.lookup fd7 = some ⟨ocd7, odd7, .func (PySem.W.fnOf "orders" "orders" (defArgs (top 34)) (defBody (top 34)) (defScope (top 34)) .none kVd7 dcd7 pmd7 and7 cdd7 ctd7), sld7⟩)
    (cd7 : PySem.W.codeIn K cdd7 "orders" = true)
    (kd7 : PySem.W.keepIn K (.ref fd7) = true)
    (ad8 : PySem.W.nsIn K mainGlobals "commute" = some (some (.ref fd8)))
    (ld8 : K.lookup fd8 = some ⟨ocd8, odd8, .func (PySem.W.fnOf "commute" "commute" (defArgs (top 35)) (defBody (top 35)) (defScope (top 35)) .none kVd8 dcd8 pmd8 and8 cdd8 ctd8), sld8⟩)
    (cd8 : PySem.W.codeIn K cdd8 "commute" = true)
    (kd8 : PySem.W.keepIn K (.ref fd8) = true)
    (ad9 : PySem.W.nsIn K mainGlobals "least_fitting" = some (some (.ref fd9)))
    (ld9 : K.lookup fd9 = some ⟨ocd9, odd9, .func (PySem.W.fnOf "least_fitting" "least_fitting" (defArgs (top 36)) (defBody (top 36)) (defScope (top 36)) .none kVd9 dcd9 pmd9 and9 cdd9 ctd9), sld9⟩)
    (cd9 : PySem.W.codeIn K cdd9 "least_fitting" = true)
    (kd9 : PySem.W.keepIn K (.ref fd9) = true)
    (ad10 : PySem.W.nsIn K mainGlobals "unlike_at" = some (some (.ref fd10)))
    (ld10 : K.lookup fd10 = some ⟨ocd10, odd10, .func (PySem.W.fnOf "unlike_at" "unlike_at" (defArgs (top 37)) (defBody (top 37)) (defScope (top 37)) .none kVd10 dcd10 pmd10 and10 cdd10 ctd10), sld10⟩)
    (cd10 : PySem.W.codeIn K cdd10 "unlike_at" = true)
    (kd10 : PySem.W.keepIn K (.ref fd10) = true)
    (ad11 : PySem.W.nsIn K mainGlobals "_law_cell" = some (some (.ref fd11)))
    (ld11 : K.lookup fd11 = some ⟨ocd11, odd11, .func (PySem.W.fnOf "_law_cell" "_law_cell" (defArgs (top 39)) (defBody (top 39)) (defScope (top 39)) .none kVd11 dcd11 pmd11 and11 cdd11 ctd11), sld11⟩)
    (cd11 : PySem.W.codeIn K cdd11 "_law_cell" = true)
    (kd11 : PySem.W.keepIn K (.ref fd11) = true)
    (ad12 : PySem.W.nsIn K mainGlobals "_law_box" = some (some (.ref fd12)))
    (ld12 : K.lookup fd12 = some ⟨ocd12, odd12, .func (PySem.W.fnOf "_law_box" "_law_box" (defArgs (top 40)) (defBody (top 40)) (defScope (top 40)) .none kVd12 dcd12 pmd12 and12 cdd12 ctd12), sld12⟩)
    (cd12 : PySem.W.codeIn K cdd12 "_law_box" = true)
    (kd12 : PySem.W.keepIn K (.ref fd12) = true)
    (ad13 : PySem.W.nsIn K mainGlobals "_law_take" = some (some (.ref fd13)))
    (ld13 : K.lookup fd13 = some ⟨ocd13, odd13, .func (PySem.W.fnOf "_law_take" "_law_take" (defArgs (top 41)) (defBody (top 41)) (defScope (top 41)) .none kVd13 dcd13 pmd13 and13 cdd13 ctd13), sld13⟩)
    (cd13 : PySem.W.codeIn K cdd13 "_law_take" = true)
    (kd13 : PySem.W.keepIn K (.ref fd13) = true)
    (ad14 : PySem.W.nsIn K mainGlobals "_law_world" = some (some (.ref fd14)))
    (ld14 : K.lookup fd14 = some ⟨ocd14, odd14, .func (PySem.W.fnOf "_law_world" "_law_world" (defArgs (top 42)) (defBody (top 42)) (defScope (top 42)) .none kVd14 dcd14 pmd14 and14 cdd14 ctd14), sld14⟩)
    (cd14 : PySem.W.codeIn K cdd14 "_law_world" = true)
    (kd14 : PySem.W.keepIn K (.ref fd14) = true)
    (ad15 : PySem.W.nsIn K mainGlobals "_law_texts" = some (some (.ref fd15)))
    (ld15 : K.lookup fd15 = some ⟨ocd15, odd15, .func (PySem.W.fnOf "_law_texts" "_law_texts" (defArgs (top 43)) (defBody (top 43)) (defScope (top 43)) .none kVd15 dcd15 pmd15 and15 cdd15 ctd15), sld15⟩)
    (cd15 : PySem.W.codeIn K cdd15 "_law_texts" = true)
    (kd15 : PySem.W.keepIn K (.ref fd15) = true)
    (ad16 : PySem.W.nsIn K mainGlobals "_law_looked_at" = some (some (.ref fd16)))
    (ld16 : K.lookup fd16 = some ⟨ocd16, odd16, .func (PySem.W.fnOf "_law_looked_at" "_law_looked_at" (defArgs (top 44)) (defBody (top 44)) (defScope (top 44)) .none kVd16 dcd16 pmd16 and16 cdd16 ctd16), sld16⟩)
    (cd16 : PySem.W.codeIn K cdd16 "_law_looked_at" = true)
    (kd16 : PySem.W.keepIn K (.ref fd16) = true)
    (ad17 : PySem.W.nsIn K mainGlobals "_law_fits" = some (some (.ref fd17)))
    (ld17 : K.lookup fd17 = some ⟨ocd17, odd17, .func (PySem.W.fnOf "_law_fits" "_law_fits" (defArgs (top 45)) (defBody (top 45)) (defScope (top 45)) .none kVd17 dcd17 pmd17 and17 cdd17 ctd17), sld17⟩)
    (cd17 : PySem.W.codeIn K cdd17 "_law_fits" = true)
    (kd17 : PySem.W.keepIn K (.ref fd17) = true)
    (ad18 : PySem.W.nsIn K mainGlobals "_law_done" = some (some (.ref fd18)))
    (ld18 : K.lookup fd18 = some ⟨ocd18, odd18, .func (PySem.W.fnOf "_law_done" "_law_done" (defArgs (top 46)) (defBody (top 46)) (defScope (top 46)) .none kVd18 dcd18 pmd18 and18 cdd18 ctd18), sld18⟩)
    (cd18 : PySem.W.codeIn K cdd18 "_law_done" = true)
    (kd18 : PySem.W.keepIn K (.ref fd18) = true)
    (ad19 : PySem.W.nsIn K mainGlobals "_law_behind" = some (some (.ref fd19)))
    (ld19 : K.lookup fd19 = some ⟨ocd19, odd19, .func (PySem.W.fnOf "_law_behind" "_law_behind" (defArgs (top 47)) (defBody (top 47)) (defScope (top 47)) .none kVd19 dcd19 pmd19 and19 cdd19 ctd19), sld19⟩)
    (cd19 : PySem.W.codeIn K cdd19 "_law_behind" = true)
    (kd19 : PySem.W.keepIn K (.ref fd19) = true)
    (ad20 : PySem.W.nsIn K mainGlobals "_law_some" = some (some (.ref fd20)))
    (ld20 : K.lookup fd20 = some ⟨ocd20, odd20, .func (PySem.W.fnOf "_law_some" "_law_some" (defArgs (top 48)) (defBody (top 48)) (defScope (top 48)) .none kVd20 dcd20 pmd20 and20 cdd20 ctd20), sld20⟩)
    (cd20 : PySem.W.codeIn K cdd20 "_law_some" = true)
    (kd20 : PySem.W.keepIn K (.ref fd20) = true)
    (ad21 : PySem.W.nsIn K mainGlobals "_law_spoilt" = some (some (.ref fd21)))
    (ld21 : K.lookup fd21 = some ⟨ocd21, odd21, .func (PySem.W.fnOf "_law_spoilt" "_law_spoilt" (defArgs (top 49)) (defBody (top 49)) (defScope (top 49)) .none kVd21 dcd21 pmd21 and21 cdd21 ctd21), sld21⟩)
    (cd21 : PySem.W.codeIn K cdd21 "_law_spoilt" = true)
    (kd21 : PySem.W.keepIn K (.ref fd21) = true)
    (ad22 : PySem.W.nsIn K mainGlobals "_law_pair" = some (some (.ref fd22)))
    (ld22 : K.lookup fd22 = some ⟨ocd22, odd22, .func (PySem.W.fnOf "_law_pair" "_law_pair" (defArgs (top 50)) (defBody (top 50)) (defScope (top 50)) .none kVd22 dcd22 pmd22 and22 cdd22 ctd22), sld22⟩)
    (cd22 : PySem.W.codeIn K cdd22 "_law_pair" = true)
    (kd22 : PySem.W.keepIn K (.ref fd22) = true)
    (ad23 : PySem.W.nsIn K mainGlobals "_law_pair_right" = some (some (.ref fd23)))
    (ld23 : K.lookup fd23 = some ⟨ocd23, odd23, .func (PySem.W.fnOf "_law_pair_right" "_law_pair_right" (defArgs (top 51)) (defBody (top 51)) (defScope (top 51)) .none kVd23 dcd23 pmd23 and23 cdd23 ctd23), sld23⟩)
    (cd23 : PySem.W.codeIn K cdd23 "_law_pair_right" = true)
    (kd23 : PySem.W.keepIn K (.ref fd23) = true)
    (ad24 : PySem.W.nsIn K mainGlobals "_law_refused" = some (some (.ref fd24)))
    (ld24 : K.lookup fd24 = some ⟨ocd24, odd24, .func (PySem.W.fnOf "_law_refused" "_law_refused" (defArgs (top 52)) (defBody (top 52)) (defScope (top 52)) .none kVd24 dcd24 pmd24 and24 cdd24 ctd24), sld24⟩)
    (cd24 : PySem.W.codeIn K cdd24 "_law_refused" = true)
    (kd24 : PySem.W.keepIn K (.ref fd24) = true)
    (ad25 : PySem.W.nsIn K mainGlobals "_law_refusals_right" = some (some (.ref fd25)))
    (ld25 : K.lookup fd25 = some ⟨ocd25, odd25, .func (PySem.W.fnOf "_law_refusals_right" "_law_refusals_right" (defArgs (top 53)) (defBody (top 53)) (defScope (top 53)) .none kVd25 dcd25 pmd25 and25 cdd25 ctd25), sld25⟩)
    (cd25 : PySem.W.codeIn K cdd25 "_law_refusals_right" = true)
    (kd25 : PySem.W.keepIn K (.ref fd25) = true)
    (ad26 : PySem.W.nsIn K mainGlobals "_law_right" = some (some (.ref fd26)))
    (ld26 : K.lookup fd26 = some ⟨ocd26, odd26, .func (PySem.W.fnOf "_law_right" "_law_right" (defArgs (top 54)) (defBody (top 54)) (defScope (top 54)) .none kVd26 dcd26 pmd26 and26 cdd26 ctd26), sld26⟩)
    (cd26 : PySem.W.codeIn K cdd26 "_law_right" = true)
    (kd26 : PySem.W.keepIn K (.ref fd26) = true)
    (ad27 : PySem.W.nsIn K mainGlobals "law" = some (some (.ref fd27)))
    (ld27 : K.lookup fd27 = some ⟨ocd27, odd27, .func (PySem.W.fnOf "law" "law" (defArgs (top 55)) (defBody (top 55)) (defScope (top 55)) .none kVd27 dcd27 pmd27 and27 cdd27 ctd27), sld27⟩)
    (cd27 : PySem.W.codeIn K cdd27 "law" = true)
    (kd27 : PySem.W.keepIn K (.ref fd27) = true)
    (aC : PySem.W.nsIn K mainGlobals "Change" = some (some (.ref C)))
    (am0 : PySem.W.findIn K (.ref C) "__init__" = some (some (.ref fm0)))
    (lm0 : K.lookup fm0 = some ⟨ocm0, odm0, .func (PySem.W.fnOf "__init__" "Change.__init__" (defArgs (inCh 0)) (defBody (inCh 0)) (defScope (inCh 0)) .none kVm0 dcm0 pmm0 anm0 cdm0 ctm0), slm0⟩)
    (cm0 : PySem.W.codeIn K cdm0 "Change.__init__" = true)
    (km0 : PySem.W.keepIn K (.ref fm0) = true)
    (im0 : PySem.W.isFn K (.ref fm0) = true)
    (am1 : PySem.W.findIn K (.ref C) "__eq__" = some (some (.ref fm1)))
    (lm1 : K.lookup fm1 = some ⟨ocm1, odm1, .func (PySem.W.fnOf "__eq__" "Change.__eq__" (defArgs (inCh 1)) (defBody (inCh 1)) (defScope (inCh 1)) .none kVm1 dcm1 pmm1 anm1 cdm1 ctm1), slm1⟩)
    (cm1 : PySem.W.codeIn K cdm1 "Change.__eq__" = true)
    (km1 : PySem.W.keepIn K (.ref fm1) = true)
    (im1 : PySem.W.isFn K (.ref fm1) = true)
    (am2 : PySem.W.findIn K (.ref C) "is_of" = some (some (.ref fm2)))
    (lm2 : K.lookup fm2 = some ⟨ocm2, odm2, .func (PySem.W.fnOf "is_of" "Change.is_of" (defArgs (inCh 5)) (defBody (inCh 5)) (defScope (inCh 5)) .none kVm2 dcm2 pmm2 anm2 cdm2 ctm2), slm2⟩)
    (cm2 : PySem.W.codeIn K cdm2 "Change.is_of" = true)
    (km2 : PySem.W.keepIn K (.ref fm2) = true)
    (im2 : PySem.W.isFn K (.ref fm2) = true)
    (am3 : PySem.W.findIn K (.ref C) "then" = some (some (.ref fm3)))
    (lm3 : K.lookup fm3 = some ⟨ocm3, odm3, .func (PySem.W.fnOf "then" "Change.then" (defArgs (inCh 10)) (defBody (inCh 10)) (defScope (inCh 10)) .none kVm3 dcm3 pmm3 anm3 cdm3 ctm3), slm3⟩)
    (cm3 : PySem.W.codeIn K cdm3 "Change.then" = true)
    (km3 : PySem.W.keepIn K (.ref fm3) = true)
    (im3 : PySem.W.isFn K (.ref fm3) = true)
    (pg : PySem.W.plainGet K C Str.empty = true)
    (hd : PySem.W.hasDictIn K C = true)
    (po : PySem.W.plainOver K C = true)
    (sa : PySem.W.findIn K (.ref C) "__setattr__" = some (some (.builtin "object.__setattr__")))
    (mk : PySem.W.makesIn K C = true)
    (kc : PySem.W.keepIn K (.ref C) = true)
    (oha : PySem.W.findIn K (.ref C) "__class__" = some (some (.builtin "object.__class__")))
    (ohm : PySem.W.mroIn K C (.type "object") = some true)
    (nR : PySem.W.findIn K (.ref C) "rows" = some none)
    (neC : PySem.W.findIn K (.ref C) "__ne__" = some (some (.builtin "object.__ne__")))
    (ntC : PySem.W.subIn K (.type "tuple") (.ref C) = some false)
    (nIC : PySem.W.kitOne K (.type "tuple") (.ref C) = some false)
    (ton : PySem.W.kitOne K (.type "NoneType") (.ref C) = some false)
    (toi : PySem.W.kitOne K (.type "int") (.ref C) = some false)
    (tos : PySem.W.kitOne K (.type "str") (.ref C) = some false)
    (tol : PySem.W.kitOne K (.type "list") (.ref C) = some false)
    (tod : PySem.W.kitOne K (.type "dict") (.ref C) = some false)
    (tob : PySem.W.kitOne K (.type "bool") (.ref C) = some false)
    (toc : PySem.W.kitOne K (.ref C) (.type "list") = some false)
    (aCB : PySem.W.nsIn K mainGlobals "Book" = some (some (.ref CB)))
    (ab0 : PySem.W.findIn K (.ref CB) "__init__" = some (some (.ref fb0)))
    (lb0 : K.lookup fb0 = some ⟨ocb0, odb0, .func (PySem.W.fnOf "__init__" "Book.__init__" (defArgs (inBk 0)) (defBody (inBk 0)) (defScope (inBk 0)) .none kVb0 dcb0 pmb0 anb0 cdb0 ctb0), slb0⟩)
    (cb0 : PySem.W.codeIn K cdb0 "Book.__init__" = true)
    (kb0 : PySem.W.keepIn K (.ref fb0) = true)
    (ib0 : PySem.W.isFn K (.ref fb0) = true)
    (ab1 : PySem.W.findIn K (.ref CB) "__len__" = some (some (.ref fb1)))
    (lb1 : K.lookup fb1 = some ⟨ocb1, odb1, .func (PySem.W.fnOf "__len__" "Book.__len__" (defArgs (inBk 2)) (defBody (inBk 2)) (defScope (inBk 2)) .none kVb1 dcb1 pmb1 anb1 cdb1 ctb1), slb1⟩)
    (cb1 : PySem.W.codeIn K cdb1 "Book.__len__" = true)
    (kb1 : PySem.W.keepIn K (.ref fb1) = true)
    (ib1 : PySem.W.isFn K (.ref fb1) = true)
    (pgB : PySem.W.plainGet K CB Str.empty = true)
    (hdB : PySem.W.hasDictIn K CB = true)
    (poB : PySem.W.plainOver K CB = true)
    (saB : PySem.W.findIn K (.ref CB) "__setattr__" = some (some (.builtin "object.__setattr__")))
    (mkB : PySem.W.makesIn K CB = true)
    (kcB : PySem.W.keepIn K (.ref CB) = true)
    (ohaB : PySem.W.findIn K (.ref CB) "__class__" = some (some (.builtin "object.__class__")))
    (ohmB : PySem.W.mroIn K CB (.type "object") = some true)
    (nS : PySem.W.findIn K (.ref CB) "sizes" = some none)
    (ohn : PySem.W.specialIn K (.builtin "object.__class__") "__get__" = some (some (.builtin "getset_descriptor.__get__")))
    (oht : PySem.W.takesIn K (.builtin "object.__class__") = some true)
    (aB : PySem.W.nsIn K mainGlobals "BillError" = some (some (.ref B)))
    (aN : PySem.W.nsIn K mainGlobals "InvalidChange" = some (some (.ref CN)))
    (xN : K.lookup CN = some (excClassObj nm q CN N0 bs [.ref B, .type "ValueError", .type "Exception", .type "BaseException", .type "object"] true sn sub ab col dd m0 m1 m2 m3 m5 "ValueError.__new__"))
    (saN : PySem.W.findIn K (.ref CN) "__setattr__" = some (some (.builtin "object.__setattr__")))
    (eN : PySem.W.subIn K (.ref CN) (.type "BaseException") = some true)
    (tN : PySem.W.typeIn K (.ref CN) = some (.type "type"))
    (kN : PySem.W.keepIn K (.ref CN) = true)
    (haN : PySem.W.findIn K (.ref CN) "__class__" = some (some (.builtin "object.__class__")))
    (hmN : PySem.W.mroIn K CN (.type "object") = some true)
    (anb : PySem.W.findIn K (.ref CN) "__init__" = some (some (.ref fnb)))
    (lnb : K.lookup fnb = some ⟨ocnb, odnb, .func (PySem.W.fnOf "__init__" "InvalidChange.__init__" (defArgs (sIC)) (defBody (sIC)) (defScope (sIC)) .none kVnb dcnb pmnb annb cdnb ctnb), slnb⟩)
    (cnb : PySem.W.codeIn K cdnb "InvalidChange.__init__" = true)
    (knb : PySem.W.keepIn K (.ref fnb) = true)
    (tI : PySem.W.typeIn K (.ref fnb) = some (.type "function"))
    (noP : PySem.W.findIn K (.ref CN) "given" = some none)
    (xf : xfB K CN = true)
    (exm : PySem.W.exmOne K (.ref CN) (.ref CN) = some true)
    (isB : PySem.W.kitOne K (.ref CN) (.ref B) = some true)
    (spB : PySem.W.specialIn K (.ref B) "__getattribute__" = some (some (.builtin "type.__getattribute__")))
    (rdB : PySem.W.readsIn K B (.type "type") = true)
    (inB : PySem.W.findCls K (.ref B) (.type "type") "__init__" = some (.val (.builtin "ValueError.__init__")))
    (cP : PySem.W.nsIn K mainGlobals "MOST_PLACES" = some (some (.int 8 tp)))
    (cW : PySem.W.nsIn K mainGlobals "MOST_WORDINGS" = some (some (.int 6 tw)))
    (cF : PySem.W.nsIn K mainGlobals "FEWEST_WORDINGS" = some (some (.int 2 tf)))
    (z_len : PySem.W.nsIn K mainGlobals "len" = some none)
    (z_list : PySem.W.nsIn K mainGlobals "list" = some none)
    (z_tuple : PySem.W.nsIn K mainGlobals "tuple" = some none)
    (z_sorted : PySem.W.nsIn K mainGlobals "sorted" = some none)
    (z_set : PySem.W.nsIn K mainGlobals "set" = some none)
    (z_range : PySem.W.nsIn K mainGlobals "range" = some none)
    (z_isinstance : PySem.W.nsIn K mainGlobals "isinstance" = some none)
    (z_all : PySem.W.nsIn K mainGlobals "all" = some none)
    (z_int : PySem.W.nsIn K mainGlobals "int" = some none)
    (z_bool : PySem.W.nsIn K mainGlobals "bool" = some none)
    (z_sum : PySem.W.nsIn K mainGlobals "sum" = some none)
    (z_abs : PySem.W.nsIn K mainGlobals "abs" = some none)
    (z_max : PySem.W.nsIn K mainGlobals "max" = some none)
    (z_min : PySem.W.nsIn K mainGlobals "min" = some none)
    (z_dict : PySem.W.nsIn K mainGlobals "dict" = some none)
    (z_repr : PySem.W.nsIn K mainGlobals "repr" = some none) :
    ∃ fd : FuncData, (∀ (s : Shared) (v : Value), BindsTo s fd ⟨[v], []⟩ [("script", v)]) ∧ ∀ base : Heap, K.In base → base.Ns mainGlobals mg → FnG l.prog w K mg base 13 fa fd ["script"] (spLaw K) := by

  have g : ∀ {x : Str} {v : Value}, PySem.W.nsIn K mainGlobals x = some (some v) → mg x = some v := fun h => PySem.W.mg_of X Gn h
  have z : ∀ {x : Str}, PySem.W.nsIn K mainGlobals x = some none → mg x = none := fun h => PySem.W.mg_none_of X Gn h
  have D0 : Def K mg "is_list" (top 12) := ⟨_, _, fun_mk ld0 cd0 kd0, g ad0⟩
  have D1 : Def K mg "is_integer" (top 13) := ⟨_, _, fun_mk ld1 cd1 kd1, g ad1⟩
  have D2 : Def K mg "is_index" (top 14) := ⟨_, _, fun_mk ld2 cd2 kd2, g ad2⟩
  have D3 : Def K mg "are_sizes" (top 24) := ⟨_, _, fun_mk ld3 cd3 kd3, g ad3⟩
  have D4 : Def K mg "is_row" (top 29) := ⟨_, _, fun_mk ld4 cd4 kd4, g ad4⟩
  have D5 : Def K mg "are_rows" (top 30) := ⟨_, _, fun_mk ld5 cd5 kd5, g ad5⟩
  have D6 : Def K mg "can_follow" (top 33) := ⟨_, _, fun_mk ld6 cd6 kd6, g ad6⟩
  have D7 : Def K mg "orders" (top 34) := ⟨_, _, fun_mk ld7 cd7 kd7, g ad7⟩
  have D8 : Def K mg "commute" (top 35) := ⟨_, _, fun_mk ld8 cd8 kd8, g ad8⟩
  have D9 : Def K mg "least_fitting" (top 36) := ⟨_, _, fun_mk ld9 cd9 kd9, g ad9⟩
  have D10 : Def K mg "unlike_at" (top 37) := ⟨_, _, fun_mk ld10 cd10 kd10, g ad10⟩
  have D11 : Def K mg "_law_cell" (top 39) := ⟨_, _, fun_mk ld11 cd11 kd11, g ad11⟩
  have D12 : Def K mg "_law_box" (top 40) := ⟨_, _, fun_mk ld12 cd12 kd12, g ad12⟩
  have D13 : Def K mg "_law_take" (top 41) := ⟨_, _, fun_mk ld13 cd13 kd13, g ad13⟩
  have D14 : Def K mg "_law_world" (top 42) := ⟨_, _, fun_mk ld14 cd14 kd14, g ad14⟩
  have D15 : Def K mg "_law_texts" (top 43) := ⟨_, _, fun_mk ld15 cd15 kd15, g ad15⟩
  have D16 : Def K mg "_law_looked_at" (top 44) := ⟨_, _, fun_mk ld16 cd16 kd16, g ad16⟩
  have D17 : Def K mg "_law_fits" (top 45) := ⟨_, _, fun_mk ld17 cd17 kd17, g ad17⟩
  have D18 : Def K mg "_law_done" (top 46) := ⟨_, _, fun_mk ld18 cd18 kd18, g ad18⟩
  have D19 : Def K mg "_law_behind" (top 47) := ⟨_, _, fun_mk ld19 cd19 kd19, g ad19⟩
  have D20 : Def K mg "_law_some" (top 48) := ⟨_, _, fun_mk ld20 cd20 kd20, g ad20⟩
  have D21 : Def K mg "_law_spoilt" (top 49) := ⟨_, _, fun_mk ld21 cd21 kd21, g ad21⟩
  have D22 : Def K mg "_law_pair" (top 50) := ⟨_, _, fun_mk ld22 cd22 kd22, g ad22⟩
  have D23 : Def K mg "_law_pair_right" (top 51) := ⟨_, _, fun_mk ld23 cd23 kd23, g ad23⟩
  have D24 : Def K mg "_law_refused" (top 52) := ⟨_, _, fun_mk ld24 cd24 kd24, g ad24⟩
  have D25 : Def K mg "_law_refusals_right" (top 53) := ⟨_, _, fun_mk ld25 cd25 kd25, g ad25⟩
  have D26 : Def K mg "_law_right" (top 54) := ⟨_, _, fun_mk ld26 cd26 kd26, g ad26⟩
  have D27 : Def K mg "law" (top 55) := ⟨_, _, fun_mk ld27 cd27 kd27, g ad27⟩
  have U : Bt mg := ⟨z z_len, z z_list, z z_tuple, z z_sorted, z z_set, z z_range, z z_isinstance, z z_all, z z_int, z z_bool⟩
  have U2 : Bt2 mg := ⟨z z_sum, z z_abs, z z_max, z z_min⟩
  have T0 : Ko mg := ⟨⟨_, g cP⟩, ⟨_, g cW⟩⟩
  have T2 : Ko2 mg := ⟨⟨_, g cF⟩⟩
  have U3 : Bt3 mg := ⟨z z_min, z z_max, z z_dict, z z_repr⟩
  have cl : Cls K C := ⟨pg, hd, po, sa⟩
  have clB : Cls K CB := ⟨pgB, hdB, poB, saB⟩
  have T : TCh K mg C := ⟨⟨cl, ⟨cl, oha, ohn, oht, ohm⟩, g aC, by unfold PySem.W.kitOne; simp⟩, nR, nIC⟩
  have TB : TBk K mg CB := ⟨⟨clB, ⟨clB, ohaB, ohn, oht, ohmB⟩, g aCB, by unfold PySem.W.kitOne; simp⟩, nS⟩
  have ef : fa = fd27 := by
    have := g ad27
    rw [hfa] at this
    injection this with h; injection h
  subst ef
  refine ⟨PySem.W.fnOf "law" "law" (defArgs (top 55)) (defBody (top 55)) (defScope (top 55)) .none kVd27 dcd27 pmd27 and27 cdd27 ctd27, fun s v => .of_eq rfl, fun base _ _ => ?_⟩
  have c1 := c_is_list (P := l.prog) (w := w) (base := base) U (c := cInt) D0
  have c1r := c_is_list (P := l.prog) (w := w) (base := base) U (c := cI3) D0
  have c2 := c_is_integer (P := l.prog) (w := w) (base := base) U D1
  have c3 := c_is_index U D2 c2
  have csz := c_are_sizes U D3 T0 T2 c1 c2
  have crow := c_is_row U D4 T0 c3
  have crows := c_are_rows U D5 c1r crow
  have I := i_init U ⟨_, _, (fun_mk lm0 cm0 km0), ⟨mk, am0, im0, kc⟩⟩ T crows
  have IB := i_book U ⟨_, _, (fun_mk lb0 cb0 kb0), ⟨mkB, ab0, ib0, kcB⟩⟩ TB csz
  have LB := m_lenB (P := l.prog) (w := w) (base := base) U ⟨_, _, (fun_mk lb1 cb1 kb1), ab1, ib1⟩ TB
  have EF := (⟨⟨_, _, (fun_mk lm1 cm1 km1), am1, im1⟩, cl, ohm, neC, ntC⟩ : EqF K C "Change.__eq__" (inCh 1))
  have E := m_eq (P := l.prog) (w := w) (base := base) U EF T
  have Mi := m_isof U (z z_max) ⟨⟨_, _, (fun_mk lm2 cm2 km2), ⟨am2, im2, km2⟩⟩⟩ T TB LB
  have Mt := m_then U ⟨⟨_, _, (fun_mk lm3 cm3 km3), ⟨am3, im3, km3⟩⟩⟩ T I
  have ccan := c_can (P := l.prog) (w := w) (base := base) U D6 T
  have cord := c_orders D7 ccan
  have ccom := c_commute D8 T cord.c Mt E
  have clf := c_least U D9 T TB LB
  have cun := c_unlike U (z z_min) D10 T Mi Mt ccan ccom.c clf
  have TN := (⟨⟨g aB, spB, rdB, inB⟩, ⟨⟨nm, q, N0, bs, _, sn, sub, ab, col, dd, m0, m1, m2, m3, m5, xN, rfl⟩, saN, eN, tN, kN⟩, ⟨(xfB_ok xf).ga, (xfB_ok xf).gg, (xfB_ok xf).exC, (xfB_ok xf).hdC, haN, ohn, oht, hmN⟩, g aN, anb, tI, fun_mk lnb cnb knb, noP, xfB_ok xf, exm, isB⟩ : TIc K mg CN B fnb _)
  have TO := (⟨ton, toi, tos, tol, nIC, tod, tob, toc⟩ : TOdd K C)
  have xun := x_un (P := l.prog) (w := w) (base := base) U D10 T TB TN Mi
  have crX := c_refX U D24 T TN xun
  have cr0 := c_ref0 D24 cun.c
  have ck := c_take (P := l.prog) (w := w) (base := base) U D13
  have cw := c_world U (z z_min) D14 ck
  have csm := c_some D20 ck
  have cspo := c_spoilt U D21 ck
  have cpa := c_pair U (z z_dict) D22 ck csm cspo
  have ctx := c_texts (P := l.prog) (w := w) (base := base) U D15
  have clk := c_looked U D16 ctx
  have cft := c_fits (P := l.prog) (w := w) (base := base) D17
  have cdn := c_done (P := l.prog) (w := w) (base := base) U D18
  have cbh := c_behind D19 cft cdn
  have cpr := c_pr U U3 D23 T TB I IB clk cbh cord ccom cun
  have crf := c_refr U U3 D25 T TB TO I ck (c_refF crX) cr0
  have cr := c_right D26 T TB I IB cw cpa csm cpr crf
  have cbx := (cal_of D12 (fun _ _ _ _ _ _ us hl => match us, hl with | [_], _ => rfl) fun f fd F => ok_box (P := l.prog) (w := w) (base := base) U U2 F)
  have ccl := (cal_of D11 (fun _ _ _ _ _ _ us hl => match us, hl with | [_, _], _ => rfl) fun f fd F => ok_cell (P := l.prog) (w := w) (base := base) U U2 F)
  exact ok_law U U2 (fun_mk ld27 cd27 kd27) cr cbx ccl
theorem walk {l : PySem.W.OpenLaw} {q : Program} {loose : List Str} {XP : (Str → Option Value) → Heap → Prop} {YP : World → Heap → Prop} {d : DefRec} {K : Params → PySem.W.Frag} (hn : l.most = some 63) (hdf : d.params.defaults = [])
    (hY : ∀ (w : World) (h : Heap), YP w h → (K w.params).In h)
    (F : ∀ (w : World) (mg : Str → Option Value) (fa : Addr) (h : Heap), (K w.params).In h → h.Ns mainGlobals mg → mg d.name = some (.ref fa) →
      ∃ fd : FuncData, (∀ (s : Shared) (u : Value), BindsTo s fd ⟨[u], []⟩ [("script", u)]) ∧ ∀ base : Heap, (K w.params).In base → base.Ns mainGlobals mg → FnG l.prog w (K w.params) mg base 13 fa fd ["script"] (spLaw (K w.params))) :
    PySem.W.WalkO q loose XP YP l.row.toRowW d [] (fun f vs => PySem.call f vs) :=
  DL.walk_G (n := 63) (k := 13) (sp := fun w => spLaw (K w.params)) hn (by decide) hdf ⟨rfl, by decide, by decide⟩ hY F (fun _ _ a ns hl hS => ⟨a, ns, rfl, hS, hl, fun _ => rfl⟩)
end K07
open PySem PySem.W PyProof.Rows
set_option maxRecDepth 100000 in
set_option maxHeartbeats 0 in
theorem PySem.Challenge.cw_dealbook_k07_two_orders_of_two_changes_holds : PySem.Challenge.rw_dealbook_k07_two_orders_of_two_changes.Holds := by
  w_on; o_law; k_head; (case hw => w_witness2)
  k_fill
  refine K07.walk (l := PySem.Challenge.rw_dealbook_k07_two_orders_of_two_changes) rfl rfl (fun w h Y => PySem.W.kIn_of Y) ?F
  case F =>
    intro w mg fa h KX G hmg
    refine' K07.all_mk KX G hmg ?ad0 ?ld0 ?cd0 ?kd0 ?ad1 ?ld1 ?cd1 ?kd1 ?ad2 ?ld2 ?cd2 ?kd2 ?ad3 ?ld3 ?cd3 ?kd3 ?ad4 ?ld4 ?cd4 ?kd4 ?ad5 ?ld5 ?cd5 ?kd5 ?ad6 ?ld6 ?cd6 ?kd6 ?ad7 ?ld7 ?cd7 ?kd7 ?ad8 ?ld8 ?cd8 ?kd8 ?ad9 ?ld9 ?cd9 ?kd9 ?ad10 ?ld10 ?cd10 ?kd10 ?ad11 ?ld11 ?cd11 ?kd11 ?ad12 ?ld12 ?cd12 ?kd12 ?ad13 ?ld13 ?cd13 ?kd13 ?ad14 ?ld14 ?cd14 ?kd14 ?ad15 ?ld15 ?cd15 ?kd15 ?ad16 ?ld16 ?cd16 ?kd16 ?ad17 ?ld17 ?cd17 ?kd17 ?ad18 ?ld18 ?cd18 ?kd18 ?ad19 ?ld19 ?cd19 ?kd19 ?ad20 ?ld20 ?cd20 ?kd20 ?ad21 ?ld21 ?cd21 ?kd21 ?ad22 ?ld22 ?cd22 ?kd22 ?ad23 ?ld23 ?cd23 ?kd23 ?ad24 ?ld24 ?cd24 ?kd24 ?ad25 ?ld25 ?cd25 ?kd25 ?ad26 ?ld26 ?cd26 ?kd26 ?ad27 ?ld27 ?cd27 ?kd27 ?aC ?am0 ?lm0 ?cm0 ?km0 ?im0 ?am1 ?lm1 ?cm1 ?km1 ?im1 ?am2 ?lm2 ?cm2 ?km2 ?im2 ?am3 ?lm3 ?cm3 ?km3 ?im3 ?pg ?hd ?po ?sa ?mk ?kc ?oha ?ohm ?nR ?neC ?ntC ?nIC ?ton ?toi ?tos ?tol ?tod ?tob ?toc ?aCB ?ab0 ?lb0 ?cb0 ?kb0 ?ib0 ?ab1 ?lb1 ?cb1 ?kb1 ?ib1 ?pgB ?hdB ?poB ?saB ?mkB ?kcB ?ohaB ?ohmB ?nS ?ohn ?oht ?aB ?aN ?xN ?saN ?eN ?tN ?kN ?haN ?hmN ?anb ?lnb ?cnb ?knb ?tI ?noP ?xf ?exm ?isB ?spB ?rdB ?inB ?cP ?cW ?cF ?z_len ?z_list ?z_tuple ?z_sorted ?z_set ?z_range ?z_isinstance ?z_all ?z_int ?z_bool ?z_sum ?z_abs ?z_max ?z_min ?z_dict ?z_repr
    (case ad0 => k_is)
    (case ld0 => k_is)
    (case cd0 => k_is)
    (case kd0 => k_is)
    (case ad1 => k_is)
    (case ld1 => k_is)
    (case cd1 => k_is)
    (case kd1 => k_is)
    (case ad2 => k_is)
    (case ld2 => k_is)
    (case cd2 => k_is)
    (case kd2 => k_is)
    (case ad3 => k_is)
    (case ld3 => k_is)
    (case cd3 => k_is)
    (case kd3 => k_is)
    (case ad4 => k_is)
    (case ld4 => k_is)
    (case cd4 => k_is)
    (case kd4 => k_is)
    (case ad5 => k_is)
    (case ld5 => k_is)
    (case cd5 => k_is)
    (case kd5 => k_is)
    (case ad6 => k_is)
    (case ld6 => k_is)
    (case cd6 => k_is)
    (case kd6 => k_is)
    (case ad7 => k_is)
    (case ld7 => k_is)
    (case cd7 => k_is)
    (case kd7 => k_is)
    (case ad8 => k_is)
    (case ld8 => k_is)
    (case cd8 => k_is)
    (case kd8 => k_is)
    (case ad9 => k_is)
    (case ld9 => k_is)
    (case cd9 => k_is)
    (case kd9 => k_is)
    (case ad10 => k_is)
    (case ld10 => k_is)
    (case cd10 => k_is)
    (case kd10 => k_is)
    (case ad11 => k_is)
    (case ld11 => k_is)
    (case cd11 => k_is)
    (case kd11 => k_is)
    (case ad12 => k_is)
    (case ld12 => k_is)
    (case cd12 => k_is)
    (case kd12 => k_is)
    (case ad13 => k_is)
    (case ld13 => k_is)
    (case cd13 => k_is)
    (case kd13 => k_is)
    (case ad14 => k_is)
    (case ld14 => k_is)
    (case cd14 => k_is)
    (case kd14 => k_is)
    (case ad15 => k_is)
    (case ld15 => k_is)
    (case cd15 => k_is)
    (case kd15 => k_is)
    (case ad16 => k_is)
    (case ld16 => k_is)
    (case cd16 => k_is)
    (case kd16 => k_is)
    (case ad17 => k_is)
    (case ld17 => k_is)
    (case cd17 => k_is)
    (case kd17 => k_is)
    (case ad18 => k_is)
    (case ld18 => k_is)
    (case cd18 => k_is)
    (case kd18 => k_is)
    (case ad19 => k_is)
    (case ld19 => k_is)
    (case cd19 => k_is)
    (case kd19 => k_is)
    (case ad20 => k_is)
    (case ld20 => k_is)
    (case cd20 => k_is)
    (case kd20 => k_is)
    (case ad21 => k_is)
    (case ld21 => k_is)
    (case cd21 => k_is)
    (case kd21 => k_is)
    (case ad22 => k_is)
    (case ld22 => k_is)
    (case cd22 => k_is)
    (case kd22 => k_is)
    (case ad23 => k_is)
    (case ld23 => k_is)
    (case cd23 => k_is)
    (case kd23 => k_is)
    (case ad24 => k_is)
    (case ld24 => k_is)
    (case cd24 => k_is)
    (case kd24 => k_is)
    (case ad25 => k_is)
    (case ld25 => k_is)
    (case cd25 => k_is)
    (case kd25 => k_is)
    (case ad26 => k_is)
    (case ld26 => k_is)
    (case cd26 => k_is)
    (case kd26 => k_is)
    (case ad27 => k_is)
    (case ld27 => k_is)
    (case cd27 => k_is)
    (case kd27 => k_is)
    (case aC => k_is)
    (case am0 => k_is)
    (case lm0 => k_is)
    (case cm0 => k_is)
    (case km0 => k_is)
    (case im0 => k_is)
    (case am1 => k_is)
    (case lm1 => k_is)
    (case cm1 => k_is)
    (case km1 => k_is)
    (case im1 => k_is)
    (case am2 => k_is)
    (case lm2 => k_is)
    (case cm2 => k_is)
    (case km2 => k_is)
    (case im2 => k_is)
    (case am3 => k_is)
    (case lm3 => k_is)
    (case cm3 => k_is)
    (case km3 => k_is)
    (case im3 => k_is)
    (case pg => k_is)
    (case hd => k_is)
    (case po => k_is)
    (case sa => k_is)
    (case mk => k_is)
    (case kc => k_is)
    (case oha => k_is)
    (case ohm => k_is)
    (case nR => k_is)
    (case neC => k_is)
    (case ntC => k_is)
    (case nIC => first | rfl | k_is)
    (case ton => first | rfl | k_is)
    (case toi => first | rfl | k_is)
    (case tos => first | rfl | k_is)
    (case tol => first | rfl | k_is)
    (case tod => first | rfl | k_is)
    (case tob => first | rfl | k_is)
    (case toc => first | rfl | k_is)
    (case aCB => k_is)
    (case ab0 => k_is)
    (case lb0 => k_is)
    (case cb0 => k_is)
    (case kb0 => k_is)
    (case ib0 => k_is)
    (case ab1 => k_is)
    (case lb1 => k_is)
    (case cb1 => k_is)
    (case kb1 => k_is)
    (case ib1 => k_is)
    (case pgB => k_is)
    (case hdB => k_is)
    (case poB => k_is)
    (case saB => k_is)
    (case mkB => k_is)
    (case kcB => k_is)
    (case ohaB => k_is)
    (case ohmB => k_is)
    (case nS => k_is)
    (case ohn => k_is)
    (case oht => k_is)
    (case aB => k_is)
    (case aN => k_is)
    (case xN => k_is)
    (case saN => k_is)
    (case eN => k_is)
    (case tN => k_is)
    (case kN => k_is)
    (case haN => k_is)
    (case hmN => k_is)
    (case anb => k_is)
    (case lnb => k_is)
    (case cnb => k_is)
    (case knb => k_is)
    (case tI => k_is)
    (case noP => k_is)
    (case xf => first | rfl | k_is)
    (case exm => first | rfl | k_is)
    (case isB => first | rfl | k_is)
    (case spB => k_is)
    (case rdB => k_is)
    (case inB => k_is)
    (case cP => k_is)
    (case cW => k_is)
    (case cF => k_is)
    (case z_len => k_is)
    (case z_list => k_is)
    (case z_tuple => k_is)
    (case z_sorted => k_is)
    (case z_set => k_is)
    (case z_range => k_is)
    (case z_isinstance => k_is)
    (case z_all => k_is)
    (case z_int => k_is)
    (case z_bool => k_is)
    (case z_sum => k_is)
    (case z_abs => k_is)
    (case z_max => k_is)
    (case z_min => k_is)
    (case z_dict => k_is)
    (case z_repr => k_is)
